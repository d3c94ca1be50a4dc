import PyProof.Rows.All
import Wide.All
import OpenK.AllK
import Wide.FinOn
import HandS.TupSets
import HandS.SetKeys
import HandS.ForMost
import HandS.ForExc
import KE.SortData
import HandS.TupAny
import HandS.Deep
import HandS.Wide
import HandS.IsInst
import HandS.Style
import HandS.SortInts
import HandS.RaiseMore
import HandS.MakeKwOnly
import HandS.ExcOwn
import HandS.CallSlots
import HandS.Walk
import HandS.Iter
import KE.GoesNew
import HandS.Defaults
import HandS.HeadEnd
import HandS.Head0
import HandS.Head1
import HandS.Head2
import HandS.HeadHook1
import HandS.HeadHook2
import KE.KStateDown
import Lean
import HandS.Ends
import HandS.More
import HandS.Words
import HandS.WordsExc
import PySem.Challenge.RW_sloweralone_k43_toll_judge
set_option Elab.async false
set_option linter.all false
set_option maxRecDepth 100000
-- part EvSt
section
set_option Elab.async false
set_option linter.all false
set_option maxRecDepth 100000
namespace L2
open PySem PySem.Spec PyProof.Rows
section
variable {P : Program} {w : World} {A : Around} {E : Value → Shared → Prop} {s : Shared} {a : Addr} {L : List (Addr × List Int)} {es : Array (Int × Value)} {ep : Nat} {t : SetTable}
theorem search_no (R : SetTR P w s.heap a L es ep t) {x : Addr} {k : List Int} (hx : IsT P w s.heap k x) (hu : A.units < cLine) {K : Nat} (hKf : K < 10 * SetTable.turns t.mask)
    (hK : way t.mask (thash P w k) K ∉ t.place.toList) (hKb : ∀ c, c < K → way t.mask (thash P w k) c ∈ t.place.toList) {Q : SetFound → Shared → Prop}
    (hin : ∀ i, k ∈ L.map (·.2) → Q (.there (some i)) s) (hout : k ∉ L.map (·.2) → Q (.free (way t.mask (thash P w k) K) false) s) :
    ∀ (f c : Nat) (stand : Option SetTable.Probe), stand.getD (t.probeStart (thash P w k)) = nth t.mask (runAt t.mask (SetTable.bits (thash P w k) % (t.mask + 1)) (SetTable.bits (thash P w k))) c → c ≤ K → K - c < f →
      (∀ (i : Nat) p, L[i]? = some p → p.2 = k → ∃ c', c ≤ c' ∧ c' < K ∧ t.place.toList[i]? = some (way t.mask (thash P w k) c')) →
      wpAny (model P w) A (setSearchFrom a (.ref x) (thash P w k) false f stand) Q E s
  | 0, c, stand, _, _, hf, _ => absurd hf (Nat.not_lt_zero _)
  | f + 1, c, stand, hst, hc, hf, hre => by
    obtain ⟨o, ho, hex, hd⟩ := R.ob
    rw [setSearchFrom_succ]
    refine wpAny_bind (wpAny_setState_of ho hd R.fits ?_)
    dsimp only
    refine wp_if_neg R.gw ?_
    try refine wpAny_bind (wpAny_pure ?_)
    have hnd : (nth t.mask (runAt t.mask (SetTable.bits (thash P w k) % (t.mask + 1)) (SetTable.bits (thash P w k))) c).dummy = none := by
      have key : ∀ (n : Nat) (p : SetTable.Probe), p.dummy = none → (nth t.mask p n).dummy = none := by
        intro n
        induction n with
        | zero => intro p h; exact h
        | succ n ih =>
          intro p h
          refine ih (adv t.mask p) ?_
          unfold adv
          split <;> exact h
      exact key c _ rfl
    have sh : ∀ q, nth t.mask (nth t.mask (runAt t.mask (SetTable.bits (thash P w k) % (t.mask + 1)) (SetTable.bits (thash P w k))) c) q = nth t.mask (runAt t.mask (SetTable.bits (thash P w k) % (t.mask + 1)) (SetTable.bits (thash P w k))) (c + q) := fun q => (nth_add t.mask c _ q).symm
    have e1 : ∀ q, (nth t.mask (nth t.mask (runAt t.mask (SetTable.bits (thash P w k) % (t.mask + 1)) (SetTable.bits (thash P w k))) c) q).j = way t.mask (thash P w k) (c + q) := fun q => congrArg SetTable.Probe.j (sh q)
    have spec := go_spec t R.tab.ris R.tab.dm (fun i => (es[i]?.map (·.1)).getD 0) (thash P w k) (10 * SetTable.turns t.mask) (K - c) _ hnd (by omega)
      (fun q hq => by rw [e1]; exact hKb (c + q) (by omega)) (by rw [e1, show c + (K - c) = K by omega]; exact hK)
    have hashAt : ∀ (i : Nat) p, L[i]? = some p → (fun i => (es[i]?.map (·.1)).getD 0) i = thash P w p.2 := fun i p hp => by
      show (es[i]?.map (·.1)).getD 0 = _
      rw [R.entry hp] <;> rfl
    rcases spec with ⟨q, i, hq, hi, hh, hno, hpr⟩ | ⟨hno, hpr⟩
    · -- a candidate
      have hpr' : t.probe (fun i => (es[i]?.map (·.1)).getD 0) (thash P w k) (stand.getD (t.probeStart (thash P w k))) = some (.candidate (way t.mask (thash P w k) (c + q)) i (nth t.mask (runAt t.mask (SetTable.bits (thash P w k) % (t.mask + 1)) (SetTable.bits (thash P w k))) (c + (q + 1)))) := by
        rw [hst, ← e1, ← sh]
        exact hpr
      rw [hpr']
      dsimp only
      rw [e1] at hi
      -- the entry
      have hil : i < L.length := by
        have h1 : i < t.place.toList.length := (List.getElem?_eq_some_iff.mp hi).1
        have h2 := R.tab.sz
        rw [List.length_map] at h2
        rw [Array.length_toList] at h1
        omega
      have hp : L[i]? = some L[i] := List.getElem?_eq_getElem hil
      generalize hpe : L[i] = p at hp
      have hmem : p ∈ L := List.mem_of_getElem? hp
      have hpt := R.tup p hmem
      have rest : wpAny (model P w) A (searchRest a (.ref x) (thash P w k) false f es t (way t.mask (thash P w k) (c + q)) i (nth t.mask (runAt t.mask (SetTable.bits (thash P w k) % (t.mask + 1)) (SetTable.bits (thash P w k))) (c + (q + 1)))) Q E s := by
        unfold searchRest
        rw [R.entry hp]
        dsimp only
        refine wpAny_bind (wpAny_holding (wpAny_eqBool_tuple hu hpt hx ?_))
        refine wpAny_bind (wpAny_setState_of ho hd R.fits ?_)
        dsimp only
        refine wp_if_neg (by simp) ?_
        try refine wpAny_bind (wpAny_pure ?_)
        rw [sameMem]
        dsimp only
        have hsl : t.slot (way t.mask (thash P w k) (c + q)) = .live i := slot_live R.tab.ris hi
        simp only [if_true, hsl, R.entry hp]
        refine wpAny_bind (wpAny_isSame_ref_self (wpAny_bind (wpAny_pure ?_)))
        simp only [if_true]
        by_cases hkk : p.2 = k
        · refine wp_if_pos (by simp [hkk]) ?_
          exact wpAny_pure (hin i (List.mem_map.mpr ⟨p, hmem, hkk⟩))
        · refine wp_if_neg (by simp [hkk]) ?_
          refine search_no R hx hu hKf hK hKb hin hout f (c + (q + 1)) _ rfl (by omega) (by omega) fun i0 p0 h0 hk0 => ?_
          obtain ⟨c', a1, a2, a3⟩ := hre i0 p0 h0 hk0
          refine ⟨c', ?_, a2, a3⟩
          -- it isn't passed
          rcases Nat.lt_or_ge c' (c + q) with z | z
          · exfalso
            refine hno (c' - c) i0 (by omega) (by rw [e1, show c + (c' - c) = c' by omega]; exact a3) ?_
            exact (hashAt i0 p0 h0).trans (congrArg (thash P w) hk0)
          · rcases Nat.lt_or_ge (c + q) c' with y | y
            · omega
            · exfalso
              have ec : c' = c + q := Nat.le_antisymm y z
              rw [ec] at a3
              have s0 := slot_live R.tab.ris a3
              rw [hsl] at s0
              injection s0 with s0
              rw [← s0, hp] at h0
              exact hkk ((congrArg Prod.snd (Option.some.inj h0)).trans hk0)
      by_cases hl : t.led = true
      · refine wp_if_neg (by simp [hl]) ?_
        try refine wpAny_bind (wpAny_pure ?_)
        exact rest
      · refine wp_if_pos (by simp [hl]) ?_
        refine wpAny_bind (seen_tup hx (fun y hy => ?_) ?_)
        · obtain ⟨e, he, ee⟩ := List.mem_map.mp hy
          have he1 : e ∈ es ∧ e.1 = thash P w k := by simpa using he
          have he2 : e ∈ es.toList := by simpa using he1.1
          rw [R.rows] at he2
          obtain ⟨p2, hp2, e2⟩ := List.mem_map.mp he2
          refine ⟨p2.2, p2.1, ?_, R.tup p2 hp2⟩
          rw [← ee, ← e2]
        · refine wp_if_neg (by decide) ?_
          try refine wpAny_bind (wpAny_pure ?_)
          exact rest
    · -- the empty slot
      have hpr' : t.probe (fun i => (es[i]?.map (·.1)).getD 0) (thash P w k) (stand.getD (t.probeStart (thash P w k))) = some (.empty (way t.mask (thash P w k) K) none) := by
        have e2 : way t.mask (thash P w k) K = (nth t.mask (nth t.mask (runAt t.mask (SetTable.bits (thash P w k) % (t.mask + 1)) (SetTable.bits (thash P w k))) c) (K - c)).j := by
          rw [e1, show c + (K - c) = K by omega]
        rw [hst, e2]
        exact hpr
      rw [hpr']
      dsimp only
      refine wpAny_pure (hout fun hm => ?_)
      obtain ⟨p0, h0, hk0⟩ := List.mem_map.mp hm
      obtain ⟨i0, hi0, e0⟩ := List.getElem_of_mem h0
      have h00 : L[i0]? = some p0 := by rw [List.getElem?_eq_getElem hi0, e0]
      obtain ⟨c', a1, a2, a3⟩ := hre i0 p0 h00 hk0
      refine hno (c' - c) i0 (by omega) (by rw [e1, show c + (c' - c) = c' by omega]; exact a3) ?_
      exact (hashAt i0 p0 h00).trans (congrArg (thash P w) hk0)

theorem search_no_at (R : SetTR P w s.heap a L es ep t) {x : Addr} {k : List Int} (hx : IsT P w s.heap k x) (hu : A.units < cLine) {Q : SetFound → Shared → Prop}
    (hin : ∀ i, k ∈ L.map (·.2) → Q (.there (some i)) s) (hout : ∀ j, k ∉ L.map (·.2) → Q (.free j false) s) :
    wpAny (model P w) A (setSearch a (.ref x) (thash P w k) false) Q E s := by
  have hroom := R.room
  obtain ⟨K, hKf, hK, hKb⟩ := R.tab.first (by rw [List.length_map]; omega) (thash P w k)
  have hbig : K < 100000 := by
    have : 10 * SetTable.turns t.mask ≤ 1420 := by
      unfold SetTable.turns
      rcases R.tab.mok with e | e | e <;> omega
    omega
  unfold setSearch
  refine search_no R hx hu hKf hK hKb hin (hout _) 100000 0 none rfl (Nat.zero_le _) (by omega) fun i p hp hk => ?_
  have hi : (L.map fun p => thash P w p.2)[i]? = some (thash P w k) := by rw [List.getElem?_map, hp, ← hk] <;> rfl
  have hil : i < t.place.toList.length := by
    have h1 : i < L.length := (List.getElem?_eq_some_iff.mp hp).1
    have h2 := R.tab.sz
    rw [List.length_map] at h2
    rw [Array.length_toList]
    omega
  have hj := List.getElem?_eq_getElem hil
  obtain ⟨c, hc, e⟩ := R.tab.before hK hi hj
  exact ⟨c, Nat.zero_le _, hc, by rw [hj, e]⟩
theorem find_at (R : SetTR P w s.heap a L es ep t) {x : Addr} {k : List Int} (hx : IsT P w s.heap k x) (hu : A.units < cLine) {Q : Option Nat → Shared → Prop}
    (h : ∀ r, r.isSome = decide (k ∈ L.map (·.2)) → Q r s) : wpAny (model P w) A (setFind a (.ref x) (thash P w k)) Q E s := by
  obtain ⟨o, ho, hex, hd⟩ := R.ob
  unfold setFind
  rw [show (100000 : Nat) = 99999 + 1 from rfl]
  unfold setFindIn
  refine wpAny_bind (wpAny_setState_of ho hd R.fits ?_)
  dsimp only
  refine wp_if_neg (by simp [byScan, Value.scannable]) ?_
  try refine wpAny_bind (wpAny_pure ?_)
  refine wpAny_bind (search_no_at R hx hu (fun i hm => ?_) fun j hm => ?_)
  · exact wpAny_pure (h _ (by simp [hm]))
  · exact wpAny_pure (h _ (by simp [hm]))
theorem SetTR.typeIs (R : SetTR P w s.heap a L es ep t) : s.TypeIs (.ref a) "set" := let ⟨o, ho, hex, _⟩ := R.ob; ⟨o, ho, hex.1⟩
theorem SetTR.noDict (R : SetTR P w s.heap a L es ep t) : ∀ b, Value.ref a = .ref b → ∃ ob, s.heap.get? b = some ob ∧ ob.dict = none :=
  fun b e => by injection e with e; subst e; exact let ⟨o, ho, hex, _⟩ := R.ob; ⟨o, ho, hex.2.1⟩
theorem in_setT (R : SetTR P w s.heap a L es ep t) {x : Addr} {k : List Int} (hx : IsT P w s.heap k x) (hu : A.units + 64 < cLine) {Q : Bool → Shared → Prop}
    (h : Q (decide (k ∈ L.map (·.2))) { s with toks := s.toks + (k.length + 1) }) : wpAny (model P w) A (contains (.ref a) (.ref x)) Q E s := by
  unfold contains
  try with_reducible refine wpAny_holding ?_
  refine wpAny_bind (wpAny_specialOf R.typeIs F.slot_set_contains.lookup ?_)
  show wpAny _ _ (if (some (Value.builtin "set.__contains__") == some Value.none) = true then _ else _) _ E s
  rw [if_neg (by rw [beq_builtin_none]; exact Bool.false_ne_true)]
  refine wpAny_bind (wpAny_callSpecialUnlessNone?_slot (name := Str.ofString "__contains__") R.typeIs F.slot_set_contains
    (wpAny_call_entry F.slot_set_contains R.typeIs entry_set_contains ?_ (F.args_set_contains_2 _ _)))
  unfold Builtin.«frozenset.__contains__» Builtin.Frozenset.oneOther
  simp only [List.isEmpty_nil, bind_assoc]
  unfold Builtin.Frozenset.addrOf Builtin.Frozenset.withSetAsKey setContains
  refine wpAny_bind (wpAny_pure ?_)
  try dsimp only
  refine wpAny_bind (wpAny_pure ?_)
  try dsimp only
  refine wpAny_bind (wpAny_tryCatch ?_)
  refine wpAny_holding ?_
  refine wpAny_bind (wpAny_pyHash_tuple (by exact Nat.lt_of_le_of_lt (Nat.add_le_add_left (by decide) _) hu) hx ?_)
  refine wpAny_bind (find_at (s := { s with toks := s.toks + (k.length + 1) }) R hx (by exact Nat.lt_of_le_of_lt (Nat.add_le_add_left (by decide) _) hu) fun r hr => ?_)
  refine wpAny_pure ?_
  show wpAny _ _ (ret (Value.bool r.isSome)) _ _ _
  rw [hr]
  exact wpAny_pure ⟨_, rfl, wpAny_truthy_bool h⟩
end
section
variable {X : Cx}
def rSet0T (P : Program) (w : World) : List V → Hp → VK → Prop := fun xs H Q => xs = [] ∧ ∀ p, H p = none → Q (.ref p) (upd H p (SetTO P w p []))
theorem cr_set0T : CallR X (.type "set") (rSet0T X.prog X.w) := by
  intro pins s σ H xs us Q I r h
  obtain ⟨rfl, q⟩ := h
  cases r
  refine setR_new fun _ => ?_
  have new := setTR_fresh (P := X.prog) (w := X.w) (h := s.heap.push { cls := .type "set", dict := none, data := .set #[] 0 (.fresh 0 0 (!X.w.params.followText "set-order")) }) (a := s.heap.objs.size) (Heap.get?_push_size _ rfl)
  exact ⟨.ref _, upd H s.heap.objs.size (SetTO X.prog X.w s.heap.objs.size []), I.laid (t' := s.toks) (fun b u e => Heap.get?_push_of_some _ e) (Nat.le_refl _) (setTO_new new.t0), rfl, q _ (I.hok.fresh (Nat.le_refl _))⟩
def SetIn (K : PySem.W.Frag) (P : Program) (w : World) (H : Hp) (a : Addr) (L : List (Addr × List Int)) : Prop := H a = some (SetTO P w a L) ∧ ∀ p ∈ L, SqT K H p.1 (p.2.map V.int)
theorem SetIn.full {pins : List (Addr × Obj)} {σ : St} {H : Hp} {s : Shared} {a : Addr} {L : List (Addr × List Int)} (I : Inv X pins σ H s) (h : SetIn X.K X.prog X.w H a L) : ∃ es ep t, SetTR X.prog X.w s.heap a L es ep t :=
  SetT0.full (I.hok a _ h.1).1 fun p hp => I.isT (h.2 p hp)
def rSAddT (K : PySem.W.Frag) (P : Program) (w : World) : V → List V → Hp → VK → Prop := fun x xs H Q => ∃ (a b : Addr) (k : List Int) (L : List (Addr × List Int)), x = V.ref a ∧ xs = [V.ref b] ∧ SetIn K P w H a L ∧ SqT K H b (k.map V.int) ∧ L.length + 1 < 64 ∧
  ∀ L', (k ∈ L.map (·.2) → L' = L) → (k ∉ L.map (·.2) → L'.Perm ((b, k) :: L)) → Q .non (upd H a (SetTO P w a L'))
theorem mt_saddT (hu : X.A.units + 64 < cLine) : MtR X "set.add" (rSAddT X.K X.prog X.w) := by
  intro pins s σ H x xs v us Q I rx rxs h
  obtain ⟨a, b, k, L, rfl, rfl, hs, hb, hl, q⟩ := h
  cases rx
  rw [Vals.ref1 rxs]
  obtain ⟨es, ep, t, R⟩ := hs.full I
  have hx := I.isT hb
  refine wpAny_call_entry F.slot_set_add R.typeIs F.entry_set_add ?_ (F.args_set_add_2 _ _)
  unfold Builtin.«set.add» Builtin.Frozenset.oneOther
  simp only [List.isEmpty_nil, bind_assoc]
  unfold Builtin.Frozenset.addrOf setAdd
  refine wpAny_bind (wpAny_pure ?_)
  try dsimp only
  refine wpAny_bind (wpAny_pure ?_)
  try dsimp only
  refine wpAny_bind ?_
  refine wpAny_holding ?_
  refine wpAny_bind (wpAny_pyHash_tuple (by exact Nat.lt_of_le_of_lt (Nat.add_le_add_left (by decide) _) hu) hx ?_)
  refine add_at (s := { s with toks := s.toks + (k.length + 1) }) R hx (by exact Nat.lt_of_le_of_lt (Nat.add_le_add_left (by decide) _) hu) hl fun b' h' L' es' ep' t' hsb hS2 c1 c2 => ?_
  show wpAny _ _ (ret Value.none) _ _ _
  refine wpAny_pure ⟨_, rfl, ?_⟩
  have he : ∃ u, h'.get? a = some u := by
    have ⟨o, ho, _⟩ := hS2.ob
    exact ⟨o, ho⟩
  exact ⟨.non, upd H a (SetTO X.prog X.w a L'), I.write (e := a) (t' := s.toks + (k.length + 1)) (by rw [hs.1]; trivial) (.inl rfl) (fun b u hb hu => (hsb.2 b hb).trans hu) he (setTO_new hS2.t0), rfl, q L' c1 c2⟩
def rSInT (K : PySem.W.Frag) (P : Program) (w : World) (neg : Bool) : V → V → Hp → VK → Prop := fun x y H Q => ∃ (a b : Addr) (k : List Int) (L : List (Addr × List Int)), x = V.ref b ∧ y = V.ref a ∧ SetIn K P w H a L ∧ SqT K H b (k.map V.int) ∧
  Q (.bl (if neg then !decide (k ∈ L.map (·.2)) else decide (k ∈ L.map (·.2)))) H
theorem or_sinT (hu : X.A.units + 64 < cLine) : OpR X (compareOp .In) (rSInT X.K X.prog X.w false) := by
  intro pins s σ H x y v u Q I rx ry h
  obtain ⟨a, b, k, L, rfl, rfl, hs, hb, q⟩ := h
  cases rx; cases ry
  obtain ⟨es, ep, t, R⟩ := hs.full I
  show wpAny _ _ (do return Value.bool (← contains (.ref a) (.ref b))) _ _ s
  refine wpAny_bind (in_setT R (I.isT hb) hu (wpAny_pure ?_))
  exact ⟨.bl _, H, I.tok _, rfl, q⟩
theorem or_snotinT (hu : X.A.units + 64 < cLine) : OpR X (compareOp .NotIn) (rSInT X.K X.prog X.w true) := by
  intro pins s σ H x y v u Q I rx ry h
  obtain ⟨a, b, k, L, rfl, rfl, hs, hb, q⟩ := h
  cases rx; cases ry
  obtain ⟨es, ep, t, R⟩ := hs.full I
  show wpAny _ _ (do return Value.bool (!(← contains (.ref a) (.ref b)))) _ _ s
  refine wpAny_bind (in_setT R (I.isT hb) hu (wpAny_pure ?_))
  exact ⟨.bl _, H, I.tok _, rfl, q⟩
end
end L2

end

-- part EvA
section
set_option Elab.async false
set_option linter.all false
namespace Ev
open PySem

/-! ## A. Data -/
/-- frozen data: it never changes -/
inductive D where
  | non | bl (b : Bool) | int (i : Int) | str (s : Str)
  | tup (xs : List D) | lst (xs : List D)
  | ins (c : Nat) (fs : List (Nat × D))
  | scr (ns : List Int)
  deriving Inhabited
/-- a value: frozen data, or a cell -/
inductive W where
  | d (x : D) | r (i : Nat)
  deriving Inhabited
/-- a mutable object -/
inductive Cell where
  | sh (ds : List D)                      -- a list of frozen data
  | dp (ws : List W)                      -- a list that may hold cells
  | ob (c : Nat) (fs : List (Nat × W))    -- an instance
  | fz (x : D)                            -- frozen by now
  | st (ks : List (List Int))             -- a set of tuples of ints
  | tp (ws : List W)                      -- a tuple that holds cells
  | gone
  deriving Inhabited
abbrev Gs := List Cell
abbrev Sl := List (Option W)
structure Exn where
  c : Nat
  fs : List (Nat × D)
/-- the outcome of an expression -/
inductive R (α : Type) where
  | ok (a : α) (G : Gs)
  | exc (e : Exn) (G : Gs)
  | no
/-- the outcome of a call -/
inductive PR where
  | ok (x : D) | exc (e : Exn) | no
/-- the outcome of a statement -/
inductive O where
  | nx (σ : Sl) (G : Gs) | rt (w : W) (G : Gs) | bk (σ : Sl) (G : Gs) | ct (σ : Sl) (G : Gs)
  | ex (e : Exn) (σ : Sl) (G : Gs) | no

def R.bind {α β : Type} (x : R α) (f : α → Gs → R β) : R β := match x with
  | .ok a G => f a G
  | .exc e G => .exc e G
  | .no => .no
def R.ofOpt {α : Type} (x : Option α) (G : Gs) : R α := match x with
  | some a => .ok a G
  | none => .no

/-! ## B. Syntax -/
inductive BO where | add | sub | mul | fdiv | mod | pow | shl | shr | band | bor
  deriving DecidableEq
inductive CO where | eq | ne | lt | le | gt | ge | isin | notin | is | isnot
  deriving DecidableEq
/-- built-in functions -/
inductive BF where | len | tuple | list | int | str | abs | sum | any | all | min1 | max1 | min2 | max2 | sorted | repr | set
  deriving DecidableEq
/-- methods of built-in types -/
inductive BM where | append | pop0 | pop1 | clear | extend | insert | index | count | find | split | join | add
  deriving DecidableEq
/-- what isinstance asks -/
inductive Ty where | int | bool | str | list | tuple | cls (c : Nat) | err (c : Nat)
  deriving DecidableEq
/-- a target of names -/
inductive Tg where
  | var (i : Nat)
  | tup (ts : List Nat)
mutual
inductive E where
  | var (i : Nat)
  | lit (x : D)
  | bin (k : Bool) (o : BO) (a b : E)
  | neg (a : E)
  | not (a : E)
  | inv (a : E)
  | cmp (o : CO) (a b : E)
  | chain (o1 o2 : CO) (a b c : E)
  | chain3 (o1 o2 o3 : CO) (a b c d : E)
  | and (a b : E)
  | or (a b : E)
  | truth (a : E)
  | ite (c a b : E)
  | tup (es : List E)
  | lst (k : Nat) (es : List E)
  | sub (a b : E)
  | sli (k : Nat) (a : E) (lo hi : Option E)
  | attr (a : E) (f : Nat)
  | call (f : Nat) (es : List E)
  | meth (m : Nat) (a : E) (es : List E)
  | new (c : Nat) (es : List E)
  | blt (k : Nat) (b : BF) (es : List E)
  | mth (m : BM) (a : E) (es : List E)
  | lc (k : Nat) (elt : E) (tg : Tg) (it : Itr) (own : List Nat) (ifs : Option E)
  | isin (a : E) (ts : List Ty)
/-- what a for or a comprehension walks -/
inductive Itr where
  | val (a : E)
  | range (lo hi : E)
  | enum (a : E)
  | zip (a b : E)
  | rev (a : Itr)
end
end Ev
namespace Ev
open PySem
/-! ## C. What the operations yield -/
mutual
/-- as the library's data (no instance) -/
def py : D → Option PyData
  | .non => some .none
  | .bl b => some (.bool b)
  | .int i => some (.int i)
  | .str s => some (.str s)
  | .tup xs => (pys xs).map .tuple
  | .lst xs => (pys xs).map .list
  | .ins _ _ => none
  | .scr _ => none
def pys : List D → Option (List PyData)
  | [] => some []
  | x :: r => (py x).bind fun a => (pys r).map (a :: ·)
end
/-- x == y of data without instances -/
def eqD (x y : D) : Option Bool := match py x, py y with
  | some a, some b => if SeqAt.shaped a && SeqAt.shaped b then some (PyData.eqv a b) else none
  | _, _ => none
def ixN (n : Nat) (i : Int) : Option Nat := L2.ixN n i
def mulOk (i j : Int) : Bool := decide (-(2 ^ 64) < i ∧ i < 2 ^ 64) || decide (-(2 ^ 64) < j ∧ j < 2 ^ 64) || decide (i.natAbs.log2 + j.natAbs.log2 < 1000000)
def arith (o : BO) (i j : Int) : Option Int := match o with
  | .add => some (i + j)
  | .sub => some (i - j)
  | .mul => if mulOk i j then some (i * j) else none
  | .fdiv => if 0 < j ∧ j.natAbs.log2 < 9000 then some (i / j) else none
  | .mod => if 0 < j then some (i % j) else none
  | .pow => if 0 ≤ j ∧ j ≤ 1000000 ∧ i.natAbs < 2 ^ 64 then some (i ^ j.toNat) else none
  | .shl => if 0 ≤ j ∧ j ≤ 1000000 ∧ i.natAbs < 2 ^ 64 then some (i * 2 ^ j.toNat) else none
  | .shr => if 0 ≤ j then some (i / 2 ^ j.toNat) else none
  | .band => some (Builtin.bitAnd i j)
  | .bor => some (Builtin.bitOr i j)
def ordI (o : CO) (i j : Int) : Option Bool := match o with
  | .lt => some (decide (i < j))
  | .le => some (decide (i ≤ j))
  | .gt => some (decide (j < i))
  | .ge => some (decide (j ≤ i))
  | _ => none

/-! cells -/
def fzL (f : W → Gs → Option (D × Gs)) : List W → Gs → Option (List D × Gs)
  | [], G => some ([], G)
  | w :: r, G => (f w G).bind fun p => (fzL f r p.2).bind fun q => some (p.1 :: q.1, q.2)
def fzF (f : W → Gs → Option (D × Gs)) : List (Nat × W) → Gs → Option (List (Nat × D) × Gs)
  | [], G => some ([], G)
  | (n, w) :: r, G => (f w G).bind fun p => (fzF f r p.2).bind fun q => some ((n, p.1) :: q.1, q.2)
/-- freeze: a value as data; the cells in it never change from now on -/
def fz : Nat → W → Gs → Option (D × Gs)
  | _, .d x, G => some (x, G)
  | 0, .r _, _ => none
  | n + 1, .r i, G => match G[i]? with
    | some (.sh ds) => some (.lst ds, G.set i (.fz (.lst ds)))
    | some (.dp ws) => (fzL (fz n) ws G).bind fun p => some (.lst p.1, p.2.set i (.fz (.lst p.1)))
    | some (.ob c fs) => (fzF (fz n) fs G).bind fun p => some (.ins c p.1, p.2.set i (.fz (.ins c p.1)))
    | some (.fz x) => some (x, G)
    | some (.tp ws) => (fzL (fz n) ws G).bind fun p => some (.tup p.1, p.2.set i (.fz (.tup p.1)))
    | _ => none
def fzN : Nat := 5
def snL (f : W → Option D) : List W → Option (List D)
  | [] => some []
  | w :: r => (f w).bind fun x => (snL f r).bind fun xs => some (x :: xs)
/-- what a value holds now (lists alone) -/
def sn (G : Gs) : Nat → W → Option D
  | _, .d x => some x
  | 0, .r _ => none
  | n + 1, .r i => match G[i]? with
    | some (.sh ds) => some (.lst ds)
    | some (.dp ws) => (snL (sn G n) ws).map .lst
    | some (.fz x) => some x
    | some (.tp ws) => (snL (sn G n) ws).map .tup
    | _ => none
/-- the items of a list or a tuple -/
def items (G : Gs) : W → Option (List W)
  | .d (.lst ds) => some (ds.map .d)
  | .d (.tup ds) => some (ds.map .d)
  | .d (.scr ns) => some (ns.map fun n => .d (.int n))
  | .r i => match G[i]? with
    | some (.sh ds) => some (ds.map .d)
    | some (.dp ws) => some ws
    | some (.fz (.lst ds)) => some (ds.map .d)
    | _ => none
  | _ => none
/-- the items of a tuple -/
def titems : W → Option (List W)
  | .d (.tup ds) => some (ds.map .d)
  | _ => none
/-- the items of a list -/
def litems (G : Gs) : W → Option (List W)
  | .d (.lst ds) => some (ds.map .d)
  | .r i => match G[i]? with
    | some (.sh ds) => some (ds.map .d)
    | some (.dp ws) => some ws
    | some (.fz (.lst ds)) => some (ds.map .d)
    | _ => none
  | _ => none
/-- the items of a list, the script among them -/
def sitems (G : Gs) : W → Option (List W)
  | .d (.scr ns) => some (ns.map fun n => .d (.int n))
  | w => litems G w
def lineB (n : Nat) : Bool := decide (n ≤ sizeLine)
/-- a new list: k = 0 data, 1 a cell of data, more: a cell of values -/
def mkL (k : Nat) (ws : List W) (G : Gs) : R W := if lineB ws.length then (match k with
  | 0 => match fzL (fz fzN) ws G with
    | some p => .ok (.d (.lst p.1)) p.2
    | none => .no
  | 1 => match fzL (fz fzN) ws G with
    | some p => .ok (.r p.2.length) (p.2 ++ [.sh p.1])
    | none => .no
  | _ => .ok (.r G.length) (G ++ [.dp ws])) else .no
def mkT (ws : List W) (G : Gs) : R W := if lineB ws.length then (match fzL (fz fzN) ws G with
  | some p => .ok (.d (.tup p.1)) p.2
  | none => .no) else .no
def truthW (G : Gs) : W → Option Bool
  | .d .non => some false
  | .d (.bl b) => some b
  | .d (.int i) => some (i != 0)
  | .d (.str s) => if lineB s.length then some (s.length != 0) else none
  | w => (items G w).map fun ws => !ws.isEmpty
def asD : W → Option D
  | .d x => some x
  | .r _ => none
def asI : W → Option Int
  | .d (.int i) => some i
  | _ => none
def asB : W → Option Bool
  | .d (.bl b) => some b
  | _ => none
end Ev
namespace Ev
open PySem
/-! sameness of cells -/
mutual
def D.same : D → D → Bool
  | .non, .non => true
  | .bl a, .bl b => a == b
  | .int a, .int b => decide (a = b)
  | .str a, .str b => decide (a = b)
  | .tup xs, .tup ys => sameL xs ys
  | .lst xs, .lst ys => sameL xs ys
  | .ins c fs, .ins d gs => decide (c = d) && sameF fs gs
  | .scr a, .scr b => decide (a = b)
  | _, _ => false
def sameL : List D → List D → Bool
  | [], [] => true
  | x :: r, y :: q => x.same y && sameL r q
  | _, _ => false
def sameF : List (Nat × D) → List (Nat × D) → Bool
  | [], [] => true
  | (n, x) :: r, (m, y) :: q => decide (n = m) && x.same y && sameF r q
  | _, _ => false
end
def W.same : W → W → Bool
  | .d x, .d y => x.same y
  | .r i, .r j => decide (i = j)
  | _, _ => false
def sameW : List W → List W → Bool
  | [], [] => true
  | x :: r, y :: q => x.same y && sameW r q
  | _, _ => false
def Cell.same : Cell → Cell → Bool
  | .sh a, .sh b => sameL a b
  | .dp a, .dp b => sameW a b
  | .fz a, .fz b => a.same b
  | _, _ => false
def watch (ws : List Nat) (G G' : Gs) : Bool := ws.all fun i => match G[i]?, G'[i]? with
  | some a, some b => a.same b
  | _, _ => false
/-! names -/
inductive It where
  | one (w : W) | two (a b : W)
def setS (σ : Sl) (i : Nat) (w : W) : Sl := σ.set i (some w)
def bindNs : List Nat → List W → Sl → Option Sl
  | [], [], σ => some σ
  | i :: r, w :: q, σ => bindNs r q (setS σ i w)
  | _, _, _ => none
def bindTg (G : Gs) : Tg → It → Sl → Option Sl
  | .var i, .one w, σ => some (setS σ i w)
  | .tup ts, .two a b, σ => bindNs ts [a, b] σ
  | .tup ts, .one w, σ => (titems w).bind fun ws => bindNs ts ws σ
  | _, _, _ => none
def wipeS (σ : Sl) : List Nat → Sl
  | [] => σ
  | v :: vs => (wipeS σ vs).set v none
/-! operations -/
def nolistB : D → Bool
  | .lst _ => false
  | .scr _ => false
  | .tup xs => nl xs
  | .ins _ fs => nf fs
  | _ => true
where
  nl : List D → Bool
  | [] => true
  | x :: r => nolistB x && nl r
  nf : List (Nat × D) → Bool
  | [] => true
  | (_, x) :: r => nolistB x && nf r
structure Fns where
  call : Nat → List D → PR
  init : Nat → List D → PR
  meth : Nat → Nat → Option Nat
  exf : Nat → List Nat
  exsub : Nat → Nat → Bool
  fld : Nat → Nat → Bool
  isc : Nat → Bool
def allD : List W → Option (List D)
  | [] => some []
  | .d x :: r => (allD r).map (x :: ·)
  | .r _ :: _ => none
def PR.out (G : Gs) : PR → R W
  | .ok x => .ok (.d x) G
  | .exc e => .exc e G
  | .no => .no
/-- tuples of cells are used once -/
def killT (G : Gs) : Gs := G.map fun c => match c with
  | .tp _ => .gone
  | c => c
/-- a call: what is passed is data while it runs -/
def fcall (f : List D → PR) (ws : List W) (G : Gs) : R W := match allD ws with
  | some ds => (f ds).out G
  | none => match snL (sn G fzN) ws with
    | none => .no
    | some ds => match f ds with
      | .ok x => if nolistB x then .ok (.d x) (killT G) else (match fzL (fz fzN) ws G with
        | some p => (match f p.1 with
          | .ok y => .ok (.d y) p.2
          | _ => .no)
        | none => .no)
      | .exc e => if e.fs.all fun p => nolistB p.2 then .exc e (killT G) else .no
      | .no => .no
def mcall (Φ : Fns) (c m : Nat) (ws : List W) (G : Gs) : R W := match Φ.meth c m with
  | some f => fcall (Φ.call f) ws G
  | none => .no
def nmLen : Nat := 0
def nmEq : Nat := 1
def nmIn : Nat := 2
def nmIter : Nat := 3
def nmOr : Nat := 4
def nmAdd : Nat := 5
def nmInv : Nat := 6
def cut {α : Type} (xs : List α) (lo hi : Option Int) : List α := (xs.drop (HT.sIx xs.length 0 lo)).take (HT.sIx xs.length xs.length hi - HT.sIx xs.length 0 lo)
def bL (b : Bool) (G : Gs) : R W := .ok (.d (.bl b)) G
def iL (i : Int) (G : Gs) : R W := .ok (.d (.int i)) G
def binW (Φ : Fns) (k : Nat) (o : BO) (x y : W) (G : Gs) : R W := match x, y with
  | .d (.int i), .d (.int j) => match arith o i j with
    | some z => iL z G
    | none => .no
  | .d (.str a), .d (.str b) => match o with
    | .add => if lineB (a.length + b.length) then .ok (.d (.str (a ++ b))) G else .no
    | _ => .no
  | .d (.tup a), .d (.tup b) => match o with
    | .add => if lineB (a.length + b.length) then .ok (.d (.tup (a ++ b))) G else .no
    | _ => .no
  | .d (.ins c fs), y => match o with
    | .add => mcall Φ c nmAdd [.d (.ins c fs), y] G
    | .bor => mcall Φ c nmOr [.d (.ins c fs), y] G
    | _ => .no
  | x, .d (.int j) => match o, litems G x with
    | .mul, some ws => if -(2 ^ 63) ≤ j ∧ j < 2 ^ 63 ∧ ws.length * j.toNat ≤ sizeLine then mkL k (List.replicate j.toNat ws).flatten G else .no
    | _, _ => .no
  | x, y => match o, litems G x, litems G y with
    | .add, some a, some b => if lineB (a.length + b.length) then mkL k (a ++ b) G else .no
    | _, _, _ => .no
def flatD : D → Bool
  | .non => true
  | .bl _ => true
  | .int _ => true
  | .str _ => true
  | _ => false
def eqF : D → D → Bool
  | .non, .non => true
  | .bl a, .bl b => a == b
  | .bl a, .int b => (if a then 1 else 0) == b
  | .int a, .bl b => a == (if b then 1 else 0)
  | .int a, .int b => a == b
  | .str a, .str b => a == b
  | _, _ => false
/-- x in y -/
def inD (x y : D) : Option Bool := match y with
  | .str t => match x with
    | .str s => some (!(Builtin.Str.occurrences t s 0 t.length 1).isEmpty)
    | _ => none
  | .tup ds => if flatD x && ds.all flatD then some (ds.any fun z => eqF z x) else none
  | .lst ds => if flatD x && ds.all flatD then some (ds.any fun z => eqF z x) else (match py x, pys ds with
    | some a, some bs => if SeqAt.shaped a && SeqAt.shaped (.list bs) then some (bs.any fun z => PyData.eqv z a) else none
    | _, _ => none)
  | _ => none
/-- its type is known -/
def tyKn (ok : Nat → Bool) (G : Gs) : W → Bool
  | .d (.ins c _) => ok c
  | .d _ => true
  | .r i => match G[i]? with
    | some (.sh _) => true
    | some (.dp _) => true
    | some (.ob c _) => ok c
    | some (.fz (.lst _)) => true
    | some (.fz (.ins c _)) => ok c
    | _ => false
/-- a set's members -/
def stOf (G : Gs) : W → Option (List (List Int))
  | .r i => match G[i]? with
    | some (.st ks) => some ks
    | _ => none
  | _ => none
def intsD : List D → Option (List Int)
  | [] => some []
  | .int i :: r => (intsD r).map (i :: ·)
  | _ => none
def tupI : W → Option (List Int)
  | .d (.tup ds) => intsD ds
  | _ => none
/-- x in y, y no own instance -/
def inW (x y : W) (G : Gs) : Option Bool := match stOf G y with
  | some ks => (tupI x).map fun k => decide (k ∈ ks)
  | none => match sn G fzN x, sn G fzN y with
    | some a, some b => inD a b
    | _, _ => none
def eqW (Φ : Fns) (x y : W) (G : Gs) : R W := match x with
  | .d (.ins c fs) => if tyKn Φ.isc G y then mcall Φ c nmEq [.d (.ins c fs), y] G else .no
  | x => match sn G fzN x, sn G fzN y with
    | some a, some b => match eqD a b with
      | some t => bL t G
      | none => .no
    | _, _ => .no
def notW : R W → R W
  | .ok (.d (.bl b)) G => .ok (.d (.bl (!b))) G
  | .exc e G => .exc e G
  | _ => .no
def isW (x y : W) : Option Bool := match x, y with
  | .d a, .d .non => some (match a with
    | .non => true
    | _ => false)
  | .r _, .d .non => some false
  | .d (.bl a), .d (.bl b) => some (a == b)
  | _, _ => none
def cmpW (Φ : Fns) (o : CO) (x y : W) (G : Gs) : R W := match o with
  | .eq => eqW Φ x y G
  | .ne => match x with
    | .d (.ins _ _) => .no
    | x => notW (eqW Φ x y G)
  | .isin => match y with
    | .d (.ins c fs) => mcall Φ c nmIn [.d (.ins c fs), x] G
    | y => match inW x y G with
      | some t => bL t G
      | none => .no
  | .notin => match y with
    | .d (.ins c fs) => notW (mcall Φ c nmIn [.d (.ins c fs), x] G)
    | y => match inW x y G with
      | some t => bL (!t) G
      | none => .no
  | .is => match isW x y with
    | some t => bL t G
    | none => .no
  | .isnot => match isW x y with
    | some t => bL (!t) G
    | none => .no
  | o => match x, y with
    | .d (.int i), .d (.int j) => match ordI o i j with
      | some t => bL t G
      | none => .no
    | _, _ => .no
def subW (x i : W) (G : Gs) : R W := match i with
  | .d (.int i) => match x with
    | .d (.str z) => if lineB z.length then (match (L2.atI z.cps.toList i) with
      | some c => .ok (.d (.str ⟨#[c]⟩)) G
      | none => .no) else .no
    | x => match (items G x).bind fun ws => L2.atI ws i with
      | some w => .ok w G
      | none => .no
  | _ => .no
def cutW (k : Nat) (x : W) (lo hi : Option Int) (G : Gs) : R W := match x with
  | .d (.str z) => if lineB z.length then .ok (.d (.str (L2.cutS z lo hi))) G else .no
  | .d (.tup ds) => .ok (.d (.tup (cut ds lo hi))) G
  | x => match litems G x with
    | some ws => mkL k (cut ws lo hi) G
    | none => .no
def attrW (Φ : Fns) (x : W) (f : Nat) (G : Gs) : R W := match x with
  | .d (.ins c fs) => if Φ.fld c f then (match fs.lookup f with
    | some y => .ok (.d y) G
    | none => .no) else .no
  | .r i => match G[i]? with
    | some (.ob c fs) => if Φ.fld c f then (match fs.lookup f with
      | some w => .ok w G
      | none => .no) else .no
    | _ => .no
  | _ => .no
def Ty.okB (ok : Nat → Bool) : Ty → Bool
  | .cls c => ok c
  | .err _ => false
  | _ => true
def clsTy (ok : Nat → Bool) (c : Nat) (t : Ty) : Option Bool := if ok c then some (t == .cls c) else none
def isTy0 (ok : Nat → Bool) (G : Gs) (x : W) (t : Ty) : Option Bool := match x with
  | .d .non => some false
  | .d (.bl _) => some (t == .int || t == .bool)
  | .d (.int _) => some (t == .int)
  | .d (.str _) => some (t == .str)
  | .d (.tup _) => some (t == .tuple)
  | .d (.lst _) => some (t == .list)
  | .d (.ins c _) => clsTy ok c t
  | .d (.scr _) => some (t == .list)
  | .r i => match G[i]? with
    | some (.sh _) => some (t == .list)
    | some (.dp _) => some (t == .list)
    | some (.ob c _) => clsTy ok c t
    | some (.fz (.lst _)) => some (t == .list)
    | some (.fz (.ins c _)) => clsTy ok c t
    | _ => none
def isTy (ok : Nat → Bool) (G : Gs) (x : W) (t : Ty) : Option Bool := if t.okB ok then isTy0 ok G x t else none
def isTys (ok : Nat → Bool) (G : Gs) (x : W) : List Ty → Option Bool
  | [] => some false
  | t :: r => (isTy ok G x t).bind fun b => if b then some true else isTys ok G x r
def intsW : List W → Option (List Int)
  | [] => some []
  | .d (.int i) :: r => (intsW r).map (i :: ·)
  | _ => none
def boolsW : List W → Option (List Bool)
  | [] => some []
  | .d (.bl b) :: r => (boolsW r).map (b :: ·)
  | _ => none
def minL : List Int → Option Int
  | [] => none
  | a :: r => some (r.foldl min a)
def maxL : List Int → Option Int
  | [] => none
  | a :: r => some (r.foldl max a)
def lenW (Φ : Fns) (x : W) (G : Gs) : R W := match x with
  | .d (.str z) => if lineB z.length then iL z.length G else .no
  | .d (.ins c fs) => match mcall Φ c nmLen [.d (.ins c fs)] G with
    | .ok (.d (.int n)) G' => if 0 ≤ n ∧ n < 2 ^ 63 then iL n G' else .no
    | .exc e G' => .exc e G'
    | _ => .no
  | x => match items G x with
    | some ws => iL ws.length G
    | none => .no
/-- data that are sorted: alike, tuples with an item at least or none -/
def pyD (d : D) : PyData := (py d).getD .none
def sortOk (ds : List D) : Bool := ds.all (fun d => (py d).isSome) && ds.all (fun a => ds.all fun b => PySem.W.alike (pyD a) (pyD b)) && (ds.all (fun d => match pyD d with
  | .tuple (_ :: _) => true
  | _ => false) || ds.all (fun d => match pyD d with
  | .none => false
  | .tuple _ => false
  | _ => true)) && ds.all fun d => decide ((pyD d).depth ≤ 60)
def sortD (ds : List D) : List D := ds.mergeSort (PySem.W.dataLe false pyD)
def sortW (k : Nat) (x : W) (G : Gs) : R W := match items G x with
  | some ws => match fzL (fz fzN) ws G with
    | some p => if sortOk p.1 && lineB p.1.length then mkL k ((sortD p.1).map .d) p.2 else .no
    | none => .no
  | none => .no
def bltW (Φ : Fns) (k : Nat) (b : BF) (ws : List W) (G : Gs) : R W := match b, ws with
  | .len, [x] => lenW Φ x G
  | .tuple, [.d (.tup ds)] => .ok (.d (.tup ds)) G
  | .tuple, [x] => match sitems G x with
    | some ws => if k = 0 then mkT ws G else if lineB ws.length then .ok (.r G.length) (G ++ [.tp ws]) else .no
    | none => .no
  | .list, [x] => match items G x with
    | some ws => mkL k ws G
    | none => .no
  | .int, [.d (.int i)] => iL i G
  | .int, [.d (.bl b)] => iL (if b then 1 else 0) G
  | .str, [.d (.int i)] => if i.natAbs.log2 < 1920 then .ok (.d (.str (toString i : Str))) G else .no
  | .abs, [.d (.int i)] => iL (if i < 0 then -i else i) G
  | .sum, [x] => match (litems G x).bind intsW with
    | some ns => iL ns.sum G
    | none => .no
  | .any, [x] => match (litems G x).bind boolsW with
    | some bs => bL (bs.any id) G
    | none => .no
  | .all, [x] => match (litems G x).bind boolsW with
    | some bs => bL (bs.all id) G
    | none => .no
  | .min1, [x] => match ((litems G x).bind intsW).bind minL with
    | some n => iL n G
    | none => .no
  | .max1, [x] => match ((litems G x).bind intsW).bind maxL with
    | some n => iL n G
    | none => .no
  | .sorted, [x] => sortW k x G
  | .min2, [.d (.int i), .d (.int j)] => iL (if j < i then j else i) G
  | .max2, [.d (.int i), .d (.int j)] => iL (if j > i then j else i) G
  | .set, [] => .ok (.r G.length) (G ++ [.st []])
  | _, _ => .no
def isSetW (G : Gs) (x : W) : Bool := match stOf G x with
  | some _ => true
  | none => false
def addW (x : W) (ws : List W) (G : Gs) : R W := match x, ws with
  | .r i, [w] => match G[i]?, tupI w with
    | some (.st ks), some k => if decide (ks.length + 1 < 64) then .ok (.d .non) (G.set i (.st (if decide (k ∈ ks) then ks else ks ++ [k]))) else .no
    | _, _ => .no
  | _, _ => .no
def isListW (G : Gs) (x : W) : Bool := match sitems G x with
  | some _ => true
  | none => false
def mthTy (m : BM) (G : Gs) (x : W) : Bool := if m = .add then isSetW G x else isListW G x
/-- methods of lists (and texts) -/
def mthW (m : BM) (x : W) (ws : List W) (G : Gs) : R W := if m = .add then addW x ws G else match x with
  | .r i => match m, ws, G[i]? with
    | .append, [w], some (.sh ds) => match fz fzN w G with
      | some p => (match p.2[i]? with
        | some (.sh es) => if decide (es.length < sizeLine) then .ok (.d .non) (p.2.set i (.sh (es ++ [p.1]))) else .no
        | _ => .no)
      | none => .no
    | .append, [w], some (.dp us) => if decide (us.length < sizeLine) then .ok (.d .non) (G.set i (.dp (us ++ [w]))) else .no
    | .clear, [], some (.sh _) => .ok (.d .non) (G.set i (.sh []))
    | .clear, [], some (.dp _) => .ok (.d .non) (G.set i (.dp []))
    | .pop0, [], some (.sh ds) => match ds.getLast? with
      | some y => .ok (.d y) (G.set i (.sh ds.dropLast))
      | none => .no
    | .pop1, [.d (.int j)], some (.sh ds) => if -(2 ^ 63) ≤ j ∧ j < 2 ^ 63 then (match ixN ds.length j with
      | some n => (match ds[n]? with
        | some y => .ok (.d y) (G.set i (.sh (ds.eraseIdx n)))
        | none => .no)
      | none => .no) else .no
    | .extend, [w], some (.sh ds) => match litems G w with
      | some ws => (match fzL (fz fzN) ws G with
        | some p => (match p.2[i]? with
          | some (.sh es) => if lineB (es.length + p.1.length) then .ok (.d .non) (p.2.set i (.sh (es ++ p.1))) else .no
          | _ => .no)
        | none => .no)
      | none => .no
    | .index, [w], _ => match sn G fzN x, sn G fzN w with
      | some (.lst ds), some a => idx ds a G
      | _, _ => .no
    | _, _, _ => .no
  | .d (.lst ds) => match m, ws with
    | .index, [w] => match sn G fzN w with
      | some a => idx ds a G
      | none => .no
    | _, _ => .no
  | _ => .no
where
  idx (ds : List D) (a : D) (G : Gs) : R W := match py a, pys ds with
    | some p, some qs => if SeqAt.shaped p && SeqAt.shaped (.list qs) then (match qs.findIdx? fun z => PyData.eqv z p with
      | some n => iL n G
      | none => .no) else .no
    | _, _ => .no
end Ev
namespace Ev
open PySem
/-! ## D. The evaluator -/
/-- the turns of a comprehension -/
def lcLoop (cond elt : Sl → Gs → R W) (hasIf : Bool) (tg : Tg) (σ : Sl) (chk : Gs → Bool) : List It → List W → Gs → R (List W)
  | [], acc, G => .ok acc G
  | x :: r, acc, G => match bindTg G tg x σ with
    | none => .no
    | some σ1 => match (if hasIf then cond σ1 G else bL true G) with
      | .ok (.d (.bl true)) G1 => (match elt σ1 G1 with
        | .ok w G2 => if chk G2 then lcLoop cond elt hasIf tg σ chk r (acc ++ [w]) G2 else .no
        | _ => .no)
      | .ok (.d (.bl false)) G1 => if chk G1 then lcLoop cond elt hasIf tg σ chk r acc G1 else .no
      | _ => .no
/-- the turns of a for -/
def forLoop (body : Sl → Gs → O) (tg : Tg) (chk : Gs → Bool) : List It → Sl → Gs → O
  | [], σ, G => .nx σ G
  | x :: r, σ, G => match bindTg G tg x σ with
    | none => .no
    | some σ1 => match body σ1 G with
      | .nx σ2 G2 => if chk G2 then forLoop body tg chk r σ2 G2 else .no
      | .ct σ2 G2 => if chk G2 then forLoop body tg chk r σ2 G2 else .no
      | .bk σ2 G2 => .nx σ2 G2
      | o => o
def zipIt : List W → List W → List It
  | a :: r, b :: q => .two a b :: zipIt r q
  | _, _ => []
def enumIt (n : Nat) : List W → List It
  | [] => []
  | w :: r => .two (.d (.int n)) w :: enumIt (n + 1) r
def rangeIt (lo hi : Int) : List It := (List.range (hi - lo).toNat).map fun (i : Nat) => .one (.d (.int (lo + (i : Int))))
/-- which cell is walked -/
def cellOf : W → List Nat
  | .r i => [i]
  | .d _ => []
def cond3 (b : R W) (t e : Gs → R W) : R W := match b with
  | .ok (.d (.bl true)) G => t G
  | .ok (.d (.bl false)) G => e G
  | .exc x G => .exc x G
  | _ => .no
def signsIt (z : Str) : List It := z.cps.toList.map fun c => .one (.d (.str ⟨#[c]⟩))
def walkOf (w : W) (G : Gs) : R (List It × List Nat) := match w with
  | .d (.str z) => if lineB z.length then .ok (signsIt z, []) G else .no
  | w => match items G w with
    | some ws => .ok (ws.map .one, cellOf w) G
    | none => .no
def rangeOf (x y : W) (G : Gs) : R (List It × List Nat) := match x, y with
  | .d (.int lo), .d (.int hi) => if -(2 ^ 62) ≤ lo ∧ lo < 2 ^ 62 ∧ -(2 ^ 62) ≤ hi ∧ hi < 2 ^ 62 ∧ (hi - lo).toNat ≤ sizeLine then .ok (rangeIt lo hi, []) G else .no
  | _, _ => .no
def enumOf (x : W) (G : Gs) : R (List It × List Nat) := match items G x with
  | some ws => .ok (enumIt 0 ws, cellOf x) G
  | none => .no
def zipOf (x y : W) (G : Gs) : R (List It × List Nat) := match items G x, items G y with
  | some us, some ws => .ok (zipIt us ws, cellOf x ++ cellOf y) G
  | _, _ => .no
def optI : W → Gs → R (Option Int)
  | .d (.int i), G => .ok (some i) G
  | _, _ => .no
mutual
def evE (Φ : Fns) : E → Sl → Gs → R W
  | .var i, σ, G => match σ[i]? with
    | some (some w) => .ok w G
    | _ => .no
  | .lit x, _, G => .ok (.d x) G
  | .bin k o a b, σ, G => (evE Φ a σ G).bind fun x G1 => (evE Φ b σ G1).bind fun y G2 => binW Φ (if k then 1 else 0) o x y G2
  | .neg a, σ, G => (evE Φ a σ G).bind fun x G1 => match x with
    | .d (.int i) => iL (-i) G1
    | _ => .no
  | .not a, σ, G => (evE Φ a σ G).bind fun x G1 => match x with
    | .d (.bl b) => bL (!b) G1
    | _ => .no
  | .inv a, σ, G => (evE Φ a σ G).bind fun x G1 => match x with
    | .d (.ins c fs) => mcall Φ c nmInv [.d (.ins c fs)] G1
    | _ => .no
  | .cmp o a b, σ, G => (evE Φ a σ G).bind fun x G1 => (evE Φ b σ G1).bind fun y G2 => cmpW Φ o x y G2
  | .chain o1 o2 a b c, σ, G => (evE Φ a σ G).bind fun x G1 => (evE Φ b σ G1).bind fun y G2 => cond3 (cmpW Φ o1 x y G2) (fun G3 => (evE Φ c σ G3).bind fun z G4 => cmpW Φ o2 y z G4) (fun G3 => bL false G3)
  | .chain3 o1 o2 o3 a b c d, σ, G => (evE Φ a σ G).bind fun x G1 => (evE Φ b σ G1).bind fun y G2 => cond3 (cmpW Φ o1 x y G2)
      (fun G3 => (evE Φ c σ G3).bind fun z G4 => cond3 (cmpW Φ o2 y z G4) (fun G5 => (evE Φ d σ G5).bind fun u G6 => cmpW Φ o3 z u G6) (fun G5 => bL false G5)) (fun G3 => bL false G3)
  | .and a b, σ, G => cond3 (evE Φ a σ G) (fun G1 => evE Φ b σ G1) (fun G1 => bL false G1)
  | .or a b, σ, G => cond3 (evE Φ a σ G) (fun G1 => bL true G1) (fun G1 => evE Φ b σ G1)
  | .truth a, σ, G => (evE Φ a σ G).bind fun x G1 => match truthW G1 x with
    | some b => bL b G1
    | none => .no
  | .ite c a b, σ, G => cond3 (evE Φ c σ G) (fun G1 => evE Φ a σ G1) (fun G1 => evE Φ b σ G1)
  | .tup es, σ, G => (evEs Φ es σ G).bind fun ws G1 => mkT ws G1
  | .lst k es, σ, G => (evEs Φ es σ G).bind fun ws G1 => mkL k ws G1
  | .sub a b, σ, G => (evE Φ a σ G).bind fun x G1 => (evE Φ b σ G1).bind fun y G2 => subW x y G2
  | .sli k a lo hi, σ, G => (evE Φ a σ G).bind fun x G1 => (evO Φ lo σ G1).bind fun l G2 => (evO Φ hi σ G2).bind fun h G3 => cutW k x l h G3
  | .attr a f, σ, G => (evE Φ a σ G).bind fun x G1 => attrW Φ x f G1
  | .call f es, σ, G => (evEs Φ es σ G).bind fun ws G1 => fcall (Φ.call f) ws G1
  | .meth m a es, σ, G => (evE Φ a σ G).bind fun x G1 => match x with
    | .d (.ins c fs) => if (fs.lookup m).isNone && (Φ.meth c m).isSome then (evEs Φ es σ G1).bind fun ws G2 => mcall Φ c m (x :: ws) G2 else .no
    | _ => .no
  | .new c es, σ, G => (evEs Φ es σ G).bind fun ws G1 => fcall (Φ.init c) ws G1
  | .blt k b es, σ, G => (evEs Φ es σ G).bind fun ws G1 => bltW Φ k b ws G1
  | .mth m a es, σ, G => (evE Φ a σ G).bind fun x G1 => if mthTy m G1 x then (evEs Φ es σ G1).bind fun ws G2 => mthW m x ws G2 else .no
  | .lc k elt tg it own ifs, σ, G => (evI Φ it σ G).bind fun p G2 =>
      (lcLoop (evC Φ ifs) (evE Φ elt) ifs.isSome tg (wipeS σ own) (watch p.2 G2) p.1 [] G2).bind fun ws G3 => mkL k ws G3
  | .isin a ts, σ, G => (evE Φ a σ G).bind fun x G1 => match isTys Φ.isc G1 x ts with
    | some b => bL b G1
    | none => .no
def evEs (Φ : Fns) : List E → Sl → Gs → R (List W)
  | [], _, G => .ok [] G
  | e :: r, σ, G => (evE Φ e σ G).bind fun w G1 => (evEs Φ r σ G1).bind fun ws G2 => .ok (w :: ws) G2
def evO (Φ : Fns) : Option E → Sl → Gs → R (Option Int)
  | none, _, G => .ok none G
  | some e, σ, G => (evE Φ e σ G).bind optI
def evC (Φ : Fns) : Option E → Sl → Gs → R W
  | none, _, G => bL true G
  | some e, σ, G => evE Φ e σ G
/-- what a for walks: its items, the cells that must stay -/
def evI (Φ : Fns) : Itr → Sl → Gs → R (List It × List Nat)
  | .range a b, σ, G => (evE Φ a σ G).bind fun x G1 => (evE Φ b σ G1).bind fun y G2 => rangeOf x y G2
  | .enum a, σ, G => (evE Φ a σ G).bind fun x G1 => enumOf x G1
  | .zip a b, σ, G => (evE Φ a σ G).bind fun x G1 => (evE Φ b σ G1).bind fun y G2 => zipOf x y G2
  | .rev a, σ, G => (evI Φ a σ G).bind fun p G1 => .ok (p.1.reverse, p.2) G1
  | .val e, σ, G => (evE Φ e σ G).bind fun x G1 => walkOf x G1
end
end Ev
namespace Ev
open PySem
/-! ## E. Statements -/
inductive S where
  | set (drops : List Nat) (i : Nat) (e : E)
  | unp (ts : List Nat) (e : E)
  | aug (i : Nat) (o : BO) (e : E)
  | item (o i e : E)
  | attrS (o : E) (f : Nat) (e : E)
  | expr (e : E)
  | ret (e : E)
  | retN
  | ife (c : E) (a b : List S)
  | for (tg : Tg) (it : Itr) (body : List S)
  | whl (n : Nat) (c : E) (body : List S)
  | brk | cnt | pas
  | raise (c : Nat) (es : List E)
  | never
def noRefC (j : Nat) : Cell → Bool
  | .dp ws => ws.all fun w => match w with
    | .r k => !decide (k = j)
    | .d _ => true
  | .ob _ fs => fs.all fun p => match p.2 with
    | .r k => !decide (k = j)
    | .d _ => true
  | .tp ws => ws.all fun w => match w with
    | .r k => !decide (k = j)
    | .d _ => true
  | _ => true
def clr (j : Nat) : Option W → Option W
  | some (.r k) => if k = j then none else some (.r k)
  | o => o
def drop1 (fl i : Nat) (σ : Sl) (G : Gs) : Sl × Gs := match σ[i]? with
  | some (some (.r j)) => if fl ≤ j ∧ j + 1 = G.length ∧ G.all (noRefC j) = true then (σ.map (clr j), G.take j) else (σ.set i none, G)
  | _ => (σ.set i none, G)
def dropAll (fl : Nat) : List Nat → Sl → Gs → Sl × Gs
  | [], σ, G => (σ, G)
  | i :: r, σ, G => dropAll fl r (drop1 fl i σ G).1 (drop1 fl i σ G).2
/-- a op= b, of values that never change -/
def augW (o : BO) (x y : W) (G : Gs) : R W := match x, y with
  | .d (.int i), .d (.int j) => match o with
    | .add => iL (i + j) G
    | .sub => iL (i - j) G
    | _ => .no
  | .d (.str a), .d (.str b) => match o with
    | .add => if lineB (a.length + b.length) then .ok (.d (.str (a ++ b))) G else .no
    | _ => .no
  | _, _ => .no
def R.thenS {α : Type} (x : R α) (σ : Sl) (f : α → Gs → O) : O := match x with
  | .ok a G => f a G
  | .exc e G => .ex e σ G
  | .no => .no
def O.andThen (x : O) (f : Sl → Gs → O) : O := match x with
  | .nx σ G => f σ G
  | o => o
def condS (b : R W) (σ : Sl) (t e : Gs → O) : O := match b with
  | .ok (.d (.bl true)) G => t G
  | .ok (.d (.bl false)) G => e G
  | .exc x G => .ex x σ G
  | _ => .no
def whlLoop (c : Sl → Gs → R W) (body : Sl → Gs → O) : Nat → Sl → Gs → O
  | 0, _, _ => .no
  | n + 1, σ, G => condS (c σ G) σ (fun G1 => match body σ G1 with
      | .nx σ2 G2 => whlLoop c body n σ2 G2
      | .ct σ2 G2 => whlLoop c body n σ2 G2
      | .bk σ2 G2 => .nx σ2 G2
      | o => o) (fun G1 => .nx σ G1)
def putF (f : Nat) (w : W) : List (Nat × W) → List (Nat × W)
  | [] => [(f, w)]
  | p :: r => if p.1 = f then (f, w) :: r else p :: putF f w r
def setItemW (x i v : W) (G : Gs) : Option Gs := match x, i with
  | .r c, .d (.int j) => match G[c]? with
    | some (.sh ds) => (ixN ds.length j).bind fun n => (fz fzN v G).bind fun p => match p.2[c]? with
      | some (.sh es) => some (p.2.set c (.sh (es.set n p.1)))
      | _ => none
    | some (.dp ws) => (ixN ws.length j).map fun n => G.set c (.dp (ws.set n v))
    | _ => none
  | _, _ => none
def setAttrW (Φ : Fns) (x : W) (f : Nat) (v : W) (G : Gs) : Option Gs := match x with
  | .r c => match G[c]? with
    | some (.ob k fs) => if Φ.fld k f && decide (fs.length < 900) then some (G.set c (.ob k (putF f v fs))) else none
    | _ => none
  | _ => none
mutual
def evS (Φ : Fns) : S → Nat → Sl → Gs → O
  | .set dr i e, fl, σ, G => (evE Φ e (dropAll fl dr σ G).1 (dropAll fl dr σ G).2).thenS (dropAll fl dr σ G).1 fun w G1 => .nx (setS (dropAll fl dr σ G).1 i w) G1
  | .unp ts e, _, σ, G => (evE Φ e σ G).thenS σ fun w G1 => match (titems w).bind fun ws => bindNs ts ws σ with
    | some σ1 => .nx σ1 G1
    | none => .no
  | .aug i o e, _, σ, G => match σ[i]? with
    | some (some x) => (evE Φ e σ G).thenS σ fun y G1 => (augW o x y G1).thenS σ fun w G2 => .nx (setS σ i w) G2
    | _ => .no
  | .item o i e, _, σ, G => (evE Φ e σ G).thenS σ fun v G1 => (evE Φ o σ G1).thenS σ fun x G2 => (evE Φ i σ G2).thenS σ fun y G3 => match setItemW x y v G3 with
    | some G4 => .nx σ G4
    | none => .no
  | .attrS o f e, _, σ, G => (evE Φ e σ G).thenS σ fun v G1 => (evE Φ o σ G1).thenS σ fun x G2 => match setAttrW Φ x f v G2 with
    | some G3 => .nx σ G3
    | none => .no
  | .expr e, _, σ, G => (evE Φ e σ G).thenS σ fun _ G1 => .nx σ G1
  | .ret e, _, σ, G => (evE Φ e σ G).thenS σ fun w G1 => .rt w G1
  | .retN, _, _, G => .rt (.d .non) G
  | .ife c a b, fl, σ, G => condS (evE Φ c σ G) σ (fun G1 => evSs Φ a fl σ G1) (fun G1 => evSs Φ b fl σ G1)
  | .for tg it body, _, σ, G => (evI Φ it σ G).thenS σ fun p G1 => forLoop (evSs Φ body G1.length) tg (watch p.2 G1) p.1 σ G1
  | .whl n c body, _, σ, G => whlLoop (evE Φ c) (evSs Φ body G.length) n σ G
  | .brk, _, σ, G => .bk σ G
  | .cnt, _, σ, G => .ct σ G
  | .pas, _, σ, G => .nx σ G
  | .raise c es, _, σ, G => (evEs Φ es σ G).thenS σ fun ws G1 => match snL (sn G1 fzN) ws with
    | some ds => if ds.length = (Φ.exf c).length then .ex ⟨c, (Φ.exf c).zip ds⟩ σ G1 else .no
    | none => .no
  | .never, _, _, _ => .no
def evSs (Φ : Fns) : List S → Nat → Sl → Gs → O
  | [], _, σ, G => .nx σ G
  | s :: r, fl, σ, G => (evS Φ s fl σ G).andThen fun σ1 G1 => evSs Φ r fl σ1 G1
end
/-! ## F. Functions -/
structure Fd where
  params : Nat
  slots : Nat
  body : List S
def startS (n : Nat) (ws : List W) : Sl := ws.map some ++ List.replicate (n - ws.length) none
def O.res : O → PR
  | .nx _ _ => .ok .non
  | .rt w G => match fz fzN w G with
    | some p => .ok p.1
    | none => .no
  | .ex e _ _ => .exc e
  | _ => .no
def O.resI : O → PR
  | .nx _ G => match fz fzN (.r 0) G with
    | some p => .ok p.1
    | none => .no
  | .ex e _ _ => .exc e
  | _ => .no
structure Tab where
  fd : Nat → Option Fd
  prim : Nat → Option (List D → PR)
  ini : Nat → Option Nat
  meth : Nat → Nat → Option Nat
  exf : Nat → List Nat
  exsub : Nat → Nat → Bool
  fld : Nat → Nat → Bool
  isc : Nat → Bool
def lvl (T : Tab) : Nat → Fns
  | 0 => ⟨fun _ _ => .no, fun _ _ => .no, T.meth, T.exf, T.exsub, T.fld, T.isc⟩
  | n + 1 => ⟨fun i ds => match T.fd i with
      | some f => if ds.length = f.params then (evSs (lvl T n) f.body 0 (startS f.slots (ds.map .d)) []).res else .no
      | none => match T.prim i with
        | some p => p ds
        | none => .no,
    fun c ds => match (T.ini c).bind T.fd with
      | some f => if ds.length + 1 = f.params then (evSs (lvl T n) f.body 1 (startS f.slots (.r 0 :: ds.map .d)) [.ob c []]).resI else .no
      | none => .no, T.meth, T.exf, T.exsub, T.fld, T.isc⟩
end Ev

end

-- part EvB
section
set_option Elab.async false
set_option linter.all false
namespace Ev
open PySem L2
/-! ## G. What a value stands for -/
/-- where the classes stand, what the attributes are called -/
structure Names where
  cA : Nat → Addr
  an : Nat → Str
  P : Program
  w : World
variable (K : PySem.W.Frag) (N : Names)
mutual
def Rep (F : Hp) : D → V → Prop
  | .non, v => v = .non
  | .bl b, v => v = .bl b
  | .int i, v => v = .int i
  | .str s, v => v = .str s
  | .tup ds, v => ∃ a vs, v = .ref a ∧ SqT K F a vs ∧ RepL F ds vs
  | .lst ds, v => ∃ a vs, v = .ref a ∧ F a = some (.lst vs) ∧ RepL F ds vs
  | .ins c fs, v => ∃ a dx fv, v = .ref a ∧ F a = some (.ins (N.cA c) dx fv) ∧ RepF F fs fv
  | .scr ns, v => ∃ a, v = .ref a ∧ SqL K F a (ns.map V.int)
def RepL (F : Hp) : List D → List V → Prop
  | [], vs => vs = []
  | x :: r, vs => ∃ v q, vs = v :: q ∧ Rep F x v ∧ RepL F r q
def RepF (F : Hp) : List (Nat × D) → List (Str × V) → Prop
  | [], vs => vs = []
  | (n, x) :: r, vs => ∃ v q, vs = (N.an n, v) :: q ∧ Rep F x v ∧ RepF F r q
end
def RepW (F : Hp) (ρ : Nat → Addr) (n : Nat) : W → V → Prop
  | .d x, v => Rep K N F x v
  | .r i, v => i < n ∧ v = .ref (ρ i)
def RepWs (F : Hp) (ρ : Nat → Addr) (n : Nat) : List W → List V → Prop
  | [], vs => vs = []
  | x :: r, vs => ∃ v q, vs = v :: q ∧ RepW K N F ρ n x v ∧ RepWs F ρ n r q
def RepFW (F : Hp) (ρ : Nat → Addr) (n : Nat) : List (Nat × W) → List (Str × V) → Prop
  | [], vs => vs = []
  | (m, x) :: r, vs => ∃ v q, vs = (N.an m, v) :: q ∧ RepW K N F ρ n x v ∧ RepFW F ρ n r q
def RepO (F : Hp) (ρ : Nat → Addr) (n : Nat) : Option W → Option V → Prop
  | none, _ => True
  | some w, o => ∃ v, o = some v ∧ RepW K N F ρ n w v
def RepS (F : Hp) (ρ : Nat → Addr) (n : Nat) : Sl → St → Prop
  | [], vs => vs = []
  | x :: r, vs => ∃ v q, vs = v :: q ∧ RepO K N F ρ n x v ∧ RepS F ρ n r q
def Cell.live : Cell → Bool
  | .sh _ => true
  | .dp _ => true
  | .ob _ _ => true
  | .st _ => true
  | .tp _ => true
  | _ => false
def CellOk (F : Hp) (ρ : Nat → Addr) (n : Nat) (H : Hp) (a : Addr) : Cell → Prop
  | .sh ds => F a = none ∧ ∃ vs, H a = some (.lst vs) ∧ RepL K N F ds vs
  | .dp ws => F a = none ∧ ∃ vs, H a = some (.lst vs) ∧ RepWs K N F ρ n ws vs
  | .ob c fs => F a = none ∧ ∃ dx fv, H a = some (.ins (N.cA c) dx fv) ∧ RepFW K N F ρ n fs fv
  | .fz x => Rep K N F x (.ref a)
  | .st ks => F a = none ∧ ∃ L, H a = some (SetTO N.P N.w a L) ∧ (∀ p ∈ L, SqT K F p.1 (p.2.map V.int)) ∧ (∀ k, k ∈ L.map (·.2) ↔ k ∈ ks) ∧ L.length = ks.length
  | .tp ws => F a = none ∧ ∃ vs, H a = some (.tup vs) ∧ RepWs K N F ρ n ws vs
  | .gone => True
structure Good (F : Hp) (ρ : Nat → Addr) (G : Gs) (H : Hp) : Prop where
  sub : Same F H
  cell : ∀ i c, G[i]? = some c → CellOk K N F ρ G.length H (ρ i) c
  inj : ∀ i j c d, G[i]? = some c → G[j]? = some d → c.live = true → d.live = true → ρ i = ρ j → i = j
/-- a live cell stands there -/
def IsC (ρ : Nat → Addr) (G : Gs) (a : Addr) : Prop := ∃ i c, G[i]? = some c ∧ c.live = true ∧ ρ i = a
structure Ext (F : Hp) (ρ : Nat → Addr) (G : Gs) (H : Hp) (F' : Hp) (ρ' : Nat → Addr) (G' : Gs) (H' : Hp) : Prop where
  f : Same F F'
  l : G.length ≤ G'.length
  r : ∀ i, i < G.length → ρ' i = ρ i
  h : ∀ a o, H a = some o → ¬ IsC ρ G a → H' a = some o
  n : ∀ a o, H a = some o → ¬ IsC ρ G a → ¬ IsC ρ' G' a ∧ (F a = none → F' a = none)
section
variable {K : PySem.W.Frag} {N : Names} {F F' F1 F2 : Hp} {ρ ρ' ρ1 ρ2 : Nat → Addr} {G G' G1 G2 : Gs} {H H' H1 H2 : Hp} {n m : Nat}
theorem Ext.refl : Ext F ρ G H F ρ G H := ⟨Same.refl _, Nat.le_refl _, fun _ _ => rfl, fun _ _ h _ => h, fun _ _ _ h => ⟨h, fun e => e⟩⟩
theorem Ext.trans (a : Ext F ρ G H F1 ρ1 G1 H1) (b : Ext F1 ρ1 G1 H1 F2 ρ2 G2 H2) : Ext F ρ G H F2 ρ2 G2 H2 where
  f := a.f.trans b.f
  l := Nat.le_trans a.l b.l
  r := fun i hi => (b.r i (Nat.lt_of_lt_of_le hi a.l)).trans (a.r i hi)
  h := fun x o hx nc => b.h x o (a.h x o hx nc) (a.n x o hx nc).1
  n := fun x o hx nc => ⟨(b.n x o (a.h x o hx nc) (a.n x o hx nc).1).1, fun e => (b.n x o (a.h x o hx nc) (a.n x o hx nc).1).2 ((a.n x o hx nc).2 e)⟩
theorem Same.seqT {H H' : Hp} {a : Addr} {xs : List V} (e : Same H H') (h : SqT K H a xs) : SqT K H' a xs := by
  rcases h with (h | ⟨o, h⟩) | h
  · exact .inl (.inl (e _ _ h))
  · exact .inl (.inr ⟨o, e _ _ h⟩)
  · exact .inr h
mutual
theorem Rep.mono (e : Same F F') : ∀ {x : D} {v : V}, Rep K N F x v → Rep K N F' x v
  | .non, _, h => h
  | .bl _, _, h => h
  | .int _, _, h => h
  | .str _, _, h => h
  | .tup ds, v, h => by
    simp only [Rep] at h ⊢
    obtain ⟨a, vs, rfl, h1, h2⟩ := h
    exact ⟨a, vs, rfl, Same.seqT e h1, RepL.mono e h2⟩
  | .lst ds, v, h => by
    simp only [Rep] at h ⊢
    obtain ⟨a, vs, rfl, h1, h2⟩ := h
    exact ⟨a, vs, rfl, e _ _ h1, RepL.mono e h2⟩
  | .ins c fs, v, h => by
    simp only [Rep] at h ⊢
    obtain ⟨a, dx, fv, rfl, h1, h2⟩ := h
    exact ⟨a, dx, fv, rfl, e _ _ h1, RepF.mono e h2⟩
  | .scr ns, v, h => by
    simp only [Rep] at h ⊢
    obtain ⟨a, rfl, h1⟩ := h
    exact ⟨a, rfl, e.seq h1⟩
theorem RepL.mono (e : Same F F') : ∀ {xs : List D} {vs : List V}, RepL K N F xs vs → RepL K N F' xs vs
  | [], _, h => by simp only [RepL] at h ⊢; exact h
  | x :: r, vs, h => by
    simp only [RepL] at h ⊢
    obtain ⟨v, q, rfl, h1, h2⟩ := h
    exact ⟨v, q, rfl, Rep.mono e h1, RepL.mono e h2⟩
theorem RepF.mono (e : Same F F') : ∀ {xs : List (Nat × D)} {vs : List (Str × V)}, RepF K N F xs vs → RepF K N F' xs vs
  | [], _, h => by simp only [RepF] at h ⊢; exact h
  | (k, x) :: r, vs, h => by
    simp only [RepF] at h ⊢
    obtain ⟨v, q, rfl, h1, h2⟩ := h
    exact ⟨v, q, rfl, Rep.mono e h1, RepF.mono e h2⟩
end
/-- what a later state keeps -/
structure Later (F : Hp) (ρ : Nat → Addr) (n : Nat) (F' : Hp) (ρ' : Nat → Addr) (n' : Nat) : Prop where
  f : Same F F'
  l : n ≤ n'
  r : ∀ i, i < n → ρ' i = ρ i
theorem Ext.later (a : Ext F ρ G H F' ρ' G' H') : Later F ρ G.length F' ρ' G'.length := ⟨a.f, a.l, a.r⟩
theorem Later.same (e : Same F F') : Later F ρ n F' ρ n := ⟨e, Nat.le_refl _, fun _ _ => rfl⟩
theorem RepW.mono (e : Later F ρ n F' ρ' m) : ∀ {w : W} {v : V}, RepW K N F ρ n w v → RepW K N F' ρ' m w v
  | .d x, v, h => Rep.mono e.f h
  | .r i, v, h => ⟨Nat.lt_of_lt_of_le h.1 e.l, by rw [e.r i h.1]; exact h.2⟩
theorem RepWs.mono (e : Later F ρ n F' ρ' m) : ∀ {ws : List W} {vs : List V}, RepWs K N F ρ n ws vs → RepWs K N F' ρ' m ws vs
  | [], _, h => by simp only [RepWs] at h ⊢; exact h
  | x :: r, vs, h => by
    simp only [RepWs] at h ⊢
    obtain ⟨v, q, rfl, h1, h2⟩ := h
    exact ⟨v, q, rfl, RepW.mono e h1, RepWs.mono e h2⟩
theorem RepFW.mono (e : Later F ρ n F' ρ' m) : ∀ {ws : List (Nat × W)} {vs : List (Str × V)}, RepFW K N F ρ n ws vs → RepFW K N F' ρ' m ws vs
  | [], _, h => by simp only [RepFW] at h ⊢; exact h
  | (k, x) :: r, vs, h => by
    simp only [RepFW] at h ⊢
    obtain ⟨v, q, rfl, h1, h2⟩ := h
    exact ⟨v, q, rfl, RepW.mono e h1, RepFW.mono e h2⟩
theorem RepO.mono (e : Later F ρ n F' ρ' m) : ∀ {w : Option W} {v : Option V}, RepO K N F ρ n w v → RepO K N F' ρ' m w v
  | none, _, _ => trivial
  | some w, _, h => by
    obtain ⟨v, rfl, h⟩ := h
    exact ⟨v, rfl, RepW.mono e h⟩
theorem RepS.mono (e : Later F ρ n F' ρ' m) : ∀ {ws : Sl} {vs : St}, RepS K N F ρ n ws vs → RepS K N F' ρ' m ws vs
  | [], _, h => by simp only [RepS] at h ⊢; exact h
  | x :: r, vs, h => by
    simp only [RepS] at h ⊢
    obtain ⟨v, q, rfl, h1, h2⟩ := h
    exact ⟨v, q, rfl, RepO.mono e h1, RepS.mono e h2⟩
theorem CellOk.mono (e : Later F ρ n F' ρ' m) {H H' : Hp} {a : Addr} : ∀ {c : Cell}, CellOk K N F ρ n H a c → (c.live = true → H' a = H a ∧ F' a = none) → CellOk K N F' ρ' m H' a c
  | .sh ds, h, k => by
    obtain ⟨h1, vs, h2, h3⟩ := h
    obtain ⟨k1, k2⟩ := k rfl
    exact ⟨k2, vs, k1.trans h2, RepL.mono e.f h3⟩
  | .dp ws, h, k => by
    obtain ⟨h1, vs, h2, h3⟩ := h
    obtain ⟨k1, k2⟩ := k rfl
    exact ⟨k2, vs, k1.trans h2, RepWs.mono e h3⟩
  | .ob c fs, h, k => by
    obtain ⟨h1, dx, fv, h2, h3⟩ := h
    obtain ⟨k1, k2⟩ := k rfl
    exact ⟨k2, dx, fv, k1.trans h2, RepFW.mono e h3⟩
  | .fz x, h, _ => Rep.mono e.f h
  | .st ks, h, k => by
    obtain ⟨h1, L, h2, h3, h4⟩ := h
    obtain ⟨k1, k2⟩ := k rfl
    exact ⟨k2, L, k1.trans h2, fun p hp => Same.seqT e.f (h3 p hp), h4⟩
  | .tp ws, h, k => by
    obtain ⟨h1, vs, h2, h3⟩ := h
    obtain ⟨k1, k2⟩ := k rfl
    exact ⟨k2, vs, k1.trans h2, RepWs.mono e h3⟩
  | .gone, _, _ => trivial
theorem CellOk.at {a : Addr} : ∀ {c : Cell}, CellOk K N F ρ n H a c → c.live = true → F a = none ∧ ∃ o, H a = some o
  | .sh _, h, _ => ⟨h.1, let ⟨_, q, _⟩ := h.2; ⟨_, q⟩⟩
  | .dp _, h, _ => ⟨h.1, let ⟨_, q, _⟩ := h.2; ⟨_, q⟩⟩
  | .ob _ _, h, _ => ⟨h.1, let ⟨_, _, q, _⟩ := h.2; ⟨_, q⟩⟩
  | .st _, h, _ => ⟨h.1, let ⟨_, q, _⟩ := h.2; ⟨_, q⟩⟩
  | .tp _, h, _ => ⟨h.1, let ⟨_, q, _⟩ := h.2; ⟨_, q⟩⟩
theorem Good.isC (g : Good K N F ρ G H) {a : Addr} (h : IsC ρ G a) : F a = none ∧ ∃ o, H a = some o := by
  obtain ⟨i, c, e, l, rfl⟩ := h
  exact (g.cell i c e).at l
/-- a new frozen object -/
theorem Good.new {p : Addr} {o : HO} (g : Good K N F ρ G H) (hp : H p = none) : Good K N (upd F p o) ρ G (upd H p o) ∧ Ext F ρ G H (upd F p o) ρ G (upd H p o) := by
  have fp : F p = none := g.sub.free hp
  have sF : Same F (upd F p o) := fun b u e => by rw [upd_ne (ne_of_none e fp)]; exact e
  have nc : ∀ i c, G[i]? = some c → c.live = true → ρ i ≠ p := fun i c e l z => by
    obtain ⟨_, u, hu⟩ := (g.cell i c e).at l
    rw [z, hp] at hu; cases hu
  refine ⟨⟨fun b u e => ?_, fun i c e => (g.cell i c e).mono (Later.same sF) fun l => ⟨upd_ne (nc i c e l), by rw [upd_ne (nc i c e l)]; exact ((g.cell i c e).at l).1⟩, g.inj⟩, ⟨sF, Nat.le_refl _, fun _ _ => rfl, fun b u e _ => ?_, fun b u e k => ⟨k, fun z => ?_⟩⟩⟩
  · by_cases hb : b = p
    · subst hb; rw [upd_same] at e ⊢; exact e
    · rw [upd_ne hb] at e ⊢; exact g.sub b u e
  · rw [upd_ne (ne_of_none e hp)]; exact e
  · rw [upd_ne (ne_of_none e hp)]; exact z
/-- a new object that is not followed (or not yet) -/
theorem Good.newH {p : Addr} {o : HO} (g : Good K N F ρ G H) (hp : H p = none) : Good K N F ρ G (upd H p o) ∧ Ext F ρ G H F ρ G (upd H p o) := by
  have nc : ∀ i c, G[i]? = some c → c.live = true → ρ i ≠ p := fun i c e l z => by
    obtain ⟨_, u, hu⟩ := (g.cell i c e).at l
    rw [z, hp] at hu; cases hu
  refine ⟨⟨fun b u e => ?_, fun i c e => (g.cell i c e).mono (Later.same (Same.refl _)) fun l => ⟨upd_ne (nc i c e l), ((g.cell i c e).at l).1⟩, g.inj⟩, ⟨Same.refl _, Nat.le_refl _, fun _ _ => rfl, fun b u e _ => ?_, fun b u e k => ⟨k, fun z => z⟩⟩⟩
  · have := g.sub b u e
    rw [upd_ne (ne_of_none this hp)]; exact this
  · rw [upd_ne (ne_of_none e hp)]; exact e
def ρput (ρ : Nat → Addr) (n : Nat) (p : Addr) : Nat → Addr := fun i => if i = n then p else ρ i
theorem ρput_same {p : Addr} : ρput ρ n p n = p := if_pos rfl
theorem ρput_ne {p : Addr} {i : Nat} (h : i ≠ n) : ρput ρ n p i = ρ i := if_neg h
theorem Later.put {p : Addr} (e : Same F F') : Later F ρ n F' (ρput ρ n p) (n + 1) := ⟨e, Nat.le_succ _, fun i hi => ρput_ne (Nat.ne_of_lt hi)⟩
/-- a new cell over an object that stands outside of what is followed -/
theorem Good.cellAt {p : Addr} {c : Cell} (g : Good K N F ρ G H) (hc : ¬ IsC ρ G p) (ok : CellOk K N F (ρput ρ G.length p) (G.length + 1) H p c) :
    Good K N F (ρput ρ G.length p) (G ++ [c]) H := by
  have hget : ∀ i d, (G ++ [c])[i]? = some d → (i < G.length ∧ G[i]? = some d) ∨ (i = G.length ∧ d = c) := fun i d e => by
    rw [List.getElem?_append] at e
    split at e
    · exact .inl ⟨by assumption, e⟩
    · rename_i hi
      have : i - G.length = 0 := by
        by_cases z : i - G.length = 0
        · exact z
        · rw [List.getElem?_cons, if_neg z] at e; simp at e
      rw [this] at e
      exact .inr ⟨by omega, by simpa using e.symm⟩
  refine ⟨g.sub, fun i d e => ?_, fun i j d d' e1 e2 l1 l2 q => ?_⟩
  · rw [List.length_append, List.length_singleton]
    rcases hget i d e with ⟨hi, e⟩ | ⟨rfl, rfl⟩
    · rw [ρput_ne (Nat.ne_of_lt hi)]
      exact (g.cell i d e).mono (Later.put (Same.refl _)) fun l => ⟨rfl, ((g.cell i d e).at l).1⟩
    · rw [ρput_same]; exact ok
  · rcases hget i d e1 with ⟨hi, e3⟩ | ⟨hi, _⟩
    · rcases hget j d' e2 with ⟨hj, e4⟩ | ⟨hj, _⟩
      · rw [ρput_ne (Nat.ne_of_lt hi), ρput_ne (Nat.ne_of_lt hj)] at q
        exact g.inj i j d d' e3 e4 l1 l2 q
      · rw [hj, ρput_ne (Nat.ne_of_lt hi), ρput_same] at q
        exact (hc ⟨i, d, e3, l1, q⟩).elim
    · rcases hget j d' e2 with ⟨hj, e4⟩ | ⟨hj, _⟩
      · rw [hi, ρput_ne (Nat.ne_of_lt hj), ρput_same] at q
        exact (hc ⟨j, d', e4, l2, q.symm⟩).elim
      · rw [hi, hj]
theorem isC_app {p a : Addr} {c : Cell} (h : IsC (ρput ρ G.length p) (G ++ [c]) a) : IsC ρ G a ∨ a = p := by
  obtain ⟨i, d, e, l, rfl⟩ := h
  rw [List.getElem?_append] at e
  split at e
  · rename_i hi
    exact .inl ⟨i, d, e, l, (ρput_ne (Nat.ne_of_lt hi)).symm⟩
  · rename_i hi
    have : i - G.length = 0 := by
      by_cases z : i - G.length = 0
      · exact z
      · rw [List.getElem?_cons, if_neg z] at e; simp at e
    exact .inr (by rw [show i = G.length by omega, ρput_same])
/-- a new cell over a new object -/
theorem Good.newC {p : Addr} {o : HO} {c : Cell} (g : Good K N F ρ G H) (hp : H p = none) (ok : CellOk K N F (ρput ρ G.length p) (G.length + 1) (upd H p o) p c) :
    Good K N F (ρput ρ G.length p) (G ++ [c]) (upd H p o) ∧ Ext F ρ G H F (ρput ρ G.length p) (G ++ [c]) (upd H p o) := by
  obtain ⟨g1, x1⟩ := g.newH (o := o) hp
  have nc : ¬ IsC ρ G p := fun z => by
    obtain ⟨_, u, hu⟩ := g.isC z
    rw [hp] at hu; cases hu
  refine ⟨g1.cellAt nc ok, ⟨Same.refl _, by simp, fun i hi => ρput_ne (Nat.ne_of_lt hi), x1.h, fun a u e k => ⟨fun z => ?_, fun z => z⟩⟩⟩
  rcases isC_app z with z | z
  · exact k z
  · subst z; rw [hp] at e; cases e
theorem get_set {i j : Nat} {c d : Cell} (h : (G.set i c)[j]? = some d) : (j = i ∧ d = c ∧ i < G.length) ∨ (j ≠ i ∧ G[j]? = some d) := by
  by_cases e : i = j
  · subst e
    rw [List.getElem?_set_self'] at h
    cases q : G[i]? with
    | none => rw [q] at h; simp at h
    | some x => rw [q] at h; exact .inl ⟨rfl, by simpa using h.symm, (List.getElem?_eq_some_iff.mp q).1⟩
  · rw [List.getElem?_set_ne e] at h
    exact .inr ⟨fun z => e z.symm, h⟩
/-- a live cell's object is written -/
theorem Good.put {i : Nat} {c0 c : Cell} {o : HO} (g : Good K N F ρ G H) (h0 : G[i]? = some c0) (l0 : c0.live = true) (ok : CellOk K N F ρ G.length (upd H (ρ i) o) (ρ i) c) :
    Good K N F ρ (G.set i c) (upd H (ρ i) o) ∧ Ext F ρ G H F ρ (G.set i c) (upd H (ρ i) o) := by
  have fi : F (ρ i) = none := ((g.cell i c0 h0).at l0).1
  refine ⟨⟨fun b u e => ?_, fun j d e => ?_, fun j k d d' e1 e2 l1 l2 q => ?_⟩, ⟨Same.refl _, by simp, fun _ _ => rfl, fun b u e k => ?_, fun b u e k => ⟨fun z => k ?_, fun z => z⟩⟩⟩
  · rw [upd_ne (fun z => by rw [z, fi] at e; cases e)]; exact g.sub b u e
  · rw [List.length_set]
    rcases get_set e with ⟨rfl, rfl, _⟩ | ⟨hj, e⟩
    · exact ok
    · refine (g.cell j d e).mono (Later.same (Same.refl _)) fun l => ⟨upd_ne fun z => hj (g.inj j i d c0 e h0 l l0 z), ((g.cell j d e).at l).1⟩
  · rcases get_set e1 with ⟨hj, _, _⟩ | ⟨hj, e3⟩
    · rcases get_set e2 with ⟨hk, _, _⟩ | ⟨hk, e4⟩
      · rw [hj, hk]
      · rw [hj] at q
        exact (hk (g.inj k i d' c0 e4 h0 l2 l0 q.symm)).elim
    · rcases get_set e2 with ⟨hk, _, _⟩ | ⟨hk, e4⟩
      · rw [hk] at q
        exact (hj (g.inj j i d c0 e3 h0 l1 l0 q)).elim
      · exact g.inj j k d d' e3 e4 l1 l2 q
  · rw [upd_ne (fun z => k ⟨i, c0, h0, l0, z.symm⟩)]; exact e
  · obtain ⟨j, d, e, l, q⟩ := z
    rcases get_set e with ⟨rfl, rfl, _⟩ | ⟨hj, e⟩
    · exact ⟨j, c0, h0, l0, q⟩
    · exact ⟨j, d, e, l, q⟩
end
end Ev

end

-- part EvC
section
set_option Elab.async false
set_option linter.all false
namespace Ev
open PySem L2
section
variable {K : PySem.W.Frag} {N : Names} {F F' F1 F2 : Hp} {ρ ρ' ρ1 ρ2 : Nat → Addr} {G G' G1 G2 : Gs} {H H' H1 H2 : Hp} {n m : Nat}
/-- what freezing leaves -/
structure Frz (K : PySem.W.Frag) (N : Names) (F : Hp) (ρ : Nat → Addr) (G : Gs) (H : Hp) (F' : Hp) (G' : Gs) : Prop where
  good : Good K N F' ρ G' H
  ext : Ext F ρ G H F' ρ G' H
  len : G'.length = G.length
  old : ∀ (j : Nat) c, G'[j]? = some c → c.live = true → G[j]? = some c
theorem Frz.refl (g : Good K N F ρ G H) : Frz K N F ρ G H F G := ⟨g, Ext.refl, rfl, fun _ _ h _ => h⟩
theorem Frz.trans (a : Frz K N F ρ G H F1 G1) (b : Frz K N F1 ρ G1 H F2 G2) : Frz K N F ρ G H F2 G2 :=
  ⟨b.good, a.ext.trans b.ext, b.len.trans a.len, fun j c h l => a.old j c (b.old j c h l) l⟩
theorem Frz.one {i : Nat} {c : Cell} {o : HO} {x : D} (a : Frz K N F ρ G H F1 G1) (hi : G[i]? = some c) (hl : c.live = true) (g : Good K N F ρ G H) (ho : H (ρ i) = some o)
    (hx : Rep K N (upd F1 (ρ i) o) x (.ref (ρ i))) : Frz K N F ρ G H (upd F1 (ρ i) o) (G1.set i (.fz x)) := by
  have hF : F1 (ρ i) = none ∨ F1 (ρ i) = some o := by
    cases q : F1 (ρ i) with
    | none => exact .inl rfl
    | some u => have := a.good.sub _ _ q; rw [ho] at this; exact .inr (by rw [this])
  have sm : Same F1 (upd F1 (ρ i) o) := fun b u e => by
    by_cases hb : b = ρ i
    · subst hb
      rcases hF with q | q <;> rw [q] at e
      · cases e
      · rw [upd_same]; exact e
    · rw [upd_ne hb]; exact e
  have nc : ∀ j d, j ≠ i → G1[j]? = some d → d.live = true → ρ j ≠ ρ i := fun j d hj e l q => hj (g.inj j i d c (a.old j d e l) hi l hl q)
  refine ⟨⟨fun b u e => ?_, fun j d e => ?_, fun j k d d' e1 e2 l1 l2 q => ?_⟩, ⟨a.ext.f.trans sm, by rw [List.length_set]; exact a.ext.l, a.ext.r, fun _ _ h _ => h, fun b u e k => ⟨fun z => k ?_, fun z => ?_⟩⟩, by rw [List.length_set]; exact a.len, fun j d e l => ?_⟩
  · by_cases hb : b = ρ i
    · subst hb; rw [upd_same] at e; rw [ho]; exact e
    · rw [upd_ne hb] at e; exact a.good.sub b u e
  · rw [List.length_set]
    rcases get_set e with ⟨rfl, rfl, _⟩ | ⟨hj, e⟩
    · exact hx
    · exact (a.good.cell j d e).mono (Later.same sm) fun l => ⟨rfl, by rw [upd_ne (nc j d hj e l)]; exact ((a.good.cell j d e).at l).1⟩
  · rcases get_set e1 with ⟨_, rfl, _⟩ | ⟨_, e3⟩
    · cases l1
    · rcases get_set e2 with ⟨_, rfl, _⟩ | ⟨_, e4⟩
      · cases l2
      · exact a.good.inj j k d d' e3 e4 l1 l2 q
  · obtain ⟨j, d, e, l, q⟩ := z
    rcases get_set e with ⟨_, rfl, _⟩ | ⟨_, e⟩
    · cases l
    · exact ⟨j, d, a.old j d e l, l, q⟩
  · rw [upd_ne (fun q => k ⟨i, c, hi, hl, q.symm⟩)]
    exact (a.ext.n b u e k).2 z
  · rcases get_set e with ⟨_, rfl, _⟩ | ⟨_, e⟩
    · cases l
    · exact a.old j d e l
/-- a freezing function -/
def FzOk (K : PySem.W.Frag) (N : Names) (ρ : Nat → Addr) (H : Hp) (f : W → Gs → Option (D × Gs)) : Prop :=
  ∀ (F : Hp) (G : Gs) (w : W) (v : V) (x : D) (G' : Gs), Good K N F ρ G H → RepW K N F ρ G.length w v → f w G = some (x, G') → ∃ F', Frz K N F ρ G H F' G' ∧ Rep K N F' x v
theorem fzL_ok {f : W → Gs → Option (D × Gs)} (hf : FzOk K N ρ H f) : ∀ (ws : List W) (F : Hp) (G : Gs) (vs : List V) (xs : List D) (G' : Gs), Good K N F ρ G H → RepWs K N F ρ G.length ws vs → fzL f ws G = some (xs, G') →
    ∃ F', Frz K N F ρ G H F' G' ∧ RepL K N F' xs vs
  | [], F, G, vs, xs, G', g, r, e => by
    simp only [fzL, Option.some.injEq, Prod.mk.injEq] at e
    obtain ⟨rfl, rfl⟩ := e
    simp only [RepWs] at r
    subst r
    exact ⟨F, .refl g, by simp only [RepL]⟩
  | w :: r, F, G, vs, xs, G', g, rp, e => by
    simp only [RepWs] at rp
    obtain ⟨v, q, rfl, r1, r2⟩ := rp
    simp only [fzL, Option.bind_eq_bind, Option.bind_eq_some_iff] at e
    obtain ⟨⟨x, G1⟩, e1, ⟨ys, G2⟩, e2, e3⟩ := e
    simp only [Option.some.injEq, Prod.mk.injEq] at e3
    obtain ⟨rfl, rfl⟩ := e3
    obtain ⟨F1, z1, p1⟩ := hf F G w v x G1 g r1 e1
    obtain ⟨F2, z2, p2⟩ := fzL_ok hf r F1 G1 q ys G2 z1.good (r2.mono z1.ext.later) e2
    exact ⟨F2, z1.trans z2, by simp only [RepL]; exact ⟨v, q, rfl, p1.mono z2.ext.f, p2⟩⟩
theorem fzF_ok {f : W → Gs → Option (D × Gs)} (hf : FzOk K N ρ H f) : ∀ (ws : List (Nat × W)) (F : Hp) (G : Gs) (vs : List (Str × V)) (xs : List (Nat × D)) (G' : Gs), Good K N F ρ G H → RepFW K N F ρ G.length ws vs → fzF f ws G = some (xs, G') →
    ∃ F', Frz K N F ρ G H F' G' ∧ RepF K N F' xs vs
  | [], F, G, vs, xs, G', g, r, e => by
    simp only [fzF, Option.some.injEq, Prod.mk.injEq] at e
    obtain ⟨rfl, rfl⟩ := e
    simp only [RepFW] at r
    subst r
    exact ⟨F, .refl g, by simp only [RepF]⟩
  | (k, w) :: r, F, G, vs, xs, G', g, rp, e => by
    simp only [RepFW] at rp
    obtain ⟨v, q, rfl, r1, r2⟩ := rp
    simp only [fzF, Option.bind_eq_bind, Option.bind_eq_some_iff] at e
    obtain ⟨⟨x, G1⟩, e1, ⟨ys, G2⟩, e2, e3⟩ := e
    simp only [Option.some.injEq, Prod.mk.injEq] at e3
    obtain ⟨rfl, rfl⟩ := e3
    obtain ⟨F1, z1, p1⟩ := hf F G w v x G1 g r1 e1
    obtain ⟨F2, z2, p2⟩ := fzF_ok hf r F1 G1 q ys G2 z1.good (r2.mono z1.ext.later) e2
    exact ⟨F2, z1.trans z2, by simp only [RepF]; exact ⟨v, q, rfl, p1.mono z2.ext.f, p2⟩⟩
theorem fz_ok : ∀ n, FzOk K N ρ H (fz n)
  | 0 => fun F G w v x G' g r e => by
    cases w with
    | d y =>
      simp only [fz, Option.some.injEq, Prod.mk.injEq] at e
      obtain ⟨rfl, rfl⟩ := e
      exact ⟨F, .refl g, r⟩
    | r i => simp [fz] at e
  | n + 1 => fun F G w v x G' g r e => by
    cases w with
    | d y =>
      simp only [fz, Option.some.injEq, Prod.mk.injEq] at e
      obtain ⟨rfl, rfl⟩ := e
      exact ⟨F, .refl g, r⟩
    | r i =>
      obtain ⟨hi, rfl⟩ := r
      simp only [fz] at e
      split at e
      · rename_i ds hc
        simp only [Option.some.injEq, Prod.mk.injEq] at e
        obtain ⟨rfl, rfl⟩ := e
        obtain ⟨fi, vs, hv, rl⟩ := g.cell i _ hc
        have z := (Frz.refl g).one hc rfl g hv (x := .lst ds) (by
          simp only [Rep]
          exact ⟨ρ i, vs, rfl, upd_same, rl.mono fun b u e => by rw [upd_ne (fun q => by rw [q, fi] at e; cases e)]; exact e⟩)
        exact ⟨_, z, by
          simp only [Rep]
          exact ⟨ρ i, vs, rfl, upd_same, rl.mono fun b u e => by rw [upd_ne (fun q => by rw [q, fi] at e; cases e)]; exact e⟩⟩
      · rename_i ws hc
        simp only [Option.bind_eq_bind, Option.bind_eq_some_iff] at e
        obtain ⟨⟨ys, G1⟩, e1, e2⟩ := e
        simp only [Option.some.injEq, Prod.mk.injEq] at e2
        obtain ⟨rfl, rfl⟩ := e2
        obtain ⟨fi, vs, hv, rl⟩ := g.cell i _ hc
        obtain ⟨F1, z1, p1⟩ := fzL_ok (fz_ok n) ws F G vs ys G1 g rl e1
        have sm : Same F1 (upd F1 (ρ i) (.lst vs)) := fun b u e => by
          by_cases hb : b = ρ i
          · subst hb
            have := z1.good.sub _ _ e
            rw [hv] at this
            rw [upd_same]; exact this
          · rw [upd_ne hb]; exact e
        have hx : Rep K N (upd F1 (ρ i) (.lst vs)) (.lst ys) (.ref (ρ i)) := by
          simp only [Rep]
          exact ⟨ρ i, vs, rfl, upd_same, p1.mono sm⟩
        exact ⟨_, z1.one hc rfl g hv hx, hx⟩
      · rename_i c fs hc
        simp only [Option.bind_eq_bind, Option.bind_eq_some_iff] at e
        obtain ⟨⟨ys, G1⟩, e1, e2⟩ := e
        simp only [Option.some.injEq, Prod.mk.injEq] at e2
        obtain ⟨rfl, rfl⟩ := e2
        obtain ⟨fi, dx, fv, hv, rl⟩ := g.cell i _ hc
        obtain ⟨F1, z1, p1⟩ := fzF_ok (fz_ok n) fs F G fv ys G1 g rl e1
        have sm : Same F1 (upd F1 (ρ i) (.ins (N.cA c) dx fv)) := fun b u e => by
          by_cases hb : b = ρ i
          · subst hb
            have := z1.good.sub _ _ e
            rw [hv] at this
            rw [upd_same]; exact this
          · rw [upd_ne hb]; exact e
        have hx : Rep K N (upd F1 (ρ i) (.ins (N.cA c) dx fv)) (.ins c ys) (.ref (ρ i)) := by
          simp only [Rep]
          exact ⟨ρ i, dx, fv, rfl, upd_same, p1.mono sm⟩
        exact ⟨_, z1.one hc rfl g hv hx, hx⟩
      · rename_i y hc
        simp only [Option.some.injEq, Prod.mk.injEq] at e
        obtain ⟨rfl, rfl⟩ := e
        exact ⟨F, .refl g, g.cell i _ hc⟩
      · rename_i ws hc
        simp only [Option.bind_eq_bind, Option.bind_eq_some_iff] at e
        obtain ⟨⟨ys, G1⟩, e1, e2⟩ := e
        simp only [Option.some.injEq, Prod.mk.injEq] at e2
        obtain ⟨rfl, rfl⟩ := e2
        obtain ⟨fi, vs, hv, rl⟩ := g.cell i _ hc
        obtain ⟨F1, z1, p1⟩ := fzL_ok (fz_ok n) ws F G vs ys G1 g rl e1
        have sm : Same F1 (upd F1 (ρ i) (.tup vs)) := fun b u e => by
          by_cases hb : b = ρ i
          · subst hb
            have := z1.good.sub _ _ e
            rw [hv] at this
            rw [upd_same]; exact this
          · rw [upd_ne hb]; exact e
        have hx : Rep K N (upd F1 (ρ i) (.tup vs)) (.tup ys) (.ref (ρ i)) := by
          simp only [Rep]
          exact ⟨ρ i, vs, rfl, (.inl (.inl upd_same)), p1.mono sm⟩
        exact ⟨_, z1.one hc rfl g hv hx, hx⟩
      · cases e
end
end Ev

end

-- part EvD
section
set_option Elab.async false
set_option linter.all false
namespace Ev
open PySem L2 PyProof.Rows
section
variable (K : PySem.W.Frag) (N : Names)
/-- the exception e: its class, its dict -/
def RepX (F : Hp) (e : Exn) (cls : Value) (d : Option Addr) (H : Hp) : Prop :=
  cls = .ref (N.cA e.c) ∧ ((e.fs = [] ∧ d = none) ∨ ∃ dd fv, d = some dd ∧ H dd = some (.xd fv) ∧ ∀ n x, e.fs.lookup n = some x → ∃ v, fv.lookup (N.an n) = some v ∧ Rep K N F x v)
/-- what a call leaves -/
def PROut (F H : Hp) (Q : VK) (E : XK) : PR → Prop
  | .ok x => ∀ F' H' v, Same H H' → Same F F' → Same F' H' → (∀ a o, H a = some o → F a = none → F' a = none) → Rep K N F' x v → Q v H'
  | .exc e => ∀ F' H' cls d, Same H H' → Same F F' → Same F' H' → (∀ a o, H a = some o → F a = none → F' a = none) → RepX K N F' e cls d H' → E cls d H'
  | .no => False
/-- the promise «it yields what φ says» -/
def spP (φ : List D → PR) : Sp := fun vs H Q E => ∃ F ds, Same F H ∧ RepL K N F ds vs ∧ PROut K N F H Q E (φ ds)
/-- what is wanted behind an expression -/
def Res {α β : Type} (RA : Hp → (Nat → Addr) → Nat → α → β → Prop) (W' : WX) (σv : L2.St) (F : Hp) (ρ : Nat → Addr) (G : Gs) (H : Hp) (Q : β → Hp → Prop) : R α → Prop
  | .ok w G' => ∀ F' ρ' H' v, Ext F ρ G H F' ρ' G' H' → Good K N F' ρ' G' H' → RA F' ρ' G'.length w v → Q v H'
  | .exc e G' => ∀ F' ρ' H' cls d, Ext F ρ G H F' ρ' G' H' → Good K N F' ρ' G' H' → RepX K N F' e cls d H' → W' cls d σv H'
  | .no => False
abbrev ResW := Res K N (RepW K N)
/-- the reading of g, with values in hand -/
def RdH (W' : WX) (hand : List V) (g : List W → Sl → Gs → R W) (σv : L2.St) (H : Hp) (Q : VK) : Prop :=
  ∃ F ρ G σ ws, Good K N F ρ G H ∧ RepS K N F ρ G.length σ σv ∧ RepWs K N F ρ G.length ws hand ∧ ResW K N W' σv F ρ G H Q (g ws σ G)
def rd (W' : WX) (g : Sl → Gs → R W) : TE := fun σv H Q => ∃ F ρ G σ, Good K N F ρ G H ∧ RepS K N F ρ G.length σ σv ∧ ResW K N W' σv F ρ G H Q (g σ G)
end
section
variable {K : PySem.W.Frag} {N : Names} {F F' F1 F2 : Hp} {ρ ρ' ρ1 ρ2 : Nat → Addr} {G G' G1 G2 : Gs} {H H' H1 H2 : Hp} {n m : Nat} {W' : WX} {σv : L2.St}
theorem Res.later {α β : Type} {RA : Hp → (Nat → Addr) → Nat → α → β → Prop} {Q : β → Hp → Prop} {r : R α} (x : Ext F ρ G H F1 ρ1 G1 H1) (h : Res K N RA W' σv F ρ G H Q r) : Res K N RA W' σv F1 ρ1 G1 H1 Q r := by
  cases r with
  | ok w G' => exact fun F' ρ' H' v e => h F' ρ' H' v (x.trans e)
  | exc e G' => exact fun F' ρ' H' cls d e => h F' ρ' H' cls d (x.trans e)
  | no => exact h
theorem RepWs.app : ∀ {ws us : List W} {vs qs : List V}, RepWs K N F ρ n ws vs → RepWs K N F ρ n us qs → RepWs K N F ρ n (ws ++ us) (vs ++ qs)
  | [], us, vs, qs, h, k => by simp only [RepWs] at h; subst h; exact k
  | w :: r, us, vs, qs, h, k => by
    simp only [RepWs] at h
    obtain ⟨v, q, rfl, h1, h2⟩ := h
    show RepWs K N F ρ n (w :: (r ++ us)) (v :: (q ++ qs))
    simp only [RepWs]
    exact ⟨v, q ++ qs, rfl, h1, RepWs.app h2 k⟩
theorem RepWs.one {w : W} {v : V} (h : RepW K N F ρ n w v) : RepWs K N F ρ n [w] [v] := by
  simp only [RepWs]
  exact ⟨v, [], rfl, h, rfl⟩
/-- the next expression, then the rest -/
theorem RdH.seq {vs : List V} {ga : Sl → Gs → R W} {gb : List W → Sl → Gs → R W} {H : Hp} {Q : VK} (h : RdH K N W' vs (fun ws σ G => (ga σ G).bind fun w G1 => gb (ws ++ [w]) σ G1) σv H Q) :
    rd K N W' ga σv H fun v H1 => RdH K N W' (vs ++ [v]) gb σv H1 Q := by
  obtain ⟨F, ρ, G, σ, ws, g, s, r, res⟩ := h
  refine ⟨F, ρ, G, σ, g, s, ?_⟩
  dsimp only at res
  cases e : ga σ G with
  | ok w G1 =>
    intro F1 ρ1 H1 v x1 g1 r1
    rw [e] at res
    exact ⟨F1, ρ1, G1, σ, ws ++ [w], g1, s.mono x1.later, (r.mono x1.later).app (.one r1), Res.later x1 res⟩
  | exc z G1 => rw [e] at res; exact res
  | no => rw [e] at res; exact res
theorem RdH.of {g : Sl → Gs → R W} {H : Hp} {Q : VK} (h : rd K N W' g σv H Q) : RdH K N W' [] (fun _ σ G => g σ G) σv H Q := by
  obtain ⟨F, ρ, G, σ, g, s, res⟩ := h
  exact ⟨F, ρ, G, σ, [], g, s, rfl, res⟩
theorem RepWs.two {ws : List W} {x y : V} (h : RepWs K N F ρ n ws [x, y]) : ∃ a b, ws = [a, b] ∧ RepW K N F ρ n a x ∧ RepW K N F ρ n b y := by
  cases ws with
  | nil => simp only [RepWs] at h; cases h
  | cons a r =>
    simp only [RepWs] at h
    obtain ⟨v, q, e, h1, h2⟩ := h
    cases e
    cases r with
    | nil => simp only [RepWs] at h2; cases h2
    | cons b r =>
      simp only [RepWs] at h2
      obtain ⟨v, q, e, h3, h4⟩ := h2
      cases e
      cases r with
      | nil => exact ⟨a, b, rfl, h1, h3⟩
      | cons c r => simp only [RepWs] at h4; obtain ⟨_, _, e, _⟩ := h4; cases e
theorem RepWs.single {ws : List W} {x : V} (h : RepWs K N F ρ n ws [x]) : ∃ a, ws = [a] ∧ RepW K N F ρ n a x := by
  cases ws with
  | nil => simp only [RepWs] at h; cases h
  | cons a r =>
    simp only [RepWs] at h
    obtain ⟨v, q, e, h1, h2⟩ := h
    cases e
    cases r with
    | nil => exact ⟨a, rfl, h1⟩
    | cons c r => simp only [RepWs] at h2; obtain ⟨_, _, e, _⟩ := h2; cases e
theorem RepWs.len : ∀ {ws : List W} {vs : List V}, RepWs K N F ρ n ws vs → ws.length = vs.length
  | [], vs, h => by simp only [RepWs] at h; subst h; rfl
  | w :: r, vs, h => by
    simp only [RepWs] at h
    obtain ⟨v, q, rfl, _, h2⟩ := h
    simp [RepWs.len h2]
theorem RepL.ws : ∀ {ds : List D} {vs : List V}, RepL K N F ds vs → RepWs K N F ρ n (ds.map .d) vs
  | [], _, h => by simp only [RepL] at h; subst h; rfl
  | x :: r, vs, h => by
    simp only [RepL] at h
    obtain ⟨v, q, rfl, h1, h2⟩ := h
    simp only [List.map_cons, RepWs]
    exact ⟨v, q, rfl, h1, RepL.ws h2⟩
/-- nothing else happened -/
theorem ResW.now {Q : VK} {w : W} {v : V} (h : ResW K N W' σv F ρ G H Q (.ok w G)) (g : Good K N F ρ G H) (r : RepW K N F ρ G.length w v) : Q v H := h F ρ H v Ext.refl g r
theorem mkL_ok {k : Nat} {ws : List W} {vs : List V} {Q : VK} (g : Good K N F ρ G H) (r : RepWs K N F ρ G.length ws vs) (res : ResW K N W' σv F ρ G H Q (mkL k ws G)) : ∀ p, H p = none → Q (.ref p) (upd H p (.lst vs)) := by
  intro p hp
  unfold mkL at res
  split at res
  · split at res
    · split at res
      · rename_i q e
        obtain ⟨xs, G1⟩ := q
        obtain ⟨F1, z, rl⟩ := fzL_ok (fz_ok fzN) ws F G vs xs G1 g r e
        obtain ⟨g2, x2⟩ := z.good.new (o := .lst vs) hp
        refine res _ _ _ _ (z.ext.trans x2) g2 ?_
        show Rep K N _ (.lst xs) (.ref p)
        simp only [Rep]
        exact ⟨p, vs, rfl, upd_same, rl.mono x2.f⟩
      · exact res.elim
    · split at res
      · rename_i q e
        obtain ⟨xs, G1⟩ := q
        obtain ⟨F1, z, rl⟩ := fzL_ok (fz_ok fzN) ws F G vs xs G1 g r e
        obtain ⟨g2, x2⟩ := z.good.newC (o := .lst vs) (c := .sh xs) hp ⟨z.good.sub.free hp, vs, upd_same, rl⟩
        refine res _ _ _ _ (z.ext.trans x2) g2 ⟨?_, ?_⟩
        · show G1.length < (G1 ++ [Cell.sh xs]).length
          simp
        · rw [ρput_same]
      · exact res.elim
    · obtain ⟨g2, x2⟩ := g.newC (o := .lst vs) (c := .dp ws) hp ⟨g.sub.free hp, vs, upd_same, r.mono (Later.put (Same.refl _))⟩
      refine res _ _ _ _ x2 g2 ⟨?_, ?_⟩
      · simp
      · rw [ρput_same]
  · exact res.elim
theorem mkT_ok {ws : List W} {vs : List V} {Q : VK} (g : Good K N F ρ G H) (r : RepWs K N F ρ G.length ws vs) (res : ResW K N W' σv F ρ G H Q (mkT ws G)) : ∀ p, H p = none → Q (.ref p) (upd H p (.tup vs)) := by
  intro p hp
  unfold mkT at res
  split at res
  · split at res
    · rename_i q e
      obtain ⟨xs, G1⟩ := q
      obtain ⟨F1, z, rl⟩ := fzL_ok (fz_ok fzN) ws F G vs xs G1 g r e
      obtain ⟨g2, x2⟩ := z.good.new (o := .tup vs) hp
      refine res _ _ _ _ (z.ext.trans x2) g2 ?_
      show Rep K N _ (.tup xs) (.ref p)
      simp only [Rep]
      exact ⟨p, vs, rfl, .inl (.inl upd_same), rl.mono x2.f⟩
    · exact res.elim
  · exact res.elim
theorem lineB_le {n : Nat} (h : lineB n = true) : n ≤ sizeLine := of_decide_eq_true h
theorem mkL_len {k : Nat} {ws : List W} {Q : VK} (res : ResW K N W' σv F ρ G H Q (mkL k ws G)) : ws.length ≤ sizeLine := by
  unfold mkL at res
  split at res
  · rename_i h; exact lineB_le h
  · exact res.elim
theorem mkT_len {ws : List W} {Q : VK} (res : ResW K N W' σv F ρ G H Q (mkT ws G)) : ws.length ≤ sizeLine := by
  unfold mkT at res
  split at res
  · rename_i h; exact lineB_le h
  · exact res.elim
/-- a tuple already there -/
theorem mkT_same {ds : List D} {v : V} {Q : VK} (g : Good K N F ρ G H) (r : RepW K N F ρ G.length (.d (.tup ds)) v) (res : ResW K N W' σv F ρ G H Q (mkT (ds.map .d) G)) : Q v H := by
  unfold mkT at res
  split at res
  · have e : ∀ (f : W → Gs → Option (D × Gs)), (∀ x G, f (.d x) G = some (x, G)) → ∀ ds : List D, fzL f (ds.map .d) G = some (ds, G) := by
      intro f hf ds
      induction ds with
      | nil => rfl
      | cons x r ih => simp [fzL, hf, ih]
    rw [e (fz fzN) (fun x G => by simp [fz, fzN]) ds] at res
    exact ResW.now res g r
  · exact res.elim
/-- what the items are -/
theorem items_ok {w : W} {v : V} {ws : List W} (g : Good K N F ρ G H) (r : RepW K N F ρ G.length w v) (e : items G w = some ws) :
    ∃ a vs, v = .ref a ∧ (SqL K H a vs ∨ SqT K H a vs) ∧ RepWs K N F ρ G.length ws vs := by
  cases w with
  | d x =>
    cases x with
    | lst ds =>
      simp only [RepW, Rep] at r
      obtain ⟨a, vs, rfl, h1, h2⟩ := r
      simp only [items, Option.some.injEq] at e
      subst e
      exact ⟨a, vs, rfl, .inl (.inl (.inl (g.sub _ _ h1))), h2.ws⟩
    | tup ds =>
      simp only [RepW, Rep] at r
      obtain ⟨a, vs, rfl, h1, h2⟩ := r
      simp only [items, Option.some.injEq] at e
      subst e
      exact ⟨a, vs, rfl, .inr (Same.seqT g.sub h1), h2.ws⟩
    | scr ns =>
      simp only [RepW, Rep] at r
      obtain ⟨a, rfl, h1⟩ := r
      simp only [items, Option.some.injEq] at e
      subst e
      refine ⟨a, ns.map V.int, rfl, .inl (g.sub.seq h1), ?_⟩
      clear h1
      induction ns with
      | nil => rfl
      | cons i r ih => simp only [List.map_cons, RepWs]; exact ⟨_, _, rfl, rfl, ih⟩
    | _ => simp [items] at e
  | r i =>
    obtain ⟨hi, rfl⟩ := r
    simp only [items] at e
    split at e
    · rename_i ds hc
      simp only [Option.some.injEq] at e
      subst e
      obtain ⟨_, vs, h1, h2⟩ := g.cell i _ hc
      exact ⟨_, vs, rfl, .inl (.inl (.inl h1)), h2.ws⟩
    · rename_i us hc
      simp only [Option.some.injEq] at e
      subst e
      obtain ⟨_, vs, h1, h2⟩ := g.cell i _ hc
      exact ⟨_, vs, rfl, .inl (.inl (.inl h1)), h2⟩
    · rename_i ds hc
      simp only [Option.some.injEq] at e
      subst e
      have h := g.cell i _ hc
      simp only [CellOk, Rep] at h
      obtain ⟨a, vs, e1, h1, h2⟩ := h
      cases e1
      exact ⟨_, vs, rfl, .inl (.inl (.inl (g.sub _ _ h1))), h2.ws⟩
    · cases e
theorem litems_ok {w : W} {v : V} {ws : List W} (g : Good K N F ρ G H) (r : RepW K N F ρ G.length w v) (e : litems G w = some ws) :
    ∃ a vs, v = .ref a ∧ H a = some (.lst vs) ∧ RepWs K N F ρ G.length ws vs := by
  cases w with
  | d x =>
    cases x with
    | lst ds =>
      simp only [RepW, Rep] at r
      obtain ⟨a, vs, rfl, h1, h2⟩ := r
      simp only [litems, Option.some.injEq] at e
      subst e
      exact ⟨a, vs, rfl, g.sub _ _ h1, h2.ws⟩
    | _ => simp [litems] at e
  | r i =>
    obtain ⟨hi, rfl⟩ := r
    simp only [litems] at e
    split at e
    · rename_i ds hc
      simp only [Option.some.injEq] at e
      subst e
      obtain ⟨_, vs, h1, h2⟩ := g.cell i _ hc
      exact ⟨_, vs, rfl, h1, h2.ws⟩
    · rename_i us hc
      simp only [Option.some.injEq] at e
      subst e
      obtain ⟨_, vs, h1, h2⟩ := g.cell i _ hc
      exact ⟨_, vs, rfl, h1, h2⟩
    · rename_i ds hc
      simp only [Option.some.injEq] at e
      subst e
      have h := g.cell i _ hc
      simp only [CellOk, Rep] at h
      obtain ⟨a, vs, e1, h1, h2⟩ := h
      cases e1
      exact ⟨_, vs, rfl, g.sub _ _ h1, h2.ws⟩
    · cases e
end
end Ev

end

-- part EvE
section
set_option Elab.async false
set_option linter.all false
namespace Ev
open PySem L2 PyProof.Rows
def opOf : BO → Operator
  | .add => .Add | .sub => .Sub | .mul => .Mult | .fdiv => .FloorDiv | .mod => .Mod | .pow => .Pow | .shl => .LShift | .shr => .RShift | .band => .BitAnd | .bor => .BitOr
def copOf : CO → CmpOp
  | .eq => .Eq | .ne => .NotEq | .lt => .Lt | .le => .LtE | .gt => .Gt | .ge => .GtE | .isin => .In | .notin => .NotIn | .is => .Is | .isnot => .IsNot
section
variable {K : PySem.W.Frag} {N : Names} {F F' F1 F2 : Hp} {ρ ρ' ρ1 ρ2 : Nat → Addr} {G G' G1 G2 : Gs} {H H' H1 H2 : Hp} {n m : Nat} {W' : WX} {σv : L2.St}
variable {X : Cx} {pins : List (Addr × Obj)} {s : Shared} {Q : VK}
/-- a two-place operation, with the slots -/
def OpS (X : Cx) (f : Value → Value → Sem Value) (r : L2.St → V → V → Hp → VK → Prop) : Prop :=
  ∀ (pins : List (Addr × Obj)) (s : Shared) (σ : L2.St) (H : Hp) (x y : V) (v u : Value) (Q : VK), Inv X pins σ H s → RelV x v → RelV y u → r σ x y H Q → wpAny (model X.prog X.w) X.A (f v u) (EP X pins σ Q) X.xe s
theorem arith_run {o : BO} {i j z : Int} {x y : Value} (I : Inv X pins σv H s) (rx : RelV (.int i) x) (ry : RelV (.int j) y) (e : arith o i j = some z) (q : Q (.int z) H) :
    wpAny (model X.prog X.w) X.A (binaryOp (opOf o) x y) (EP X pins σv Q) X.xe s := by
  cases o <;> simp only [arith] at e
  · cases e; exact op_add pins s σv H _ _ x y Q I rx ry ⟨i, j, rfl, rfl, q⟩
  · cases e; exact op_sub pins s σv H _ _ x y Q I rx ry ⟨i, j, rfl, rfl, q⟩
  · split at e
    · rename_i hm
      cases e
      unfold mulOk at hm
      simp only [Bool.or_eq_true, decide_eq_true_eq] at hm
      rcases hm with (hm | hm) | hm
      · exact op_mul pins s σv H _ _ x y Q I rx ry ⟨i, j, rfl, rfl, .inl hm, q⟩
      · exact op_mul pins s σv H _ _ x y Q I rx ry ⟨i, j, rfl, rfl, .inr hm, q⟩
      · exact op_mulW pins s σv H _ _ x y Q I rx ry ⟨i, j, rfl, rfl, hm, q⟩
    · cases e
  · split at e
    · rename_i hm
      cases e
      exact op_fdivW pins s σv H _ _ x y Q I rx ry ⟨i, j, rfl, rfl, hm, q⟩
    · cases e
  · split at e
    · rename_i hm
      cases e
      exact op_mod pins s σv H _ _ x y Q I rx ry ⟨i, j, rfl, rfl, hm, q⟩
    · cases e
  · split at e
    · rename_i hm
      cases e
      exact op_pow pins s σv H _ _ x y Q I rx ry ⟨i, j, rfl, rfl, hm, q⟩
    · cases e
  · split at e
    · rename_i hm
      cases e
      exact op_shl pins s σv H _ _ x y Q I rx ry ⟨i, j, rfl, rfl, hm, q⟩
    · cases e
  · split at e
    · rename_i hm
      cases e
      exact op_shr pins s σv H _ _ x y Q I rx ry ⟨i, j, rfl, rfl, hm, q⟩
    · cases e
  · cases e; exact op_and pins s σv H _ _ x y Q I rx ry ⟨i, j, rfl, rfl, q⟩
  · cases e; exact op_or pins s σv H _ _ x y Q I rx ry ⟨i, j, rfl, rfl, q⟩
theorem lits_len {w : W} {ws : List W} (g : Good K N F ρ G H) : True := trivial
/-- what an own operator does (a hypothesis until the defs are known) -/
def OwnBin (K : PySem.W.Frag) (N : Names) (W' : WX) (Φ : Fns) (X : Cx) : Prop :=
  ∀ (o : BO) (m c : Nat) (fs : List (Nat × D)) (pins : List (Addr × Obj)) (s : Shared) (σv : L2.St) (H F : Hp) (ρ : Nat → Addr) (G : Gs) (σ : Sl) (b : W) (x y : V) (v u : Value) (Q : VK), (o = .add ∧ m = nmAdd ∨ o = .bor ∧ m = nmOr) →
    Inv X pins σv H s → RelV x v → RelV y u → Good K N F ρ G H → RepS K N F ρ G.length σ σv → RepW K N F ρ G.length (.d (.ins c fs)) x → RepW K N F ρ G.length b y → ResW K N W' σv F ρ G H Q (mcall Φ c m [.d (.ins c fs), b] G) →
    wpAny (model X.prog X.w) X.A (binaryOp (opOf o) v u) (EP X pins σv Q) X.xe s
theorem RepWs.flat {ws : List W} {vs : List V} (h : RepWs K N F ρ n ws vs) : ∀ k : Nat, RepWs K N F ρ n (List.replicate k ws).flatten (List.replicate k vs).flatten
  | 0 => rfl
  | k + 1 => by
    simp only [List.replicate_succ, List.flatten_cons]
    exact h.app (RepWs.flat h k)
theorem RepL.app : ∀ {ws us : List D} {vs qs : List V}, RepL K N F ws vs → RepL K N F us qs → RepL K N F (ws ++ us) (vs ++ qs)
  | [], us, vs, qs, h, k => by simp only [RepL] at h; subst h; exact k
  | w :: r, us, vs, qs, h, k => by
    simp only [RepL] at h
    obtain ⟨v, q, rfl, h1, h2⟩ := h
    show RepL K N F (w :: (r ++ us)) (v :: (q ++ qs))
    simp only [RepL]
    exact ⟨v, q ++ qs, rfl, h1, RepL.app h2 k⟩
theorem RepL.len : ∀ {ws : List D} {vs : List V}, RepL K N F ws vs → ws.length = vs.length
  | [], vs, h => by simp only [RepL] at h; subst h; rfl
  | w :: r, vs, h => by
    simp only [RepL] at h
    obtain ⟨v, q, rfl, _, h2⟩ := h
    simp [RepL.len h2]
theorem Rep.tupOf {ds : List D} {a : Addr} {vs : List V} (h : SqT K F a vs) (k : RepL K N F ds vs) : Rep K N F (.tup ds) (.ref a) := by
  simp only [Rep]
  exact ⟨a, vs, rfl, h, k⟩
theorem RepL.nil_iff {ds : List D} {vs : List V} (h : RepL K N F ds vs) : vs = [] ↔ ds = [] := by
  have := h.len
  constructor
  · rintro rfl; exact List.eq_nil_of_length_eq_zero (by simpa using this)
  · rintro rfl; exact List.eq_nil_of_length_eq_zero (by simpa using this.symm)
/-- a result that is data, the state as it is -/
theorem ResW.data {x : D} {v : V} (h : ResW K N W' σv F ρ G H Q (.ok (.d x) G)) (g : Good K N F ρ G H) (r : Rep K N F x v) : Q v H := h F ρ H v Ext.refl g r
theorem ResW.newTup {ds : List D} {vs : List V} (h : ResW K N W' σv F ρ G H Q (.ok (.d (.tup ds)) G)) (g : Good K N F ρ G H) (r : RepL K N F ds vs) : ∀ p, H p = none → Q (.ref p) (upd H p (.tup vs)) := fun p hp => by
  obtain ⟨g2, x2⟩ := g.new (o := .tup vs) hp
  exact h _ _ _ _ x2 g2 (Rep.tupOf (.inl (.inl upd_same)) (r.mono x2.f))
theorem bin_run {Φ : Fns} {k : Nat} {o : BO} {σ : Sl} {a b : W} {x y : V} {v u : Value} (own : OwnBin K N W' Φ X) (hK : X.K = K) (I : Inv X pins σv H s) (rx : RelV x v) (ry : RelV y u) (g : Good K N F ρ G H) (rs : RepS K N F ρ G.length σ σv) (ra : RepW K N F ρ G.length a x) (rb : RepW K N F ρ G.length b y)
    (res : ResW K N W' σv F ρ G H Q (binW Φ k o a b G)) : wpAny (model X.prog X.w) X.A (binaryOp (opOf o) v u) (EP X pins σv Q) X.xe s := by
  unfold binW at res
  split at res
  · -- ints
    cases ra; cases rb
    split at res
    · rename_i e
      exact arith_run I rx ry e (ResW.data res g rfl)
    · exact res.elim
  · cases ra; cases rb
    split at res
    · split at res
      · rename_i hl
        exact op_add_str pins s σv H _ _ v u Q I rx ry ⟨_, _, rfl, rfl, lineB_le hl, ResW.data res g rfl⟩
      · exact res.elim
    · exact res.elim
  · split at res
    · split at res
      · rename_i ds es hl
        simp only [RepW, Rep] at ra rb
        obtain ⟨p, vs, rfl, h1, h2⟩ := ra
        obtain ⟨q, us, rfl, h3, h4⟩ := rb
        subst hK
        have hl' : vs.length + us.length ≤ sizeLine := by rw [← h2.len, ← h4.len]; exact lineB_le hl
        refine op_catA pins s σv H _ _ v u Q I rx ry ⟨p, q, vs, us, rfl, rfl, Same.seqT g.sub h1, Same.seqT g.sub h3, hl', fun e => ?_, fun _ e => ?_, fun _ _ => ResW.newTup res g (h2.app h4)⟩
        · rw [h2.nil_iff.mp e] at res
          exact ResW.data res g (Rep.tupOf h3 h4)
        · rw [h4.nil_iff.mp e, List.append_nil] at res
          exact ResW.data res g (Rep.tupOf h1 h2)
      · exact res.elim
    · exact res.elim
  · split at res
    · exact own .add _ _ _ pins s σv H F ρ G σ _ x y v u Q (.inl ⟨rfl, rfl⟩) I rx ry g rs ra rb res
    · exact own .bor _ _ _ pins s σv H F ρ G σ _ x y v u Q (.inr ⟨rfl, rfl⟩) I rx ry g rs ra rb res
    · exact res.elim
  · split at res
    · rename_i ws e
      split at res
      · rename_i hc
        obtain ⟨l, vs, rfl, h1, h2⟩ := litems_ok g ra e
        cases rb
        exact op_rep pins s σv H _ _ v u Q I rx ry ⟨l, _, vs, rfl, rfl, h1, hc.1, hc.2.1, by rw [← h2.len]; exact hc.2.2, mkL_ok g (h2.flat _) res⟩
      · exact res.elim
    · exact res.elim
  · split at res
    · rename_i as bs e1 e2
      split at res
      · rename_i hl
        obtain ⟨l, vs, rfl, h1, h2⟩ := litems_ok g ra e1
        obtain ⟨l', vs', rfl, h3, h4⟩ := litems_ok g rb e2
        exact op_cat pins s σv H _ _ v u Q I rx ry ⟨l, l', vs, vs', rfl, rfl, h1, h3, by rw [← h2.len, ← h4.len]; exact lineB_le hl, mkL_ok g (h2.app h4) res⟩
      · exact res.elim
    · exact res.elim
end
end Ev

end

-- part EvF
section
set_option Elab.async false
set_option linter.all false
namespace Ev
open PySem L2 PyProof.Rows
open Classical in
/-- F and the lists that are cells, as they stand now -/
noncomputable def FC (F : Hp) (ρ : Nat → Addr) (G : Gs) (H : Hp) : Hp := fun a => match F a with
  | some o => some o
  | none => if IsC ρ G a then (match H a with
    | some (.lst vs) => some (.lst vs)
    | some (.tup vs) => some (.tup vs)
    | _ => none) else none
section
variable {K : PySem.W.Frag} {N : Names} {F F' F1 F2 : Hp} {ρ ρ' ρ1 ρ2 : Nat → Addr} {G G' G1 G2 : Gs} {H H' H1 H2 : Hp} {n m : Nat} {W' : WX} {σv : L2.St}
variable {X : Cx} {pins : List (Addr × Obj)} {s : Shared} {Q : VK}
theorem FC.sub : Same F (FC F ρ G H) := fun a o e => by unfold FC; rw [e]
theorem FC.same (h : Same F H) : Same (FC F ρ G H) H := fun a o e => by
  unfold FC at e
  split at e
  · rename_i u q
    cases e; exact h _ _ q
  · split at e
    · split at e
      · rename_i vs q; cases e; exact q
      · rename_i vs q; cases e; exact q
      · cases e
    · cases e
theorem FC.at {i : Nat} {c : Cell} {vs : List V} (g : Good K N F ρ G H) (e : G[i]? = some c) (l : c.live = true) (h : H (ρ i) = some (.lst vs)) : FC F ρ G H (ρ i) = some (.lst vs) := by
  unfold FC
  rw [((g.cell i c e).at l).1]
  simp only
  rw [if_pos ⟨i, c, e, l, rfl⟩, h]
theorem FC.atT {i : Nat} {c : Cell} {vs : List V} (g : Good K N F ρ G H) (e : G[i]? = some c) (l : c.live = true) (h : H (ρ i) = some (.tup vs)) : FC F ρ G H (ρ i) = some (.tup vs) := by
  unfold FC
  rw [((g.cell i c e).at l).1]
  simp only
  rw [if_pos ⟨i, c, e, l, rfl⟩, h]
theorem snL_ok {f : W → Option D} {P : W → V → Prop} (hf : ∀ w v x, P w v → f w = some x → Rep K N F x v) : ∀ {ws : List W} {vs : List V} {xs : List D}, ws.length = vs.length → (∀ (i : Nat) w v, ws[i]? = some w → vs[i]? = some v → P w v) → snL f ws = some xs → RepL K N F xs vs
  | [], vs, xs, hl, _, e => by
    simp only [snL, Option.some.injEq] at e
    subst e
    cases vs with
    | nil => simp only [RepL]
    | cons _ _ => simp at hl
  | w :: r, vs, xs, hl, hp, e => by
    cases vs with
    | nil => simp at hl
    | cons v q =>
      simp only [snL, Option.bind_eq_bind, Option.bind_eq_some_iff] at e
      obtain ⟨x, e1, ys, e2, e3⟩ := e
      cases e3
      simp only [RepL]
      exact ⟨v, q, rfl, hf w v x (hp 0 w v rfl rfl) e1, snL_ok hf (by simpa using hl) (fun i w v a b => hp (i + 1) w v (by simpa using a) (by simpa using b)) e2⟩
theorem RepWs.get : ∀ {ws : List W} {vs : List V}, RepWs K N F ρ n ws vs → ∀ (i : Nat) w v, ws[i]? = some w → vs[i]? = some v → RepW K N F ρ n w v
  | [], _, _, i, w, v, e, _ => by simp at e
  | w :: r, vs, h, i, w', v', e1, e2 => by
    simp only [RepWs] at h
    obtain ⟨v, q, rfl, h1, h2⟩ := h
    cases i with
    | zero => simp only [List.getElem?_cons_zero, Option.some.injEq] at e1 e2; subst e1; subst e2; exact h1
    | succ i => exact RepWs.get h2 i w' v' (by simpa using e1) (by simpa using e2)
theorem sn_ok (g : Good K N F ρ G H) : ∀ (k : Nat) (w : W) (v : V) (x : D), RepW K N F ρ G.length w v → sn G k w = some x → Rep K N (FC F ρ G H) x v
  | k, .d y, v, x, r, e => by
    cases k <;> (simp only [sn, Option.some.injEq] at e; subst e; exact Rep.mono FC.sub r)
  | 0, .r i, v, x, r, e => by simp [sn] at e
  | k + 1, .r i, v, x, r, e => by
    obtain ⟨hi, rfl⟩ := r
    simp only [sn] at e
    split at e
    · rename_i ds hc
      cases e
      obtain ⟨_, vs, h1, h2⟩ := g.cell i _ hc
      simp only [Rep]
      exact ⟨_, vs, rfl, FC.at g hc rfl h1, h2.mono FC.sub⟩
    · rename_i ws hc
      simp only [Option.map_eq_some_iff] at e
      obtain ⟨xs, e1, rfl⟩ := e
      obtain ⟨_, vs, h1, h2⟩ := g.cell i _ hc
      simp only [Rep]
      exact ⟨_, vs, rfl, FC.at g hc rfl h1, snL_ok (P := RepW K N F ρ G.length) (fun w v x r e => sn_ok g k w v x r e) h2.len h2.get e1⟩
    · rename_i y hc
      cases e
      exact Rep.mono FC.sub (g.cell i _ hc)
    · rename_i ws hc
      simp only [Option.map_eq_some_iff] at e
      obtain ⟨xs, e1, rfl⟩ := e
      obtain ⟨_, vs, h1, h2⟩ := g.cell i _ hc
      simp only [Rep]
      exact ⟨_, vs, rfl, .inl (.inl (FC.atT g hc rfl h1)), snL_ok (P := RepW K N F ρ G.length) (fun w v x r e => sn_ok g k w v x r e) h2.len h2.get e1⟩
    · cases e
/-! as the library s data -/
mutual
theorem Rep.dp (h : Same F H) : ∀ {x : D} {v : V} {p : PyData}, Rep K N F x v → py x = some p → Dp K H v p
  | .non, _, _, r, e => by cases r; cases e; exact .non
  | .bl b, _, _, r, e => by cases r; cases e; exact .bl b
  | .int i, _, _, r, e => by cases r; cases e; exact .int i
  | .str z, _, _, r, e => by cases r; cases e; exact .str z
  | .tup ds, _, _, r, e => by
    simp only [Rep] at r
    obtain ⟨a, vs, rfl, h1, h2⟩ := r
    simp only [py, Option.map_eq_some_iff] at e
    obtain ⟨ps, e1, rfl⟩ := e
    exact .tup (Same.seqT h h1) (RepL.dp h h2 e1)
  | .lst ds, _, _, r, e => by
    simp only [Rep] at r
    obtain ⟨a, vs, rfl, h1, h2⟩ := r
    simp only [py, Option.map_eq_some_iff] at e
    obtain ⟨ps, e1, rfl⟩ := e
    exact .lst (.inl (.inl (h _ _ h1))) (RepL.dp h h2 e1)
  | .ins _ _, _, _, _, e => by simp [py] at e
  | .scr _, _, _, _, e => by simp [py] at e
theorem RepL.dp (h : Same F H) : ∀ {xs : List D} {vs : List V} {ps : List PyData}, RepL K N F xs vs → pys xs = some ps → DpAll K H vs ps
  | [], _, _, r, e => by
    simp only [RepL] at r; subst r
    simp only [pys, Option.some.injEq] at e; subst e
    exact .nil
  | x :: q, _, _, r, e => by
    simp only [RepL] at r
    obtain ⟨v, vs, rfl, h1, h2⟩ := r
    simp only [pys, Option.bind_eq_bind, Option.bind_eq_some_iff, Option.map_eq_some_iff] at e
    obtain ⟨p, e1, ps, e2, rfl⟩ := e
    exact .cons (Rep.dp h h1 e1) (RepL.dp h h2 e2)
end
/-- an own class's == -/
def OwnEq (K : PySem.W.Frag) (N : Names) (W' : WX) (Φ : Fns) (X : Cx) : Prop :=
  ∀ (c : Nat) (fs : List (Nat × D)) (pins : List (Addr × Obj)) (s : Shared) (σv : L2.St) (H F : Hp) (ρ : Nat → Addr) (G : Gs) (σ : Sl) (b : W) (x y : V) (v u : Value) (Q : VK),
    Inv X pins σv H s → RelV x v → RelV y u → Good K N F ρ G H → RepS K N F ρ G.length σ σv → RepW K N F ρ G.length (.d (.ins c fs)) x → RepW K N F ρ G.length b y → ResW K N W' σv F ρ G H Q (if tyKn Φ.isc G b then mcall Φ c nmEq [.d (.ins c fs), b] G else .no) →
    wpAny (model X.prog X.w) X.A (compareOp .Eq v u) (EP X pins σv Q) X.xe s
def OwnIn (K : PySem.W.Frag) (N : Names) (W' : WX) (Φ : Fns) (X : Cx) : Prop :=
  ∀ (neg : Bool) (c : Nat) (fs : List (Nat × D)) (pins : List (Addr × Obj)) (s : Shared) (σv : L2.St) (H F : Hp) (ρ : Nat → Addr) (G : Gs) (σ : Sl) (b : W) (x y : V) (v u : Value) (Q : VK),
    Inv X pins σv H s → RelV x v → RelV y u → Good K N F ρ G H → RepS K N F ρ G.length σ σv → RepW K N F ρ G.length (.d (.ins c fs)) y → RepW K N F ρ G.length b x → ResW K N W' σv F ρ G H Q (if neg then notW (mcall Φ c nmIn [.d (.ins c fs), b] G) else mcall Φ c nmIn [.d (.ins c fs), b] G) →
    wpAny (model X.prog X.w) X.A (compareOp (if neg then .NotIn else .In) v u) (EP X pins σv Q) X.xe s
theorem eqD_some {x y : D} {t : Bool} (e : eqD x y = some t) : ∃ p q, py x = some p ∧ py y = some q ∧ SeqAt.shaped p = true ∧ SeqAt.shaped q = true ∧ t = PyData.eqv p q := by
  unfold eqD at e
  split at e
  · rename_i p q e1 e2
    split at e
    · rename_i hs
      simp only [Bool.and_eq_true] at hs
      cases e
      exact ⟨p, q, e1, e2, hs.1, hs.2, rfl⟩
    · cases e
  · cases e
theorem eq_run {neg : Bool} {a b : W} {x y : V} {v u : Value} {da db : D} {t : Bool} (hK : X.K = K) (hu : X.A.units + 64 < cLine) (I : Inv X pins σv H s) (rx : RelV x v) (ry : RelV y u) (g : Good K N F ρ G H) (ra : RepW K N F ρ G.length a x) (rb : RepW K N F ρ G.length b y)
    (ea : sn G fzN a = some da) (eb : sn G fzN b = some db) (e : eqD da db = some t) (q : Q (.bl (if neg then !t else t)) H) : wpAny (model X.prog X.w) X.A (compareOp (if neg then .NotEq else .Eq) v u) (EP X pins σv Q) X.xe s := by
  obtain ⟨p, r, e1, e2, s1, s2, rfl⟩ := eqD_some e
  subst hK
  have d1 := Rep.dp (FC.same g.sub) (sn_ok g _ _ _ _ ra ea) e1
  have d2 := Rep.dp (FC.same g.sub) (sn_ok g _ _ _ _ rb eb) e2
  cases neg with
  | false => exact op_eqD hu pins s σv H _ _ v u Q I rx ry ⟨p, r, d1, d2, s1, s2, q⟩
  | true => exact op_neD hu pins s σv H _ _ v u Q I rx ry ⟨p, r, d1, d2, s1, s2, q⟩
/-- flat values -/
theorem flatD_ok {x : D} {v : V} (h : flatD x = true) (r : Rep K N F x v) : flatV v = true := by
  cases x <;> simp only [flatD, Bool.false_eq_true] at h <;> (cases r; rfl)
theorem flatD_all : ∀ {xs : List D} {vs : List V}, xs.all flatD = true → RepL K N F xs vs → vs.all flatV = true
  | [], _, _, r => by simp only [RepL] at r; subst r; rfl
  | x :: q, _, h, r => by
    simp only [RepL] at r
    obtain ⟨v, vs, rfl, h1, h2⟩ := r
    simp only [List.all_cons, Bool.and_eq_true] at h ⊢
    exact ⟨flatD_ok h.1 h1, flatD_all h.2 h2⟩
theorem eqF_ok {x y : D} {v u : V} (hx : flatD x = true) (hy : flatD y = true) (r1 : Rep K N F x v) (r2 : Rep K N F y u) : eqV v u = eqF x y := by
  cases x <;> simp only [flatD, Bool.false_eq_true] at hx <;> cases y <;> simp only [flatD, Bool.false_eq_true] at hy <;> (cases r1; cases r2; rfl)
theorem inF_ok {x : D} {v : V} (hx : flatD x = true) (r : Rep K N F x v) : ∀ {xs : List D} {vs : List V}, xs.all flatD = true → RepL K N F xs vs → inV v vs = xs.any fun z => eqF z x
  | [], _, _, r => by simp only [RepL] at r; subst r; rfl
  | z :: q, _, h, rl => by
    simp only [RepL] at rl
    obtain ⟨u, vs, rfl, h1, h2⟩ := rl
    simp only [List.all_cons, Bool.and_eq_true] at h
    have := inF_ok hx r h.2 h2
    unfold inV at this ⊢
    simp only [List.any_cons, eqF_ok h.1 hx h1 r, this]
theorem in_run {neg : Bool} {a b : W} {x y : V} {v u : Value} {da db : D} {t : Bool} (hK : X.K = K) (hu : X.A.units + 65 < cLine) (I : Inv X pins σv H s) (rx : RelV x v) (ry : RelV y u) (g : Good K N F ρ G H) (ra : RepW K N F ρ G.length a x) (rb : RepW K N F ρ G.length b y)
    (ea : sn G fzN a = some da) (eb : sn G fzN b = some db) (e : inD da db = some t) (q : Q (.bl (if neg then !t else t)) H) : wpAny (model X.prog X.w) X.A (compareOp (if neg then .NotIn else .In) v u) (EP X pins σv Q) X.xe s := by
  subst hK
  have r1 := sn_ok g _ _ _ _ ra ea
  have r2 := sn_ok g _ _ _ _ rb eb
  have sm := FC.same (ρ := ρ) (G := G) g.sub
  unfold inD at e
  split at e
  · rename_i z
    split at e
    · rename_i z'
      cases r1; cases r2; cases e
      cases neg with
      | false => exact op_in_str pins s σv H _ _ v u Q I rx ry ⟨_, _, rfl, rfl, q⟩
      | true => exact op_notin_str pins s σv H _ _ v u Q I rx ry ⟨_, _, rfl, rfl, q⟩
    · cases e
  · rename_i ds
    split at e
    · rename_i hf
      simp only [Bool.and_eq_true] at hf
      cases e
      simp only [Rep] at r2
      obtain ⟨p, vs, rfl, h1, h2⟩ := r2
      have e3 := inF_ok hf.1 r1 hf.2 h2
      cases neg with
      | false => exact op_in_seq pins s σv H _ _ v u Q I rx ry ⟨p, vs, rfl, .inr (Same.seqT sm h1), flatD_ok hf.1 r1, flatD_all hf.2 h2, by simpa [e3] using q⟩
      | true => exact op_notIn_seq pins s σv H _ _ v u Q I rx ry ⟨p, vs, rfl, .inr (Same.seqT sm h1), flatD_ok hf.1 r1, flatD_all hf.2 h2, by simpa [e3] using q⟩
    · cases e
  · rename_i ds
    split at e
    · rename_i hf
      simp only [Bool.and_eq_true] at hf
      cases e
      simp only [Rep] at r2
      obtain ⟨p, vs, rfl, h1, h2⟩ := r2
      have e3 := inF_ok hf.1 r1 hf.2 h2
      cases neg with
      | false => exact op_in_seq pins s σv H _ _ v u Q I rx ry ⟨p, vs, rfl, .inl (.inl (.inl (sm _ _ h1))), flatD_ok hf.1 r1, flatD_all hf.2 h2, by simpa [e3] using q⟩
      | true => exact op_notIn_seq pins s σv H _ _ v u Q I rx ry ⟨p, vs, rfl, .inl (.inl (.inl (sm _ _ h1))), flatD_ok hf.1 r1, flatD_all hf.2 h2, by simpa [e3] using q⟩
    · split at e
      · rename_i pa pb e1 e2
        split at e
        · rename_i hs
          simp only [Bool.and_eq_true] at hs
          cases e
          have d1 := Rep.dp sm r1 e1
          have d2 := Rep.dp sm r2 (p := .list pb) (by simp [py, e2])
          cases neg with
          | false => exact op_inD hu pins s σv H _ _ v u Q I rx ry ⟨pa, pb, d1, d2, hs.1, hs.2, q⟩
          | true => exact op_notInD hu pins s σv H _ _ v u Q I rx ry ⟨pa, pb, d1, d2, hs.1, hs.2, q⟩
        · cases e
      · cases e
  · cases e
end
end Ev

end

-- part EvG
section
set_option Elab.async false
set_option linter.all false
namespace Ev
open PySem L2 PyProof.Rows
/-- the value that a built-in type's or an own class's name stands for -/
def tyValC (cA : Nat → Addr) : Ty → Value
  | .int => .type "int" | .bool => .type "bool" | .str => .type "str" | .list => .type "list" | .tuple => .type "tuple" | .cls c => .ref (cA c) | .err c => .ref (cA c)
abbrev tyVal (N : Names) (t : Ty) : Value := tyValC N.cA t
/-- the types of data -/
inductive TyD where | non | ty (t : Ty)
/-- isinstance's answers that the written part gives -/
structure Kits (K : PySem.W.Frag) (N : Names) (ok : Nat → Bool) : Prop where
  non : ∀ t : Ty, t.okB ok = true → PySem.W.kitOne K (.type "NoneType") (tyVal N t) = some false
  one : ∀ t u : Ty, t.okB ok = true → u.okB ok = true → PySem.W.kitOne K (tyVal N t) (tyVal N u) = some (t == u || (t == .bool && u == .int))
  ins : ∀ c, ok c = true → Cls K (N.cA c) ∧ PySem.W.findIn K (.ref (N.cA c)) "__class__" = some (some (.builtin "object.__class__")) ∧ PySem.W.mroIn K (N.cA c) (.type "object") = some true
  get : PySem.W.specialIn K (.builtin "object.__class__") "__get__" = some (some (.builtin "getset_descriptor.__get__")) ∧ PySem.W.takesIn K (.builtin "object.__class__") = some true
section
variable {K : PySem.W.Frag} {N : Names} {F F' F1 F2 : Hp} {ρ ρ' ρ1 ρ2 : Nat → Addr} {G G' G1 G2 : Gs} {H H' H1 H2 : Hp} {n m : Nat} {W' : WX} {σv : L2.St}
variable {X : Cx} {pins : List (Addr × Obj)} {s : Shared} {Q : VK}
theorem ord_run {o : CO} {i j : Int} {t : Bool} {x y : Value} (I : Inv X pins σv H s) (rx : RelV (.int i) x) (ry : RelV (.int j) y) (e : ordI o i j = some t) (q : Q (.bl t) H) :
    wpAny (model X.prog X.w) X.A (compareOp (copOf o) x y) (EP X pins σv Q) X.xe s := by
  cases o <;> simp only [ordI, Option.some.injEq, reduceCtorEq] at e
  · subst e; exact op_lt pins s σv H _ _ x y Q I rx ry ⟨i, j, rfl, rfl, q⟩
  · subst e; exact op_le pins s σv H _ _ x y Q I rx ry ⟨i, j, rfl, rfl, q⟩
  · subst e; exact op_gt pins s σv H _ _ x y Q I rx ry ⟨i, j, rfl, rfl, q⟩
  · subst e; exact op_ge pins s σv H _ _ x y Q I rx ry ⟨i, j, rfl, rfl, q⟩
theorem is_run {neg : Bool} {a b : W} {x y : V} {v u : Value} {t : Bool} (I : Inv X pins σv H s) (rx : RelV x v) (ry : RelV y u) (ra : RepW K N F ρ n a x) (rb : RepW K N F ρ n b y) (e : isW a b = some t) (q : Q (.bl (if neg then !t else t)) H) :
    wpAny (model X.prog X.w) X.A (compareOp (if neg then .IsNot else .Is) v u) (EP X pins σv Q) X.xe s := by
  unfold isW at e
  split at e
  · rename_i a'
    cases rb
    have ex : decide (x = .non) = t := by
      cases a' <;> simp only [Option.some.injEq] at e <;> subst e <;> simp only [RepW, Rep] at ra
      · subst ra; rfl
      · subst ra; rfl
      · subst ra; rfl
      · subst ra; rfl
      · obtain ⟨_, _, rfl, _⟩ := ra; rfl
      · obtain ⟨_, _, rfl, _⟩ := ra; rfl
      · obtain ⟨_, _, _, rfl, _⟩ := ra; rfl
      · obtain ⟨_, rfl, _⟩ := ra; rfl
    cases neg with
    | false => exact op_isN pins s σv H _ _ v u Q I rx ry ⟨rfl, by rw [ex]; exact q⟩
    | true => exact op_notN pins s σv H _ _ v u Q I rx ry ⟨rfl, by rw [ex]; exact q⟩
  · cases rb
    cases e
    obtain ⟨_, rfl⟩ := ra
    cases neg with
    | false => exact op_isN pins s σv H _ _ v u Q I rx ry ⟨rfl, q⟩
    | true => exact op_notN pins s σv H _ _ v u Q I rx ry ⟨rfl, q⟩
  · rename_i a' b'
    cases ra; cases rb; cases e
    cases neg with
    | false => exact op_isBl pins s σv H _ _ v u Q I rx ry ⟨a', b', rfl, rfl, by rw [show decide (a' = b') = (a' == b') by cases a' <;> cases b' <;> rfl]; exact q⟩
    | true => exact op_notBl pins s σv H _ _ v u Q I rx ry ⟨a', b', rfl, rfl, by rw [show decide (a' = b') = (a' == b') by cases a' <;> cases b' <;> rfl]; exact q⟩
  · cases e
theorem ResW.bl {b : Bool} (h : ResW K N W' σv F ρ G H Q (bL b G)) (g : Good K N F ρ G H) : Q (.bl b) H := h F ρ H _ Ext.refl g rfl
theorem ResW.il {i : Int} (h : ResW K N W' σv F ρ G H Q (iL i G)) (g : Good K N F ρ G H) : Q (.int i) H := h F ρ H _ Ext.refl g rfl
theorem intsD_ok : ∀ {ds : List D} {k : List Int} {vs : List V}, intsD ds = some k → RepL K N F ds vs → vs = k.map V.int
  | [], _, _, e, r => by
    simp only [intsD, Option.some.injEq] at e; subst e
    simp only [RepL] at r; subst r; rfl
  | .int i :: q, _, _, e, r => by
    simp only [intsD, Option.map_eq_some_iff] at e
    obtain ⟨k, e, rfl⟩ := e
    simp only [RepL] at r
    obtain ⟨v, vs, rfl, h1, h2⟩ := r
    cases h1
    rw [intsD_ok e h2]; rfl
  | .non :: _, _, _, e, _ => by simp [intsD] at e
  | .bl _ :: _, _, _, e, _ => by simp [intsD] at e
  | .str _ :: _, _, _, e, _ => by simp [intsD] at e
  | .tup _ :: _, _, _, e, _ => by simp [intsD] at e
  | .lst _ :: _, _, _, e, _ => by simp [intsD] at e
  | .ins _ _ :: _, _, _, e, _ => by simp [intsD] at e
  | .scr _ :: _, _, _, e, _ => by simp [intsD] at e
theorem tupI_ok {a : W} {k : List Int} {x : V} (e : tupI a = some k) (r : RepW K N F ρ n a x) : ∃ p, x = .ref p ∧ SqT K F p (k.map V.int) := by
  unfold tupI at e
  split at e
  · rename_i ds
    simp only [RepW, Rep] at r
    obtain ⟨p, vs, rfl, h1, h2⟩ := r
    have := intsD_ok e h2; subst this
    exact ⟨p, rfl, h1⟩
  · cases e
theorem stOf_ok {b : W} {ks : List (List Int)} {y : V} (g : Good K N F ρ G H) (e : stOf G b = some ks) (r : RepW K N F ρ G.length b y) :
    ∃ i L, b = .r i ∧ G[i]? = some (.st ks) ∧ y = .ref (ρ i) ∧ SetIn K N.P N.w H (ρ i) L ∧ (∀ p ∈ L, SqT K F p.1 (p.2.map V.int)) ∧ (∀ k, k ∈ L.map (·.2) ↔ k ∈ ks) ∧ L.length = ks.length := by
  unfold stOf at e
  split at e
  · rename_i i
    split at e
    · rename_i ks' hc
      cases e
      obtain ⟨_, rfl⟩ := r
      obtain ⟨_, L, h2, h3, h4, h5⟩ := g.cell i _ hc
      exact ⟨i, L, rfl, hc, rfl, ⟨h2, fun p hp => Same.seqT g.sub (h3 p hp)⟩, h3, h4, h5⟩
    · cases e
  · cases e
theorem inW_run {neg : Bool} {a b : W} {x y : V} {v u : Value} {t : Bool} (hK : X.K = K) (hS : N.P = X.prog ∧ N.w = X.w) (hu : X.A.units + 65 < cLine) (I : Inv X pins σv H s) (rx : RelV x v) (ry : RelV y u) (g : Good K N F ρ G H) (ra : RepW K N F ρ G.length a x) (rb : RepW K N F ρ G.length b y)
    (e : inW a b G = some t) (q : Q (.bl (if neg then !t else t)) H) : wpAny (model X.prog X.w) X.A (compareOp (if neg then .NotIn else .In) v u) (EP X pins σv Q) X.xe s := by
  unfold inW at e
  split at e
  · rename_i ks e1
    simp only [Option.map_eq_some_iff] at e
    obtain ⟨k, e2, rfl⟩ := e
    obtain ⟨i, L, rfl, _, rfl, h1, _, h3, _⟩ := stOf_ok g e1 rb
    obtain ⟨p, rfl, h4⟩ := tupI_ok e2 ra
    subst hK
    obtain ⟨e3, e4⟩ := hS
    rw [e3, e4] at h1
    have ek : decide (k ∈ L.map (·.2)) = decide (k ∈ ks) := decide_eq_decide.mpr (h3 k)
    cases neg with
    | false => exact or_sinT (by omega) pins s σv H _ _ v u Q I rx ry ⟨_, _, k, L, rfl, rfl, h1, Same.seqT g.sub h4, by rw [ek]; exact q⟩
    | true => exact or_snotinT (by omega) pins s σv H _ _ v u Q I rx ry ⟨_, _, k, L, rfl, rfl, h1, Same.seqT g.sub h4, by rw [ek]; exact q⟩
  · split at e
    · rename_i da db ea eb
      exact in_run hK hu I rx ry g ra rb ea eb e q
    · cases e
theorem cmp_run {Φ : Fns} {o : CO} {σ : Sl} {a b : W} {x y : V} {v u : Value} (oe : OwnEq K N W' Φ X) (oi : OwnIn K N W' Φ X) (hK : X.K = K) (hS : N.P = X.prog ∧ N.w = X.w) (hu : X.A.units + 65 < cLine) (I : Inv X pins σv H s) (rx : RelV x v) (ry : RelV y u) (g : Good K N F ρ G H) (rs : RepS K N F ρ G.length σ σv)
    (ra : RepW K N F ρ G.length a x) (rb : RepW K N F ρ G.length b y) (res : ResW K N W' σv F ρ G H Q (cmpW Φ o a b G)) : wpAny (model X.prog X.w) X.A (compareOp (copOf o) v u) (EP X pins σv Q) X.xe s := by
  have hu' : X.A.units + 64 < cLine := by omega
  unfold cmpW at res
  split at res
  · -- eq
    unfold eqW at res
    split at res
    · exact oe _ _ pins s σv H F ρ G σ b x y v u Q I rx ry g rs ra rb res
    · split at res
      · rename_i da db ea eb
        split at res
        · rename_i t e
          exact eq_run (neg := false) hK hu' I rx ry g ra rb ea eb e (ResW.bl res g)
        · exact res.elim
      · exact res.elim
  · -- ne
    split at res
    · exact res.elim
    · rename_i hne
      unfold eqW at res
      split at res
      · exact (hne _ _ rfl).elim
      · split at res
        · rename_i da db ea eb
          split at res
          · rename_i t e
            exact eq_run (neg := true) hK hu' I rx ry g ra rb ea eb e (ResW.bl (b := !t) res g)
          · exact res.elim
        · exact res.elim
  · -- in
    split at res
    · exact oi false _ _ pins s σv H F ρ G σ a x y v u Q I rx ry g rs rb ra res
    · split at res
      · rename_i t e
        exact inW_run (neg := false) hK hS hu I rx ry g ra rb e (ResW.bl res g)
      · exact res.elim
  · -- not in
    split at res
    · exact oi true _ _ pins s σv H F ρ G σ a x y v u Q I rx ry g rs rb ra res
    · split at res
      · rename_i t e
        exact inW_run (neg := true) hK hS hu I rx ry g ra rb e (ResW.bl res g)
      · exact res.elim
  · split at res
    · rename_i t e
      exact is_run (neg := false) I rx ry ra rb e (ResW.bl res g)
    · exact res.elim
  · split at res
    · rename_i t e
      exact is_run (neg := true) I rx ry ra rb e (ResW.bl res g)
    · exact res.elim
  · split at res
    · cases ra; cases rb
      split at res
      · rename_i t e
        exact ord_run I rx ry e (ResW.bl res g)
      · exact res.elim
    · exact res.elim
theorem RepWs.at : ∀ {ws : List W} {vs : List V}, RepWs K N F ρ n ws vs → ∀ (i : Nat) w, ws[i]? = some w → ∃ v, vs[i]? = some v ∧ RepW K N F ρ n w v
  | [], _, _, i, w, e => by simp at e
  | w :: r, vs, h, i, w', e1 => by
    simp only [RepWs] at h
    obtain ⟨v, q, rfl, h1, h2⟩ := h
    cases i with
    | zero => simp only [List.getElem?_cons_zero, Option.some.injEq] at e1; subst e1; exact ⟨v, rfl, h1⟩
    | succ i =>
      obtain ⟨v', e2, h3⟩ := RepWs.at h2 i w' (by simpa using e1)
      exact ⟨v', by simpa using e2, h3⟩
theorem atI_at {ws : List W} {vs : List V} (h : RepWs K N F ρ n ws vs) {i : Int} {w : W} (e : L2.atI ws i = some w) : ∃ v, L2.atI vs i = some v ∧ RepW K N F ρ n w v := by
  unfold L2.atI at e ⊢
  rw [← h.len]
  cases q : L2.ixN ws.length i with
  | none => rw [q] at e; simp at e
  | some j =>
    rw [q] at e
    obtain ⟨v, e2, h3⟩ := h.at j w (by simpa using e)
    exact ⟨v, by simpa using e2, h3⟩
/-- a subscript by its values -/
theorem sub_run {a b : W} {x y : V} {v u : Value} {value slice : Expr} (hK : X.K = K) (I : Inv X pins σv H s) (rx : RelV x v) (ry : RelV y u) (hs : subscripted slice false v u = operate [v, u] (getItem v u)) (g : Good K N F ρ G H)
    (ra : RepW K N F ρ G.length a x) (rb : RepW K N F ρ G.length b y) (res : ResW K N W' σv F ρ G H Q (subW a b G)) : wpAny (model X.prog X.w) X.A (subscriptTail value slice v u) (EP X pins σv Q) X.xe s := by
  unfold subW at res
  split at res
  · cases rb
    split at res
    · cases ra
      split at res
      · rename_i hl
        split at res
        · rename_i c e
          exact ix_str value slice pins s σv H _ _ v u Q I rx ry ⟨_, _, c, rfl, rfl, lineB_le hl, e, ResW.data res g rfl⟩ hs
        · exact res.elim
      · exact res.elim
    · split at res
      · rename_i w e
        simp only [Option.bind_eq_bind, Option.bind_eq_some_iff] at e
        obtain ⟨ws, e1, e2⟩ := e
        obtain ⟨p, vs, rfl, h1, h2⟩ := items_ok g ra e1
        obtain ⟨z, e3, h3⟩ := atI_at h2 e2
        subst hK
        rcases h1 with h1 | h1
        · exact ix_list value slice pins s σv H _ _ v u Q I rx ry ⟨p, vs, _, z, rfl, rfl, h1, e3, ResW.now res g h3⟩ hs
        · exact ix_tup value slice pins s σv H _ _ v u Q I rx ry ⟨p, vs, _, z, rfl, rfl, h1, e3, ResW.now res g h3⟩ hs
      · exact res.elim
  · exact res.elim
theorem RepWs.takeR : ∀ {ws : List W} {vs : List V}, RepWs K N F ρ n ws vs → ∀ k, RepWs K N F ρ n (ws.take k) (vs.take k)
  | _, _, h, 0 => by simp only [List.take_zero]; rfl
  | [], _, h, k + 1 => by simp only [RepWs] at h; subst h; rfl
  | w :: r, _, h, k + 1 => by
    simp only [RepWs] at h
    obtain ⟨v, q, rfl, h1, h2⟩ := h
    simp only [List.take_succ_cons, RepWs]
    exact ⟨_, _, rfl, h1, RepWs.takeR h2 k⟩
theorem RepWs.dropR : ∀ {ws : List W} {vs : List V}, RepWs K N F ρ n ws vs → ∀ k, RepWs K N F ρ n (ws.drop k) (vs.drop k)
  | _, _, h, 0 => h
  | [], _, h, k + 1 => by simp only [RepWs] at h; subst h; rfl
  | w :: r, _, h, k + 1 => by
    simp only [RepWs] at h
    obtain ⟨v, q, rfl, h1, h2⟩ := h
    simp only [List.drop_succ_cons]
    exact RepWs.dropR h2 k
theorem RepL.ofWs {ds : List D} {vs : List V} (h : RepWs K N F ρ n (ds.map .d) vs) : RepL K N F ds vs := by
  induction ds generalizing vs with
  | nil => simp only [List.map_nil, RepWs] at h; subst h; simp only [RepL]
  | cons x r ih =>
    simp only [List.map_cons, RepWs] at h
    obtain ⟨v, q, rfl, h1, h2⟩ := h
    simp only [RepL]
    exact ⟨v, q, rfl, h1, ih h2⟩
theorem cut_map {α β : Type} (f : α → β) (xs : List α) (lo hi : Option Int) : cut (xs.map f) lo hi = (cut xs lo hi).map f := by
  unfold cut
  simp [List.map_take, List.map_drop]
theorem cutWs {ws : List W} {vs : List V} (h : RepWs K N F ρ n ws vs) (lo hi : Option Int) : RepWs K N F ρ n (cut ws lo hi) (cutV vs lo hi) := by
  unfold cut cutV
  rw [← h.len]
  exact (h.dropR _).takeR _
/-- a slice by its values -/
theorem cut_sl {k : Nat} {a : W} {x : V} {lo hi : Option Int} {v vl vu : Value} {sl : Addr} (hK : X.K = K) (I : Inv X pins σv H s) (rx : RelV x v) (hs : s.heap.IsSliceOf sl vl vu .none) (pl : IsPart vl lo) (pu : IsPart vu hi) (g : Good K N F ρ G H) (ra : RepW K N F ρ G.length a x)
    (res : ResW K N W' σv F ρ G H Q (cutW k a lo hi G)) : ∃ T id, typeLookup (.type T) "__getitem__" = pure (some (.builtin id)) ∧ s.TypeIs v T ∧ wpAny (model X.prog X.w) X.A (getItem v (.ref sl)) (EP X pins σv Q) X.xe s := by
  subst hK
  unfold cutW at res
  split at res
  · cases ra
    split at res
    · rename_i hl
      exact sl_str pins s σv H _ v vl vu lo hi sl Q I rx hs pl pu ⟨_, rfl, lineB_le hl, ResW.data res g rfl⟩
    · exact res.elim
  · rename_i ds
    simp only [RepW, Rep] at ra
    obtain ⟨p, vs, rfl, h1, h2⟩ := ra
    have h3 : RepL X.K N F (cut ds lo hi) (cutV vs lo hi) := RepL.ofWs (ρ := ρ) (n := 0) (by rw [← cut_map]; exact cutWs h2.ws lo hi)
    refine sl_tupA pins s σv H _ v vl vu lo hi sl Q I rx hs pl pu ⟨p, vs, rfl, Same.seqT g.sub h1, fun hw => ?_, fun _ => ResW.newTup res g h3⟩
    have e1 : cutV vs lo hi = vs := by
      unfold cutV
      rw [hw.1, hw.2]
      simp
    rw [e1] at h3
    exact ResW.data res g (Rep.tupOf h1 h3)
  · split at res
    · rename_i ws e
      obtain ⟨p, vs, rfl, h1, h2⟩ := litems_ok g ra e
      exact sl_list pins s σv H _ v vl vu lo hi sl Q I rx hs pl pu ⟨p, vs, rfl, .inl (.inl h1), mkL_ok g (cutWs h2 lo hi) res⟩
    · exact res.elim
end
end Ev

end

-- part EvH
section
set_option Elab.async false
set_option linter.all false
namespace Ev
open PySem L2 PyProof.Rows
open Classical in
/-- F', without the lists that are not F's, and without cells -/
noncomputable def FB (F : Hp) (ρ : Nat → Addr) (G : Gs) (F' : Hp) : Hp := fun a => match F a with
  | some o => some o
  | none => if IsC ρ G a then none else (match F' a with
    | some (.lst _) => none
    | o => o)
section
variable {K : PySem.W.Frag} {N : Names} {F F' F1 F2 : Hp} {ρ ρ' ρ1 ρ2 : Nat → Addr} {G G' G1 G2 : Gs} {H H' H1 H2 : Hp} {n m : Nat} {W' : WX} {σv : L2.St}
variable {X : Cx} {pins : List (Addr × Obj)} {s : Shared} {Q : VK}
theorem Good.after (g : Good K N F ρ G H) (h1 : Same H H') (h2 : Same F F') (h3 : Same F' H') (h4 : ∀ a o, H a = some o → F a = none → F' a = none) : Good K N F' ρ G H' ∧ Ext F ρ G H F' ρ G H' := by
  refine ⟨⟨h3, fun i c e => (g.cell i c e).mono (Later.same h2) fun l => ?_, g.inj⟩, ⟨h2, Nat.le_refl _, fun _ _ => rfl, fun a o e _ => h1 a o e, fun a o e k => ⟨k, fun z => h4 a o e z⟩⟩⟩
  obtain ⟨f0, o, ho⟩ := (g.cell i c e).at l
  exact ⟨(h1 _ _ ho).trans ho.symm, h4 _ _ ho f0⟩
theorem allD_ok : ∀ {ws : List W} {vs : List V} {ds : List D}, RepWs K N F ρ n ws vs → allD ws = some ds → RepL K N F ds vs
  | [], _, _, r, e => by simp only [allD, Option.some.injEq] at e; subst e; simp only [RepWs] at r; subst r; simp only [RepL]
  | .d x :: q, _, _, r, e => by
    simp only [allD, Option.map_eq_some_iff] at e
    obtain ⟨ds, e1, rfl⟩ := e
    simp only [RepWs] at r
    obtain ⟨v, vs, rfl, h1, h2⟩ := r
    simp only [RepL]
    exact ⟨v, vs, rfl, h1, allD_ok h2 e1⟩
  | .r _ :: q, _, _, r, e => by simp [allD] at e
theorem FB.sub : Same F (FB F ρ G F') := fun a o e => by unfold FB; rw [e]
theorem FB.le (h : Same F F') : Same (FB F ρ G F') F' := fun a o e => by
  unfold FB at e
  split at e
  · rename_i u q; cases e; exact h _ _ q
  · split at e
    · cases e
    · split at e
      · cases e
      · exact e
theorem FB.at {a : Addr} {o : HO} (h0 : Same F F') (h : F' a = some o) (hl : ∀ vs, o ≠ .lst vs) (hc : ¬ IsC ρ G a) : FB F ρ G F' a = some o := by
  unfold FB
  split
  · rename_i u q
    rw [h0 _ _ q] at h; exact h
  · rw [if_neg hc, h]
    split
    · rename_i vs e; cases e; exact (hl vs rfl).elim
    · rfl
mutual
theorem Rep.back (h0 : Same F F') (hc : ∀ a o, IsC ρ G a → F' a = some o → ∃ vs, o = .lst vs) : ∀ {x : D} {v : V}, nolistB x = true → Rep K N F' x v → Rep K N (FB F ρ G F') x v
  | .non, _, _, r => r
  | .bl _, _, _, r => r
  | .int _, _, _, r => r
  | .str _, _, _, r => r
  | .lst _, _, h, _ => by simp [nolistB] at h
  | .scr _, _, h, _ => by simp [nolistB] at h
  | .tup ds, _, h, r => by
    simp only [Rep] at r ⊢
    obtain ⟨a, vs, rfl, h1, h2⟩ := r
    refine ⟨a, vs, rfl, ?_, RepL.back h0 hc (by simpa [nolistB] using h) h2⟩
    rcases h1 with (h1 | ⟨o, h1⟩) | h1
    · exact .inl (.inl (FB.at h0 h1 (fun _ z => nomatch z) fun z => by obtain ⟨_, e⟩ := hc _ _ z h1; cases e))
    · exact .inl (.inr ⟨o, FB.at h0 h1 (fun _ z => nomatch z) fun z => by obtain ⟨_, e⟩ := hc _ _ z h1; cases e⟩)
    · exact .inr h1
  | .ins c fs, _, h, r => by
    simp only [Rep] at r ⊢
    obtain ⟨a, dx, fv, rfl, h1, h2⟩ := r
    exact ⟨a, dx, fv, rfl, FB.at h0 h1 (fun _ z => nomatch z) fun z => by (obtain ⟨_, e⟩ := hc _ _ z h1; cases e), RepF.back h0 hc (by simpa [nolistB] using h) h2⟩
theorem RepL.back (h0 : Same F F') (hc : ∀ a o, IsC ρ G a → F' a = some o → ∃ vs, o = .lst vs) : ∀ {xs : List D} {vs : List V}, nolistB.nl xs = true → RepL K N F' xs vs → RepL K N (FB F ρ G F') xs vs
  | [], _, _, r => by simp only [RepL] at r ⊢; exact r
  | x :: q, _, h, r => by
    simp only [nolistB.nl, Bool.and_eq_true] at h
    simp only [RepL] at r ⊢
    obtain ⟨v, vs, rfl, h1, h2⟩ := r
    exact ⟨v, vs, rfl, Rep.back h0 hc h.1 h1, RepL.back h0 hc h.2 h2⟩
theorem RepF.back (h0 : Same F F') (hc : ∀ a o, IsC ρ G a → F' a = some o → ∃ vs, o = .lst vs) : ∀ {xs : List (Nat × D)} {vs : List (Str × V)}, nolistB.nf xs = true → RepF K N F' xs vs → RepF K N (FB F ρ G F') xs vs
  | [], _, _, r => by simp only [RepF] at r ⊢; exact r
  | (k, x) :: q, _, h, r => by
    simp only [nolistB.nf, Bool.and_eq_true] at h
    simp only [RepF] at r ⊢
    obtain ⟨v, vs, rfl, h1, h2⟩ := r
    exact ⟨v, vs, rfl, Rep.back h0 hc h.1 h1, RepF.back h0 hc h.2 h2⟩
end
theorem killT_get {i : Nat} {c : Cell} (e : (killT G)[i]? = some c) : ∃ d, G[i]? = some d ∧ (c = d ∧ (∀ ws, d ≠ .tp ws) ∨ c = .gone) := by
  unfold killT at e
  rw [List.getElem?_map, Option.map_eq_some_iff] at e
  obtain ⟨d, e1, e2⟩ := e
  refine ⟨d, e1, ?_⟩
  split at e2
  · exact .inr e2.symm
  · rename_i h; exact .inl ⟨e2.symm, fun ws z => h ws z⟩
theorem killT_len : (killT G).length = G.length := by unfold killT; rw [List.length_map]
theorem killT_isC {a : Addr} (h : IsC ρ (killT G) a) : ∃ i c, G[i]? = some c ∧ c.live = true ∧ ρ i = a ∧ ∀ ws, c ≠ .tp ws := by
  obtain ⟨i, c, e, l, rfl⟩ := h
  obtain ⟨d, e1, ⟨rfl, k⟩ | rfl⟩ := killT_get e
  · exact ⟨i, c, e1, l, rfl, k⟩
  · cases l
theorem killT_sub {a : Addr} (h : IsC ρ (killT G) a) : IsC ρ G a := let ⟨i, c, e, l, q, _⟩ := killT_isC h; ⟨i, c, e, l, q⟩
/-- behind a call to which cells were lent -/
theorem Good.lent (g : Good K N F ρ G H) (h1 : Same H H') (h2 : Same (FC F ρ G H) F') (h3 : Same F' H') (h4 : ∀ a o, H a = some o → FC F ρ G H a = none → F' a = none) :
    Good K N (FB F ρ (killT G) F') ρ (killT G) H' ∧ Ext F ρ G H (FB F ρ (killT G) F') ρ (killT G) H' ∧ ∀ a o, IsC ρ (killT G) a → F' a = some o → ∃ vs, o = .lst vs := by
  have h0 : Same F F' := FC.sub.trans h2
  have hfc : ∀ a, ¬ IsC ρ G a → F a = none → FC F ρ G H a = none := fun a k z => by
    unfold FC; rw [z]; simp only; rw [if_neg k]
  refine ⟨⟨(FB.le h0).trans h3, fun i c e => ?_, fun i j c d e1 e2 l1 l2 q => ?_⟩, ⟨FB.sub, Nat.le_of_eq killT_len.symm, fun _ _ => rfl, fun a o e _ => h1 a o e, fun a o e k => ⟨fun z => k (killT_sub z), fun z => ?_⟩⟩, fun a o k e => ?_⟩
  · rw [killT_len]
    obtain ⟨d, e1, ⟨rfl, nt⟩ | rfl⟩ := killT_get e
    · refine (g.cell i c e1).mono (Later.same FB.sub) fun l => ?_
      obtain ⟨f0, o, ho⟩ := (g.cell i c e1).at l
      refine ⟨(h1 _ _ ho).trans ho.symm, ?_⟩
      unfold FB
      rw [f0]
      simp only
      rw [if_pos ⟨i, c, e, l, rfl⟩]
    · trivial
  · obtain ⟨c', e3, ⟨rfl, _⟩ | rfl⟩ := killT_get e1
    · obtain ⟨d', e4, ⟨rfl, _⟩ | rfl⟩ := killT_get e2
      · exact g.inj i j c d e3 e4 l1 l2 q
      · cases l2
    · cases l1
  · unfold FB
    rw [z]
    simp only
    rw [if_neg (fun z => k (killT_sub z)), h4 a o e (hfc a k z)]
  · obtain ⟨i0, c0, ec, lc, rfl, nt⟩ := killT_isC k
    have k : IsC ρ G (ρ i0) := ⟨i0, c0, ec, lc, rfl⟩
    have notT : ∀ vs, H (ρ i0) ≠ some (.tup vs) := fun vs z => by
      have := g.cell i0 c0 ec
      cases c0 with
      | sh ds => obtain ⟨_, _, q, _⟩ := this; rw [q] at z; cases z
      | dp ds => obtain ⟨_, _, q, _⟩ := this; rw [q] at z; cases z
      | ob c fs => obtain ⟨_, _, _, q, _⟩ := this; rw [q] at z; cases z
      | st ks => obtain ⟨_, _, q, _⟩ := this; rw [q] at z; cases z
      | tp ws => exact nt _ rfl
      | fz x => cases lc
      | gone => cases lc
    obtain ⟨f0, u, hu⟩ := g.isC k
    by_cases hl : ∃ vs, u = .lst vs
    · obtain ⟨vs, rfl⟩ := hl
      have := h3 _ _ e
      rw [h1 _ _ hu] at this
      exact ⟨vs, (Option.some.inj this).symm⟩
    · have : FC F ρ G H (ρ i0) = none := by
        unfold FC; rw [f0]; simp only; rw [if_pos k, hu]
        split
        · rename_i vs q; cases q; exact (hl ⟨vs, rfl⟩).elim
        · rename_i vs q; cases q; exact (notT vs hu).elim
        · rfl
      rw [h4 (ρ i0) u hu this] at e; cases e
theorem RepX.mono {e : Exn} {cls : Value} {d : Option Addr} (hs : Same F F') (h : RepX K N F e cls d H) : RepX K N F' e cls d H := by
  refine ⟨h.1, ?_⟩
  rcases h.2 with z | ⟨dd, fv, e1, e2, k⟩
  · exact .inl z
  · exact .inr ⟨dd, fv, e1, e2, fun n x hx => let ⟨v, e3, r⟩ := k n x hx; ⟨v, e3, r.mono hs⟩⟩
theorem RepX.back {e : Exn} {cls : Value} {d : Option Addr} (h0 : Same F F') (hc : ∀ a o, IsC ρ G a → F' a = some o → ∃ vs, o = .lst vs) (hn : (e.fs.all fun p => nolistB p.2) = true) (h : RepX K N F' e cls d H) : RepX K N (FB F ρ G F') e cls d H := by
  refine ⟨h.1, ?_⟩
  rcases h.2 with z | ⟨dd, fv, e1, e2, k⟩
  · exact .inl z
  · refine .inr ⟨dd, fv, e1, e2, fun n x hx => ?_⟩
    obtain ⟨v, e3, r⟩ := k n x hx
    refine ⟨v, e3, Rep.back h0 hc ?_ r⟩
    have : (n, x) ∈ e.fs := by
      clear k e2 e3 r h0 hc h
      revert hx hn
      generalize e.fs = l
      intro hn hx
      induction l with
      | nil => simp at hx
      | cons p q ih =>
        obtain ⟨m, y⟩ := p
        rw [List.lookup_cons] at hx
        simp only [List.all_cons, Bool.and_eq_true] at hn
        split at hx
        · rename_i e4; cases hx; rw [eq_of_beq e4]; exact List.mem_cons_self
        · exact List.mem_cons_of_mem _ (ih hn.2 hx)
    exact (List.all_eq_true.mp hn) _ this
/-- a call: the promise is asked -/
theorem fcall_ok {φ : List D → PR} {ws : List W} {vs : List V} (g : Good K N F ρ G H) (r : RepWs K N F ρ G.length ws vs) (res : ResW K N W' σv F ρ G H Q (fcall φ ws G)) : spP K N φ vs H Q (fun cls d H' => W' cls d σv H') := by
  unfold fcall at res
  split at res
  · rename_i ds e
    refine ⟨F, ds, g.sub, allD_ok r e, ?_⟩
    cases q : φ ds with
    | ok x =>
      intro F' H' v a1 a2 a3 a4 a5
      obtain ⟨g1, x1⟩ := g.after a1 a2 a3 a4
      rw [q] at res
      exact res F' ρ H' v x1 g1 a5
    | exc z =>
      intro F' H' cls d a1 a2 a3 a4 a5
      obtain ⟨g1, x1⟩ := g.after a1 a2 a3 a4
      rw [q] at res
      exact res F' ρ H' cls d x1 g1 a5
    | no => rw [q] at res; exact res
  · split at res
    · exact res.elim
    · rename_i ds e
      have hrep : RepL K N (FC F ρ G H) ds vs := snL_ok (P := RepW K N F ρ G.length) (fun w v x r e => sn_ok g fzN w v x r e) r.len r.get e
      split at res
      · rename_i x q
        split at res
        · rename_i hn
          refine ⟨FC F ρ G H, ds, FC.same g.sub, hrep, ?_⟩
          rw [q]
          intro F' H' v a1 a2 a3 a4 a5
          obtain ⟨g1, x1, hc⟩ := g.lent a1 a2 a3 a4
          exact res _ _ _ _ x1 g1 (Rep.back (FC.sub.trans a2) hc hn a5)
        · split at res
          · rename_i p e2
            obtain ⟨xs, G1⟩ := p
            obtain ⟨F1, z, rl⟩ := fzL_ok (fz_ok fzN) ws F G vs xs G1 g r e2
            refine ⟨F1, xs, z.good.sub, rl, ?_⟩
            split at res
            · rename_i y e3
              rw [e3]
              intro F' H' v a1 a2 a3 a4 a5
              obtain ⟨g1, x1⟩ := z.good.after a1 a2 a3 a4
              exact res F' ρ H' v (z.ext.trans x1) g1 a5
            · exact res.elim
          · exact res.elim
      · rename_i z q
        split at res
        · rename_i hn
          refine ⟨FC F ρ G H, ds, FC.same g.sub, hrep, ?_⟩
          rw [q]
          intro F' H' cls d a1 a2 a3 a4 a5
          obtain ⟨g1, x1, hc⟩ := g.lent a1 a2 a3 a4
          exact res _ _ _ _ _ x1 g1 (RepX.back (FC.sub.trans a2) hc hn a5)
        · exact res.elim
      · exact res.elim
end
end Ev

end

-- part EvI
section
set_option Elab.async false
set_option linter.all false
namespace Ev
open PySem L2 PyProof.Rows
theorem PE.imp {X : Cx} {e : Expr} {t t' : TE} (h : PE X e t) (i : ∀ σ H Q, t' σ H Q → t σ H Q) : PE X e t' := ⟨fun pins s σ H Q I q => h.run pins s σ H Q I (i σ H Q q)⟩
theorem PT.imp {X : Cx} {e : Expr} {t t' : TT} (h : PT X e t) (i : ∀ σ H Q, t' σ H Q → t σ H Q) : PT X e t' := ⟨fun pins s σ H Q I q => h.run pins s σ H Q I (i σ H Q q)⟩
section
variable {K : PySem.W.Frag} {N : Names} {F F' F1 F2 : Hp} {ρ ρ' ρ1 ρ2 : Nat → Addr} {G G' G1 G2 : Gs} {H H' H1 H2 : Hp} {n m : Nat} {W' : WX} {σv : L2.St}
variable {X : Cx} {pins : List (Addr × Obj)} {s : Shared} {Q : VK}
/-- with values in hand: the rest of a reading -/
def Rd1 (K : PySem.W.Frag) (N : Names) (W' : WX) (gc : W → Sl → Gs → R W) (v : V) (σv : L2.St) (H : Hp) (Q : VK) : Prop :=
  ∃ F ρ G σ a, Good K N F ρ G H ∧ RepS K N F ρ G.length σ σv ∧ RepW K N F ρ G.length a v ∧ ResW K N W' σv F ρ G H Q (gc a σ G)
def Rd2 (K : PySem.W.Frag) (N : Names) (W' : WX) (gc : W → W → Sl → Gs → R W) (v u : V) (σv : L2.St) (H : Hp) (Q : VK) : Prop :=
  ∃ F ρ G σ a b, Good K N F ρ G H ∧ RepS K N F ρ G.length σ σv ∧ RepW K N F ρ G.length a v ∧ RepW K N F ρ G.length b u ∧ ResW K N W' σv F ρ G H Q (gc a b σ G)
def Rd3 (K : PySem.W.Frag) (N : Names) (W' : WX) (gc : W → W → W → Sl → Gs → R W) (v u z : V) (σv : L2.St) (H : Hp) (Q : VK) : Prop :=
  ∃ F ρ G σ a b c, Good K N F ρ G H ∧ RepS K N F ρ G.length σ σv ∧ RepW K N F ρ G.length a v ∧ RepW K N F ρ G.length b u ∧ RepW K N F ρ G.length c z ∧ ResW K N W' σv F ρ G H Q (gc a b c σ G)
theorem rd_mono {g : Sl → Gs → R W} {Q' : VK} (h : rd K N W' g σv H Q) (i : ∀ v H, Q v H → Q' v H) : rd K N W' g σv H Q' := by
  obtain ⟨F, ρ, G, σ, g1, s, res⟩ := h
  refine ⟨F, ρ, G, σ, g1, s, ?_⟩
  cases e : g σ G with
  | ok w G1 =>
    rw [e] at res
    exact fun F1 ρ1 H1 v x1 g1 r1 => i _ _ (res F1 ρ1 H1 v x1 g1 r1)
  | exc z G1 => rw [e] at res; exact res
  | no => rw [e] at res; exact res
theorem rd1 {ga : Sl → Gs → R W} {gc : W → Sl → Gs → R W} (h : rd K N W' (fun σ G => (ga σ G).bind fun a G1 => gc a σ G1) σv H Q) : rd K N W' ga σv H fun v H1 => Rd1 K N W' gc v σv H1 Q := by
  obtain ⟨F, ρ, G, σ, g, s, res⟩ := h
  refine ⟨F, ρ, G, σ, g, s, ?_⟩
  dsimp only at res
  cases e : ga σ G with
  | ok w G1 =>
    intro F1 ρ1 H1 v x1 g1 r1
    rw [e] at res
    exact ⟨F1, ρ1, G1, σ, w, g1, s.mono x1.later, r1, Res.later x1 res⟩
  | exc z G1 => rw [e] at res; exact res
  | no => rw [e] at res; exact res
theorem rd1b {ga : Sl → Gs → R W} {gc : W → W → Sl → Gs → R W} {v : V} (h : Rd1 K N W' (fun a σ G => (ga σ G).bind fun b G1 => gc a b σ G1) v σv H Q) : rd K N W' ga σv H fun u H1 => Rd2 K N W' gc v u σv H1 Q := by
  obtain ⟨F, ρ, G, σ, a, g, s, r, res⟩ := h
  refine ⟨F, ρ, G, σ, g, s, ?_⟩
  dsimp only at res
  cases e : ga σ G with
  | ok w G1 =>
    intro F1 ρ1 H1 v x1 g1 r1
    rw [e] at res
    exact ⟨F1, ρ1, G1, σ, a, w, g1, s.mono x1.later, r.mono x1.later, r1, Res.later x1 res⟩
  | exc z G1 => rw [e] at res; exact res
  | no => rw [e] at res; exact res
theorem rd2b {ga : Sl → Gs → R W} {gc : W → W → W → Sl → Gs → R W} {v u : V} (h : Rd2 K N W' (fun a b σ G => (ga σ G).bind fun c G1 => gc a b c σ G1) v u σv H Q) : rd K N W' ga σv H fun z H1 => Rd3 K N W' gc v u z σv H1 Q := by
  obtain ⟨F, ρ, G, σ, a, b, g, s, r, r', res⟩ := h
  refine ⟨F, ρ, G, σ, g, s, ?_⟩
  dsimp only at res
  cases e : ga σ G with
  | ok w G1 =>
    intro F1 ρ1 H1 v x1 g1 r1
    rw [e] at res
    exact ⟨F1, ρ1, G1, σ, a, b, w, g1, s.mono x1.later, r.mono x1.later, r'.mono x1.later, r1, Res.later x1 res⟩
  | exc z G1 => rw [e] at res; exact res
  | no => rw [e] at res; exact res
theorem rd2 {ga gb : Sl → Gs → R W} {gc : W → W → Sl → Gs → R W} (h : rd K N W' (fun σ G => (ga σ G).bind fun a G1 => (gb σ G1).bind fun b G2 => gc a b σ G2) σv H Q) :
    rd K N W' ga σv H fun v H1 => rd K N W' gb σv H1 fun u H2 => Rd2 K N W' gc v u σv H2 Q := rd_mono (rd1 (gc := fun a σ G1 => (gb σ G1).bind fun b G2 => gc a b σ G2) h) fun _ _ q => rd1b q
/-- a truth value decides -/
theorem rdC {ga gt ge : Sl → Gs → R W} (h : rd K N W' (fun σ G => cond3 (ga σ G) (fun G1 => gt σ G1) (fun G1 => ge σ G1)) σv H Q) :
    rd K N W' ga σv H fun v H1 => ∃ c, v = .bl c ∧ if c = true then rd K N W' gt σv H1 Q else rd K N W' ge σv H1 Q := by
  obtain ⟨F, ρ, G, σ, g, s, res⟩ := h
  refine ⟨F, ρ, G, σ, g, s, ?_⟩
  dsimp only at res
  unfold cond3 at res
  split at res
  · rename_i G1 e
    rw [e]
    intro F1 ρ1 H1 v x1 g1 r1
    cases r1
    refine ⟨true, rfl, ?_⟩
    rw [if_pos rfl]
    exact ⟨F1, ρ1, G1, σ, g1, s.mono x1.later, Res.later x1 res⟩
  · rename_i G1 e
    rw [e]
    intro F1 ρ1 H1 v x1 g1 r1
    cases r1
    refine ⟨false, rfl, ?_⟩
    rw [if_neg (by decide)]
    exact ⟨F1, ρ1, G1, σ, g1, s.mono x1.later, Res.later x1 res⟩
  · rename_i z G1 e
    rw [e]; exact res
  · exact res.elim
theorem rd_bl {b : Bool} (h : rd K N W' (fun _ G => bL b G) σv H Q) : Q (.bl b) H := by
  obtain ⟨F, ρ, G, σ, g, s, res⟩ := h
  exact ResW.bl res g
theorem RepS.at : ∀ {σ : Sl} {vs : L2.St}, RepS K N F ρ n σ vs → ∀ (i : Nat) w, σ[i]? = some (some w) → ∃ v, vs[i]? = some (some v) ∧ RepW K N F ρ n w v
  | [], _, _, i, w, e => by simp at e
  | x :: r, _, h, i, w, e => by
    simp only [RepS] at h
    obtain ⟨v, q, rfl, h1, h2⟩ := h
    cases i with
    | zero =>
      simp only [List.getElem?_cons_zero, Option.some.injEq] at e
      subst e
      obtain ⟨v', rfl, h3⟩ := h1
      exact ⟨v', rfl, h3⟩
    | succ i =>
      obtain ⟨v', e2, h3⟩ := RepS.at h2 i w (by simpa using e)
      exact ⟨v', by simpa using e2, h3⟩
end
/-- what the rules ask of a context -/
structure CxOk (K : PySem.W.Frag) (N : Names) (W' : WX) (Φ : Fns) (k : Nat) (X : Cx) : Prop where
  hK : X.K = K
  hS : N.P = X.prog ∧ N.w = X.w
  tk : Takes X W'
  room : Room k X.A
  calm : X.calm = true
  bin : OwnBin K N W' Φ X
  eq : OwnEq K N W' Φ X
  isin : OwnIn K N W' Φ X
section
variable {K : PySem.W.Frag} {N : Names} {W' : WX} {Φ : Fns} {k : Nat} {X : Cx} {a b c : Expr} {a' b' c' : E} {pos : Pos}
abbrev rdE (K : PySem.W.Frag) (N : Names) (W' : WX) (Φ : Fns) (e : E) : TE := rd K N W' (evE Φ e)
theorem CxOk.units (O : CxOk K N W' Φ k X) : X.A.units + 65 < cLine := by have := O.room.un; omega
theorem PE_var {i : Nat} {x : Str} (h : PE X (.Name x pos) (tVar i)) : PE X (.Name x pos) (rdE K N W' Φ (.var i)) := PE.imp h fun σv H Q q => by
  obtain ⟨F, ρ, G, σ, g, s, res⟩ := q
  simp only [evE] at res
  split at res
  · rename_i w e
    obtain ⟨v, e2, r⟩ := s.at i w e
    exact ⟨v, e2, ResW.now res g r⟩
  · exact res.elim
theorem PE_lit {e : Expr} {x : D} {v : V} (h : PE X e (tC v)) (r : ∀ F, Rep K N F x v) : PE X e (rdE K N W' Φ (.lit x)) := PE.imp h fun σv H Q q => by
  obtain ⟨F, ρ, G, σ, g, s, res⟩ := q
  exact ResW.data res g (r F)
theorem PE_bin {kb : Bool} {o : BO} (O : CxOk K N W' Φ k X) (ha : PE X a (rdE K N W' Φ a')) (hb : PE X b (rdE K N W' Φ b')) : PE X (.BinOp a (opOf o) b pos) (rdE K N W' Φ (.bin kb o a' b')) := by
  refine ⟨fun pins s σ H Q I h => ?_⟩
  refine wpAny_BinOp (binT (R := fun x y H2 => Rd2 K N W' (fun x y _ G => binW Φ (if kb then 1 else 0) o x y G) x y σ H2 Q) ha hb I (rd2 (by simpa only [rdE, evE] using h)) fun v u s2 x y H2 I2 rx ry q => ?_)
  obtain ⟨F, ρ, G, σ', a2, b2, g, s', ra, rb, res⟩ := q
  exact bin_run O.bin O.hK I2 rx ry g s' ra rb res
theorem PE_cmp {o : CO} (O : CxOk K N W' Φ k X) (ha : PE X a (rdE K N W' Φ a')) (hb : PE X b (rdE K N W' Φ b')) (hm : behindInMarks (copOf o) b = false) : PE X (.Compare a [copOf o] [b] pos) (rdE K N W' Φ (.cmp o a' b')) := by
  refine ⟨fun pins s σ H Q I h => ?_⟩
  refine wpAny_Compare1 (binT (R := fun x y H2 => Rd2 K N W' (fun x y _ G => cmpW Φ o x y G) x y σ H2 Q) ha hb I (rd2 (by simpa only [rdE, evE] using h)) fun v u s2 x y H2 I2 rx ry q => ?_) hm
  obtain ⟨F, ρ, G, σ', a2, b2, g, s', ra, rb, res⟩ := q
  exact cmp_run O.eq O.isin O.hK O.hS O.units I2 rx ry g s' ra rb res
/-- as a test -/
def rdT (K : PySem.W.Frag) (N : Names) (W' : WX) (Φ : Fns) (e : E) : TT := fun σ H Q => rdE K N W' Φ e σ H fun v H1 => ∃ c, v = .bl c ∧ Q c H1
theorem PT_cmp {o : CO} (O : CxOk K N W' Φ k X) (ha : PE X a (rdE K N W' Φ a')) (hb : PE X b (rdE K N W' Φ b')) (hm : behindInMarks (copOf o) b = false) : PT X (.Compare a [copOf o] [b] pos) (rdT K N W' Φ (.cmp o a' b')) := by
  refine ⟨fun pins s σ H Q I h => ?_⟩
  refine wpAny_isTrue_Compare1 (binT (R := fun x y H2 => Rd2 K N W' (fun x y _ G => cmpW Φ o x y G) x y σ H2 fun v H1 => ∃ c, v = .bl c ∧ Q c H1) ha hb I (rd2 (by simpa only [rdT, rdE, evE] using h)) fun v u s2 x y H2 I2 rx ry q => ?_) hm
  obtain ⟨F, ρ, G, σ', a2, b2, g, s', ra, rb, res⟩ := q
  refine thn (cmp_run O.eq O.isin O.hK O.hS O.units I2 rx ry g s' ra rb res) fun d s3 ⟨z, H3, I3, r3, c, e, q3⟩ => ?_
  subst e
  cases r3
  exact wpAny_truthy_bool ⟨H3, I3, q3⟩
/-- the second comparison of a chain, the first one's values in hand -/
theorem PE_and {rest : List Expr} (ha : PE X a (rdE K N W' Φ a')) (hb : PE X (.BoolOp .And (b :: rest) pos) (rdE K N W' Φ b')) : PE X (.BoolOp .And (a :: b :: rest) pos) (rdE K N W' Φ (.and a' b')) :=
  PE.imp (pe_and ha hb) fun σv H Q h => rd_mono (rdC (gt := evE Φ b') (ge := fun _ G => bL false G) (by simpa only [rdE, evE] using h)) fun v H1 q => by
    obtain ⟨c, rfl, q⟩ := q
    refine ⟨c, rfl, ?_⟩
    cases c with
    | true => rw [if_pos rfl] at q ⊢; exact q
    | false => rw [if_neg (by decide)] at q ⊢; exact rd_bl q
theorem PE_or {rest : List Expr} (ha : PE X a (rdE K N W' Φ a')) (hb : PE X (.BoolOp .Or (b :: rest) pos) (rdE K N W' Φ b')) : PE X (.BoolOp .Or (a :: b :: rest) pos) (rdE K N W' Φ (.or a' b')) :=
  PE.imp (pe_or ha hb) fun σv H Q h => rd_mono (rdC (gt := fun _ G => bL true G) (ge := evE Φ b') (by simpa only [rdE, evE] using h)) fun v H1 q => by
    obtain ⟨c, rfl, q⟩ := q
    refine ⟨c, rfl, ?_⟩
    cases c with
    | true => rw [if_pos rfl] at q ⊢; exact rd_bl q
    | false => rw [if_neg (by decide)] at q ⊢; exact q
theorem PW_and {rest : List Expr} (ha : PT X a (rdT K N W' Φ a')) (hb : PW X (.BoolOp .And (b :: rest) pos) (rdT K N W' Φ b')) : PW X (.BoolOp .And (a :: b :: rest) pos) (rdT K N W' Φ (.and a' b')) :=
  ⟨fun wh pins s σ H Q I h => (pw_and ha hb).run wh pins s σ H Q I (rd_mono (rdC (gt := evE Φ b') (ge := fun _ G => bL false G) (by simpa only [rdT, rdE, evE] using h)) fun v H1 q => by
    obtain ⟨c, rfl, q⟩ := q
    refine ⟨c, rfl, ?_⟩
    cases c with
    | true => rw [if_pos rfl] at q ⊢; exact q
    | false =>
      rw [if_neg (by decide)] at q ⊢
      obtain ⟨_, e, q⟩ := rd_bl q
      cases e; exact q)⟩
theorem PW_or {rest : List Expr} (ha : PT X a (rdT K N W' Φ a')) (hb : PW X (.BoolOp .Or (b :: rest) pos) (rdT K N W' Φ b')) : PW X (.BoolOp .Or (a :: b :: rest) pos) (rdT K N W' Φ (.or a' b')) :=
  ⟨fun wh pins s σ H Q I h => (pw_or ha hb).run wh pins s σ H Q I (rd_mono (rdC (gt := fun _ G => bL true G) (ge := evE Φ b') (by simpa only [rdT, rdE, evE] using h)) fun v H1 q => by
    obtain ⟨c, rfl, q⟩ := q
    refine ⟨c, rfl, ?_⟩
    cases c with
    | false => rw [if_neg (by decide)] at q ⊢; exact q
    | true =>
      rw [if_pos rfl] at q ⊢
      obtain ⟨_, e, q⟩ := rd_bl q
      cases e; exact q)⟩
theorem rd_not {σv : L2.St} {H : Hp} {Q : VK} (h : rdE K N W' Φ (.not a') σv H Q) : rdE K N W' Φ a' σv H fun v H1 => ∃ c, v = .bl c ∧ Q (.bl (!c)) H1 := by
  simp only [rdE, evE] at h
  refine rd_mono (rd1 h) fun v H1 q => ?_
  obtain ⟨F, ρ, G, σ, a, g, s, r, res⟩ := q
  dsimp only at res
  split at res
  · cases r; exact ⟨_, rfl, ResW.bl res g⟩
  · exact res.elim
theorem PE_not (ha : PE X a (rdE K N W' Φ a')) : PE X (.UnaryOp .Not a pos) (rdE K N W' Φ (.not a')) :=
  PE.imp (pe_not ha) fun σv H Q h => rd_not h
theorem PT_not (ha : PT X a (rdT K N W' Φ a')) : PT X (.UnaryOp .Not a pos) (rdT K N W' Φ (.not a')) :=
  PT.imp (pt_not ha) fun σv H Q h => rd_mono (rd_not h) fun v H1 q => by
    obtain ⟨c, rfl, _, e, q⟩ := q
    cases e
    exact ⟨c, rfl, q⟩
theorem PE_neg (ha : PE X a (rdE K N W' Φ a')) : PE X (.UnaryOp .USub a pos) (rdE K N W' Φ (.neg a')) :=
  PE.imp (pe_un un_neg ha) fun σv H Q h => rd_mono (rd1 (by simpa only [rdE, evE] using h)) fun v H1 q => by
    obtain ⟨F, ρ, G, σ, a, g, s, r, res⟩ := q
    dsimp only at res
    split at res
    · cases r; exact ⟨_, rfl, ResW.il res g⟩
    · exact res.elim
theorem PE_ite (hc : PT X c (rdT K N W' Φ c')) (ha : PE X a (rdE K N W' Φ a')) (hb : PE X b (rdE K N W' Φ b')) : PE X (.IfExp c a b pos) (rdE K N W' Φ (.ite c' a' b')) :=
  PE.imp (pe_ifExp hc ha hb) fun σv H Q h => rdC (by simpa only [rdE, evE] using h)
/-- a value's truth -/
theorem items_empty {F : Hp} {ρ : Nat → Addr} {n : Nat} {ws : List W} {vs : List V} (h : RepWs K N F ρ n ws vs) : (!ws.isEmpty) = !vs.isEmpty := by
  have := h.len
  cases ws <;> cases vs <;> simp at this ⊢
theorem truth_ok {F : Hp} {ρ : Nat → Addr} {G : Gs} {H : Hp} {w : W} {v : V} {t : Bool} (g : Good K N F ρ G H) (r : RepW K N F ρ G.length w v) (e : truthW G w = some t) : TruV K v H t := by
  unfold truthW at e
  split at e
  · cases r; cases e; exact rfl
  · cases r; cases e; exact rfl
  · cases r; cases e; exact rfl
  · cases r
    split at e
    · rename_i hl
      cases e
      refine ⟨lineB_le hl, ?_⟩
      rw [Bool.eq_iff_iff]
      simp only [bne_iff_ne, ne_eq]
      omega
    · cases e
  · simp only [Option.map_eq_some_iff] at e
    obtain ⟨ws, e1, rfl⟩ := e
    obtain ⟨p, vs, rfl, h1, h2⟩ := items_ok g r e1
    rcases h1 with h1 | h1
    · exact .inl ⟨vs, h1, items_empty h2⟩
    · exact .inr (.inl ⟨vs, h1, items_empty h2⟩)
theorem PT_truth (ha : PE X a (rdE K N W' Φ a')) (O : CxOk K N W' Φ k X) (he : ∀ whole, isTrue a X.env whole = (do let v ← whole; standAt a.pos; holding [v] (truthy v))) : PT X a (rdT K N W' Φ (.truth a')) :=
  PT.imp (pt_truth ha he) fun σv H Q h => rd_mono (rd1 (by simpa only [rdT, rdE, evE] using h)) fun v H1 q => by
    obtain ⟨F, ρ, G, σ, a, g, s, r, res⟩ := q
    dsimp only at res
    split at res
    · rename_i t e
      obtain ⟨_, e2, q⟩ := ResW.bl res g
      cases e2
      exact ⟨t, by rw [O.hK]; exact truth_ok g r e, q⟩
    · exact res.elim
end
end Ev

end

-- part EvJ
section
set_option Elab.async false
set_option linter.all false
namespace Ev
open PySem L2 PyProof.Rows
section
variable {K : PySem.W.Frag} {N : Names} {W' : WX} {Φ : Fns} {k : Nat} {X : Cx} {a b c : Expr} {a' b' c' : E} {pos : Pos} {σv : L2.St} {H : Hp} {Q : VK}
/-- an argument list -/
def rdA (K : PySem.W.Frag) (N : Names) (W' : WX) (g : Sl → Gs → R (List W)) : TA := fun σv H Q => ∃ F ρ G σ, Good K N F ρ G H ∧ RepS K N F ρ G.length σ σv ∧ Res K N (RepWs K N) W' σv F ρ G H Q (g σ G)
def RdA (K : PySem.W.Frag) (N : Names) (W' : WX) (gc : List W → Sl → Gs → R W) (vs : List V) (σv : L2.St) (H : Hp) (Q : VK) : Prop :=
  ∃ F ρ G σ ws, Good K N F ρ G H ∧ RepS K N F ρ G.length σ σv ∧ RepWs K N F ρ G.length ws vs ∧ ResW K N W' σv F ρ G H Q (gc ws σ G)
/-- with one value and a list in hand -/
def RdB (K : PySem.W.Frag) (N : Names) (W' : WX) (gc : W → List W → Sl → Gs → R W) (v : V) (vs : List V) (σv : L2.St) (H : Hp) (Q : VK) : Prop :=
  ∃ F ρ G σ a ws, Good K N F ρ G H ∧ RepS K N F ρ G.length σ σv ∧ RepW K N F ρ G.length a v ∧ RepWs K N F ρ G.length ws vs ∧ ResW K N W' σv F ρ G H Q (gc a ws σ G)
theorem rdA1 {ga : Sl → Gs → R (List W)} {gc : List W → Sl → Gs → R W} (h : rd K N W' (fun σ G => (ga σ G).bind fun a G1 => gc a σ G1) σv H Q) : rdA K N W' ga σv H fun vs H1 => RdA K N W' gc vs σv H1 Q := by
  obtain ⟨F, ρ, G, σ, g, s, res⟩ := h
  refine ⟨F, ρ, G, σ, g, s, ?_⟩
  dsimp only at res
  cases e : ga σ G with
  | ok w G1 =>
    intro F1 ρ1 H1 v x1 g1 r1
    rw [e] at res
    exact ⟨F1, ρ1, G1, σ, w, g1, s.mono x1.later, r1, Res.later x1 res⟩
  | exc z G1 => rw [e] at res; exact res
  | no => rw [e] at res; exact res
theorem rdA1b {ga : Sl → Gs → R (List W)} {gc : W → List W → Sl → Gs → R W} {v : V} (h : Rd1 K N W' (fun a σ G => (ga σ G).bind fun b G1 => gc a b σ G1) v σv H Q) : rdA K N W' ga σv H fun vs H1 => RdB K N W' gc v vs σv H1 Q := by
  obtain ⟨F, ρ, G, σ, a, g, s, r, res⟩ := h
  refine ⟨F, ρ, G, σ, g, s, ?_⟩
  dsimp only at res
  cases e : ga σ G with
  | ok w G1 =>
    intro F1 ρ1 H1 v x1 g1 r1
    rw [e] at res
    exact ⟨F1, ρ1, G1, σ, a, w, g1, s.mono x1.later, r.mono x1.later, r1, Res.later x1 res⟩
  | exc z G1 => rw [e] at res; exact res
  | no => rw [e] at res; exact res
theorem rdA_mono {g : Sl → Gs → R (List W)} {Q Q' : List V → Hp → Prop} (h : rdA K N W' g σv H Q) (i : ∀ v H, Q v H → Q' v H) : rdA K N W' g σv H Q' := by
  obtain ⟨F, ρ, G, σ, g1, s, res⟩ := h
  refine ⟨F, ρ, G, σ, g1, s, ?_⟩
  cases e : g σ G with
  | ok w G1 =>
    rw [e] at res
    exact fun F1 ρ1 H1 v x1 g1 r1 => i _ _ (res F1 ρ1 H1 v x1 g1 r1)
  | exc z G1 => rw [e] at res; exact res
  | no => rw [e] at res; exact res
theorem PA.imp {es : List Expr} {t t' : TA} (h : PA X es t) (i : ∀ σ H Q, t' σ H Q → t σ H Q) : PA X es t' := ⟨fun pos pins s σ H Q I q => h.run pos pins s σ H Q I (i σ H Q q)⟩
abbrev rdEs (K : PySem.W.Frag) (N : Names) (W' : WX) (Φ : Fns) (es : List E) : TA := rdA K N W' (evEs Φ es)
theorem PA_nil : PA X [] (rdEs K N W' Φ []) := PA.imp pa_nil fun σv H Q h => by
  obtain ⟨F, ρ, G, σ, g, s, res⟩ := h
  simp only [evEs] at res
  exact res F ρ H [] Ext.refl g rfl
theorem PA_cons {e : Expr} {es : List Expr} {e' : E} {es' : List E} (he : PE X e (rdE K N W' Φ e')) (hr : PA X es (rdEs K N W' Φ es')) (hs : starEach (e :: es) X.env = (false, eval e X.env) :: starEach es X.env) : PA X (e :: es) (rdEs K N W' Φ (e' :: es')) :=
  PA.imp (pa_cons he hr hs) fun σv H Q h => by
    obtain ⟨F, ρ, G, σ, g, s, res⟩ := h
    simp only [evEs] at res
    refine ⟨F, ρ, G, σ, g, s, ?_⟩
    cases e1 : evE Φ e' σ G with
    | ok w G1 =>
      intro F1 ρ1 H1 v x1 g1 r1
      rw [e1] at res
      refine ⟨F1, ρ1, G1, σ, g1, s.mono x1.later, ?_⟩
      simp only [R.bind] at res
      cases e2 : evEs Φ es' σ G1 with
      | ok ws G2 =>
        intro F2 ρ2 H2 vs x2 g2 r2
        rw [e2] at res
        exact res F2 ρ2 H2 (v :: vs) (x1.trans x2) g2 (by simp only [RepWs]; exact ⟨v, vs, rfl, r1.mono x2.later, r2⟩)
      | exc z G2 => rw [e2] at res; exact Res.later (RA := RepWs K N) (Q := fun xs H2 => Q (v :: xs) H2) (r := .exc z G2) x1 res
      | no => rw [e2] at res; exact res
    | exc z G1 => rw [e1] at res; exact res
    | no => rw [e1] at res; exact res
theorem PE_tup {es : List Expr} {es' : List E} {x1 : Nat} (h : PA X es (rdEs K N W' Φ es')) : PE X (.Tuple es x1 pos) (rdE K N W' Φ (.tup es')) :=
  PE.imp (pe_tup h) fun σv H Q h => rdA_mono (rdA1 (by simpa only [rdE, evE] using h)) fun vs H1 q => by
    obtain ⟨F, ρ, G, σ, ws, g, s, r, res⟩ := q
    exact ⟨by rw [← r.len]; exact mkT_len res, mkT_ok g r res⟩
theorem PE_lst {es : List Expr} {es' : List E} {kk : Nat} (h : PA X es (rdEs K N W' Φ es')) : PE X (.List es pos) (rdE K N W' Φ (.lst kk es')) :=
  PE.imp (pe_lst h) fun σv H Q h => rdA_mono (rdA1 (by simpa only [rdE, evE] using h)) fun vs H1 q => by
    obtain ⟨F, ρ, G, σ, ws, g, s, r, res⟩ := q
    exact ⟨by rw [← r.len]; exact mkL_len res, mkL_ok g r res⟩
theorem PE_sub (O : CxOk K N W' Φ k X) (ha : PE X a (rdE K N W' Φ a')) (hb : PE X b (rdE K N W' Φ b')) (hs : PlainIx b) : PE X (.Subscript a b pos) (rdE K N W' Φ (.sub a' b')) := by
  refine ⟨fun pins s σ H Q I h => ?_⟩
  refine Subscript_ (binT (R := fun x y H2 => Rd2 K N W' (fun x y _ G => subW x y G) x y σ H2 Q) ha hb I (rd2 (by simpa only [rdE, evE] using h)) fun v u s2 x y H2 I2 rx ry q => ?_)
  obtain ⟨F, ρ, G, σ', a2, b2, g, s', ra, rb, res⟩ := q
  exact sub_run O.hK I2 rx ry (hs _ _) g ra rb res
theorem lookF_ok {F : Hp} {f : Nat} {x : D} : ∀ {fs : List (Nat × D)} {fv : List (Str × V)}, RepF K N F fs fv → (∀ i j, N.an i = N.an j → i = j) → fs.lookup f = some x → ∃ v, fv.lookup (N.an f) = some v ∧ Rep K N F x v
  | [], _, _, _, e => by simp at e
  | (m, y) :: q, _, r, hn, e => by
    simp only [RepF] at r
    obtain ⟨v, vs, rfl, h1, h2⟩ := r
    rw [List.lookup_cons] at e ⊢
    by_cases hm : f = m
    · subst hm
      simp only [beq_self_eq_true] at e ⊢
      cases e
      exact ⟨v, rfl, h1⟩
    · have e1 : (f == m) = false := by simpa using hm
      have e2 : (N.an f == N.an m) = false := by simpa using fun z => hm (hn _ _ z)
      rw [e1] at e
      rw [e2]
      exact lookF_ok h2 hn e
theorem lookFW_ok {F : Hp} {ρ : Nat → Addr} {n : Nat} {f : Nat} {x : W} : ∀ {fs : List (Nat × W)} {fv : List (Str × V)}, RepFW K N F ρ n fs fv → (∀ i j, N.an i = N.an j → i = j) → fs.lookup f = some x → ∃ v, fv.lookup (N.an f) = some v ∧ RepW K N F ρ n x v
  | [], _, _, _, e => by simp at e
  | (m, y) :: q, _, r, hn, e => by
    simp only [RepFW] at r
    obtain ⟨v, vs, rfl, h1, h2⟩ := r
    rw [List.lookup_cons] at e ⊢
    by_cases hm : f = m
    · subst hm
      simp only [beq_self_eq_true] at e ⊢
      cases e
      exact ⟨v, rfl, h1⟩
    · have e1 : (f == m) = false := by simpa using hm
      have e2 : (N.an f == N.an m) = false := by simpa using fun z => hm (hn _ _ z)
      rw [e1] at e
      rw [e2]
      exact lookFW_ok h2 hn e
theorem lookF_no {F : Hp} {f : Nat} : ∀ {fs : List (Nat × D)} {fv : List (Str × V)}, RepF K N F fs fv → (∀ i j, N.an i = N.an j → i = j) → fs.lookup f = none → fv.lookup (N.an f) = none
  | [], _, r, _, e => by simp only [RepF] at r; subst r; rfl
  | (m, y) :: q, _, r, hn, e => by
    simp only [RepF] at r
    obtain ⟨v, vs, rfl, h1, h2⟩ := r
    rw [List.lookup_cons] at e ⊢
    by_cases hm : f = m
    · subst hm
      simp at e
    · have e1 : (f == m) = false := by simpa using hm
      have e2 : (N.an f == N.an m) = false := by simpa using fun z => hm (hn _ _ z)
      rw [e1] at e
      rw [e2]
      exact lookF_no h2 hn e
/-- what is known of the classes' attributes -/
structure Attrs (K : PySem.W.Frag) (N : Names) (Φ : Fns) : Prop where
  inj : ∀ i j, N.an i = N.an j → i = j
  cls : ∀ c f, Φ.fld c f = true → Cls K (N.cA c)
  no : ∀ c f, Φ.fld c f = true → NoAttr K (N.cA c) (N.an f)
theorem PE_attr {f : Nat} (O : CxOk K N W' Φ k X) (A : Attrs K N Φ) (ha : PE X a (rdE K N W' Φ a')) (hb : attributeBase a (N.an f) X.env (eval a X.env) = eval a X.env) : PE X (.Attribute a (N.an f) pos) (rdE K N W' Φ (.attr a' f)) :=
  PE.imp (pe_fld ha hb) fun σv H Q h => rd_mono (rd1 (by simpa only [rdE, evE] using h)) fun v H1 q => by
    obtain ⟨F, ρ, G, σ, w, g, s, r, res⟩ := q
    rw [O.hK]
    dsimp only at res
    unfold attrW at res
    split at res
    · rename_i c fs
      split at res
      · rename_i hf
        split at res
        · rename_i y e
          simp only [RepW, Rep] at r
          obtain ⟨p, dx, fv, rfl, h1, h2⟩ := r
          obtain ⟨u, e2, r2⟩ := lookF_ok h2 A.inj e
          exact ⟨p, _, dx, fv, u, rfl, g.sub _ _ h1, A.cls c f hf, A.no c f hf, e2, ResW.data res g r2⟩
        · exact res.elim
      · exact res.elim
    · rename_i i
      obtain ⟨hi, rfl⟩ := r
      split at res
      · rename_i c fs hc
        split at res
        · rename_i hf
          split at res
          · rename_i y e
            obtain ⟨_, dx, fv, h1, h2⟩ := g.cell i _ hc
            obtain ⟨u, e2, r2⟩ := lookFW_ok h2 A.inj e
            exact ⟨_, _, dx, fv, u, rfl, h1, A.cls c f hf, A.no c f hf, e2, ResW.now res g r2⟩
          · exact res.elim
        · exact res.elim
      · exact res.elim
    · exact res.elim
/-- a slice's part -/
def rdO (K : PySem.W.Frag) (N : Names) (W' : WX) (g : Sl → Gs → R (Option Int)) : TO := fun σv H Q => ∃ F ρ G σ, Good K N F ρ G H ∧ RepS K N F ρ G.length σ σv ∧ Res K N (fun _ _ _ w v => w = v) W' σv F ρ G H Q (g σ G)
theorem PO.imp {e : Option Expr} {t t' : TO} (h : PO X e t) (i : ∀ σ H Q, t' σ H Q → t σ H Q) : PO X e t' := ⟨fun pins s σ H Q I q => h.run pins s σ H Q I (i σ H Q q)⟩
theorem PO_none : PO X none (rdO K N W' (evO Φ none)) := PO.imp po_none fun σv H Q h => by
  obtain ⟨F, ρ, G, σ, g, s, res⟩ := h
  simp only [evO] at res
  exact res F ρ H none Ext.refl g rfl
theorem PO_some (ha : PE X a (rdE K N W' Φ a')) : PO X (some a) (rdO K N W' (evO Φ (some a'))) := PO.imp (po_some ha) fun σv H Q h => by
  obtain ⟨F, ρ, G, σ, g, s, res⟩ := h
  simp only [evO] at res
  refine ⟨F, ρ, G, σ, g, s, ?_⟩
  cases e1 : evE Φ a' σ G with
  | ok w G1 =>
    intro F1 ρ1 H1 v x1 g1 r1
    rw [e1] at res
    simp only [R.bind] at res
    unfold optI at res
    split at res
    · cases r1
      exact ⟨_, rfl, res F1 ρ1 H1 _ x1 g1 rfl⟩
    · exact res.elim
  | exc z G1 => rw [e1] at res; exact res
  | no => rw [e1] at res; exact res
theorem SlR_of (O : CxOk K N W' Φ k X) (kk : Nat) (σv : L2.St) (pins : List (Addr × Obj)) (s : Shared) (H : Hp) (Q : VK) {x : V} {lo hi : Option Int} {v vl vu : Value} {sl : Addr} (I : Inv X pins σv H s) (rx : RelV x v) (hs : s.heap.IsSliceOf sl vl vu .none) (pl : IsPart vl lo) (pu : IsPart vu hi)
    (h : Rd1 K N W' (fun a _ G => cutW kk a lo hi G) x σv H Q) : ∃ T id, typeLookup (.type T) "__getitem__" = pure (some (.builtin id)) ∧ s.TypeIs v T ∧ wpAny (model X.prog X.w) X.A (getItem v (.ref sl)) (EP X pins σv Q) X.xe s := by
  obtain ⟨F, ρ, G, σ, w, g, s', r, res⟩ := h
  exact cut_sl O.hK I rx hs pl pu g r res
/-- a[lo:hi]: as pe_slice, the slots known -/
theorem PE_sli {lo hi : Option Expr} {lo' hi' : Option E} {kk : Nat} {p2 : Pos} (O : CxOk K N W' Φ k X) (he : PE X a (rdE K N W' Φ a')) (hl : PO X lo (rdO K N W' (evO Φ lo'))) (hu : PO X hi (rdO K N W' (evO Φ hi'))) :
    PE X (.Subscript a (.Slice lo hi none p2) pos) (rdE K N W' Φ (.sli kk a' lo' hi')) := by
  refine ⟨fun pins s σ H Q I h => ?_⟩
  have h1 : rdE K N W' Φ a' σ H fun x H1 => rdO K N W' (evO Φ lo') σ H1 fun l H2 => rdO K N W' (evO Φ hi') σ H2 fun u H3 => Rd1 K N W' (fun a _ G => cutW kk a l u G) x σ H3 Q := by
    refine rd_mono (rd1 (by simpa only [rdE, evE] using h)) fun v H1 q => ?_
    obtain ⟨F, ρ, G, σ', w, g, s', r, res⟩ := q
    refine ⟨F, ρ, G, σ', g, s', ?_⟩
    dsimp only at res
    cases e1 : evO Φ lo' σ' G with
    | ok l G1 =>
      intro F1 ρ1 H1 l' x1 g1 r1
      subst r1
      rw [e1] at res
      refine ⟨F1, ρ1, G1, σ', g1, s'.mono x1.later, ?_⟩
      simp only [R.bind] at res
      cases e2 : evO Φ hi' σ' G1 with
      | ok u G2 =>
        intro F2 ρ2 H2 u' x2 g2 r2
        subst r2
        rw [e2] at res
        exact ⟨F2, ρ2, G2, σ', w, g2, s'.mono (x1.trans x2).later, r.mono (x1.trans x2).later, Res.later (x1.trans x2) res⟩
      | exc z G2 => rw [e2] at res; exact Res.later (RA := RepW K N) (Q := Q) (r := .exc z G2) x1 res
      | no => rw [e2] at res; exact res
    | exc z G1 => rw [e1] at res; exact res
    | no => rw [e1] at res; exact res
  refine Subscript_ (thn (he.run pins s σ H _ I h1) fun v s1 ⟨x, H1, I1, r1, q1⟩ => ?_)
  refine wpAny_Slice (thn (hl.run pins s1 σ H1 _ I1 q1) fun vl s2 ⟨l, H2, I2, pl, q2⟩ => thn (hu.run pins s2 σ H2 _ I2 q2) fun vu s3 ⟨u, H3, I3, pu, q3⟩ => ?_)
  rw [evalPart_none]
  refine wpAny_pure ?_
  have I4 : Inv X pins σ H3 { s3 with heap := s3.heap.push { cls := .type "slice", data := .fields #[vl, vu, .none] } } := I3.kept (t' := s3.toks) fun b ob q => Heap.get?_push_of_some _ q
  obtain ⟨T, id, hT, ht, hg⟩ := SlR_of O kk σ pins { s3 with heap := s3.heap.push { cls := .type "slice", data := .fields #[vl, vu, .none] } } H3 Q (sl := s3.heap.objs.size) I4 r1 (Heap.IsSliceOf.new ..) pl pu q3
  show wpAny (model X.prog X.w) X.A (subscriptTail a (.Slice lo hi none p2) v (.ref s3.heap.objs.size)) (EP X pins σ Q) X.xe { s3 with heap := s3.heap.push { cls := .type "slice", data := .fields #[vl, vu, .none] } }
  exact tail_any (ops := [.ref s3.heap.objs.size, v]) ht hT hg (by with_unfolding_all rfl)
end
end Ev

end

-- part EvK
section
set_option Elab.async false
set_option linter.all false
namespace PySem.W
open PySem PySem.Calls PyProof.Rows
section
variable {prog : Program} {w : World} {A : Around} {E : Value → Shared → Prop} {s : Shared}
theorem collect_tupE {l : Addr} {vs : List Value} {Q : List Value → Shared → Prop} (hl : s.heap.IsTuple l vs.toArray)
    (h : Q vs { s with heap := (s.heap.push (seqObj "list" #[] 0)).update s.heap.objs.size (Obj.mapSeq (· ++ vs.toArray)) }) (hsz : vs.length ≤ sizeLine) :
    wpAny (model prog w) A (collect (.ref l)) Q E s := by
  obtain ⟨o, ho, hc, n, hd⟩ := id hl
  unfold collect
  refine wpAny_bind (wpAny_runValue (codeAny_builtin entry_proto_collect' ?_))
  show wpAny _ _ (do again (.builtin "list.__iadd__" ⟨[← newList [], .ref l], []⟩)) _ _ s
  refine wpAny_bind (wpAny_newList (wpAny_pure ⟨Code.quiet_builtin _ (by decide +kernel), codeAny_builtin entry_list_iadd' ?_⟩))
  show wpAny _ _ (Builtin.List.listExtendWith (.ref s.heap.objs.size) (.ref l) (.ref s.heap.objs.size)) _ _ { s with heap := s.heap.push (seqObj "list" #[] 0) }
  unfold Builtin.List.listExtendWith
  have ho' : (s.heap.push (seqObj "list" #[] 0)).get? l = some o := Heap.get?_push_of_some _ ho
  refine wpAny_bind (wpAny_typeOf (T := "tuple") ⟨o, ho', hc⟩ ?_)
  have ht : (Value.type "tuple" == Value.type "tuple") = true := by rfl
  rw [if_pos (by rw [ht]; simp)]
  refine wpAny_bind (listItems_at ho' hd ?_)
  refine wpAny_bind (listItems_at (xs := #[]) (n := 0) (Heap.get?_push_size _ rfl) rfl ?_)
  rw [if_neg (by simp)]
  refine wpAny_bind (listUpdate_at (xs := #[]) (n := 0) (Heap.get?_push_size _ rfl) rfl ?_ (Nat.zero_le _) (by show (#[] ++ vs.toArray).size ≤ sizeLine + 1; simp only [Array.size_append, List.size_toArray, List.length_nil]; omega))
  refine wpAny_pure ?_
  show wpAny (model prog w) A (do
      let o ← load s.heap.objs.size
      match o.data with
      | .seq xs _ => pure xs.toList
      | _ => unsupported "internal:collect") Q E { s with heap := (s.heap.push (seqObj "list" #[] 0)).update s.heap.objs.size (Obj.mapSeq (· ++ vs.toArray)) }
  refine wpAny_bind (wpAny_load (get?_update_seq (Heap.get?_push_size _ rfl) _) ?_)
  show wpAny _ _ (pure ((#[] : Array Value) ++ vs.toArray).toList) Q E _
  rw [show ((#[] : Array Value) ++ vs.toArray).toList = vs by simp]
  exact wpAny_pure h
theorem sorted_of_sortT {l : Addr} {vs : List Value} {Q : Value → Shared → Prop} (hl : s.heap.IsTuple l vs.toArray) (hL : vs.length ≤ sizeLine)
    (body : ∀ E' : Value → Shared → Prop, wpAny (model prog w) A.in1.in1 (Builtin.«list.sort» ⟨[.ref (s.heap.objs.size + 1)], []⟩) (fun f s' => f = .done (.ret .none) ∧ Q (.ref (s.heap.objs.size + 1)) s') E' { s with heap := copyHeap s.heap vs }) :
    wpAny (model prog w) A (call (.builtin "sorted") [.ref l]) Q E s := by
  refine call_function_entry kind_sorted plain_sorted entry_sorted (args_sorted1 _) ?_
  unfold Builtin.«sorted»
  refine wpAny_bind (m := checkCount "sorted" 1 1 _) (wpAny_pure ?_)
  refine wpAny_bind (collect_tupE hl ?_ hL)
  refine wpAny_bind (wpAny_newList ?_ hL)
  have hsz : ((s.heap.push (seqObj "list" #[] 0)).update s.heap.objs.size (Obj.mapSeq (· ++ vs.toArray))).objs.size = s.heap.objs.size + 1 := by
    rw [Heap.size_update, size_push']
  show wpAny _ _ _ _ _ { s with heap := copyHeap s.heap vs }
  rw [hsz]
  refine wpAny_bind (wpAny_holding (wpAny_call_entry_kw slot_list_sort ⟨_, copyHeap_at s.heap vs, rfl⟩ entry_list_sort ?body (args_list_sort _)))
  case body =>
    show wpAny (model prog w) A.in1.in1 (Builtin.«list.sort» ⟨[.ref (s.heap.objs.size + 1)], []⟩) _ _ _
    refine wpAny_mono (body _) (fun f s' hf => ?_) fun _ _ e => e
    obtain ⟨rfl, hq⟩ := hf
    exact ⟨_, rfl, wpAny_pure ⟨_, rfl, hq⟩⟩
theorem sorted_dataT {β : Type} {vs : List Value} {bs : List β} {enc : β → PyData} {R : Value → β → Prop} {l : Addr} {Q : Value → Shared → Prop} (hl : s.heap.IsTuple l vs.toArray) (e : EachIs R vs bs) (er : EachIs (fun v b => ∃ as, Reads s.heap v (enc b) as) vs bs) (hal : AllAlike (bs.map enc)) (hk : Sortable (bs.map enc)) (hL : bs.length ≤ sizeLine)
    (hu : ∀ b, b ∈ bs → A.units + 2 + (enc b).depth < cLine) (h : ∀ out, out.length = bs.length → EachIs R out (bs.mergeSort (dataLe false enc)) → Q (.ref (s.heap.objs.size + 1)) { s with heap := sortedAll s.heap vs (List.toArray out) }) :
    wpAny (model prog w) A (call (.builtin "sorted") [.ref l]) Q E s := by
  have er' : EachIs (fun v b => ∃ as, Reads (sortingHeap (copyHeap s.heap vs) (s.heap.objs.size + 1) vs) v (enc b) as) vs bs := er.mono fun _ _ ⟨as, r⟩ => ⟨as, PyProof.Rows.Reads.keeps (fun _ _ => sorting_copy_old) r⟩
  refine sorted_of_sortT hl (by rw [e.length]; exact hL) fun _ => list_sort_vals (s := { s with heap := copyHeap s.heap vs }) (copyHeap_at s.heap vs) (SortsAt.data (s := { s with heap := sortingHeap (copyHeap s.heap vs) (s.heap.objs.size + 1) vs }) (each_map (R := fun v d => ∃ as, Reads (sortingHeap (copyHeap s.heap vs) (s.heap.objs.size + 1) vs) v d as) enc er') hal hk (bound_map hu)) (by rw [e.length]; exact hL) ⟨rfl, ?_⟩
  exact h _ (by rw [sortVals_length false rfl]; exact e.length) (sortVals_data false e er' hal)
end
end PySem.W
namespace Ev
open PySem L2 PyProof.Rows
def bfVal : BF → Value
  | .len => .builtin "len" | .tuple => .type "tuple" | .list => .type "list" | .int => .type "int" | .str => .type "str" | .abs => .builtin "abs" | .sum => .builtin "sum" | .any => .builtin "any" | .all => .builtin "all"
  | .min1 => .builtin "min" | .min2 => .builtin "min" | .max1 => .builtin "max" | .max2 => .builtin "max" | .sorted => .builtin "sorted" | .repr => .builtin "repr" | .set => .type "set"
/-- len of an own instance -/
def OwnLen (K : PySem.W.Frag) (N : Names) (W' : WX) (Φ : Fns) (X : Cx) : Prop :=
  ∀ (c : Nat) (fs : List (Nat × D)) (pins : List (Addr × Obj)) (s : Shared) (σv : L2.St) (H F : Hp) (ρ : Nat → Addr) (G : Gs) (σ : Sl) (x : V) (us : List Value) (Q : VK),
    Inv X pins σv H s → Vals [x] us → Good K N F ρ G H → RepS K N F ρ G.length σ σv → RepW K N F ρ G.length (.d (.ins c fs)) x → ResW K N W' σv F ρ G H Q (lenW Φ (.d (.ins c fs)) G) →
    wpAny (model X.prog X.w) X.A (call (.builtin "len") us) (EP X pins σv Q) X.xe s
section
variable {K : PySem.W.Frag} {N : Names} {W' : WX} {Φ : Fns} {k : Nat} {X : Cx} {σv : L2.St} {H F : Hp} {Q : VK} {ρ : Nat → Addr} {G : Gs} {pins : List (Addr × Obj)} {s : Shared}
theorem intsW_ok : ∀ {ws : List W} {vs : List V} {ns : List Int} {n : Nat}, RepWs K N F ρ n ws vs → intsW ws = some ns → vs = ns.map V.int
  | [], _, _, _, r, e => by simp only [intsW, Option.some.injEq] at e; subst e; simp only [RepWs] at r; subst r; rfl
  | w :: q, _, _, _, r, e => by
    simp only [RepWs] at r
    obtain ⟨v, vs, rfl, h1, h2⟩ := r
    cases w with
    | r i => simp [intsW] at e
    | d x =>
      cases x with
      | int i =>
        simp only [intsW, Option.map_eq_some_iff] at e
        obtain ⟨ns, e1, rfl⟩ := e
        cases h1
        rw [intsW_ok h2 e1]; rfl
      | _ => simp [intsW] at e
theorem boolsW_ok : ∀ {ws : List W} {vs : List V} {ns : List Bool} {n : Nat}, RepWs K N F ρ n ws vs → boolsW ws = some ns → vs = ns.map V.bl
  | [], _, _, _, r, e => by simp only [boolsW, Option.some.injEq] at e; subst e; simp only [RepWs] at r; subst r; rfl
  | w :: q, _, _, _, r, e => by
    simp only [RepWs] at r
    obtain ⟨v, vs, rfl, h1, h2⟩ := r
    cases w with
    | r i => simp [boolsW] at e
    | d x =>
      cases x with
      | bl i =>
        simp only [boolsW, Option.map_eq_some_iff] at e
        obtain ⟨ns, e1, rfl⟩ := e
        cases h1
        rw [boolsW_ok h2 e1]; rfl
      | _ => simp [boolsW] at e
theorem foldl_min : ∀ (r : List Int) (a : Int), (r.foldl min a = a ∨ r.foldl min a ∈ r) ∧ r.foldl min a ≤ a ∧ ∀ y ∈ r, r.foldl min a ≤ y
  | [], a => ⟨.inl rfl, Int.le_refl _, fun _ h => by simp at h⟩
  | b :: r, a => by
    obtain ⟨h1, h2, h3⟩ := foldl_min r (min a b)
    simp only [List.foldl_cons]
    refine ⟨?_, by omega, fun y hy => ?_⟩
    · rcases h1 with h1 | h1
      · rw [h1]
        by_cases c : a ≤ b
        · exact .inl (by omega)
        · exact .inr (by rw [show min a b = b by omega]; exact List.mem_cons_self)
      · exact .inr (List.mem_cons_of_mem _ h1)
    · rcases List.mem_cons.mp hy with rfl | hy
      · omega
      · exact h3 y hy
theorem foldl_max : ∀ (r : List Int) (a : Int), (r.foldl max a = a ∨ r.foldl max a ∈ r) ∧ a ≤ r.foldl max a ∧ ∀ y ∈ r, y ≤ r.foldl max a
  | [], a => ⟨.inl rfl, Int.le_refl _, fun _ h => by simp at h⟩
  | b :: r, a => by
    obtain ⟨h1, h2, h3⟩ := foldl_max r (max a b)
    simp only [List.foldl_cons]
    refine ⟨?_, by omega, fun y hy => ?_⟩
    · rcases h1 with h1 | h1
      · rw [h1]
        by_cases c : b ≤ a
        · exact .inl (by omega)
        · exact .inr (by rw [show max a b = b by omega]; exact List.mem_cons_self)
      · exact .inr (List.mem_cons_of_mem _ h1)
    · rcases List.mem_cons.mp hy with rfl | hy
      · omega
      · exact h3 y hy
theorem minL_ok {ns : List Int} {m : Int} (h : minL ns = some m) : 0 < ns.length ∧ ∀ m', m' ∈ ns → (∀ y, y ∈ ns → m' ≤ y) → m' = m := by
  cases ns with
  | nil => simp [minL] at h
  | cons a r =>
    simp only [minL, Option.some.injEq] at h
    obtain ⟨h1, h2, h3⟩ := foldl_min r a
    refine ⟨by simp, fun m' hm hy => ?_⟩
    rw [h] at h1 h2 h3
    have l1 : m' ≤ m := by
      rcases h1 with h1 | h1
      · exact hy m (by rw [h1]; exact List.mem_cons_self)
      · exact hy m (List.mem_cons_of_mem _ h1)
    rcases List.mem_cons.mp hm with rfl | hm
    · omega
    · have := h3 m' hm; omega
theorem maxL_ok {ns : List Int} {m : Int} (h : maxL ns = some m) : 0 < ns.length ∧ ∀ m', m' ∈ ns → (∀ y, y ∈ ns → y ≤ m') → m' = m := by
  cases ns with
  | nil => simp [maxL] at h
  | cons a r =>
    simp only [maxL, Option.some.injEq] at h
    obtain ⟨h1, h2, h3⟩ := foldl_max r a
    refine ⟨by simp, fun m' hm hy => ?_⟩
    rw [h] at h1 h2 h3
    have l1 : m ≤ m' := by
      rcases h1 with h1 | h1
      · exact hy m (by rw [h1]; exact List.mem_cons_self)
      · exact hy m (List.mem_cons_of_mem _ h1)
    rcases List.mem_cons.mp hm with rfl | hm
    · omega
    · have := h3 m' hm; omega
theorem sitems_ok {w : W} {v : V} {ws : List W} (g : Good K N F ρ G H) (r : RepW K N F ρ G.length w v) (e : sitems G w = some ws) :
    ∃ a vs, v = .ref a ∧ SqL K H a vs ∧ RepWs K N F ρ G.length ws vs := by
  unfold sitems at e
  split at e
  · rename_i ns
    simp only [RepW, Rep] at r
    obtain ⟨a, rfl, h1⟩ := r
    simp only [Option.some.injEq] at e
    subst e
    refine ⟨a, ns.map V.int, rfl, g.sub.seq h1, ?_⟩
    clear h1
    induction ns with
    | nil => rfl
    | cons i r ih => simp only [List.map_cons, RepWs]; exact ⟨_, _, rfl, rfl, ih⟩
  · obtain ⟨a, vs, rfl, h1, h2⟩ := litems_ok g r e
    exact ⟨a, vs, rfl, .inl (.inl h1), h2⟩
theorem each_of {F : Hp} : ∀ {ds : List D} {vs : List V} {its : List Value}, RepL K N F ds vs → Vals vs its → PySem.W.EachIs (fun u d => ∃ v, RelV v u ∧ Rep K N F d v) its ds
  | [], _, _, h, r => by simp only [RepL] at h; subst h; cases r; exact .nil
  | d :: ds, _, _, h, r => by
    simp only [RepL] at h
    obtain ⟨v, q, rfl, h1, h2⟩ := h
    cases r with
    | cons r1 r2 => exact .cons ⟨v, r1, h1⟩ (each_of h2 r2)
theorem of_each {F : Hp} : ∀ {ds : List D} {out : List Value}, PySem.W.EachIs (fun u d => ∃ v, RelV v u ∧ Rep K N F d v) out ds → ∃ vs, Vals vs out ∧ RepL K N F ds vs
  | _, _, .nil => ⟨[], .nil, rfl⟩
  | _, _, .cons ⟨v, r1, h1⟩ t => by
    obtain ⟨vs, h2, h3⟩ := of_each t
    exact ⟨v :: vs, .cons r1 h2, by simp only [RepL]; exact ⟨v, vs, rfl, h1, h3⟩⟩
theorem sort_run {kk : Nat} {w : W} {x : V} {us : List Value} (O : CxOk K N W' Φ k X) (I : Inv X pins σv H s) (ru : Vals [x] us) (g : Good K N F ρ G H) (rx : RepW K N F ρ G.length w x)
    (res : ResW K N W' σv F ρ G H Q (sortW kk w G)) : wpAny (model X.prog X.w) X.A (call (.builtin "sorted") us) (EP X pins σv Q) X.xe s := by
  have hK := O.hK
  subst hK
  unfold sortW at res
  split at res
  case h_2 => exact res.elim
  rename_i ws e
  obtain ⟨p, vs, rfl, h1, h2⟩ := items_ok g rx e
  split at res
  case h_2 => exact res.elim
  rename_i q e2
  obtain ⟨ds, G1⟩ := q
  obtain ⟨F1, z, rl⟩ := fzL_ok (fz_ok fzN) ws F G vs ds G1 g h2 e2
  dsimp only at res
  split at res
  case isFalse => exact res.elim
  rename_i hs
  simp only [Bool.and_eq_true] at hs
  obtain ⟨hs, hl⟩ := hs
  have hline := lineB_le hl
  unfold sortOk at hs
  simp only [Bool.and_eq_true, Bool.or_eq_true] at hs
  obtain ⟨⟨⟨s1, s2⟩, s3⟩, s4⟩ := hs
  obtain ⟨u, rfl, rx1⟩ := vals1 ru
  obtain rfl : u = Value.ref p := rx1
  have hal : PySem.W.AllAlike (ds.map pyD) := fun a ha b hb => by
    obtain ⟨a', ha', rfl⟩ := List.mem_map.mp ha
    obtain ⟨b', hb', rfl⟩ := List.mem_map.mp hb
    exact List.all_eq_true.mp (List.all_eq_true.mp s2 a' ha') b' hb'
  have hk : PySem.W.Sortable (ds.map pyD) := by
    rcases s3 with s3 | s3
    · refine .inl fun a ha => ?_
      obtain ⟨a', ha', rfl⟩ := List.mem_map.mp ha
      have := List.all_eq_true.mp s3 a' ha'
      split at this
      · rename_i y r q; exact ⟨y, r, q⟩
      · cases this
    · refine .inr fun a ha => ?_
      obtain ⟨a', ha', rfl⟩ := List.mem_map.mp ha
      have := List.all_eq_true.mp s3 a' ha'
      split at this
      · cases this
      · cases this
      · rename_i n1 n2; exact ⟨n1, n2⟩
  have hu : ∀ b, b ∈ ds → X.A.units + 2 + (pyD b).depth < cLine := fun b hb => by
    have := of_decide_eq_true (List.all_eq_true.mp s4 b hb)
    have := O.units
    omega
  have fin : ∀ (its : List Value) (out : List Value), out.length = ds.length → PySem.W.EachIs (fun u d => ∃ v, RelV v u ∧ Rep X.K N F1 d v) out (ds.mergeSort (PySem.W.dataLe false pyD)) → EP X pins σv Q (.ref (s.heap.objs.size + 1)) { s with heap := PyProof.Rows.sortedAll s.heap its (List.toArray out) } := fun its out ho he => by
    obtain ⟨vs', r1, r2⟩ := of_each he
    obtain ⟨ep, he'⟩ := PyProof.Rows.sortedAll_at s.heap its out.toArray
    have hlen : vs'.length ≤ sizeLine := by rw [r1.length, ho]; exact hline
    exact ⟨.ref _, upd H (s.heap.objs.size + 1) (.lst vs'), I.laid (t' := s.toks) (fun _ _ => PyProof.Rows.sortedAll_old) (Nat.le_succ _) ⟨hlen, out, ep, r1, he'⟩, rfl, mkL_ok z.good (r2.ws) (Res.later z.ext res) _ (I.hok.fresh (Nat.le_succ _))⟩
  have reads : ∀ {its : List Value}, Vals vs its → PySem.W.EachIs (fun u d => ∃ as, PySem.Reads s.heap u (pyD d) as) its ds := fun {its} rv => by
    have hall : ∀ d ∈ ds, ∃ q, py d = some q := fun d hd => Option.isSome_iff_exists.mp (List.all_eq_true.mp s1 d hd)
    have key : ∀ {ds : List D} {vs : List V} {its : List Value}, (∀ d ∈ ds, ∃ q, py d = some q) → RepL X.K N F1 ds vs → Vals vs its → PySem.W.EachIs (fun u d => ∃ as, PySem.Reads s.heap u (pyD d) as) its ds := by
      intro ds
      induction ds with
      | nil => intro vs its _ h r; simp only [RepL] at h; subst h; cases r; exact .nil
      | cons d ds ih =>
        intro vs its ha h r
        simp only [RepL] at h
        obtain ⟨v, q, rfl, h1, h2⟩ := h
        cases r with
        | cons r1 r2 =>
          obtain ⟨pd, hpd⟩ := ha d (by simp)
          refine .cons ?_ (ih (fun e he => ha e (by simp [he])) h2 r2)
          have := Dp.reads I pd v _ (Rep.dp z.good.sub h1 hpd) r1
          unfold pyD
          rw [hpd]
          exact this
    exact key hall rl rv
  rcases h1 with h1 | h1
  · obtain ⟨its, rv, pl, _⟩ := I.list h1
    exact PySem.W.sorted_data pl.isList (each_of rl rv) (reads rv) hal hk hline hu fun out ho he => fin its out ho he
  · obtain ⟨its, rv, pl, _⟩ := I.tuple h1
    exact PySem.W.sorted_dataT (show s.heap.IsTuple p its.toArray from pl) (each_of rl rv) (reads rv) hal hk hline hu fun out ho he => fin its out ho he
theorem blt_run {b : BF} {kk : Nat} {σ : Sl} {ws : List W} {vs : List V} {us : List Value} (O : CxOk K N W' Φ k X) (ol : OwnLen K N W' Φ X) (I : Inv X pins σv H s) (ru : Vals vs us) (g : Good K N F ρ G H) (rs : RepS K N F ρ G.length σ σv) (r : RepWs K N F ρ G.length ws vs)
    (res : ResW K N W' σv F ρ G H Q (bltW Φ kk b ws G)) : wpAny (model X.prog X.w) X.A (call (bfVal b) us) (EP X pins σv Q) X.xe s := by
  have hK := O.hK
  subst hK
  unfold bltW at res
  split at res
  · -- len
    obtain ⟨x, rfl, rx⟩ : ∃ x, vs = [x] ∧ RepW X.K N F ρ G.length _ x := by
      simp only [RepWs] at r; obtain ⟨v, q, rfl, h1, rfl⟩ := r; exact ⟨v, rfl, h1⟩
    revert res
    unfold lenW
    intro res
    split at res
    · cases rx
      split at res
      · rename_i hl
        exact call_len pins s σv H _ us Q I ru ⟨_, _, rfl, ⟨lineB_le hl, rfl⟩, ResW.il res g⟩
      · exact res.elim
    · exact ol _ _ pins s σv H F ρ G σ x us Q I ru g rs rx (by unfold lenW; exact res)
    · split at res
      · rename_i ws e
        obtain ⟨p, vs, rfl, h1, h2⟩ := items_ok g rx e
        have q : Q (.int ws.length) H := ResW.il res g
        rcases h1 with h1 | h1
        · exact call_len pins s σv H _ us Q I ru ⟨_, _, rfl, .inl ⟨vs, h1, h2.len⟩, q⟩
        · exact call_len pins s σv H _ us Q I ru ⟨_, _, rfl, .inr ⟨vs, h1, h2.len⟩, q⟩
      · exact res.elim
  · -- tuple(t)
    simp only [RepWs] at r; obtain ⟨x, q, rfl, rx, rfl⟩ := r
    simp only [RepW, Rep] at rx
    obtain ⟨p, vs, rfl, h1, h2⟩ := rx
    exact call_tupleT pins s σv H _ us Q I ru ⟨p, vs, rfl, Same.seqT g.sub h1, ResW.data res g (Rep.tupOf h1 h2)⟩
  · -- tuple(l)
    simp only [RepWs] at r; obtain ⟨x, q, rfl, rx, rfl⟩ := r
    split at res
    · rename_i ws' e
      obtain ⟨p, vs, rfl, h1, h2⟩ := sitems_ok g rx e
      split at res
      · exact call_tuple_of pins s σv H _ us Q I ru ⟨p, vs, rfl, .inl ⟨h1, mkT_ok g h2 res⟩⟩
      · split at res
        · refine call_tuple_of pins s σv H _ us Q I ru ⟨p, vs, rfl, .inl ⟨h1, fun a ha => ?_⟩⟩
          obtain ⟨g2, x2⟩ := g.newC (o := .tup vs) (c := .tp ws') ha ⟨g.sub.free ha, vs, upd_same, h2.mono (Later.put (Same.refl _))⟩
          exact res _ _ _ _ x2 g2 ⟨by simp, (ρput_same).symm ▸ rfl⟩
        · exact res.elim
    · exact res.elim
  · -- list
    simp only [RepWs] at r; obtain ⟨x, q, rfl, rx, rfl⟩ := r
    split at res
    · rename_i ws' e
      obtain ⟨p, vs, rfl, h1, h2⟩ := items_ok g rx e
      exact call_list_of pins s σv H _ us Q I ru ⟨p, vs, rfl, h1, mkL_ok g h2 res⟩
    · exact res.elim
  · simp only [RepWs] at r; obtain ⟨x, q, rfl, rx, rfl⟩ := r
    cases rx
    exact call_int1 pins s σv H _ us Q I ru (.inl ⟨_, rfl, ResW.il res g⟩)
  · simp only [RepWs] at r; obtain ⟨x, q, rfl, rx, rfl⟩ := r
    cases rx
    exact call_int1 pins s σv H _ us Q I ru (.inr ⟨_, rfl, ResW.il res g⟩)
  · simp only [RepWs] at r; obtain ⟨x, q, rfl, rx, rfl⟩ := r
    cases rx
    split at res
    · rename_i hl
      exact call_str_int pins s σv H _ us Q I ru ⟨_, rfl, hl, ResW.data res g rfl⟩
    · exact res.elim
  · simp only [RepWs] at r; obtain ⟨x, q, rfl, rx, rfl⟩ := r
    cases rx
    exact call_abs pins s σv H _ us Q I ru ⟨_, rfl, ResW.il res g⟩
  · simp only [RepWs] at r; obtain ⟨x, q, rfl, rx, rfl⟩ := r
    split at res
    · rename_i ns e
      simp only [Option.bind_eq_bind, Option.bind_eq_some_iff] at e
      obtain ⟨ws', e1, e2⟩ := e
      obtain ⟨p, vs, rfl, h1, h2⟩ := litems_ok g rx e1
      have := intsW_ok h2 e2; subst this
      exact cr_sum O.calm pins s σv H _ us Q I ru ⟨p, ns, rfl, .inl (.inl h1), ResW.il res g⟩
    · exact res.elim
  · simp only [RepWs] at r; obtain ⟨x, q, rfl, rx, rfl⟩ := r
    split at res
    · rename_i ns e
      simp only [Option.bind_eq_bind, Option.bind_eq_some_iff] at e
      obtain ⟨ws', e1, e2⟩ := e
      obtain ⟨p, vs, rfl, h1, h2⟩ := litems_ok g rx e1
      have := boolsW_ok h2 e2; subst this
      exact cr_any O.calm pins s σv H _ us Q I ru ⟨p, ns, rfl, .inl (.inl h1), ResW.bl res g⟩
    · exact res.elim
  · simp only [RepWs] at r; obtain ⟨x, q, rfl, rx, rfl⟩ := r
    split at res
    · rename_i ns e
      simp only [Option.bind_eq_bind, Option.bind_eq_some_iff] at e
      obtain ⟨ws', e1, e2⟩ := e
      obtain ⟨p, vs, rfl, h1, h2⟩ := litems_ok g rx e1
      have := boolsW_ok h2 e2; subst this
      exact cr_all O.calm pins s σv H _ us Q I ru ⟨p, ns, rfl, .inl (.inl h1), ResW.bl res g⟩
    · exact res.elim
  · simp only [RepWs] at r; obtain ⟨x, q, rfl, rx, rfl⟩ := r
    split at res
    · rename_i m e
      simp only [Option.bind_eq_bind, Option.bind_eq_some_iff] at e
      obtain ⟨ns, ⟨ws', e1, e2⟩, e3⟩ := e
      obtain ⟨p, vs, rfl, h1, h2⟩ := litems_ok g rx e1
      have := intsW_ok h2 e2; subst this
      obtain ⟨l0, lm⟩ := minL_ok e3
      exact cr_min O.calm pins s σv H _ us Q I ru ⟨p, ns, rfl, .inl (.inl h1), l0, fun m' a b => by rw [lm m' a b]; exact ResW.il res g⟩
    · exact res.elim
  · simp only [RepWs] at r; obtain ⟨x, q, rfl, rx, rfl⟩ := r
    split at res
    · rename_i m e
      simp only [Option.bind_eq_bind, Option.bind_eq_some_iff] at e
      obtain ⟨ns, ⟨ws', e1, e2⟩, e3⟩ := e
      obtain ⟨p, vs, rfl, h1, h2⟩ := litems_ok g rx e1
      have := intsW_ok h2 e2; subst this
      obtain ⟨l0, lm⟩ := maxL_ok e3
      exact cr_max O.calm pins s σv H _ us Q I ru ⟨p, ns, rfl, .inl (.inl h1), l0, fun m' a b => by rw [lm m' a b]; exact ResW.il res g⟩
    · exact res.elim
  · simp only [RepWs] at r; obtain ⟨x, q, rfl, rx, rfl⟩ := r
    exact sort_run O I ru g rx res
  · simp only [RepWs] at r; obtain ⟨x, q, rfl, rx, y, q2, rfl, ry, rfl⟩ := r
    cases rx; cases ry
    exact call_min2 O.calm pins s σv H _ us Q I ru ⟨_, _, rfl, ResW.il res g⟩
  · simp only [RepWs] at r; obtain ⟨x, q, rfl, rx, y, q2, rfl, ry, rfl⟩ := r
    cases rx; cases ry
    exact call_max2 O.calm pins s σv H _ us Q I ru ⟨_, _, rfl, ResW.il res g⟩
  · simp only [RepWs] at r; subst r
    refine cr_set0T pins s σv H _ us Q I ru ⟨rfl, fun p hp => ?_⟩
    obtain ⟨e3, e4⟩ := O.hS
    obtain ⟨g2, x2⟩ := g.newC (o := SetTO X.prog X.w p []) (c := .st []) hp ⟨g.sub.free hp, [], by rw [e3, e4]; exact upd_same, (fun p hp => by cases hp), (fun k => Iff.rfl), rfl⟩
    exact res _ _ _ _ x2 g2 ⟨by simp, (ρput_same).symm ▸ rfl⟩
  · exact res.elim
end
end Ev

end

-- part EvL
section
set_option Elab.async false
set_option linter.all false
namespace Ev
open PySem L2 PyProof.Rows
section
variable {K : PySem.W.Frag} {N : Names} {W' : WX} {Φ : Fns} {k : Nat} {X : Cx} {σv : L2.St} {H F : Hp} {Q : VK} {ρ : Nat → Addr} {G : Gs} {pins : List (Addr × Obj)} {s : Shared}
variable {a b c : Expr} {a' b' c' : E} {pos : Pos}
/-- a list's method, by values -/
def rM (K : PySem.W.Frag) (N : Names) (m : BM) : V → List V → Hp → VK → Prop := fun x xs H Q => ∃ W' σv F ρ G a ws, Good K N F ρ G H ∧ RepW K N F ρ G.length a x ∧ RepWs K N F ρ G.length ws xs ∧ ResW K N W' σv F ρ G H Q (mthW m a ws G)
def bmId : BM → String
  | .append => "list.append" | .pop0 => "list.pop" | .pop1 => "list.pop" | .clear => "list.clear" | .extend => "list.extend" | .insert => "list.insert" | .index => "list.index" | .count => "list.count" | .find => "str.find" | .split => "str.split" | .join => "str.join" | .add => "set.add"
theorem RepWs.dropLast {F : Hp} {ρ : Nat → Addr} {n : Nat} {ds : List D} {vs : List V} (h : RepL K N F ds vs) : RepL K N F ds.dropLast vs.dropLast := by
  have := (RepL.ws (ρ := ρ) (n := n) h).takeR (ds.length - 1)
  rw [← List.map_take] at this
  rw [List.dropLast_eq_take, List.dropLast_eq_take, ← h.len]
  exact RepL.ofWs this
theorem RepL.at {F : Hp} {ds : List D} {vs : List V} (h : RepL K N F ds vs) {i : Nat} {x : D} (e : ds[i]? = some x) : ∃ v, vs[i]? = some v ∧ Rep K N F x v := by
  obtain ⟨v, e2, r⟩ := (RepL.ws (ρ := fun _ => 0) (n := 0) h).at i (.d x) (by rw [List.getElem?_map, e]; rfl)
  exact ⟨v, e2, r⟩
theorem RepL.erase {F : Hp} : ∀ {ds : List D} {vs : List V}, RepL K N F ds vs → ∀ i, RepL K N F (ds.eraseIdx i) (vs.eraseIdx i)
  | [], _, h, i => by simp only [RepL] at h; subst h; simp only [List.eraseIdx_nil, RepL]
  | x :: r, _, h, 0 => by
    simp only [RepL] at h
    obtain ⟨v, q, rfl, h1, h2⟩ := h
    exact h2
  | x :: r, _, h, i + 1 => by
    simp only [RepL] at h
    obtain ⟨v, q, rfl, h1, h2⟩ := h
    simp only [List.eraseIdx_cons_succ, RepL]
    exact ⟨v, _, rfl, h1, RepL.erase h2 i⟩
theorem RepL.snoc {F : Hp} {ds : List D} {vs : List V} {x : D} {v : V} (h : RepL K N F ds vs) (r : Rep K N F x v) : RepL K N F (ds ++ [x]) (vs ++ [v]) := h.app (by simp only [RepL]; exact ⟨v, [], rfl, r, rfl⟩)
theorem pys_len : ∀ {xs : List D} {ps : List PyData}, pys xs = some ps → ps.length = xs.length
  | [], _, e => by simp only [pys, Option.some.injEq] at e; subst e; rfl
  | x :: r, _, e => by
    simp only [pys, Option.bind_eq_bind, Option.bind_eq_some_iff, Option.map_eq_some_iff] at e
    obtain ⟨p, _, ps, e2, rfl⟩ := e
    simp [pys_len e2]
theorem idx_run {ds : List D} {x : D} {p : Addr} {vs us : List V} {v : Value} {uu : List Value} {y : V} {FF : Hp} (hK : X.K = K) (hu : X.A.units + 65 < cLine) (I : Inv X pins σv H s) (rv : RelV (.ref p) v) (ru : Vals [y] uu) (hs : Same FF H) (h1 : SqL K FF p vs) (h2 : RepL K N FF ds vs) (h3 : Rep K N FF x y)
    {W' : WX} {σ0 : L2.St} (g : Good K N F ρ G H) (res : ResW K N W' σ0 F ρ G H Q (mthW.idx ds x G)) : wpAny (model X.prog X.w) X.A (call (.builtin "list.index") (v :: uu)) (EP X pins σv Q) X.xe s := by
  subst hK
  unfold mthW.idx at res
  split at res
  · rename_i pa pb e1 e2
    split at res
    · rename_i hsh
      simp only [Bool.and_eq_true] at hsh
      split at res
      · rename_i n e3
        obtain ⟨hn, hp, hno⟩ := List.findIdx?_eq_some_iff_getElem.mp e3
        refine mt_indexD hu pins s σv H _ _ v uu Q I rv ru ⟨p, y, pa, pb, n, pb[n], rfl, rfl, .lst (hs.seq h1) (RepL.dp hs h2 e2), Rep.dp hs h3 e1, hsh.2, hsh.1, List.getElem?_eq_getElem hn, hp, fun m z hm hz => ?_, ResW.il res g⟩
        obtain ⟨hm2, rfl⟩ := List.getElem?_eq_some_iff.mp hz
        have := hno m hm
        simpa using this
      · exact res.elim
    · exact res.elim
  · exact res.elim
/-- adding to a set, by values -/
theorem add_run (hK : X.K = K) (hS : N.P = X.prog ∧ N.w = X.w) (hu : X.A.units + 65 < cLine) : MtM X "set.add" (rM K N .add) := by
  intro pins s σ0 H x xs v us Q I rx ru h
  obtain ⟨W', σv, F, ρ, G, a, ws, g, r, rw', res⟩ := h
  unfold mthW at res
  rw [if_pos rfl] at res
  unfold addW at res
  split at res
  · rename_i i w
    simp only [RepWs] at rw'; obtain ⟨y, q, rfl, ry, rfl⟩ := rw'
    split at res
    · rename_i ks k e1 e2
      split at res
      · rename_i hl
        have hl := of_decide_eq_true hl
        obtain ⟨_, L, hb, hc, rfl, h1, h2, h3, h4⟩ := stOf_ok (ks := ks) g (by simp only [stOf, e1]) r
        cases hb
        obtain ⟨p, rfl, h5⟩ := tupI_ok e2 ry
        obtain ⟨f1, _⟩ := g.cell i _ e1
        subst hK
        obtain ⟨e3, e4⟩ := hS
        rw [e3, e4] at h1
        refine mt_saddT (by omega) pins s σ0 H _ _ v us Q I rx ru ⟨_, p, k, L, rfl, rfl, h1, Same.seqT g.sub h5, by omega, fun L' c1 c2 => ?_⟩
        have key : (∀ p ∈ L', SqT X.K F p.1 (p.2.map V.int)) ∧ (∀ k', k' ∈ L'.map (·.2) ↔ k' ∈ (if decide (k ∈ ks) = true then ks else ks ++ [k])) ∧ L'.length = (if decide (k ∈ ks) = true then ks else ks ++ [k]).length := by
          by_cases hk : k ∈ ks
          · rw [if_pos (decide_eq_true hk), c1 ((h3 k).mpr hk)]
            exact ⟨h2, h3, h4⟩
          · rw [if_neg (by simpa using hk)]
            have pm := c2 fun z => hk ((h3 k).mp z)
            refine ⟨fun p' hp' => ?_, fun k' => ?_, by rw [pm.length_eq]; simp [h4]⟩
            · rcases List.mem_cons.mp (pm.mem_iff.mp hp') with rfl | hp'
              · exact h5
              · exact h2 p' hp'
            · rw [(pm.map _).mem_iff]
              simp only [List.map_cons, List.mem_cons, List.mem_append, List.not_mem_nil, or_false]
              rw [h3 k']
              exact Or.comm
        obtain ⟨g2, x2⟩ := g.put (c := .st (if decide (k ∈ ks) = true then ks else ks ++ [k])) (o := SetTO X.prog X.w (ρ i) L') e1 rfl ⟨f1, L', by rw [e3, e4]; exact upd_same, key⟩
        exact res _ _ _ _ x2 g2 rfl
      · exact res.elim
    · exact res.elim
  · exact res.elim
theorem mth_run (m : BM) (hm : m ≠ .add) (hK : X.K = K) (hu : X.A.units + 65 < cLine) : MtM X (bmId m) (rM K N m) := by
  intro pins s σ0 H x xs v us Q I rx ru h
  obtain ⟨W', σv, F, ρ, G, a, ws, g, r, rw', res⟩ := h
  unfold mthW at res
  rw [if_neg hm] at res
  split at res
  · rename_i i
    obtain ⟨hi, rfl⟩ := r
    split at res
    · -- append, sh
      rename_i w ds hc
      simp only [RepWs] at rw'; obtain ⟨y, q, rfl, ry, rfl⟩ := rw'
      split at res
      · rename_i p e
        obtain ⟨x, G1⟩ := p
        obtain ⟨F1, z, rz⟩ := fz_ok fzN F G w y x G1 g ry e
        split at res
        · rename_i es hc1
          split at res
          · rename_i hl
            have hl := of_decide_eq_true hl
            obtain ⟨f1, vs, h1, h2⟩ := z.good.cell i _ hc1
            obtain ⟨g2, x2⟩ := z.good.put (c := .sh (es ++ [x])) (o := .lst (vs ++ [y])) hc1 rfl ⟨f1, _, upd_same, h2.snoc rz⟩
            exact mt_append pins s σ0 H _ _ v us Q I rx ru ⟨_, vs, y, rfl, rfl, h1, by rw [← h2.len]; exact hl, res _ _ _ _ (z.ext.trans x2) g2 rfl⟩
          · exact res.elim
        · exact res.elim
      · exact res.elim
    · -- append, dp
      rename_i w ds hc
      simp only [RepWs] at rw'; obtain ⟨y, q, rfl, ry, rfl⟩ := rw'
      split at res
      · rename_i hl
        have hl := of_decide_eq_true hl
        obtain ⟨f1, vs, h1, h2⟩ := g.cell i _ hc
        obtain ⟨g2, x2⟩ := g.put (c := .dp (ds ++ [w])) (o := .lst (vs ++ [y])) hc rfl ⟨f1, _, upd_same, h2.app (.one ry)⟩
        exact mt_append pins s σ0 H _ _ v us Q I rx ru ⟨_, vs, y, rfl, rfl, h1, by rw [← h2.len]; exact hl, res _ _ _ _ x2 g2 rfl⟩
      · exact res.elim
    · rename_i ds hc
      simp only [RepWs] at rw'; subst rw'
      obtain ⟨f1, vs, h1, h2⟩ := g.cell i _ hc
      obtain ⟨g2, x2⟩ := g.put (c := .sh []) (o := .lst []) hc rfl ⟨f1, _, upd_same, by simp only [RepL]⟩
      exact mt_clear pins s σ0 H _ _ v us Q I rx ru ⟨_, vs, rfl, rfl, h1, res _ _ _ _ x2 g2 rfl⟩
    · rename_i ds hc
      simp only [RepWs] at rw'; subst rw'
      obtain ⟨f1, vs, h1, h2⟩ := g.cell i _ hc
      obtain ⟨g2, x2⟩ := g.put (c := .dp []) (o := .lst []) hc rfl ⟨f1, _, upd_same, by simp only [RepWs]⟩
      exact mt_clear pins s σ0 H _ _ v us Q I rx ru ⟨_, vs, rfl, rfl, h1, res _ _ _ _ x2 g2 rfl⟩
    · rename_i ds hc
      simp only [RepWs] at rw'; subst rw'
      obtain ⟨f1, vs, h1, h2⟩ := g.cell i _ hc
      split at res
      · rename_i y e
        rw [List.getLast?_eq_getElem?] at e
        obtain ⟨u, e2, r2⟩ := h2.at e
        obtain ⟨g2, x2⟩ := g.put (c := .sh ds.dropLast) (o := .lst vs.dropLast) hc rfl ⟨f1, _, upd_same, RepWs.dropLast (ρ := ρ) (n := 0) h2⟩
        exact mt_pop pins s σ0 H _ _ v us Q I rx ru ⟨_, vs, u, rfl, rfl, h1, by rw [← h2.len]; exact e2, res _ _ _ _ x2 g2 r2⟩
      · exact res.elim
    · rename_i j ds hc
      simp only [RepWs] at rw'; obtain ⟨y, q, rfl, ry, rfl⟩ := rw'
      cases ry
      obtain ⟨f1, vs, h1, h2⟩ := g.cell i _ hc
      split at res
      · rename_i hj
        split at res
        · rename_i n e
          split at res
          · rename_i y e2
            obtain ⟨u, e3, r2⟩ := h2.at e2
            obtain ⟨g2, x2⟩ := g.put (c := .sh (ds.eraseIdx n)) (o := .lst (vs.eraseIdx n)) hc rfl ⟨f1, _, upd_same, h2.erase n⟩
            unfold ixN at e
            rw [h2.len] at e
            exact mt_popAt pins s σ0 H _ _ v us Q I rx ru ⟨_, vs, j, n, u, rfl, rfl, h1, hj.1, hj.2, (ixN_seq e).1, e3, res _ _ _ _ x2 g2 r2⟩
          · exact res.elim
        · exact res.elim
      · exact res.elim
    · -- extend
      rename_i w ds hc
      simp only [RepWs] at rw'; obtain ⟨y, q, rfl, ry, rfl⟩ := rw'
      split at res
      · rename_i ws e0
        obtain ⟨l, us', rfl, h3, h4⟩ := litems_ok g ry e0
        split at res
        · rename_i p e
          obtain ⟨xs, G1⟩ := p
          obtain ⟨F1, z, rz⟩ := fzL_ok (fz_ok fzN) ws F G us' xs G1 g h4 e
          split at res
          · rename_i es hc1
            split at res
            · rename_i hl
              obtain ⟨f1, vs, h1, h2⟩ := z.good.cell i _ hc1
              obtain ⟨g2, x2⟩ := z.good.put (c := .sh (es ++ xs)) (o := .lst (vs ++ us')) hc1 rfl ⟨f1, _, upd_same, h2.app rz⟩
              exact mt_extend pins s σ0 H _ _ v us Q I rx ru ⟨_, l, vs, us', rfl, rfl, h1, h3, by rw [← h2.len, ← rz.len]; exact lineB_le hl, res _ _ _ _ (z.ext.trans x2) g2 rfl⟩
            · exact res.elim
          · exact res.elim
        · exact res.elim
      · exact res.elim
    · rename_i w
      simp only [RepWs] at rw'; obtain ⟨y, q, rfl, ry, rfl⟩ := rw'
      split at res
      · rename_i ds x e1 e2
        have r1 := sn_ok g fzN (.r i) _ _ ⟨hi, rfl⟩ e1
        have r2 := sn_ok g fzN w _ _ ry e2
        simp only [Rep] at r1
        obtain ⟨p, vs, ep, h1, h2⟩ := r1
        cases ep
        exact idx_run (us := []) hK hu I rx ru (FC.same g.sub) (.inl (.inl h1)) h2 r2 g res
      · exact res.elim
    · exact res.elim
  · rename_i ds
    split at res
    · rename_i w
      simp only [RepWs] at rw'; obtain ⟨y, q, rfl, ry, rfl⟩ := rw'
      split at res
      · rename_i x e2
        have r2 := sn_ok g fzN w _ _ ry e2
        simp only [RepW, Rep] at r
        obtain ⟨p, vs, rfl, h1, h2⟩ := r
        exact idx_run (us := []) hK hu I rx ru (FC.same g.sub) (.inl (.inl (FC.sub _ _ h1))) (h2.mono FC.sub) r2 g res
      · exact res.elim
    · exact res.elim
  · exact res.elim
end
end Ev

end

-- part EvM
section
set_option Elab.async false
set_option linter.all false
namespace Ev
open PySem L2 PyProof.Rows
/-! ## what stands in the text -/
/-- no star, no slice -/
def plainB : Expr → Bool
  | .Starred .. => false
  | .Slice .. => false
  | _ => true
/-- nothing that super() is asked of -/
def baseB : Expr → Bool
  | .Call (.Name _ _) [] [] _ => false
  | _ => true
theorem star_of {e : Expr} {es : List Expr} {env : Env} (h : plainB e = true) : starEach (e :: es) env = (false, eval e env) :: starEach es env := by
  cases e <;> first | rfl | simp [plainB] at h
theorem stars_off {es : List Expr} {env : Env} {pos : Pos} (h : es.all plainB = true) : (backTo pos (starEach es env)).any (·.1) = false := by
  induction es with
  | nil => rfl
  | cons e r ih =>
    simp only [List.all_cons, Bool.and_eq_true] at h
    rw [star_of h.1]
    show (false || (backTo pos (starEach r env)).any (·.1)) = false
    rw [ih h.2]; rfl
theorem stars_all {es : List Expr} {env : Env} {pos : Pos} (h : es.all plainB = true) : (backTo pos (starEach es env)).all (fun x => !x.1) = true := by
  induction es with
  | nil => rfl
  | cons e r ih =>
    simp only [List.all_cons, Bool.and_eq_true] at h
    rw [star_of h.1]
    show (true && (backTo pos (starEach r env)).all (fun x => !x.1)) = true
    rw [ih h.2]; rfl
theorem plainIx_of {e : Expr} (h : plainB e = true) : PlainIx e := by
  intro o i
  cases e <;> first | rfl | simp [plainB] at h
theorem base_of {e : Expr} {f : Str} {env : Env} {t : Sem Value} (h : baseB e = true) : attributeBase e f env t = t := by
  cases e with
  | Call g es kws p =>
    cases g with
    | Name x q =>
      cases es with
      | nil =>
        cases kws with
        | nil => simp [baseB] at h
        | cons _ _ => rfl
      | cons _ _ => rfl
    | _ => rfl
  | _ => rfl
/-- a call of a method, the form of few arguments on one line -/
theorem meth_eq {o : Expr} {m : Str} {apos pos : Pos} {es : List Expr} {env : Env} (hb : baseB o = true) (hp : es.all plainB = true) (hl : es.length < 30) (hline : (apos.endLine == pos.line) = true) :
    ∃ pl : Sem Bool, eval (.Call (.Attribute o m apos) es [] pos) env = (do
      let ov ← eval o env
      standAt apos.atName
      let (f, first) ← holding [ov] (getMethod ov m pl)
      callWith pos f first (backTo pos (starEach es env)) (backToKw pos (keywordEach [] env))) := by
  refine ⟨(do return (← importBound o env).getD true), ?_⟩
  rw [arm_eval_Call, base_of hb]
  have hform : methodCallForm (es.length + ([] : List Keyword).length) (backTo pos (starEach es env)) (backToKw pos (keywordEach [] env)) = true := by
    unfold methodCallForm
    rw [stars_all hp]
    show (true && true && decide (es.length + 0 + 0 < 30)) = true
    simp [hl]
  have hpos : methodCallPos true o env apos pos = pure pos := by unfold methodCallPos; simp [hline]
  unfold methodCall
  rw [hform, hpos]
  simp only [calleeOf, if_true]
  rfl
section
variable {K : PySem.W.Frag} {N : Names} {W' : WX} {Φ : Fns} {k kf : Nat} {X : Cx} {σv : L2.St} {H F : Hp} {Q : VK} {ρ : Nat → Addr} {G : Gs} {pins : List (Addr × Obj)} {s : Shared}
variable {a b c e : Expr} {es : List Expr} {a' b' c' : E} {es' : List E} {pos p apos : Pos} {x : Str} {f C : Addr} {fd : FuncData} {ps : List Str}
/-! ## chains -/
theorem Res.cond {σ : Sl} {w : W} {u : V} {r : R W} {gt ge : W → Sl → Gs → R W} (rs : RepS K N F ρ G.length σ σv) (ry : RepW K N F ρ G.length w u) (res : ResW K N W' σv F ρ G H Q (cond3 r (fun G => gt w σ G) (fun G => ge w σ G))) :
    ResW K N W' σv F ρ G H (fun v H1 => ∃ c, v = .bl c ∧ if c = true then Rd1 K N W' gt u σv H1 Q else Rd1 K N W' ge u σv H1 Q) r := by
  unfold cond3 at res
  split at res
  · rename_i G1
    intro F1 ρ1 H1 v x1 g1 r1
    cases r1
    refine ⟨true, rfl, ?_⟩
    rw [if_pos rfl]
    exact ⟨F1, ρ1, G1, σ, w, g1, rs.mono x1.later, ry.mono x1.later, Res.later x1 res⟩
  · rename_i G1
    intro F1 ρ1 H1 v x1 g1 r1
    cases r1
    refine ⟨false, rfl, ?_⟩
    rw [if_neg (by decide)]
    exact ⟨F1, ρ1, G1, σ, w, g1, rs.mono x1.later, ry.mono x1.later, Res.later x1 res⟩
  · exact res
  · exact res.elim
theorem rd1_bl {b : Bool} {u : V} (h : Rd1 K N W' (fun _ _ G => bL b G) u σv H Q) : Q (.bl b) H := by
  obtain ⟨F, ρ, G, σ, w, g, s, r, res⟩ := h
  exact ResW.bl res g
theorem PE_chain {o1 o2 : CO} (O : CxOk K N W' Φ k X) (ha : PE X a (rdE K N W' Φ a')) (hb : PE X b (rdE K N W' Φ b')) (hc : PE X c (rdE K N W' Φ c')) (hm : lastMarks [copOf o1, copOf o2] [b, c] = false) :
    PE X (.Compare a [copOf o1, copOf o2] [b, c] pos) (rdE K N W' Φ (.chain o1 o2 a' b' c')) := by
  refine ⟨fun pins s σ H Q I h => ?_⟩
  have h2 := rd2 (ga := evE Φ a') (gb := evE Φ b') (gc := fun x y σ G2 => cond3 (cmpW Φ o1 x y G2) (fun G3 => (evE Φ c' σ G3).bind fun z G4 => cmpW Φ o2 y z G4) (fun G3 => bL false G3)) (by simpa only [rdE, evE] using h)
  refine Compare_chain (thn (ha.run pins s σ H _ I h2) fun v s1 ⟨x, H1, I1, r1, q1⟩ => chain_link (thn (hb.run pins s1 σ H1 _ I1 q1) fun u s2 ⟨y, H2, I2, r2, q2⟩ => ?_)) hm
  obtain ⟨F, ρ, G, σ', a2, b2, g, s', ra, rb, res⟩ := q2
  refine thn (cmp_run O.eq O.isin O.hK O.hS O.units I2 r1 r2 g s' ra rb (Res.cond (gt := fun y σ G3 => (evE Φ c' σ G3).bind fun z G4 => cmpW Φ o2 y z G4) (ge := fun _ _ G3 => bL false G3) s' rb res)) fun d s3 ⟨z, H3, I3, r3, k, e, q3⟩ => ?_
  subst e
  cases r3
  refine wpAny_truthy_bool ?_
  cases k with
  | false =>
    rw [if_neg (by decide)] at q3
    exact ite_ff ⟨.bl false, H3, I3, rfl, rd1_bl q3⟩
  | true =>
    rw [if_pos rfl] at q3
    have q4 := rd1b (ga := evE Φ c') (gc := fun y z _ G => cmpW Φ o2 y z G) q3
    refine ite_tt (chain_last (thn (hc.run pins s3 σ H3 _ I3 q4) fun w' s4 ⟨z', H4, I4, r4, q4⟩ => ?_))
    obtain ⟨F, ρ, G, σ', a3, b3, g, s', ra, rb, res⟩ := q4
    exact cmp_run O.eq O.isin O.hK O.hS O.units I4 r2 r4 g s' ra rb res
theorem PE_chain3 {d : Expr} {d' : E} {o1 o2 o3 : CO} (O : CxOk K N W' Φ k X) (ha : PE X a (rdE K N W' Φ a')) (hb : PE X b (rdE K N W' Φ b')) (hc : PE X c (rdE K N W' Φ c')) (hd : PE X d (rdE K N W' Φ d')) (hm : lastMarks [copOf o1, copOf o2, copOf o3] [b, c, d] = false) :
    PE X (.Compare a [copOf o1, copOf o2, copOf o3] [b, c, d] pos) (rdE K N W' Φ (.chain3 o1 o2 o3 a' b' c' d')) := by
  refine ⟨fun pins s σ H Q I h => ?_⟩
  have h2 := rd2 (ga := evE Φ a') (gb := evE Φ b') (gc := fun x y σ G2 => cond3 (cmpW Φ o1 x y G2) (fun G3 => (evE Φ c' σ G3).bind fun z G4 => cond3 (cmpW Φ o2 y z G4) (fun G5 => (evE Φ d' σ G5).bind fun u G6 => cmpW Φ o3 z u G6) (fun G5 => bL false G5)) (fun G3 => bL false G3)) (by simpa only [rdE, evE] using h)
  refine Compare_chain (thn (ha.run pins s σ H _ I h2) fun v s1 ⟨x, H1, I1, r1, q1⟩ => chain_link (thn (hb.run pins s1 σ H1 _ I1 q1) fun u s2 ⟨y, H2, I2, r2, q2⟩ => ?_)) hm
  obtain ⟨F, ρ, G, σ', a2, b2, g, s', ra, rb, res⟩ := q2
  refine thn (cmp_run O.eq O.isin O.hK O.hS O.units I2 r1 r2 g s' ra rb (Res.cond (gt := fun y σ G3 => (evE Φ c' σ G3).bind fun z G4 => cond3 (cmpW Φ o2 y z G4) (fun G5 => (evE Φ d' σ G5).bind fun u G6 => cmpW Φ o3 z u G6) (fun G5 => bL false G5)) (ge := fun _ _ G3 => bL false G3) s' rb res)) fun dd s3 ⟨z, H3, I3, r3, k, e, q3⟩ => ?_
  subst e
  cases r3
  refine wpAny_truthy_bool ?_
  cases k with
  | false =>
    rw [if_neg (by decide)] at q3
    exact ite_ff ⟨.bl false, H3, I3, rfl, rd1_bl q3⟩
  | true =>
    rw [if_pos rfl] at q3
    have q4 := rd1b (ga := evE Φ c') (gc := fun y z σ G4 => cond3 (cmpW Φ o2 y z G4) (fun G5 => (evE Φ d' σ G5).bind fun u G6 => cmpW Φ o3 z u G6) (fun G5 => bL false G5)) q3
    refine ite_tt (chain_link (thn (hc.run pins s3 σ H3 _ I3 q4) fun w' s4 ⟨z', H4, I4, r4, q4⟩ => ?_))
    obtain ⟨F, ρ, G, σ', a3, b3, g, s', ra, rb, res⟩ := q4
    refine thn (cmp_run O.eq O.isin O.hK O.hS O.units I4 r2 r4 g s' ra rb (Res.cond (gt := fun z σ G5 => (evE Φ d' σ G5).bind fun u G6 => cmpW Φ o3 z u G6) (ge := fun _ _ G3 => bL false G3) s' rb res)) fun dd s5 ⟨z5, H5, I5, r5, k, e, q5⟩ => ?_
    subst e
    cases r5
    refine wpAny_truthy_bool ?_
    cases k with
    | false =>
      rw [if_neg (by decide)] at q5
      exact ite_ff ⟨.bl false, H5, I5, rfl, rd1_bl q5⟩
    | true =>
      rw [if_pos rfl] at q5
      have q6 := rd1b (ga := evE Φ d') (gc := fun y z _ G => cmpW Φ o3 y z G) q5
      refine ite_tt (chain_last (thn (hd.run pins s5 σ H5 _ I5 q6) fun w6 s6 ⟨z6, H6, I6, r6, q6⟩ => ?_))
      obtain ⟨F, ρ, G, σ', a3, b3, g, s', ra, rb, res⟩ := q6
      exact cmp_run O.eq O.isin O.hK O.hS O.units I6 r4 r6 g s' ra rb res
/-! ## built-ins -/
theorem PE_blt {bf : BF} {kk : Nat} (O : CxOk K N W' Φ k X) (ol : OwnLen K N W' Φ X) (hg : Gl X x) (hm : X.mg x = none) (hv : bootBuiltins x = some (bfVal bf)) (hn : x ≠ "__name__") (hdb : (x == ("__debug__" : Str)) = false)
    (hp : (e :: es).all plainB = true) (ha : PA X (e :: es) (rdEs K N W' Φ es')) : PE X (.Call (.Name x p) (e :: es) [] pos) (rdE K N W' Φ (.blt kk bf es')) := by
  simp only [List.all_cons, Bool.and_eq_true] at hp
  refine ⟨fun pins s σ H Q I h => ?_⟩
  have h1 : rdEs K N W' Φ es' σ H fun vs H1 => RdA K N W' (fun ws _ G => bltW Φ kk bf ws G) vs σ H1 Q := rdA1 (by simpa only [rdE, evE] using h)
  refine wpAny_Call_Name_kw (ld_blt I hg hm hv ?_ hn hdb)
  have fin : ∀ us s1, AP X pins σ (fun vs H1 => RdA K N W' (fun ws _ G => bltW Φ kk bf ws G) vs σ H1 Q) us s1 → wpAny (model X.prog X.w) X.A (call (bfVal bf) us) (EP X pins σ Q) X.xe s1 := by
    intro us s1 ⟨vs, H1, I1, r1, q1⟩
    obtain ⟨F, ρ, G, σ', ws, g, s', r, res⟩ := q1
    exact blt_run O ol I1 r1 g s' r res
  have hr := thn (ha.run pos pins s σ H _ I h1) fin
  have hbf : (∃ id, bfVal bf = .builtin id) ∨ ∃ T, bfVal bf = .type T := by
    cases bf <;> first | exact .inl ⟨_, rfl⟩ | exact .inr ⟨_, rfl⟩
  clear fin hv
  rcases hbf with ⟨id, e2⟩ | ⟨T, e2⟩
  · rw [e2] at hr ⊢
    exact PyProof.Rows.callWith_builtin1 hr (star_of hp.1) (stars_off hp.2)
  · rw [e2] at hr ⊢
    exact PyProof.Rows.callWith_type1 hr (star_of hp.1) (stars_off hp.2)
theorem PE_set0 {kk : Nat} (O : CxOk K N W' Φ k X) (ol : OwnLen K N W' Φ X) (hg : Gl X x) (hm : X.mg x = none) (hv : bootBuiltins x = some (bfVal .set)) (hn : x ≠ "__name__") (hdb : (x == ("__debug__" : Str)) = false) :
    PE X (.Call (.Name x p) [] [] pos) (rdE K N W' Φ (.blt kk .set [])) := by
  refine ⟨fun pins s σ H Q I h => ?_⟩
  have h1 : rdEs K N W' Φ [] σ H fun vs H1 => RdA K N W' (fun ws _ G => bltW Φ kk .set ws G) vs σ H1 Q := rdA1 (by simpa only [rdE, evE] using h)
  refine wpAny_Call_Name_kw (ld_blt I hg hm hv ?_ hn hdb)
  have hr : wpAny (model X.prog X.w) X.A (call (bfVal .set) []) (EP X pins σ Q) X.xe s := by
    obtain ⟨F, ρ, G, σ', g, s', res⟩ := h1
    simp only [evEs] at res
    obtain ⟨F, ρ, G, σ', ws, g, s', r, res⟩ := res F ρ H [] Ext.refl g rfl
    exact blt_run O ol I .nil g s' r res
  exact PyProof.Rows.callWith_type0 hr
/-! ## isinstance -/
theorem tySym (u t : Ty) : (u == t) = (t == u) := by
  by_cases q : u = t
  · subst q; rfl
  · have q2 : ¬ t = u := fun z => q z.symm
    rw [beq_eq_false_iff_ne.mpr q, beq_eq_false_iff_ne.mpr q2]
theorem isTy_ok {w : W} {ok : Nat → Bool} {t : Ty} {bb : Bool} (e : isTy ok G w t = some bb) : t.okB ok = true ∧ isTy0 ok G w t = some bb := by
  unfold isTy at e
  by_cases z : t.okB ok = true
  · rw [if_pos z] at e; exact ⟨z, e⟩
  · rw [if_neg z] at e; cases e
theorem kit_one {ok : Nat → Bool} (kit : Kits K N ok) {u t : Ty} {bb : Bool} (hu : u.okB ok = true) (ht : t.okB ok = true) (hn : (u == .bool) = false) (e : (t == u) = bb) : PySem.W.kitOne K (tyVal N u) (tyVal N t) = some bb := by
  rw [kit.one u t hu ht, hn, tySym, e]; simp
theorem TyX.of {w : W} {v : V} {ok : Nat → Bool} (kit : Kits K N ok) (g : Good K N F ρ G H) (r : RepW K N F ρ G.length w v) {t0 : Ty} {b0 : Bool} (e0 : isTy ok G w t0 = some b0) :
    ∃ tv : Value, TyX K H v tv ∧ ∀ t bb, isTy ok G w t = some bb → PySem.W.kitOne K tv (tyVal N t) = some bb := by
  have tl : ∀ {a : Addr} {vs : List V}, H a = some (.lst vs) → TyX K H (.ref a) (tyVal N .list) := fun h => .base (.lst h)
  have ti : ∀ {a : Addr} {c : Nat} {dx fv}, ok c = true → H a = some (.ins (N.cA c) dx fv) → TyX K H (.ref a) (tyVal N (.cls c)) := fun hc h =>
    .base (.ins h (kit.ins _ hc).1 (kit.ins _ hc).2.1 kit.get.1 kit.get.2 (kit.ins _ hc).2.2)
  have cl : ∀ (c : Nat) t bb, clsTy ok c t = some bb → ok c = true ∧ (t == .cls c) = bb := fun c t bb e => by
    unfold clsTy at e
    split at e
    · rename_i hc
      cases e
      exact ⟨hc, rfl⟩
    · cases e
  obtain ⟨h0, e0⟩ := isTy_ok e0
  cases w with
  | d x =>
    cases x with
    | non => cases r; exact ⟨_, .base .non, fun t bb e => by obtain ⟨ht, e⟩ := isTy_ok e; cases e; exact kit.non t ht⟩
    | bl b1 =>
      cases r
      refine ⟨_, .base (.bl b1), fun t bb e => ?_⟩
      obtain ⟨ht, e⟩ := isTy_ok e
      simp only [isTy0, Option.some.injEq] at e
      have := kit.one .bool t rfl ht
      rw [show (Value.type "bool") = tyVal N .bool from rfl, this, ← e, tySym]
      cases (t == .bool) <;> cases (t == .int) <;> rfl
    | int i =>
      cases r
      refine ⟨_, .base (.int i), fun t bb e => ?_⟩
      obtain ⟨ht, e⟩ := isTy_ok e
      simp only [isTy0, Option.some.injEq] at e
      exact kit_one kit (u := .int) rfl ht rfl e
    | str i =>
      cases r
      refine ⟨_, .base (.str i), fun t bb e => ?_⟩
      obtain ⟨ht, e⟩ := isTy_ok e
      simp only [isTy0, Option.some.injEq] at e
      exact kit_one kit (u := .str) rfl ht rfl e
    | tup ds =>
      simp only [RepW, Rep] at r
      obtain ⟨a, vs, rfl, h1, _⟩ := r
      refine ⟨.type "tuple", ?_, fun t bb e => ?_⟩
      · have h1 := Same.seqT g.sub h1
        rcases h1 with (h1 | ⟨o, h1⟩) | ⟨o, its, n, h1, h2, _⟩
        · exact .base (.tup h1)
        · exact .fTuple h1
        · exact .kTuple h1 h2
      · obtain ⟨ht, e⟩ := isTy_ok e
        simp only [isTy0, Option.some.injEq] at e
        exact kit_one kit (u := .tuple) rfl ht rfl e
    | lst ds =>
      simp only [RepW, Rep] at r
      obtain ⟨a, vs, rfl, h1, _⟩ := r
      refine ⟨_, tl (g.sub _ _ h1), fun t bb e => ?_⟩
      obtain ⟨ht, e⟩ := isTy_ok e
      simp only [isTy0, Option.some.injEq] at e
      exact kit_one kit (u := .list) rfl ht rfl e
    | ins c fs =>
      simp only [RepW, Rep] at r
      obtain ⟨a, dx, fv, rfl, h1, _⟩ := r
      simp only [isTy0] at e0
      refine ⟨_, ti (cl _ _ _ e0).1 (g.sub _ _ h1), fun t bb e => ?_⟩
      obtain ⟨ht, e⟩ := isTy_ok e
      simp only [isTy0] at e
      exact kit_one kit (u := .cls c) (cl _ _ _ e0).1 ht rfl (cl _ _ _ e).2
    | scr ns =>
      simp only [RepW, Rep] at r
      obtain ⟨a, rfl, h1⟩ := r
      refine ⟨.type "list", ?_, fun t bb e => ?_⟩
      · have h1 := g.sub.seq h1
        rcases h1 with (h1 | ⟨o, h1⟩) | ⟨o, its, n, h1, h2, _⟩
        · exact .base (.lst h1)
        · exact .base (.frz h1)
        · exact .kList h1 h2
      · obtain ⟨ht, e⟩ := isTy_ok e
        simp only [isTy0, Option.some.injEq] at e
        exact kit_one kit (u := .list) rfl ht rfl e
  | r i =>
    obtain ⟨hi, rfl⟩ := r
    simp only [isTy0] at e0
    split at e0
    · rename_i ds hc
      obtain ⟨_, vs, h1, _⟩ := g.cell i _ hc
      refine ⟨_, tl h1, fun t bb e => ?_⟩
      obtain ⟨ht, e⟩ := isTy_ok e
      simp only [isTy0, hc, Option.some.injEq] at e
      exact kit_one kit (u := .list) rfl ht rfl e
    · rename_i ds hc
      obtain ⟨_, vs, h1, _⟩ := g.cell i _ hc
      refine ⟨_, tl h1, fun t bb e => ?_⟩
      obtain ⟨ht, e⟩ := isTy_ok e
      simp only [isTy0, hc, Option.some.injEq] at e
      exact kit_one kit (u := .list) rfl ht rfl e
    · rename_i c fs hc
      obtain ⟨_, dx, fv, h1, _⟩ := g.cell i _ hc
      refine ⟨_, ti (cl _ _ _ e0).1 h1, fun t bb e => ?_⟩
      obtain ⟨ht, e⟩ := isTy_ok e
      simp only [isTy0, hc] at e
      exact kit_one kit (u := .cls c) (cl _ _ _ e0).1 ht rfl (cl _ _ _ e).2
    · rename_i ds hc
      have h := g.cell i _ hc
      simp only [CellOk, Rep] at h
      obtain ⟨a, vs, e1, h1, h2⟩ := h
      cases e1
      refine ⟨_, tl (g.sub _ _ h1), fun t bb e => ?_⟩
      obtain ⟨ht, e⟩ := isTy_ok e
      simp only [isTy0, hc, Option.some.injEq] at e
      exact kit_one kit (u := .list) rfl ht rfl e
    · rename_i c fs hc
      have h := g.cell i _ hc
      simp only [CellOk, Rep] at h
      obtain ⟨a, dx, fv, e1, h1, h2⟩ := h
      cases e1
      refine ⟨_, ti (cl _ _ _ e0).1 (g.sub _ _ h1), fun t bb e => ?_⟩
      obtain ⟨ht, e⟩ := isTy_ok e
      simp only [isTy0, hc] at e
      exact kit_one kit (u := .cls c) (cl _ _ _ e0).1 ht rfl (cl _ _ _ e).2
    · cases e0
end
end Ev

end

-- part EvN
section
set_option Elab.async false
set_option linter.all false
namespace Ev
open PySem L2 PyProof.Rows
def bmName : BM → Str
  | .append => "append" | .pop0 => "pop" | .pop1 => "pop" | .clear => "clear" | .extend => "extend" | .insert => "insert" | .index => "index" | .count => "count" | .find => "find" | .split => "split" | .join => "join" | .add => "add"
/-- the methods of lists that are served -/
def bmList : BM → Bool
  | .append => true | .pop0 => true | .pop1 => true | .clear => true | .extend => true | .index => true | _ => false
/-- a set's method with an item, too -/
def bmAny (m : BM) (es : List Expr) : Bool := bmList m || (decide (m = .add) && !es.isEmpty)
theorem bmList_ne {m : BM} (h : bmList m = true) : m ≠ .add := fun e => by subst e; cases h
section
variable {K : PySem.W.Frag} {N : Names} {W' : WX} {Φ : Fns} {k kf : Nat} {X : Cx} {σv : L2.St} {H F : Hp} {Q : VK} {ρ : Nat → Addr} {G : Gs} {pins : List (Addr × Obj)} {s : Shared}
variable {a b c e : Expr} {es : List Expr} {a' b' c' : E} {es' : List E} {pos p apos : Pos} {x : Str} {f C : Addr} {fd : FuncData} {ps : List Str}
theorem isList_ty {w : W} {v : V} (g : Good K N F ρ G H) (r : RepW K N F ρ G.length w v) (e : isListW G w = true) : tyV K "list" v H := by
  unfold isListW at e
  split at e
  · rename_i ws q
    obtain ⟨p, vs, rfl, h1, _⟩ := sitems_ok g r q
    exact .inl ⟨rfl, vs, h1⟩
  · cases e
theorem rd_mth {m : BM} {Q : VK} (hm : m ≠ .add) (h : rdE K N W' Φ (.mth m a' es') σv H Q) : rdE K N W' Φ a' σv H fun v H1 => tyV K "list" v H1 ∧ rdEs K N W' Φ es' σv H1 fun vs H2 => rM K N m v vs H2 Q := by
  simp only [rdE, evE] at h
  refine rd_mono (rd1 h) fun v H1 q => ?_
  obtain ⟨F, ρ, G, σ, w, g, s, r, res⟩ := q
  dsimp only at res
  split at res
  · rename_i hl
    unfold mthTy at hl
    rw [if_neg hm] at hl
    refine ⟨isList_ty g r hl, ?_⟩
    exact rdA_mono (rdA1b (gc := fun x ws _ G => mthW m x ws G) (ga := evEs Φ es') ⟨F, ρ, G, σ, w, g, s, r, res⟩) fun vs H2 q => by
      obtain ⟨F, ρ, G, σ, w, ws, g, s, r, r2, res⟩ := q
      exact ⟨W', σv, F, ρ, G, w, ws, g, r, r2, res⟩
  · exact res.elim
theorem bm_facts {m : BM} (h : bmList m = true) : Slot "list" (bmName m) (bmId m) ∧ typeOf (.builtin (bmId m)) = pure (.type "method_descriptor") := by
  cases m <;> first | (simp [bmList] at h; done) | skip
  · exact ⟨PySem.F.slot_list_append, PySem.F.type_list_append⟩
  · exact ⟨PySem.F.slot_list_pop, PySem.F.type_list_pop⟩
  · exact ⟨PySem.F.slot_list_pop, PySem.F.type_list_pop⟩
  · exact ⟨PySem.F.slot_list_clear, PySem.F.type_list_clear⟩
  · exact ⟨PySem.F.slot_list_extend, PySem.F.type_list_extend⟩
  · exact ⟨PySem.F.slot_list_index, PySem.F.type_list_index⟩
theorem rd_sadd {Q : VK} (h : rdE K N W' Φ (.mth .add a' es') σv H Q) : rdE K N W' Φ a' σv H fun v H1 => (∃ a L, v = V.ref a ∧ SetIn K N.P N.w H1 a L) ∧ rdEs K N W' Φ es' σv H1 fun vs H2 => rM K N .add v vs H2 Q := by
  simp only [rdE, evE] at h
  refine rd_mono (rd1 h) fun v H1 q => ?_
  obtain ⟨F, ρ, G, σ, w, g, s, r, res⟩ := q
  dsimp only at res
  split at res
  · rename_i hl
    unfold mthTy at hl
    rw [if_pos rfl] at hl
    refine ⟨?_, ?_⟩
    · unfold isSetW at hl
      split at hl
      · rename_i ks e
        obtain ⟨i, L, _, _, rfl, h1, _⟩ := stOf_ok g e r
        exact ⟨_, L, rfl, h1⟩
      · cases hl
    exact rdA_mono (rdA1b (gc := fun x ws _ G => mthW .add x ws G) (ga := evEs Φ es') ⟨F, ρ, G, σ, w, g, s, r, res⟩) fun vs H2 q => by
      obtain ⟨F, ρ, G, σ, w, ws, g, s, r, r2, res⟩ := q
      exact ⟨W', σv, F, ρ, G, w, ws, g, r, r2, res⟩
  · exact res.elim
theorem PE_sadd (O : CxOk K N W' Φ k X) (ha : PE X a (rdE K N W' Φ a')) (hb : baseB a = true) (hline : (apos.endLine == pos.line) = true) (hp : (e :: es).all plainB = true) (hl : (e :: es).length < 30)
    (hes : PA X (e :: es) (rdEs K N W' Φ es')) : PE X (.Call (.Attribute a "add" apos) (e :: es) [] pos) (rdE K N W' Φ (.mth .add a' es')) := by
  have O1 := O.hK; subst O1
  have hp' := hp
  simp only [List.all_cons, Bool.and_eq_true] at hp'
  have hplain := stars_off (pos := pos) (env := X.env) hp'.2
  refine ⟨fun pins s σ H Q I h => ?_⟩
  refine wpAny_Call_method_late (base_of hb) ?_ hline rfl (thn (ha.run pins s σ H _ I (rd_sadd h)) fun v s1 ⟨x, H1, I1, r1, ty, q1⟩ => ?_)
  · rw [stars_all hp]
    show (true && true && decide ((e :: es).length + 0 + 0 < 30)) = true
    simp only [Nat.add_zero, Bool.and_self, Bool.true_and, decide_eq_true_eq]
    exact hl
  obtain ⟨p, L, rfl, hka⟩ := ty
  rw [O.hS.1, O.hS.2] at hka
  obtain ⟨es0, ep, t, hS⟩ := hka.full I1
  cases r1
  refine ⟨"set", "set.add", F.plainAttrs_set, F.slot_set_add, F.type_set_add, hS.typeIs, hS.noDict, ?_⟩
  have hA := hes.run pos pins s1 σ H1 _ I1 q1
  rw [star_of hp'.1] at hA ⊢
  refine Calls.callWith_builtin (by show (false || (backTo pos (starEach es X.env)).any (·.1)) = false; rw [hplain] <;> rfl) (Calls.evalArgs_plain ?_)
  exact thn hA fun us s2 ⟨vs, H2, I2, r2, q2⟩ => add_run rfl O.hS O.units pins s2 σ H2 (.ref p) vs (.ref p) us Q I2 rfl r2 q2
theorem PE_mth0 {m : BM} (O : CxOk K N W' Φ k X) (hs : bmList m = true) (ha : PE X a (rdE K N W' Φ a')) (hb : baseB a = true) (hline : (apos.endLine == pos.line) = true) : PE X (.Call (.Attribute a (bmName m) apos) [] [] pos) (rdE K N W' Φ (.mth m a' [])) := by
  obtain ⟨h1, h2⟩ := bm_facts hs
  have O1 := O.hK; subst O1
  refine PE.imp (pe_bm0 PySem.F.plainAttrs_list h1 h2 (mth_run (N := N) m (bmList_ne hs) rfl O.units) ha (base_of hb) hline) fun σ H Q h => ?_
  refine rd_mono (rd_mth (bmList_ne hs) h) fun v H1 q => ⟨q.1, ?_⟩
  obtain ⟨F, ρ, G, σ', g, s', res⟩ := q.2
  simp only [evEs] at res
  exact res F ρ H1 [] Ext.refl g rfl
theorem PE_mth {m : BM} (O : CxOk K N W' Φ k X) (hs : bmList m = true) (ha : PE X a (rdE K N W' Φ a')) (hb : baseB a = true) (hline : (apos.endLine == pos.line) = true) (hp : (e :: es).all plainB = true) (hl : (e :: es).length < 30)
    (hes : PA X (e :: es) (rdEs K N W' Φ es')) : PE X (.Call (.Attribute a (bmName m) apos) (e :: es) [] pos) (rdE K N W' Φ (.mth m a' es')) := by
  obtain ⟨h1, h2⟩ := bm_facts hs
  have O1 := O.hK; subst O1
  have hp' := hp
  simp only [List.all_cons, Bool.and_eq_true] at hp'
  refine PE.imp (pe_bm PySem.F.plainAttrs_list h1 h2 (mth_run (N := N) m (bmList_ne hs) rfl O.units) ha hes (base_of hb) ?_ hline (star_of hp'.1) (stars_off hp'.2)) fun σ H Q h => rd_mth (bmList_ne hs) h
  rw [stars_all hp]
  show (true && true && decide ((e :: es).length + 0 + 0 < 30)) = true
  simp only [Nat.add_zero, Bool.and_self, Bool.true_and, decide_eq_true_eq]
  exact hl
/-! ## calls -/
theorem rdA_nil {gc : List W → Sl → Gs → R W} (h : rdEs K N W' Φ [] σv H fun vs H1 => RdA K N W' gc vs σv H1 Q) : RdA K N W' gc [] σv H Q := by
  obtain ⟨F, ρ, G, σ', g, s', res⟩ := h
  simp only [evEs] at res
  exact res F ρ H [] Ext.refl g rfl
/-- a global that is called -/
theorem call_glob {v : Value} {gc : List W → Sl → Gs → R W} (hg : Gl X x) (hm : X.mg x = some v) (hk : PySem.W.keepIn X.K v = true) (hdb : (x == ("__debug__" : Str)) = false) (hp : es.all plainB = true) (hn : es = [] → es' = []) (ha : PA X es (rdEs K N W' Φ es'))
    (I : Inv X pins σv H s) (h1 : rdEs K N W' Φ es' σv H fun vs H1 => RdA K N W' gc vs σv H1 Q)
    (fin : ∀ us vs s1 H1, Inv X pins σv H1 s1 → Vals vs us → RdA K N W' gc vs σv H1 Q → wpAny (model X.prog X.w) X.A (call v us) (EP X pins σv Q) X.xe s1) :
    wpAny (model X.prog X.w) X.A (eval (.Call (.Name x p) es [] pos) X.env) (EP X pins σv Q) X.xe s := by
  refine wpAny_Call_Name_kw (ld_glob I hg hm ?_ hdb)
  cases es with
  | nil =>
    cases hn rfl
    exact PySem.W.callWith_K0 I.kIn hk (fin [] [] s H I .nil (rdA_nil h1))
  | cons e es =>
    simp only [List.all_cons, Bool.and_eq_true] at hp
    exact PySem.W.callWith_K (h₀ := X.base) I.ok.mod.kin hk (thn (ha.run pos pins s σv H _ I h1) fun us s1 ⟨vs, H1, I1, r, q⟩ => ⟨I1.kIn, fin us vs s1 H1 I1 r q⟩) (star_of hp.1) (stars_off hp.2)
theorem PE_call {i : Nat} (O : CxOk K N W' Φ k X) (A : FnOk X.prog X.w X.K X.mg X.base (L2.CX X.prog X.w) k f fd ps (spP K N (Φ.call i))) (hg : Gl X x) (hm : X.mg x = some (.ref f)) (hk : PySem.W.keepIn X.K (.ref f) = true) (hb : Binds X.K fd ps [])
    (hdb : (x == ("__debug__" : Str)) = false) (hp : es.all plainB = true) (hn : es = [] → es' = []) (ha : PA X es (rdEs K N W' Φ es')) : PE X (.Call (.Name x p) es [] pos) (rdE K N W' Φ (.call i es')) := by
  refine ⟨fun pins s σ H Q I h => ?_⟩
  have h1 : rdEs K N W' Φ es' σ H fun vs H1 => RdA K N W' (fun ws _ G => fcall (Φ.call i) ws G) vs σ H1 Q := rdA1 (by simpa only [rdE, evE] using h)
  refine call_glob hg hm hk hdb hp hn ha I h1 fun us vs s1 H1 I1 r1 q1 => ?_
  obtain ⟨F, ρ, G, σ', ws, g, s', r, res⟩ := q1
  exact run_fnS (E := fun σ => WE W' σ) A O.room hb (passAt O.tk σ) I1 r1 (fcall_ok g r res)
/-! ### constructors -/
/-- what a class's __init__ promises -/
def spI (K : PySem.W.Frag) (N : Names) (c : Nat) (φ : List D → PR) : Sp := fun vs H Q E => ∃ F x dx ds us, vs = .ref x :: us ∧ H x = some (.ins (N.cA c) dx []) ∧ F x = none ∧ Same F H ∧ RepL K N F ds us ∧
  (match φ ds with
  | .ok y => ∀ F' H', (∀ a o, H a = some o → a ≠ x → H' a = some o) → Same F F' → Same F' H' → (∀ a o, H a = some o → a ≠ x → F a = none → F' a = none) → Rep K N F' y (.ref x) → Q .non H'
  | .exc e => ∀ F' H' cls d, (∀ a o, H a = some o → a ≠ x → H' a = some o) → Same F F' → Same F' H' → (∀ a o, H a = some o → a ≠ x → F a = none → F' a = none) → RepX K N F' e cls d H' → E cls d H'
  | .no => False)
theorem spI_of {c : Nat} {φ : List D → PR} {vs : List V} {E : XK} {x dx : Addr} (h : spP K N φ vs H Q E) (hx : H x = none) (hd : H dx = none) (ne : dx ≠ x) :
    spI K N c φ (.ref x :: vs) (upd (upd H dx (.own x)) x (.ins (N.cA c) dx [])) (fun v H2 => v = .non ∧ Q (.ref x) H2) E := by
  obtain ⟨F, ds, h1, h2, h3⟩ := h
  have up : ∀ a o, H a = some o → (upd (upd H dx (.own x)) x (.ins (N.cA c) dx [])) a = some o ∧ a ≠ x := fun a o e => by
    have n1 := ne_of_none e hx
    exact ⟨by rw [upd_ne n1, upd_ne (ne_of_none e hd)]; exact e, n1⟩
  refine ⟨F, x, dx, ds, vs, rfl, upd_same, ?_, fun a o e => (up a o (h1 a o e)).1, h2, ?_⟩
  · cases e : F x with
    | none => rfl
    | some o => rw [h1 _ _ e] at hx; cases hx
  · cases e : φ ds with
    | ok y =>
      rw [e] at h3
      exact fun F' H' a1 a2 a3 a4 a5 => ⟨rfl, h3 F' H' _ (fun a o q => a1 a o (up a o q).1 (up a o q).2) a2 a3 (fun a o q z => a4 a o (up a o q).1 (up a o q).2 z) a5⟩
    | exc z =>
      rw [e] at h3
      exact fun F' H' cls d a1 a2 a3 a4 a5 => h3 F' H' cls d (fun a o q => a1 a o (up a o q).1 (up a o q).2) a2 a3 (fun a o q z => a4 a o (up a o q).1 (up a o q).2 z) a5
    | no => rw [e] at h3; exact h3
theorem run_makeS {CX : CXT} {sp : Sp} {E : XK} {us : List Value} {vs : List V} {σ : L2.St} (M : Mk X.K C f) (F : FnOk X.prog X.w X.K X.mg X.base CX k f fd ps sp) (hr : Room (k + 1) X.A) (hb : Binds X.K fd ps [])
    (hx : PassesAt CX X σ E) (I : Inv X pins σ H s) (r : Vals vs us)
    (h : ∀ x dx, H x = none → H dx = none → dx ≠ x → sp (.ref x :: vs) (upd (upd H dx (.own x)) x (.ins C dx [])) (fun v H2 => v = .non ∧ Q (.ref x) H2) E) :
    wpAny (model X.prog X.w) X.A (call (.ref C) us) (EP X pins σ Q) X.xe s := by
  have hq := h (s.heap.objs.size + 1) s.heap.objs.size (I.hok.fresh (Nat.le_succ _)) (I.hok.fresh (Nat.le_refl _)) (Nat.ne_of_lt (Nat.lt_succ_self _))
  have I2 := Inv.made (C := C) I
  have r2 : Vals (V.ref (s.heap.objs.size + 1) :: vs) (Value.ref (s.heap.objs.size + 1) :: us) := .cons rfl r
  have hl : ((Value.ref (s.heap.objs.size + 1) :: us) ++ []).length = ps.length := by
    rw [List.append_nil]
    have e := r2.length
    rw [F.len _ _ _ _ hq] at e
    exact e.symm
  have b := hb _ (Value.ref (s.heap.objs.size + 1) :: us) I2.kIn hl
  rw [List.append_nil] at b
  refine wpAny_call (make_map (f := f) I.kIn M.makes M.init (beq_iff_eq.mp M.fn) (codeAny_mono (F.run _ X.stack _ _ ⟨Value.ref (s.heap.objs.size + 1) :: us, []⟩ (Value.ref (s.heap.objs.size + 1) :: us) _ _ E (hr.make C us [])
    (I2.env0.make C us []) b r2 hq) fun r s' hq' => ?_))
  cases r with
  | error e => exact hx pins _ _ e s' I2 hq'
  | ok fl =>
    cases fl with
    | ret u =>
      obtain ⟨v, H', I3, rv, ev, q3⟩ := I2.after hq'
      subst ev
      exact ⟨rv, ⟨V.ref (s.heap.objs.size + 1), H', I3, rfl, q3⟩⟩
    | next => exact False.elim hq'
    | brk => exact False.elim hq'
    | cont => exact False.elim hq'
theorem PE_new {i : Nat} (O : CxOk K N W' Φ (k + 1) X) (M : Mk X.K (N.cA i) f) (A : FnOk X.prog X.w X.K X.mg X.base (L2.CX X.prog X.w) k f fd ps (spI K N i (Φ.init i))) (hg : Gl X x) (hm : X.mg x = some (.ref (N.cA i))) (hb : Binds X.K fd ps [])
    (hdb : (x == ("__debug__" : Str)) = false) (hp : es.all plainB = true) (hn : es = [] → es' = []) (ha : PA X es (rdEs K N W' Φ es')) : PE X (.Call (.Name x p) es [] pos) (rdE K N W' Φ (.new i es')) := by
  refine ⟨fun pins s σ H Q I h => ?_⟩
  have h1 : rdEs K N W' Φ es' σ H fun vs H1 => RdA K N W' (fun ws _ G => fcall (Φ.init i) ws G) vs σ H1 Q := rdA1 (by simpa only [rdE, evE] using h)
  refine call_glob hg hm M.kp hdb hp hn ha I h1 fun us vs s1 H1 I1 r1 q1 => ?_
  obtain ⟨F, ρ, G, σ', ws, g, s', r, res⟩ := q1
  have sp := fcall_ok g r res
  exact run_makeS M A O.room hb (passAt O.tk σ) I1 r1 fun x dx hx hd ne => spI_of sp hx hd ne
/-! ### methods -/
/-- an own method -/
structure MthOk (X : Cx) (K : PySem.W.Frag) (N : Names) (Φ : Fns) (k c m i : Nat) : Prop where
  cl : Cls K (N.cA c)
  fn : ∃ f fd ps, Meth K (N.cA c) (N.an m) f ∧ Binds K fd ps [] ∧ FnOk X.prog X.w K X.mg X.base (L2.CX X.prog X.w) k f fd ps (spP K N (Φ.call i))
theorem PE_meth {m : Nat} (O : CxOk K N W' Φ k X) (A : Attrs K N Φ) (hM : ∀ c i, Φ.meth c m = some i → MthOk X K N Φ k c m i) (ha : PE X a (rdE K N W' Φ a')) (hb : baseB a = true) (hline : (apos.endLine == pos.line) = true)
    (hp : es.all plainB = true) (hl : es.length < 30) (hn : es = [] → es' = []) (hes : PA X es (rdEs K N W' Φ es')) : PE X (.Call (.Attribute a (N.an m) apos) es [] pos) (rdE K N W' Φ (.meth m a' es')) := by
  have O1 := O.hK; subst O1
  obtain ⟨pl, he⟩ := meth_eq (o := a) (m := N.an m) (apos := apos) (pos := pos) (env := X.env) hb hp hl hline
  refine ⟨fun pins s σ H Q I h => ?_⟩
  have h1 := rd1 (ga := evE Φ a') (gc := fun x σ G1 => match x with
    | .d (.ins c fs) => if (fs.lookup m).isNone && (Φ.meth c m).isSome then (evEs Φ es' σ G1).bind fun ws G2 => mcall Φ c m (x :: ws) G2 else .no
    | _ => .no) (by have h' := h; simp only [rdE, evE] at h'; exact h')
  refine PySem.W.methodCall_KW (pl := pl) (thn (ha.run pins s σ H _ I h1) fun u s1 ⟨x, H1, I1, rx, q⟩ => ?_) he
  obtain ⟨F, ρ, G, σ', w, g, s', r, res⟩ := q
  dsimp only at res
  split at res
  case h_2 => exact res.elim
  rename_i c fs
  split at res
  case isFalse => exact res.elim
  rename_i hq
  simp only [Bool.and_eq_true, Option.isNone_iff_eq_none, Option.isSome_iff_exists] at hq
  obtain ⟨hq1, i, hq2⟩ := hq
  have r' := r
  simp only [RepW, Rep] at r
  obtain ⟨p, dx, fv, rfl, e1, e2⟩ := r
  obtain rfl : u = Value.ref p := rx
  have M := hM c i hq2
  obtain ⟨f, fd, ps, hm, hbd, FO⟩ := M.fn
  refine getmeth_ok I1 (g.sub _ _ e1) M.cl hm (lookF_no e2 A.inj hq1) ?_
  have h2 : rdEs X.K N W' Φ es' σ H1 fun vs H2 => RdB X.K N W' (fun x ws _ G => fcall (Φ.call i) (x :: ws) G) (.ref p) vs σ H2 Q := by
    refine rdA1b ⟨F, ρ, G, σ', .d (.ins c fs), g, s', r', ?_⟩
    dsimp only
    unfold mcall at res
    rw [hq2] at res
    exact res
  have fin : ∀ us vs s2 H2, Inv X pins σ H2 s2 → Vals vs us → RdB X.K N W' (fun x ws _ G => fcall (Φ.call i) (x :: ws) G) (.ref p) vs σ H2 Q → wpAny (model X.prog X.w) X.A (call (.ref f) (.ref p :: us)) (EP X pins σ Q) X.xe s2 := by
    intro us vs s2 H2 I2 rv q
    obtain ⟨F, ρ, G, σ', w, ws, g, s', r, rs, res⟩ := q
    refine run_fnS (E := fun σ => WE W' σ) FO O.room hbd (passAt O.tk σ) I2 (.cons (show RelV (.ref p) (Value.ref p) from rfl) rv) (fcall_ok g (ws := w :: ws) ?_ res)
    simp only [RepWs]
    exact ⟨_, _, rfl, r, rs⟩
  cases es with
  | nil =>
    cases hn rfl
    obtain ⟨F, ρ, G, σ', g, s', res⟩ := h2
    simp only [evEs] at res
    exact PySem.W.callWith_K0 (first := [.ref p]) I1.kIn hm.kp (fin [] [] s1 H1 I1 .nil (res F ρ H1 [] Ext.refl g rfl))
  | cons e es =>
    simp only [List.all_cons, Bool.and_eq_true] at hp
    exact PySem.W.callWith_K (first := [.ref p]) (h₀ := X.base) I.ok.mod.kin hm.kp (thn (hes.run pos pins s1 σ H1 _ I1 h2) fun us s2 ⟨vs, H2, I2, r, q2⟩ => ⟨I2.kIn, fin us vs s2 H2 I2 r q2⟩) (star_of hp.1) (stars_off hp.2)
end
end Ev

end

-- part EvO
section
set_option Elab.async false
set_option linter.all false
namespace Ev
open PySem L2 PyProof.Rows
theorem R.bind_assoc {α β γ : Type} (x : R α) (f : α → Gs → R β) (g : β → Gs → R γ) : (x.bind f).bind g = x.bind fun a G => (f a G).bind g := by cases x <;> rfl
theorem evEs_app (Φ : Fns) : ∀ (as bs : List E) (σ : Sl) (G : Gs), evEs Φ (as ++ bs) σ G = (evEs Φ as σ G).bind fun ws G1 => (evEs Φ bs σ G1).bind fun zs G2 => .ok (ws ++ zs) G2
  | [], bs, σ, G => by
    simp only [List.nil_append, evEs, R.bind]
    cases evEs Φ bs σ G <;> rfl
  | a :: as, bs, σ, G => by
    simp only [List.cons_append, evEs, R.bind_assoc]
    cases evE Φ a σ G with
    | ok w G1 =>
      simp only [R.bind]
      rw [evEs_app Φ as bs σ G1]
      cases evEs Φ as σ G1 with
      | ok ws G2 =>
        simp only [R.bind]
        cases evEs Φ bs σ G2 <;> rfl
      | exc => rfl
      | no => rfl
    | exc => rfl
    | no => rfl
section
variable {K : PySem.W.Frag} {N : Names} {W' : WX} {Φ : Fns} {k kf : Nat} {X : Cx} {σv : L2.St} {H F : Hp} {Q : VK} {ρ : Nat → Addr} {G : Gs} {pins : List (Addr × Obj)} {s : Shared}
variable {a b c e : Expr} {es : List Expr} {a' b' c' : E} {es' ks' : List E} {pos p apos kpos : Pos} {x : Str} {f C : Addr} {fd : FuncData} {ps ks : List Str} {kws : List Keyword} {nm : Option Str}
theorem PK_nil : PK X [] (rdEs K N W' Φ []) := ⟨fun _ _ s σ H Q I h => by
  obtain ⟨F, ρ, G, σ', g, s', res⟩ := h
  simp only [evEs] at res
  exact wpAny_evalAll_nil ⟨[], H, I, .nil, res F ρ H [] Ext.refl g rfl⟩⟩
theorem rdA_cons {e' : E} {es' : List E} {Q : List V → Hp → Prop} (h : rdEs K N W' Φ (e' :: es') σv H Q) : rdE K N W' Φ e' σv H fun v H1 => rdEs K N W' Φ es' σv H1 fun vs H2 => Q (v :: vs) H2 := by
  obtain ⟨F, ρ, G, σ, g, s, res⟩ := h
  simp only [evEs] at res
  refine ⟨F, ρ, G, σ, g, s, ?_⟩
  cases e1 : evE Φ e' σ G with
  | ok w G1 =>
    intro F1 ρ1 H1 v x1 g1 r1
    rw [e1] at res
    refine ⟨F1, ρ1, G1, σ, g1, s.mono x1.later, ?_⟩
    simp only [R.bind] at res
    cases e2 : evEs Φ es' σ G1 with
    | ok ws G2 =>
      intro F2 ρ2 H2 vs x2 g2 r2
      rw [e2] at res
      exact res F2 ρ2 H2 (v :: vs) (x1.trans x2) g2 (by simp only [RepWs]; exact ⟨v, vs, rfl, r1.mono x2.later, r2⟩)
    | exc z G2 => rw [e2] at res; exact Res.later (RA := RepWs K N) (Q := fun xs H2 => Q (v :: xs) H2) (r := .exc z G2) x1 res
    | no => rw [e2] at res; exact res
  | exc z G1 => rw [e1] at res; exact res
  | no => rw [e1] at res; exact res
theorem PK_cons (ha : PE X a (rdE K N W' Φ a')) (hr : PK X kws (rdEs K N W' Φ es')) : PK X (⟨nm, a, kpos⟩ :: kws) (rdEs K N W' Φ (a' :: es')) :=
  ⟨fun pos pins s σ H Q I h => (pk_cons (nm := nm) (kpos := kpos) ha hr).run pos pins s σ H Q I (rdA_cons h)⟩
theorem rdA_app {gc : List W → Sl → Gs → R W} (h : rdEs K N W' Φ (es' ++ ks') σv H fun vs H1 => RdA K N W' gc vs σv H1 Q) :
    rdEs K N W' Φ es' σv H fun vs H1 => rdEs K N W' Φ ks' σv H1 fun zs H2 => RdA K N W' gc (vs ++ zs) σv H2 Q := by
  obtain ⟨F, ρ, G, σ, g, s, res⟩ := h
  rw [evEs_app] at res
  refine ⟨F, ρ, G, σ, g, s, ?_⟩
  cases e1 : evEs Φ es' σ G with
  | ok ws G1 =>
    intro F1 ρ1 H1 vs x1 g1 r1
    rw [e1] at res
    refine ⟨F1, ρ1, G1, σ, g1, s.mono x1.later, ?_⟩
    simp only [R.bind] at res
    cases e2 : evEs Φ ks' σ G1 with
    | ok zs G2 =>
      intro F2 ρ2 H2 us x2 g2 r2
      rw [e2] at res
      exact res F2 ρ2 H2 (vs ++ us) (x1.trans x2) g2 ((r1.mono x2.later).app r2)
    | exc z G2 => rw [e2] at res; exact Res.later (RA := RepWs K N) (Q := fun xs H2 => RdA K N W' gc (vs ++ xs) σv H2 Q) (r := .exc z G2) x1 res
    | no => rw [e2] at res; exact res
  | exc z G1 => rw [e1] at res; exact res
  | no => rw [e1] at res; exact res
theorem run_makeKS {CX : CXT} {sp : Sp} {E : XK} {us ws : List Value} {vs zs : List V} {σ : L2.St} {n : Nat} (M : Mk X.K C f) (F : FnOk X.prog X.w X.K X.mg X.base CX k f fd ps sp) (hr : Room (k + 1) X.A) (hb : KBn X.K fd ps (n + 1) ks (fun us ws => us ++ ws) (fun us ws => us ++ ws))
    (hx : PassesAt CX X σ E) (I : Inv X pins σ H s) (r : Vals vs us) (rz : Vals zs ws) (l1 : vs.length = n) (l2 : zs.length = ks.length)
    (h : ∀ x dx, H x = none → H dx = none → dx ≠ x → sp (.ref x :: (vs ++ zs)) (upd (upd H dx (.own x)) x (.ins C dx [])) (fun v H2 => v = .non ∧ Q (.ref x) H2) E) :
    wpAny (model X.prog X.w) X.A (call (.ref C) us (ks.zip ws)) (EP X pins σ Q) X.xe s := by
  have hq := h (s.heap.objs.size + 1) s.heap.objs.size (I.hok.fresh (Nat.le_succ _)) (I.hok.fresh (Nat.le_refl _)) (Nat.ne_of_lt (Nat.lt_succ_self _))
  have I2 := Inv.made (C := C) I
  have r1 : Vals (V.ref (s.heap.objs.size + 1) :: vs) (Value.ref (s.heap.objs.size + 1) :: us) := .cons rfl r
  have r2 : Vals (V.ref (s.heap.objs.size + 1) :: (vs ++ zs)) (Value.ref (s.heap.objs.size + 1) :: (us ++ ws)) := hb.rel r1 rz
  have n1 : (Value.ref (s.heap.objs.size + 1) :: us).length = n + 1 := by
    rw [List.length_cons, ← r.length, l1]
  refine wpAny_call (make_map (f := f) I.kIn M.makes M.init (beq_iff_eq.mp M.fn) (codeAny_mono (F.run _ X.stack _ _ ⟨Value.ref (s.heap.objs.size + 1) :: us, ks.zip ws⟩ (Value.ref (s.heap.objs.size + 1) :: (us ++ ws)) _ _ E (hr.make C us (ks.zip ws))
    (I2.env0.make C us (ks.zip ws)) (hb.to _ (Value.ref (s.heap.objs.size + 1) :: us) ws I2.kIn n1 (rz.length.symm.trans l2)) r2 hq) fun r s' hq' => ?_))
  cases r with
  | error e => exact hx pins _ _ e s' I2 hq'
  | ok fl =>
    cases fl with
    | ret u =>
      obtain ⟨v, H', I3, rv, ev, q3⟩ := I2.after hq'
      subst ev
      exact ⟨rv, ⟨V.ref (s.heap.objs.size + 1), H', I3, rfl, q3⟩⟩
    | next => exact False.elim hq'
    | brk => exact False.elim hq'
    | cont => exact False.elim hq'
/-- the keywords, each by name -/
def kwsB (ks : List Str) (kws : List Keyword) : Bool := decide (kws.map (·.arg) = ks.map some)
theorem kws_names {ks : List Str} : ∀ {kws : List Keyword} {env : Env} {pos : Pos}, kws.map (·.arg) = ks.map some →
    (backToKw pos (keywordEach kws env)).all (·.1.isSome) = true ∧ (backToKw pos (keywordEach kws env)).filterMap (·.1) = ks ∧ (backToKw pos (keywordEach kws env)).any (·.1.isNone) = false := by
  induction ks with
  | nil =>
    intro kws env pos h
    cases kws with
    | nil => exact ⟨rfl, rfl, rfl⟩
    | cons _ _ => simp at h
  | cons n r ih =>
    intro kws env pos h
    cases kws with
    | nil => simp at h
    | cons q kws =>
      simp only [List.map_cons, List.cons.injEq] at h
      obtain ⟨h1, h2⟩ := h
      obtain ⟨i1, i2, i3⟩ := ih (env := env) (pos := pos) h2
      obtain ⟨an, v, kp⟩ := q
      cases h1
      refine ⟨?_, ?_, ?_⟩
      · show (true && (backToKw pos (keywordEach kws env)).all (·.1.isSome)) = true
        rw [i1]; rfl
      · show n :: (backToKw pos (keywordEach kws env)).filterMap (·.1) = n :: r
        rw [i2]
      · show (false || (backToKw pos (keywordEach kws env)).any (·.1.isNone)) = false
        rw [i3]; rfl
theorem evEs_len : ∀ {es : List E} {σ : Sl} {G : Gs} {ws : List W} {G1 : Gs}, evEs Φ es σ G = .ok ws G1 → ws.length = es.length
  | [], σ, G, ws, G1, h => by simp only [evEs] at h; cases h; rfl
  | e :: es, σ, G, ws, G1, h => by
    simp only [evEs] at h
    cases e1 : evE Φ e σ G with
    | ok w G2 =>
      rw [e1] at h
      simp only [R.bind] at h
      cases e2 : evEs Φ es σ G2 with
      | ok zs G3 =>
        rw [e2] at h
        cases h
        simp [evEs_len e2]
      | exc _ _ => rw [e2] at h; cases h
      | no => rw [e2] at h; cases h
    | exc _ _ => rw [e1] at h; cases h
    | no => rw [e1] at h; cases h
theorem rdA_len {Q : List V → Hp → Prop} (h : rdEs K N W' Φ es' σv H Q) : rdEs K N W' Φ es' σv H fun vs H1 => vs.length = es'.length ∧ Q vs H1 := by
  obtain ⟨F, ρ, G, σ, g, s, res⟩ := h
  refine ⟨F, ρ, G, σ, g, s, ?_⟩
  cases e : evEs Φ es' σ G with
  | ok ws G1 =>
    rw [e] at res
    exact fun F1 ρ1 H1 vs x1 g1 r1 => ⟨by rw [← r1.len, evEs_len e], res F1 ρ1 H1 vs x1 g1 r1⟩
  | exc z G1 => rw [e] at res; exact res
  | no => rw [e] at res; exact res
/-- C(e, .., k = v, ..): all parameters, in their order -/
theorem PE_newK {i : Nat} (O : CxOk K N W' Φ (k + 1) X) (M : Mk X.K (N.cA i) f) (A : FnOk X.prog X.w X.K X.mg X.base (L2.CX X.prog X.w) k f fd ps (spI K N i (Φ.init i))) (hg : Gl X x) (hm : X.mg x = some (.ref (N.cA i)))
    (hb : KBn X.K fd ps (es'.length + 1) ks (fun us ws => us ++ ws) (fun us ws => us ++ ws)) (hdb : (x == ("__debug__" : Str)) = false) (hp : (e :: es).all plainB = true) (ha : PA X (e :: es) (rdEs K N W' Φ es'))
    (hk : PK X kws (rdEs K N W' Φ ks')) (hks : kws.map (·.arg) = ks.map some) (hkl : ks'.length = ks.length) : PE X (.Call (.Name x p) (e :: es) kws pos) (rdE K N W' Φ (.new i (es' ++ ks'))) := by
  obtain ⟨k1, k2, k3⟩ := kws_names (env := X.env) (pos := pos) hks
  simp only [List.all_cons, Bool.and_eq_true] at hp
  refine ⟨fun pins s σ H Q I h => ?_⟩
  have h1 : rdEs K N W' Φ (es' ++ ks') σ H fun vs H1 => RdA K N W' (fun ws _ G => fcall (Φ.init i) ws G) vs σ H1 Q := rdA1 (by simpa only [rdE, evE] using h)
  refine wpAny_Call_Name_kw (ld_glob I hg hm ?_ hdb)
  refine PySem.W.callWith_KW (h₀ := X.base) I.ok.mod.kin M.kp k1 (thn (ha.run pos pins s σ H _ I (rdA_len (rdA_app h1))) fun us s1 ⟨vs, H1, I1, r, l1, q⟩ => ?_) ?_ (star_of hp.1)
  · refine thn (hk.run pos pins s1 σ H1 _ I1 (rdA_len q)) fun ws s2 ⟨zs, H2, I2, rz, l2, q2⟩ => ⟨I2.kIn, ?_⟩
    rw [k2]
    obtain ⟨F, ρ, G, σ', ws', g, s', r', res⟩ := q2
    have sp := fcall_ok g r' res
    exact run_makeKS M A O.room hb (passAt O.tk σ) I2 r rz l1 (l2.trans hkl) fun x dx hx hd ne => spI_of sp hx hd ne
  · rw [k3, star_of hp.1]
    show ((false || (backTo pos (starEach es X.env)).any (·.1)) || false) = false
    rw [stars_off hp.2]; rfl
/-! ### isinstance -/
def tyName : Ty → Str
  | .int => "int" | .bool => "bool" | .str => "str" | .list => "list" | .tuple => "tuple" | .cls _ => "" | .err _ => ""
def tyV' (N : Names) : Ty → V
  | .cls c => .ref (N.cA c) | .err c => .ref (N.cA c) | .int => .ty "int" | .bool => .ty "bool" | .str => .ty "str" | .list => .ty "list" | .tuple => .ty "tuple"
theorem clsV_of (t : Ty) : ClsV (tyV' N t) (tyVal N t) := by
  cases t <;> first | exact .ty _ | exact .own _
theorem clsVs_of : ∀ ts : List Ty, Paired ClsV (ts.map (tyV' N)) (ts.map (tyVal N))
  | [] => .nil
  | t :: r => .cons (clsV_of t) (clsVs_of r)
theorem TyX.any {w : W} {v : V} {ok : Nat → Bool} (kit : Kits K N ok) (g : Good K N F ρ G H) (r : RepW K N F ρ G.length w v) {t0 : Ty} {ts : List Ty} {bb : Bool} (e : isTys ok G w (t0 :: ts) = some bb) :
    ∃ tv : Value, TyX K H v tv ∧ PySem.W.kitAny K tv ((t0 :: ts).map (tyVal N)) = some bb := by
  have e' := e
  simp only [isTys, Option.bind_eq_bind, Option.bind_eq_some_iff] at e'
  obtain ⟨b0, e0, _⟩ := e'
  obtain ⟨tv, h1, h2⟩ := TyX.of kit g r e0
  refine ⟨tv, h1, ?_⟩
  clear h1 e0
  generalize (t0 :: ts) = us at e
  induction us with
  | nil => simp only [isTys, Option.some.injEq] at e; subst e; rfl
  | cons t us ih =>
    simp only [isTys, Option.bind_eq_bind, Option.bind_eq_some_iff] at e
    obtain ⟨b1, e1, e2⟩ := e
    rw [List.map_cons]
    refine kitAny_cons (b := b1) (h2 t b1 e1) (fun hb => ?_) fun hb => ?_
    · subst hb
      exact ih e2
    · subst hb
      simpa using e2.symm
/-- isinstance(a, T) -/
theorem PE_isin1 {t : Ty} (O : CxOk K N W' Φ k X) (kit : Kits K N Φ.isc) (hg : Gl X "isinstance") (hm : X.mg "isinstance" = none) (hp : plainB a = true) (ha : PE X a (rdE K N W' Φ a')) (hT : PE X b (tC (tyV' N t))) (hpb : plainB b = true) :
    PE X (.Call (.Name "isinstance" p) [a, b] [] pos) (rdE K N W' Φ (.isin a' [t])) := by
  have O1 := O.hK; subst O1
  refine PE.imp (pe_callB call_isi hg hm (by with_unfolding_all rfl) (pa_cons ha (pa_cons hT pa_nil (star_of hpb)) (star_of hp)) (by decide) (by decide) (star_of hp) (stars_off (by simp [hpb]))) fun σ H Q h => ?_
  refine rd_mono (rd1 (by simpa only [rdE, evE] using h)) fun v H1 q => ?_
  obtain ⟨F, ρ, G, σ, w, g, s, r, res⟩ := q
  dsimp only at res
  split at res
  · rename_i bb e
    simp only [isTys, Option.bind_eq_bind, Option.bind_eq_some_iff] at e
    obtain ⟨b0, e0, e1⟩ := e
    obtain ⟨tv, h3, h4⟩ := TyX.of kit g r e0
    have : b0 = bb := by cases b0 <;> simpa using e1
    subst this
    exact ⟨v, tyV' N t, tv, tyVal N t, b0, rfl, clsV_of t, h3, h4 t b0 e0, ResW.bl res g⟩
  · exact res.elim
/-- the types of a written tuple -/
theorem PE_isinT {t0 : Ty} {ts : List Ty} {bs : List Expr} {j : Nat} {p2 : Pos} {tb : TA} (O : CxOk K N W' Φ k X) (kit : Kits K N Φ.isc) (hg : Gl X "isinstance") (hm : X.mg "isinstance" = none) (hp : plainB a = true) (ha : PE X a (rdE K N W' Φ a'))
    (hT : PA X bs tb) (htb : ∀ σ H Q, Q ((t0 :: ts).map (tyV' N)) H → tb σ H Q) (hlen : (t0 :: ts).length ≤ 100) :
    PE X (.Call (.Name "isinstance" p) [a, .Tuple bs j p2] [] pos) (rdE K N W' Φ (.isin a' (t0 :: ts))) := by
  have O1 := O.hK; subst O1
  refine PE.imp (pe_callB call_isiT hg hm (by with_unfolding_all rfl) (pa_cons ha (pa_cons (pe_tup hT) pa_nil rfl) (star_of hp)) (by decide) (by decide) (star_of hp) rfl) fun σ H Q h => ?_
  refine rd_mono (rd1 (by simpa only [rdE, evE] using h)) fun v H1 q => ?_
  obtain ⟨F, ρ, G, σ, w, g, s, r, res⟩ := q
  dsimp only at res
  split at res
  · rename_i bb e
    refine htb _ _ _ ⟨by rw [List.length_map, sizeLine_eq]; omega, fun p hp => ?_⟩
    obtain ⟨g2, x2⟩ := g.new (o := .tup ((t0 :: ts).map (tyV' N))) hp
    obtain ⟨tv, h1, h2⟩ := TyX.any kit g2 (r.mono x2.later) e
    exact ⟨v, p, _, tv, _, bb, rfl, upd_same, clsVs_of _, h1, h2, res _ _ _ _ x2 g2 rfl⟩
  · exact res.elim
end
end Ev

end

-- part EvP
section
set_option Elab.async false
set_option linter.all false
namespace PySem
set_option maxHeartbeats 1000000 in
theorem meets_enumerate_newB1 {v : Value} {o : Obj} {H : Heap → Prop} (B : Begins v o H) :
    Meets (Builtin.«enumerate.__new__» ⟨[.type "enumerate", v], []⟩) (fun _ R s => H s.heap ∧
      R (.ok (.ret (.ref (s.heap.push o).objs.size))) { s with heap := (s.heap.push o).push { cls := .type "enumerate", data := .fields #[.none, .bool false, .ref s.heap.objs.size, rawInt 0, .none, .none] } }) :=
  .of_wp fun prog w A R s h => by
    obtain ⟨hp, g, d, tk, os⟩ := s; obtain ⟨h1, h⟩ := h
    have hsub := sub_enumerate
    have q1 : ∀ {A' : Around} {E : Value → Shared → Prop} {Q : Value → Shared → Prop}, Q (.ref hp.objs.size) ⟨hp.push o, g, d, tk, os⟩ → wpAny (model prog w) A' (pyIter v) Q E ⟨hp, g, d, tk, os⟩ :=
      fun q => B.iter prog w _ _ ⟨hp, g, d, tk, os⟩ _ h1 q
    wp_walk using q1
    refine wpAny_stack_any fun st => wpAny_pure ?_
    split
    · rename_i c _ _ _ _ _
      cases (c == Value.type "enumerate")
      · wp_walk using q1
        exact ⟨_, rfl, h⟩
      · wp_walk using q1
        exact ⟨_, rfl, h⟩
    · wp_walk using q1
      exact ⟨_, rfl, h⟩
theorem call_enumerate1 {prog : Program} {w : World} {A : Around} {E : Value → Shared → Prop} {s : Shared} {v : Value} {o : Obj} {H : Heap → Prop} {Q : Value → Shared → Prop} (B : Begins v o H) (h1 : H s.heap)
    (h : ∀ h', IsEnum h' (s.heap.objs.size + 1) s.heap.objs.size 0 .none → h'.get? s.heap.objs.size = some o → h'.objs.size = s.heap.objs.size + 2 →
      (∀ b o, s.heap.get? b = some o → h'.get? b = some o) → Q (.ref (s.heap.objs.size + 1)) { s with heap := h' }) :
    wpAny (model prog w) A (call (.type "enumerate") [v]) Q E s := by
  refine callType_new F.called_enumerate (by decide) (F.typeCall_enumerate_1 _) (F.newCall_enumerate_1 _) (fun obj => F.args_object_init_2 obj _) F.entry_enumerate_new
    (meets_enumerate_newB1 B) ⟨h1, ?_⟩
  have hz : (s.heap.push o).objs.size = s.heap.objs.size + 1 := Heap.size_push ..
  show _ ∧ _
  rw [hz]
  have he : IsEnum ((s.heap.push o).push { cls := .type "enumerate", data := .fields #[.none, .bool false, .ref s.heap.objs.size, rawInt 0, .none, .none] }) (s.heap.objs.size + 1) s.heap.objs.size 0 .none := by
    have := Heap.get?_push_size (s.heap.push o) (o := { cls := .type "enumerate", data := .fields #[.none, .bool false, .ref s.heap.objs.size, rawInt 0, .none, .none] }) rfl
    rw [hz] at this; exact this
  refine ⟨⟨_, he, rfl⟩, h _ he (Heap.get?_push_of_some _ (Heap.get?_push_size _ B.free)) (by rw [Heap.size_push, hz]) fun b o x => Heap.get?_push_of_some _ (Heap.get?_push_of_some _ x)⟩
end PySem
namespace Ev
open PySem L2 PyProof.Rows
/-- a list (k = false), a tuple -/
def SqA (K : PySem.W.Frag) (k : Bool) (H : Hp) (a : Addr) (xs : List V) : Prop := if k then SqT K H a xs else SqL K H a xs
def AtA (k : Bool) (h : Heap) (a : Addr) (items : Array Value) : Prop := if k then h.IsTuple a items else h.IsList a items
def ItA (k : Bool) (h : Heap) (it a : Addr) (i : Nat) : Prop := if k then h.IsTupleIter it a i else h.IsListIter it a i
def obA (k : Bool) (a : Addr) : Obj := if k then { cls := .type "tuple_iterator", data := .fields #[.ref a, .int 0 0] } else { cls := .type "list_iterator", data := .fields #[.ref a, .int 0 0] }
section
variable {X : Cx} {pins : List (Addr × Obj)} {σ : L2.St} {H : Hp} {s : Shared}
theorem Inv.sqA {k : Bool} {a : Addr} {xs : List V} (I : Inv X pins σ H s) (h : SqA X.K k H a xs) : ∃ its : List Value, Vals xs its ∧ AtA k s.heap a its.toArray ∧ xs.length ≤ sizeLine := by
  cases k with
  | false => obtain ⟨its, r, p, z⟩ := I.list h; exact ⟨its, r, p.isList, z⟩
  | true => obtain ⟨its, r, p, z⟩ := I.tuple h; exact ⟨its, r, p, z⟩
theorem Inv.sqA_inj {k : Bool} {a : Addr} {xs ys : List V} (I : Inv X pins σ H s) (h : SqA X.K k H a xs) (h' : SqA X.K k H a ys) : xs = ys := by
  cases k with
  | false => exact I.list_inj h h'
  | true => exact I.tuple_inj h h'
end
theorem AtA.lt {k : Bool} {h : Heap} {a : Addr} {items : Array Value} (x : AtA k h a items) : a < h.objs.size := by
  cases k with
  | false => obtain ⟨o, e, _⟩ := (show h.IsList a items from x); exact Heap.lt_size e
  | true => obtain ⟨o, e, _⟩ := (show h.IsTuple a items from x); exact Heap.lt_size e
theorem ItA.at {k : Bool} {h h' : Heap} {it a : Addr} {i : Nat} (x : ItA k h it a i) (hk : ∀ o, h.get? it = some o → h'.get? it = some o) : ItA k h' it a i := by
  cases k with
  | false => exact Heap.IsListIter.at (show h.IsListIter it a i from x) hk
  | true => exact Heap.IsTupleIter.at (show h.IsTupleIter it a i from x) hk
theorem ItA.obj {k : Bool} {h : Heap} {it a : Addr} {i : Nat} (x : ItA k h it a i) : ∃ o, h.get? it = some o ∧ ∀ v, o.data ≠ .cell v := by
  cases k with
  | false => obtain ⟨o, e, _, d⟩ := (show h.IsListIter it a i from x); exact ⟨o, e, fun v z => by rw [d] at z; cases z⟩
  | true => obtain ⟨o, e, _, d⟩ := (show h.IsTupleIter it a i from x); exact ⟨o, e, fun v z => by rw [d] at z; cases z⟩
theorem ItA.start {k : Bool} {h : Heap} {it a : Addr} (e : h.get? it = some (obA k a)) : ItA k h it a 0 := by
  cases k with
  | false => exact ⟨_, e, rfl, rfl⟩
  | true => exact ⟨_, e, rfl, rfl⟩
theorem begA (k : Bool) (a : Addr) (items : Array Value) : Begins (.ref a) (obA k a) fun h => AtA k h a items := by
  cases k with
  | false => exact begins_list a items
  | true => exact begins_tuple a items
theorem drawA {prog : Program} {w : World} {A : Around} (k : Bool) (hh : A.handled = none) (it a : Addr) (hne : a ≠ it) (items : Array Value) :
    Draws prog w A.in1 it [it, a] items.size (fun i v => items[i]? = some v) (fun i h => ItA k h it a i ∧ AtA k h a items) := by
  cases k with
  | false => exact Draws.list (A := A.in1) hh it a hne items
  | true => exact Draws.tuple (A := A.in1) hh it a hne items
theorem IsTuple.ok {X : Cx} {H : Hp} {h : Heap} {T : Addr} {x y : V} {u v : Value} (e : h.IsTuple T #[u, v]) (r1 : RelV x u) (r2 : RelV y v) : ObjOk X.prog X.w (upd H T (.tup [x, y])) h T (.tup [x, y]) := by
  obtain ⟨o, e1, e2, n, e3⟩ := e
  exact ⟨by show 2 ≤ sizeLine; decide, [u, v], .cons r1 (.cons r2 .nil), ⟨o, e1, e2, n, e3⟩⟩
/-- untracked records of ours have turned -/
theorem Inv.turnedS {X : Cx} {pins : List (Addr × Obj)} {σ : L2.St} {H : Hp} {s : Shared} {h' : Heap} {t' : Nat} {ch : List Addr} (I : Inv X pins σ H s) (k : ∀ b o, b ∉ ch → s.heap.get? b = some o → h'.get? b = some o) (hf : ∀ b ∈ ch, FpOk X pins H b) :
    Inv X pins σ H { s with heap := h', toks := t' } := by
  have nit : ∀ b u, H b = some u → b ∉ ch := fun b u e z => by
    have q := (hf b z).1
    rw [q] at e; cases e
  refine I.step (g' := s.gens) (d' := s.drawn) (ch := ch) (fun b hb => ⟨(hf b hb).2.2.2.1, (hf b hb).2.1, (hf b hb).2.2.2.2.1, (hf b hb).2.2.2.2.2⟩) (fun b o _ _ hc e _ => k b o hc e) (fun b o _ _ hc e _ => ⟨o.slots, k b o hc e⟩) (fun _ _ _ _ n => n)
    (fun b o hc e => ⟨o, k b o hc e⟩) (fun _ _ e => e) (fun _ _ _ e => e) (fun b ps e => ⟨#[], by rw [e]; simp⟩) (fun m hm => ?_) (fun b u e => ?_) I.bare
  · obtain ⟨o, es, ep, ho, r⟩ := hm
    exact ⟨o, es, ep, k _ o (fun z => (hf _ z).2.1 rfl) ho, r⟩
  · refine (I.hok b u e).stay (fun c v hc q => k c v ?_ q) (fun _ q => q) fun _ _ q => q
    rcases hc with z | z
    · rw [z]; exact nit b u e
    · exact nit c _ z
/-! ### enumerate -/
def IteA (K : PySem.W.Frag) (k : Bool) (a : Addr) : L2.It :=
  ⟨fun i H => ∃ (xs : List V) (x : V), SqA K k H a xs ∧ xs[i]? = some x, fun i H v H' => ∃ T x, v = .ref T ∧ H T = none ∧ H' = upd H T (.tup [.int (i : Nat), x]) ∧ ∀ xs, SqA K k H a xs → xs[i]? = some x, fun i H => ∃ xs : List V, SqA K k H a xs ∧ xs.length = i⟩
theorem turn_enumA {P : Program} {w : World} {K : PySem.W.Frag} {elts : List Expr} {kk : Nat} {tpos : Pos} (k : Bool) (a e it : Addr) (h1 : e ≠ it) (h2 : e ≠ a) (h3 : a ≠ it) :
    Turn P w K (.Tuple elts kk tpos) (IteA K k a) [e, it] e (fun i h => (∃ old, IsEnum h e it ((0 : Int) + ((i : Nat) : Int)) old) ∧ ItA k h it a i) where
  mem := by simp
  obj := fun i h st b hb => by
    obtain ⟨⟨old, he⟩, hi⟩ := st
    have e' : b = e ∨ b = it := by simpa using hb
    rcases e' with z | z
    · rw [z]; exact ⟨_, he, fun v q => nomatch q⟩
    · rw [z]; exact hi.obj
  keep := fun i h h' st kp => let ⟨⟨old, he⟩, hi⟩ := st; ⟨⟨old, kp e (by simp) _ he⟩, hi.at fun o q => kp it (by simp) o q⟩
  item := by
    intro X hP hw hK hc i pins s σ H E I hf st hg
    subst hP hw hK
    obtain ⟨⟨old, he⟩, hit⟩ := st
    obtain ⟨xs, x, hq, hx⟩ := hg
    obtain ⟨its, rv, p, hz⟩ := Inv.sqA I hq
    obtain ⟨u, hu, ru⟩ := rv.get hx
    have hlen : i < its.toArray.size := by
      have := (List.getElem?_eq_some_iff.mp hu).1
      simpa using this
    have hef : e ∉ [it, a] := by simp [h1, h2]
    refine (GoesN.enumFrom (prog := X.prog) (w := X.w) (A := X.A) (elts := elts) (x1 := kk) (pos := tpos) 0 (drawA k (I.ok.hd hc) it a h3 its.toArray) e h1 hef (by simp)).goes i s _ E hlen ⟨⟨old, he⟩, hit, p⟩ fun v h' tk hY st' hk htk => ?_
    obtain ⟨T, t, y, rfl, hT, hy, hTu⟩ := hY
    obtain ⟨⟨old', he'⟩, hit', _⟩ := st'
    have : y = u := by simpa [hu] using hy.symm
    subst this
    have new : ObjOk X.prog X.w (upd H T (.tup [.int (i : Nat), x])) h' T (.tup [.int (i : Nat), x]) := IsTuple.ok hTu ⟨t, by simp⟩ ru
    have I1 : Inv X pins σ (upd H T (.tup [.int (i : Nat), x])) { s with heap := h', toks := tk } := I.turnedNew (ch := [e, it]) hk hf hT new
    refine ⟨.ref T, _, I1, rfl, ⟨T, x, rfl, I.hok.fresh hT, rfl, fun ys hy => by rw [Inv.sqA_inj I hy hq]; exact hx⟩, ⟨⟨old', he'⟩, hit'⟩, fun b hb => ?_⟩
    have hb' : b < s.heap.objs.size := by
      have e' : b = e ∨ b = it := by simpa using hb
      rcases e' with z | z
      · rw [z]; exact Heap.lt_size he
      · rw [z]; obtain ⟨o, q, _⟩ := hit.obj; exact Heap.lt_size q
    rw [upd_ne (Nat.ne_of_lt (Nat.lt_of_lt_of_le hb' hT))]
    exact (hf b hb).1
  done := by
    intro X hP hw hK hc i pins s σ H E I hf st hg
    subst hP hw hK
    obtain ⟨⟨old, he⟩, hit⟩ := st
    obtain ⟨xs, hq, hx⟩ := hg
    obtain ⟨its, rv, p, hz⟩ := Inv.sqA I hq
    have hl := rv.length
    have hi : i = its.toArray.size := by simp; omega
    have hef : e ∉ [it, a] := by simp [h1, h2]
    subst hi
    refine (GoesN.enumFrom (prog := X.prog) (w := X.w) (A := X.A) (elts := elts) (x1 := kk) (pos := tpos) 0 (drawA k (I.ok.hd hc) it a h3 its.toArray) e h1 hef (by simp)).stops s _ E ⟨⟨old, he⟩, hit, p⟩ fun h' tk hk htk => ?_
    exact Inv.turnedS I hk hf
  self := fun A i s Q E st h => let ⟨⟨_, he⟩, _⟩ := st; wpAny_pyIter_enum he h
theorem walk_enumA {K : PySem.W.Frag} {k : Bool} {a : Addr} {xs : List V} : Walk (IteA K k a) xs.length (fun H => SqA K k H a xs) (YPair (fun i => some (.int (i : Nat))) (fun i => xs[i]?)) := by
  refine ⟨fun i _ hi q => ⟨xs, xs[i], q, by simp [hi]⟩, fun _ q => ⟨xs, q, rfl⟩, fun i H v H' _ q y => ?_⟩
  obtain ⟨T, x, h1, h2, h3, h4⟩ := y
  exact ⟨T, .int (i : Nat), x, h1, h2, h3, rfl, h4 xs q⟩
theorem pi_enumA {X : Cx} {e : Expr} {ta : TA} {p pos tpos : Pos} {elts : List Expr} {kk : Nat} (hg : Gl X "enumerate") (hm : X.mg "enumerate" = none) (ha : PA X [e] ta) (hs : starEach [e] X.env = [(false, eval e X.env)]) :
    PI X (.Tuple elts kk tpos) (.Call (.Name "enumerate" p) [e] [] pos) (fun σ H R => ta σ H fun vs H1 => ∃ k a xs, vs = [.ref a] ∧ SqA X.K k H1 a xs ∧ R (IteA X.K k a) H1) := by
  refine ⟨fun pins s σ H R I h => ?_⟩
  refine Call_ (ld_blt I hg hm boot_enumerate (PyProof.Rows.callWith_type1 (thn (ha.run pos pins s σ H _ I h) fun us s1 ⟨vs, H1, I1, r1, q1⟩ => ?_) hs rfl))
  · obtain ⟨k, a, xs, ex, hq, q⟩ := q1
    subst ex
    cases r1 with
    | cons r rr =>
      cases rr
      cases r
      obtain ⟨its, rv, p', hz⟩ := Inv.sqA I1 hq
      refine call_enumerate1 (begA k a its.toArray) p' fun h' he hit hsz hk => wpAny_pyIter_enum he ?_
      have I2 : Inv X pins σ H1 { s1 with heap := h' } := I1.kept (t' := s1.toks) hk
      have hlt := p'.lt
      refine ⟨s1.heap.objs.size + 1, [s1.heap.objs.size + 1, s1.heap.objs.size], _, _, H1, rfl, I2, turn_enumA k a (s1.heap.objs.size + 1) s1.heap.objs.size (Nat.succ_ne_self _) (Nat.ne_of_gt (Nat.lt_succ_of_lt hlt)) (Nat.ne_of_lt hlt), ⟨⟨.none, by simpa using he⟩, .start hit⟩, fun b hb => ?_, q⟩
      have e' : b = s1.heap.objs.size + 1 ∨ b = s1.heap.objs.size := by simpa using hb
      have hle : s1.heap.objs.size ≤ b := by
        rcases e' with z | z
        · rw [z]; exact Nat.le_add_right _ _
        · rw [z]; exact Nat.le_refl _
      exact I1.fpOk hle (I1.hok.fresh hle)
/-! ### zip -/
def ItzA (K : PySem.W.Frag) (k1 k2 : Bool) (a b : Addr) : L2.It :=
  ⟨fun i H => ∃ (xs ys : List V) (x y : V), SqA K k1 H a xs ∧ SqA K k2 H b ys ∧ xs[i]? = some x ∧ ys[i]? = some y,
    fun i H v H' => ∃ T x y, v = .ref T ∧ H T = none ∧ H' = upd H T (.tup [x, y]) ∧ (∀ xs, SqA K k1 H a xs → xs[i]? = some x) ∧ ∀ ys, SqA K k2 H b ys → ys[i]? = some y,
    fun i H => ∃ xs ys : List V, SqA K k1 H a xs ∧ SqA K k2 H b ys ∧ min xs.length ys.length = i⟩
theorem turn_zipA {P : Program} {w : World} {K : PySem.W.Frag} {elts : List Expr} {kk : Nat} {tpos : Pos} (k1 k2 : Bool) {a b z TI TO i1 i2 : Addr} (S : ZipSep2 z TI TO i1 i2 [i1, a] [i2, b]) (h1 : a ≠ i1) (h2 : b ≠ i2) :
    Turn P w K (.Tuple elts kk tpos) (ItzA K k1 k2 a b) [z, TI, TO, i1, i2] z (fun i h => IsZip h z TI TO .none ∧ IsTupOf2 h TI (.ref i1) (.ref i2) ∧ (∃ a1 a2, IsTupOf2 h TO a1 a2) ∧ ItA k1 h i1 a i ∧ ItA k2 h i2 b i) where
  mem := by simp
  obj := fun i h st c hc => by
    obtain ⟨q1, q2, ⟨_, _, q3⟩, q4, q5⟩ := st
    have e' : c = z ∨ c = TI ∨ c = TO ∨ c = i1 ∨ c = i2 := by simpa using hc
    rcases e' with e | e | e | e | e
    · rw [e]; exact ⟨_, q1, fun v q => nomatch q⟩
    · rw [e]; exact ⟨_, q2, fun v q => nomatch q⟩
    · rw [e]; exact ⟨_, q3, fun v q => nomatch q⟩
    · rw [e]; exact q4.obj
    · rw [e]; exact q5.obj
  keep := fun i h h' st kp => let ⟨q1, q2, ⟨u1, u2, q3⟩, q4, q5⟩ := st
    ⟨kp z (by simp) _ q1, kp TI (by simp) _ q2, ⟨u1, u2, kp TO (by simp) _ q3⟩, q4.at fun o q => kp i1 (by simp) o q, q5.at fun o q => kp i2 (by simp) o q⟩
  item := by
    intro X hP hw hK hc i pins s σ H E I hf st hg
    subst hP hw hK
    obtain ⟨q1, q2, q3, q4, q5⟩ := st
    obtain ⟨xs, ys, x, y, hx, hy, ex, ey⟩ := hg
    obtain ⟨its, rv, p, hz⟩ := Inv.sqA I hx
    obtain ⟨jts, rw', p2, hz2⟩ := Inv.sqA I hy
    obtain ⟨u, hu, ru⟩ := rv.get ex
    obtain ⟨v, hv, rv2⟩ := rw'.get ey
    have l1 : i < its.toArray.size := by have := (List.getElem?_eq_some_iff.mp hu).1; simpa using this
    have l2 : i < jts.toArray.size := by have := (List.getElem?_eq_some_iff.mp hv).1; simpa using this
    refine (GoesN.zip2 (prog := X.prog) (w := X.w) (A := X.A) (elts := elts) (x1 := kk) (pos := tpos) S (drawA k1 (I.ok.hd hc) i1 a h1 its.toArray) (drawA k2 (I.ok.hd hc) i2 b h2 jts.toArray)).goes i s _ E (by omega) ⟨q1, q2, q3, ⟨q4, p⟩, ⟨q5, p2⟩⟩ fun vv h' tk hY st' hk htk => ?_
    obtain ⟨T, x', y', rfl, hT, hx', hy', hTu⟩ := hY
    obtain ⟨r1, r2, r3, ⟨r4, _⟩, ⟨r5, _⟩⟩ := st'
    have : x' = u := by simpa [hu] using hx'.symm
    subst this
    have : y' = v := by simpa [hv] using hy'.symm
    subst this
    have new : ObjOk X.prog X.w (upd H T (.tup [x, y])) h' T (.tup [x, y]) := IsTuple.ok hTu ru rv2
    have hf' : ∀ c ∈ [z, TO, i1, i2], FpOk X pins H c := fun c hc => hf c (by
      have e' : c = z ∨ c = TO ∨ c = i1 ∨ c = i2 := by simpa using hc
      rcases e' with e | e | e | e <;> simp [e])
    have I1 : Inv X pins σ (upd H T (.tup [x, y])) { s with heap := h', toks := tk } := I.turnedNew (ch := [z, TO, i1, i2]) hk hf' hT new
    refine ⟨.ref T, _, I1, rfl, ⟨T, x, y, rfl, I.hok.fresh hT, rfl, fun zs hzs => by rw [Inv.sqA_inj I hzs hx]; exact ex, fun zs hzs => by rw [Inv.sqA_inj I hzs hy]; exact ey⟩, ⟨r1, r2, r3, r4, r5⟩, fun c hc => ?_⟩
    have hb' : c < s.heap.objs.size := by
      obtain ⟨_, _, q3⟩ := q3
      have e' : c = z ∨ c = TI ∨ c = TO ∨ c = i1 ∨ c = i2 := by simpa using hc
      rcases e' with e | e | e | e | e
      · rw [e]; exact Heap.lt_size q1
      · rw [e]; exact Heap.lt_size q2
      · rw [e]; exact Heap.lt_size q3
      · rw [e]; obtain ⟨o, q, _⟩ := q4.obj; exact Heap.lt_size q
      · rw [e]; obtain ⟨o, q, _⟩ := q5.obj; exact Heap.lt_size q
    rw [upd_ne (Nat.ne_of_lt (Nat.lt_of_lt_of_le hb' hT))]
    exact (hf c hc).1
  done := by
    intro X hP hw hK hc i pins s σ H E I hf st hg
    subst hP hw hK
    obtain ⟨q1, q2, q3, q4, q5⟩ := st
    obtain ⟨xs, ys, hx, hy, hi⟩ := hg
    obtain ⟨its, rv, p, hz⟩ := Inv.sqA I hx
    obtain ⟨jts, rw', p2, hz2⟩ := Inv.sqA I hy
    have hl := rv.length
    have hl2 := rw'.length
    have hi : i = min its.toArray.size jts.toArray.size := by simp; omega
    subst hi
    have hf' : ∀ c ∈ [z, TO, i1, i2], FpOk X pins H c := fun c hc => hf c (by
      have e' : c = z ∨ c = TO ∨ c = i1 ∨ c = i2 := by simpa using hc
      rcases e' with e | e | e | e <;> simp [e])
    exact (GoesN.zip2 (prog := X.prog) (w := X.w) (A := X.A) (elts := elts) (x1 := kk) (pos := tpos) S (drawA k1 (I.ok.hd hc) i1 a h1 its.toArray) (drawA k2 (I.ok.hd hc) i2 b h2 jts.toArray)).stops s _ E ⟨q1, q2, q3, ⟨q4, p⟩, ⟨q5, p2⟩⟩ fun h' tk hk htk => Inv.turnedS I hk hf'
  self := fun A i s Q E st h => wpAny_pyIter_zip st.1 h
theorem walk_zipA {K : PySem.W.Frag} {k1 k2 : Bool} {a b : Addr} {xs ys : List V} : Walk (ItzA K k1 k2 a b) (min xs.length ys.length) (fun H => SqA K k1 H a xs ∧ SqA K k2 H b ys) (YPair (fun i => xs[i]?) (fun i => ys[i]?)) := by
  refine ⟨fun i _ hi q => ?_, fun _ q => ⟨xs, ys, q.1, q.2, rfl⟩, fun i H v H' _ q y => ?_⟩
  · have h1 : i < xs.length := by omega
    have h2 : i < ys.length := by omega
    exact ⟨xs, ys, xs[i], ys[i], q.1, q.2, by simp [h1], by simp [h2]⟩
  · obtain ⟨T, x, z, h1, h2, h3, h4, h5⟩ := y
    exact ⟨T, x, z, h1, h2, h3, h4 xs q.1, h5 ys q.2⟩
theorem pi_zipA {X : Cx} {e e2 : Expr} {ta : TA} {p pos tpos : Pos} {elts : List Expr} {kk : Nat} (hg : Gl X "zip") (hm : X.mg "zip" = none) (ha : PA X [e, e2] ta) (hs : starEach [e, e2] X.env = [(false, eval e X.env), (false, eval e2 X.env)]) (hs2 : starEach [e2] X.env = [(false, eval e2 X.env)]) :
    PI X (.Tuple elts kk tpos) (.Call (.Name "zip" p) [e, e2] [] pos) (fun σ H R => ta σ H fun vs H1 => ∃ k1 k2 a b xs ys, vs = [.ref a, .ref b] ∧ SqA X.K k1 H1 a xs ∧ SqA X.K k2 H1 b ys ∧ R (ItzA X.K k1 k2 a b) H1) := by
  refine ⟨fun pins s σ H R I h => ?_⟩
  refine Call_ (ld_blt I hg hm boot_zip (PyProof.Rows.callWith_type1 (thn (ha.run pos pins s σ H _ I h) fun us s1 ⟨vs, H1, I1, r1, q1⟩ => ?_) (by rw [hs, hs2]) (by rw [hs2]; rfl)))
  obtain ⟨k1, k2, a, b, xs, ys, ex, hx, hy, q⟩ := q1
  subst ex
  cases r1 with
  | cons r rr =>
    cases rr with
    | cons r' rr =>
      cases rr
      cases r
      cases r'
      obtain ⟨its, rv, p1, hz⟩ := Inv.sqA I1 hx
      obtain ⟨jts, rv2, p2, hz2⟩ := Inv.sqA I1 hy
      refine zip_begins2 (begA k1 a its.toArray) (begA k2 b jts.toArray) p1 p2 fun h' z1 z2 z3 z4 z5 hsz hk => wpAny_pyIter_zip z1 ?_
      have I2 : Inv X pins σ H1 { s1 with heap := h' } := I1.kept (t' := s1.toks) hk
      have S := zip_sep2 (N := s1.heap.objs.size) (fp1 := [a]) (fp2 := [b]) (fun c hc => by rw [List.mem_singleton.mp hc]; exact p1.lt) (fun c hc => by rw [List.mem_singleton.mp hc]; exact p2.lt)
      refine ⟨s1.heap.objs.size + 4, [s1.heap.objs.size + 4, s1.heap.objs.size + 2, s1.heap.objs.size + 3, s1.heap.objs.size, s1.heap.objs.size + 1], _, _, H1, rfl, I2, turn_zipA k1 k2 S (Nat.ne_of_lt p1.lt) (Nat.ne_of_lt (Nat.lt_succ_of_lt p2.lt)), ⟨z1, z2, ⟨_, _, z3⟩, .start z4, .start z5⟩, fun c hc => ?_, q⟩
      have hle : s1.heap.objs.size ≤ c := by
        have e' : c = s1.heap.objs.size + 4 ∨ c = s1.heap.objs.size + 2 ∨ c = s1.heap.objs.size + 3 ∨ c = s1.heap.objs.size ∨ c = s1.heap.objs.size + 1 := by simpa using hc
        rcases e' with z | z | z | z | z <;> rw [z] <;> first | exact Nat.le_refl _ | exact Nat.le_add_right _ _
      exact I1.fpOk hle (I1.hok.fresh hle)
end Ev

end

-- part EvQ
section
set_option Elab.async false
set_option linter.all false
namespace Ev
open PySem L2 PyProof.Rows
/-! ## what is walked -/
mutual
theorem D.same_eq : ∀ {a b : D}, a.same b = true → a = b
  | .non, b, h => by cases b <;> simp [D.same] at h ⊢
  | .bl x, b, h => by cases b <;> simp [D.same] at h ⊢; exact h
  | .int x, b, h => by cases b <;> simp [D.same] at h ⊢; exact h
  | .str x, b, h => by cases b <;> simp [D.same] at h ⊢; exact h
  | .tup x, b, h => by cases b <;> simp [D.same] at h ⊢; exact sameL_eq h
  | .lst x, b, h => by cases b <;> simp [D.same] at h ⊢; exact sameL_eq h
  | .ins c x, b, h => by cases b <;> simp [D.same] at h ⊢; exact ⟨h.1, sameF_eq h.2⟩
  | .scr x, b, h => by cases b <;> simp [D.same] at h ⊢; exact h
theorem sameL_eq : ∀ {a b : List D}, sameL a b = true → a = b
  | [], b, h => by cases b <;> simp [sameL] at h ⊢
  | x :: r, b, h => by
    cases b with
    | nil => simp [sameL] at h
    | cons y q => simp only [sameL, Bool.and_eq_true] at h; rw [D.same_eq h.1, sameL_eq h.2]
theorem sameF_eq : ∀ {a b : List (Nat × D)}, sameF a b = true → a = b
  | [], b, h => by cases b <;> simp [sameF] at h ⊢
  | (n, x) :: r, b, h => by
    cases b with
    | nil => simp [sameF] at h
    | cons y q => obtain ⟨m, y⟩ := y; simp only [sameF, Bool.and_eq_true, decide_eq_true_eq] at h; rw [h.1.1, D.same_eq h.1.2, sameF_eq h.2]
end
theorem W.same_eq {a b : W} (h : a.same b = true) : a = b := by
  cases a <;> cases b <;> simp [W.same] at h
  · rw [D.same_eq h]
  · rw [h]
theorem sameW_eq : ∀ {a b : List W}, sameW a b = true → a = b
  | [], b, h => by cases b <;> simp [sameW] at h ⊢
  | x :: r, b, h => by
    cases b with
    | nil => simp [sameW] at h
    | cons y q => simp only [sameW, Bool.and_eq_true] at h; rw [W.same_eq h.1, sameW_eq h.2]
theorem Cell.same_eq {a b : Cell} (h : a.same b = true) : a = b := by
  cases a <;> cases b <;> simp [Cell.same] at h
  · rw [sameL_eq h]
  · rw [sameW_eq h]
  · rw [D.same_eq h]
def kindW : W → Bool
  | .d (.tup _) => true
  | _ => false
section
variable {K : PySem.W.Frag} {N : Names} {F F' F1 F2 : Hp} {ρ ρ' ρ1 ρ2 : Nat → Addr} {G G' G1 G2 : Gs} {H H' H1 H2 : Hp} {n m : Nat} {W' : WX} {σv : L2.St}
theorem items_s {w : W} {us : List W} (e : items G w = some us) (k : kindW w = false) : sitems G w = some us := by
  cases w with
  | d x => cases x <;> first | (simp [kindW] at k; done) | exact e | (simp [items] at e; done)
  | r i =>
    simp only [items] at e
    simp only [sitems, litems]
    split at e <;> simp_all
theorem items_okA {w : W} {v : V} {us : List W} (g : Good K N F ρ G H) (r : RepW K N F ρ G.length w v) (e : items G w = some us) : ∃ a vs, v = .ref a ∧ SqA K (kindW w) H a vs ∧ RepWs K N F ρ G.length us vs := by
  cases k : kindW w with
  | false =>
    obtain ⟨a, vs, h1, h2, h3⟩ := sitems_ok g r (items_s e k)
    exact ⟨a, vs, h1, h2, h3⟩
  | true =>
    cases w with
    | r i => simp [kindW] at k
    | d x =>
      cases x <;> first | (simp [kindW] at k; done) | skip
      simp only [items, Option.some.injEq] at e
      subst e
      simp only [RepW, Rep] at r
      obtain ⟨a, vs, rfl, h1, h2⟩ := r
      exact ⟨a, vs, rfl, Same.seqT g.sub h1, h2.ws⟩
theorem items_watch {w : W} {us : List W} (e : items G w = some us) (h : watch (cellOf w) G G2 = true) : items G2 w = some us := by
  cases w with
  | d x => cases x <;> exact e
  | r i =>
    simp only [cellOf, watch, List.all_cons, List.all_nil, Bool.and_true] at h
    split at h
    · rename_i a b e1 e2
      have := Cell.same_eq h
      subst this
      simp only [items] at e ⊢
      rw [e1] at e
      rw [e2]; exact e
    · cases h
theorem watch_lt {i : Nat} {ws : List Nat} (h : watch ws G G2 = true) (hi : i ∈ ws) : i < G2.length := by
  have := List.all_eq_true.mp h i hi
  split at this
  · rename_i a b e1 e2
    exact (List.getElem?_eq_some_iff.mp e2).1
  · cases this
theorem watch_app {ws us : List Nat} (h : watch (ws ++ us) G G2 = true) : watch ws G G2 = true ∧ watch us G G2 = true := by
  simp only [watch, List.all_append, Bool.and_eq_true] at h
  exact h
/-- the walked value at a later state -/
theorem RepW.watch {w : W} {v : V} (r : RepW K N F ρ G.length w v) (hs : Same F F2) (hw : watch (cellOf w) G G2 = true) (hr : ∀ i ∈ cellOf w, ρ2 i = ρ i) : RepW K N F2 ρ2 G2.length w v := by
  cases w with
  | d x => exact Rep.mono hs r
  | r i =>
    obtain ⟨_, rfl⟩ := r
    exact ⟨watch_lt hw (by simp [cellOf]), by rw [hr i (by simp [cellOf])]⟩
/-- what an iterator gives -/
def Yo (K : PySem.W.Frag) (N : Names) (F : Hp) (ρ : Nat → Addr) (n : Nat) (H : Hp) : It → V → Hp → Prop
  | .one w, v, H' => H' = H ∧ RepW K N F ρ n w v
  | .two a b, v, H' => ∃ T x y, v = .ref T ∧ H T = none ∧ H' = upd H T (.tup [x, y]) ∧ RepW K N F ρ n a x ∧ RepW K N F ρ n b y
mutual
theorem D.same_refl : ∀ a : D, a.same a = true
  | .non => rfl
  | .bl x => by simp [D.same]
  | .int x => by simp [D.same]
  | .str x => by simp [D.same]
  | .tup x => by simp only [D.same]; exact sameL_refl x
  | .lst x => by simp only [D.same]; exact sameL_refl x
  | .ins c x => by simp only [D.same, decide_true, Bool.true_and]; exact sameF_refl x
  | .scr x => by simp [D.same]
theorem sameL_refl : ∀ a : List D, sameL a a = true
  | [] => rfl
  | x :: r => by simp only [sameL, Bool.and_eq_true]; exact ⟨D.same_refl x, sameL_refl r⟩
theorem sameF_refl : ∀ a : List (Nat × D), sameF a a = true
  | [] => rfl
  | (n, x) :: r => by simp only [sameF, Bool.and_eq_true, decide_true, Bool.true_and]; exact ⟨D.same_refl x, sameF_refl r⟩
end
theorem W.same_refl (a : W) : a.same a = true := by
  cases a with
  | d x => exact D.same_refl x
  | r i => simp [W.same]
theorem sameW_refl : ∀ a : List W, sameW a a = true
  | [] => rfl
  | x :: r => by simp only [sameW, Bool.and_eq_true]; exact ⟨W.same_refl x, sameW_refl r⟩
theorem watch_self {w : W} {us : List W} (e : items G w = some us) : watch (cellOf w) G G = true := by
  cases w with
  | d x => rfl
  | r i =>
    simp only [items] at e
    simp only [cellOf, watch, List.all_cons, List.all_nil, Bool.and_true]
    split at e
    · rename_i ds q; rw [q]; exact sameL_refl ds
    · rename_i ds q; rw [q]; exact sameW_refl ds
    · rename_i ds q; rw [q]; exact D.same_refl (.lst ds)
    · cases e
structure WalkP (K : PySem.W.Frag) (N : Names) (J : L2.It) (its : List It) (ws : List Nat) (F : Hp) (ρ : Nat → Addr) (G : Gs) : Prop where
  ix : ∀ i ∈ ws, i < G.length
  self : watch ws G G = true
  at_ : ∀ F2 ρ2 G2 H2, Same F F2 → watch ws G G2 = true → (∀ i ∈ ws, ρ2 i = ρ i) → Good K N F2 ρ2 G2 H2 →
    (∀ i, i < its.length → J.go i H2) ∧ J.stop its.length H2 ∧ ∀ i v H', i < its.length → J.yld i H2 v H' → ∃ it, its[i]? = some it ∧ Yo K N F2 ρ2 G2.length H2 it v H'
theorem cellOf_lt {w : W} {v : V} (r : RepW K N F ρ G.length w v) : ∀ i ∈ cellOf w, i < G.length := by
  cases w with
  | d x => intro i hi; simp [cellOf] at hi
  | r j => intro i hi; simp [cellOf] at hi; rw [hi]; exact r.1
theorem RepWs.atV {F : Hp} {ρ : Nat → Addr} {n : Nat} : ∀ {us : List W} {vs : List V}, RepWs K N F ρ n us vs → ∀ {i : Nat} {v : V}, vs[i]? = some v → ∃ w, us[i]? = some w ∧ RepW K N F ρ n w v
  | [], _, h, i, v, e => by simp only [RepWs] at h; subst h; simp at e
  | w :: r, _, h, i, v, e => by
    simp only [RepWs] at h
    obtain ⟨x, q, rfl, h1, h2⟩ := h
    cases i with
    | zero => simp at e; subst e; exact ⟨w, rfl, h1⟩
    | succ i => simpa using RepWs.atV h2 (by simpa using e)
theorem walk_seq {w : W} {a : Addr} {us : List W} (r : RepW K N F ρ G.length w (.ref a)) (e : items G w = some us) :
    WalkP K N (if kindW w then Itt K a else Itl K a) (us.map .one) (cellOf w) F ρ G := by
  refine ⟨cellOf_lt r, watch_self e, fun F2 ρ2 G2 H2 hs hw hr g2 => ?_⟩
  obtain ⟨a', vs, e1, h1, h2⟩ := items_okA g2 (r.watch hs hw hr) (items_watch e hw)
  cases e1
  have hl := h2.len
  have fin : ∀ i v, vs[i]? = some v → ∃ it, (us.map It.one)[i]? = some it ∧ Yo K N F2 ρ2 G2.length H2 it v H2 := fun i v e => by
    obtain ⟨w, e2, r2⟩ := h2.atV e
    exact ⟨.one w, by rw [List.getElem?_map, e2]; rfl, rfl, r2⟩
  have hlen : (us.map It.one).length = vs.length := by rw [List.length_map, hl]
  cases k : kindW w with
  | false =>
    rw [k] at h1
    have h1 : SqL K H2 a vs := h1
    refine ⟨fun i hi => ⟨vs, vs[i]'(by omega), h1, List.getElem?_eq_getElem (by omega)⟩, ⟨vs, h1, by omega⟩, fun i v H' hi y => ?_⟩
    obtain ⟨rfl, y⟩ := y
    exact fin i v (y vs h1)
  | true =>
    rw [k] at h1
    have h1 : SqT K H2 a vs := h1
    refine ⟨fun i hi => ⟨vs, vs[i]'(by omega), h1, List.getElem?_eq_getElem (by omega)⟩, ⟨vs, h1, by omega⟩, fun i v H' hi y => ?_⟩
    obtain ⟨rfl, y⟩ := y
    exact fin i v (y vs h1)
theorem enumIt_at : ∀ (us : List W) (n i : Nat) (w : W), us[i]? = some w → (enumIt n us)[i]? = some (.two (.d (.int ((n + i : Nat) : Int))) w)
  | [], n, i, w, e => by simp at e
  | u :: r, n, 0, w, e => by simp at e; subst e; simp [enumIt]
  | u :: r, n, i + 1, w, e => by
    have := enumIt_at r (n + 1) i w (by simpa using e)
    simp only [enumIt, List.getElem?_cons_succ]
    rw [this, show n + 1 + i = n + (i + 1) by omega]
theorem enumIt_len : ∀ (us : List W) (n : Nat), (enumIt n us).length = us.length
  | [], n => rfl
  | u :: r, n => by simp [enumIt, enumIt_len r]
theorem walk_enum' {w : W} {a : Addr} {us : List W} (r : RepW K N F ρ G.length w (.ref a)) (e : items G w = some us) :
    WalkP K N (IteA K (kindW w) a) (enumIt 0 us) (cellOf w) F ρ G := by
  refine ⟨cellOf_lt r, watch_self e, fun F2 ρ2 G2 H2 hs hw hr g2 => ?_⟩
  obtain ⟨a', vs, e1, h1, h2⟩ := items_okA g2 (r.watch hs hw hr) (items_watch e hw)
  cases e1
  have hl := h2.len
  have hlen : (enumIt 0 us).length = vs.length := by rw [enumIt_len, hl]
  refine ⟨fun i hi => ⟨vs, vs[i]'(by omega), h1, List.getElem?_eq_getElem (by omega)⟩, ⟨vs, h1, by omega⟩, fun i v H' hi y => ?_⟩
  obtain ⟨T, x, e1, e2, e3, y⟩ := y
  obtain ⟨w', e4, r4⟩ := h2.atV (y vs h1)
  have e5 := enumIt_at us 0 i w' e4
  rw [Nat.zero_add] at e5
  exact ⟨_, e5, T, _, x, e1, e2, e3, rfl, r4⟩
theorem zipIt_at : ∀ (us ws : List W) (i : Nat) (a b : W), us[i]? = some a → ws[i]? = some b → (zipIt us ws)[i]? = some (.two a b)
  | [], _, i, a, b, e, _ => by simp at e
  | _ :: _, [], i, a, b, _, e => by simp at e
  | u :: r, w :: q, 0, a, b, e1, e2 => by simp at e1 e2; subst e1 e2; rfl
  | u :: r, w :: q, i + 1, a, b, e1, e2 => by simpa [zipIt] using zipIt_at r q i a b (by simpa using e1) (by simpa using e2)
theorem zipIt_len : ∀ (us ws : List W), (zipIt us ws).length = min us.length ws.length
  | [], _ => by simp [zipIt]
  | _ :: _, [] => by simp [zipIt]
  | u :: r, w :: q => by simp [zipIt, zipIt_len r q]
theorem walk_zip' {w1 w2 : W} {a b : Addr} {us ws : List W} (r1 : RepW K N F ρ G.length w1 (.ref a)) (r2 : RepW K N F ρ G.length w2 (.ref b)) (e1 : items G w1 = some us) (e2 : items G w2 = some ws) :
    WalkP K N (ItzA K (kindW w1) (kindW w2) a b) (zipIt us ws) (cellOf w1 ++ cellOf w2) F ρ G := by
  refine ⟨fun i hi => (List.mem_append.mp hi).elim (cellOf_lt r1 i) (cellOf_lt r2 i), (by simp only [watch, List.all_append, Bool.and_eq_true]; exact ⟨watch_self e1, watch_self e2⟩), fun F2 ρ2 G2 H2 hs hw hr g2 => ?_⟩
  obtain ⟨hw1, hw2⟩ := watch_app hw
  obtain ⟨a', vs, z1, h1, q1⟩ := items_okA g2 (r1.watch hs hw1 fun i hi => hr i (List.mem_append_left _ hi)) (items_watch e1 hw1)
  obtain ⟨b', vs2, z2, h2, q2⟩ := items_okA g2 (r2.watch hs hw2 fun i hi => hr i (List.mem_append_right _ hi)) (items_watch e2 hw2)
  cases z1; cases z2
  have hl := q1.len
  have hl2 := q2.len
  have hlen : (zipIt us ws).length = min vs.length vs2.length := by rw [zipIt_len, hl, hl2]
  refine ⟨fun i hi => ⟨vs, vs2, vs[i]'(by omega), vs2[i]'(by omega), h1, h2, List.getElem?_eq_getElem (by omega), List.getElem?_eq_getElem (by omega)⟩, ⟨vs, vs2, h1, h2, by omega⟩, fun i v H' hi y => ?_⟩
  obtain ⟨T, x, y', e1, e2, e3, y1, y2⟩ := y
  obtain ⟨w, e4, r4⟩ := q1.atV (y1 vs h1)
  obtain ⟨w', e5, r5⟩ := q2.atV (y2 vs2 h2)
  exact ⟨_, zipIt_at us ws i w w' e4 e5, T, x, y', e1, e2, e3, r4, r5⟩
theorem walk_range' {lo hi : Int} : WalkP K N (L2.Itr lo (hi - lo).toNat) (rangeIt lo hi) [] F ρ G := by
  refine ⟨fun i hi => by simp at hi, rfl, fun F2 ρ2 G2 H2 hs hw hr g2 => ?_⟩
  have hlen : (rangeIt lo hi).length = (hi - lo).toNat := by simp [rangeIt]
  refine ⟨fun i hi => by show i < _; omega, by show (hi - lo).toNat ≤ _; omega, fun i v H' hi2 y => ?_⟩
  obtain ⟨rfl, rfl⟩ := y
  exact ⟨.one (.d (.int (lo + (i : Int)))), by rw [hlen] at hi2; simp [rangeIt, hi2], rfl, rfl⟩
theorem walk_str' {z : Str} : WalkP K N (Its z) (signsIt z) [] F ρ G := by
  refine ⟨fun i hi => by simp at hi, rfl, fun F2 ρ2 G2 H2 hs hw hr g2 => ?_⟩
  have hlen : (signsIt z).length = z.cps.size := by simp [signsIt]
  refine ⟨fun i hi => by show i < _; omega, by show z.cps.size ≤ _; omega, fun i v H' hi2 y => ?_⟩
  obtain ⟨rfl, c, hc, rfl⟩ := y
  refine ⟨.one (.d (.str ⟨#[c]⟩)), ?_, rfl, rfl⟩
  unfold signsIt
  rw [List.getElem?_map, Array.getElem?_toList, hc]; rfl
end
/-! ## iterables -/
section
variable {K : PySem.W.Frag} {N : Names} {W' : WX} {Φ : Fns} {k kf : Nat} {X : Cx} {σv : L2.St} {H F : Hp} {Q : VK} {ρ : Nat → Addr} {G : Gs} {pins : List (Addr × Obj)} {s : Shared}
variable {a b c e tg : Expr} {es : List Expr} {a' b' c' : E} {es' : List E} {pos p apos tpos : Pos} {x : Str} {elts : List Expr} {kk : Nat}
theorem R.ok_bind {α β : Type} {a : α} {G : Gs} {f : α → Gs → R β} : (R.ok a G).bind f = f a G := rfl
def ResI (K : PySem.W.Frag) (N : Names) (W' : WX) (σv : L2.St) (F : Hp) (ρ : Nat → Addr) (G : Gs) (H : Hp) (Rr : L2.It → Hp → Prop) : R (List It × List Nat) → Prop
  | .ok p G' => ∀ F' ρ' H' J, Ext F ρ G H F' ρ' G' H' → Good K N F' ρ' G' H' → WalkP K N J p.1 p.2 F' ρ' G' → Rr J H'
  | .exc e G' => ∀ F' ρ' H' cls d, Ext F ρ G H F' ρ' G' H' → Good K N F' ρ' G' H' → RepX K N F' e cls d H' → W' cls d σv H'
  | .no => False
def rdI (K : PySem.W.Frag) (N : Names) (W' : WX) (g : Sl → Gs → R (List It × List Nat)) : TI := fun σv H Rr => ∃ F ρ G σ, Good K N F ρ G H ∧ RepS K N F ρ G.length σ σv ∧ ResI K N W' σv F ρ G H Rr (g σ G)
/-- from a value's reading to an iterable's -/
theorem rdI1 {ga : Sl → Gs → R W} {gc : W → Gs → R (List It × List Nat)} {Rr : L2.It → Hp → Prop} (h : rdI K N W' (fun σ G => (ga σ G).bind fun w G1 => gc w G1) σv H Rr) :
    rd K N W' ga σv H fun v H1 => ∃ F ρ G w, Good K N F ρ G H1 ∧ RepW K N F ρ G.length w v ∧ ResI K N W' σv F ρ G H1 Rr (gc w G) := by
  obtain ⟨F, ρ, G, σ, g, s, res⟩ := h
  refine ⟨F, ρ, G, σ, g, s, ?_⟩
  dsimp only at res
  cases e : ga σ G with
  | ok w G1 =>
    intro F1 ρ1 H1 v x1 g1 r1
    rw [e] at res
    simp only [R.bind] at res
    refine ⟨F1, ρ1, G1, w, g1, r1, ?_⟩
    cases e2 : gc w G1 with
    | ok p G2 => rw [e2] at res; exact fun F' ρ' H' J x => res F' ρ' H' J (x1.trans x)
    | exc z G2 => rw [e2] at res; exact fun F' ρ' H' cls d x => res F' ρ' H' cls d (x1.trans x)
    | no => rw [e2] at res; exact res
  | exc z G1 => rw [e] at res; exact res
  | no => rw [e] at res; exact res
theorem rdI2 {ga gb : Sl → Gs → R W} {gc : W → W → Gs → R (List It × List Nat)} {Rr : L2.It → Hp → Prop} (h : rdI K N W' (fun σ G => (ga σ G).bind fun w G1 => (gb σ G1).bind fun u G2 => gc w u G2) σv H Rr) :
    rd K N W' ga σv H fun v H1 => rd K N W' gb σv H1 fun v2 H2 => ∃ F ρ G w u, Good K N F ρ G H2 ∧ RepW K N F ρ G.length w v ∧ RepW K N F ρ G.length u v2 ∧ ResI K N W' σv F ρ G H2 Rr (gc w u G) := by
  obtain ⟨F, ρ, G, σ, g, s, res⟩ := h
  refine ⟨F, ρ, G, σ, g, s, ?_⟩
  dsimp only at res
  cases e : ga σ G with
  | ok w G1 =>
    intro F1 ρ1 H1 v x1 g1 r1
    rw [e] at res
    simp only [R.bind] at res
    refine ⟨F1, ρ1, G1, σ, g1, s.mono x1.later, ?_⟩
    cases e1 : gb σ G1 with
    | ok u G2 =>
      intro F2 ρ2 H2 v2 x2 g2 r2
      rw [e1] at res
      simp only at res
      refine ⟨F2, ρ2, G2, w, u, g2, r1.mono x2.later, r2, ?_⟩
      cases e2 : gc w u G2 with
      | ok p G3 => rw [e2] at res; exact fun F' ρ' H' J x => res F' ρ' H' J ((x1.trans x2).trans x)
      | exc z G3 => rw [e2] at res; exact fun F' ρ' H' cls d x => res F' ρ' H' cls d ((x1.trans x2).trans x)
      | no => rw [e2] at res; exact res
    | exc z G2 => rw [e1] at res; exact fun F' ρ' H' cls d x => res F' ρ' H' cls d (x1.trans x)
    | no => rw [e1] at res; exact res
  | exc z G1 => rw [e] at res; exact res
  | no => rw [e] at res; exact res
theorem iter_seq {k : Bool} {a : Addr} {xs : List V} {Rr : L2.It → Hp → Prop} (I : Inv X pins σv H s) (h : SqA X.K k H a xs) (q : Rr (if k then Itt X.K a else Itl X.K a) H) : wpAny (model X.prog X.w) X.A (pyIter (.ref a)) (PIE X pins σv tg Rr) X.xe s := by
  cases k with
  | false =>
    obtain ⟨its, rv, p, hz⟩ := I.list h
    refine wpAny_pyIter_list p.isList ?_
    refine ⟨s.heap.objs.size, [s.heap.objs.size], _, _, H, rfl, I.kept (t' := s.toks) fun b o e => Heap.get?_push_of_some _ e, turn_list a _, ⟨_, Heap.get?_push_size _ rfl, rfl, rfl⟩, fun b hb => ?_, q⟩
    have e : b = s.heap.objs.size := by simpa using hb
    subst e
    exact I.fpOk (Nat.le_refl _) (I.hok.fresh (Nat.le_refl _))
  | true =>
    obtain ⟨its, rv, p, hz⟩ := I.tuple h
    refine wpAny_pyIter_tuple (show s.heap.IsTuple a its.toArray from p) ?_
    refine ⟨s.heap.objs.size, [s.heap.objs.size], _, _, H, rfl, I.kept (t' := s.toks) fun b o e => Heap.get?_push_of_some _ e, turn_tuple a _, ⟨_, Heap.get?_push_size _ rfl, rfl, rfl⟩, fun b hb => ?_, q⟩
    have e : b = s.heap.objs.size := by simpa using hb
    subst e
    exact I.fpOk (Nat.le_refl _) (I.hok.fresh (Nat.le_refl _))
theorem iter_str {z : Str} {u : Value} {Rr : L2.It → Hp → Prop} (I : Inv X pins σv H s) (r : RelV (.str z) u) (q : Rr (Its z) H) : wpAny (model X.prog X.w) X.A (pyIter u) (PIE X pins σv tg Rr) X.xe s := by
  obtain ⟨t, rfl⟩ := r
  cases ha : z.cps.all (· < 128)
  · exact wpAny_pyIter_wide ha (pi_one (tk := s.toks) I _ (turn_str _ z t "str_iterator" (.inr rfl)) ⟨_, Heap.get?_push_size _ rfl, rfl, rfl⟩ q)
  · exact wpAny_pyIter_ascii ha (pi_one (tk := s.toks) I _ (turn_str _ z t "str_ascii_iterator" (.inl rfl)) ⟨_, Heap.get?_push_size _ rfl, rfl, rfl⟩ q)
theorem PI_val (O : CxOk K N W' Φ k X) (ha : PE X a (rdE K N W' Φ a')) : PI X tg a (rdI K N W' (evI Φ (.val a'))) := by
  have O1 := O.hK; subst O1
  refine ⟨fun pins s σ H R I h => ?_⟩
  have h1 := rdI1 (ga := evE Φ a') (gc := fun w G1 => walkOf w G1) (by simpa only [evI] using h)
  refine thn (ha.run pins s σ H _ I h1) fun v s1 ⟨x, H1, I1, r1, F, ρ, G, w, g, r, res⟩ => ?_
  unfold walkOf at res
  split at res
  · cases r
    split at res
    · exact iter_str I1 r1 (res F ρ H1 _ Ext.refl g walk_str')
    · exact res.elim
  · split at res
    · rename_i us e
      obtain ⟨p, vs, rfl, h2, h3⟩ := items_okA g r e
      cases r1
      exact iter_seq I1 h2 (res F ρ H1 _ Ext.refl g (walk_seq r e))
    · exact res.elim
theorem PI_enum (O : CxOk K N W' Φ k X) (hg : Gl X "enumerate") (hm : X.mg "enumerate" = none) (hp : plainB a = true) (ha : PE X a (rdE K N W' Φ a')) : PI X (.Tuple elts kk tpos) (.Call (.Name "enumerate" p) [a] [] pos) (rdI K N W' (evI Φ (.enum a'))) := by
  have O1 := O.hK; subst O1
  refine ⟨fun pins s σ H Rr I h => ?_⟩
  refine (pi_enumA hg hm (pa_cons ha pa_nil (star_of hp)) (star_of hp)).run pins s σ H Rr I ?_
  have h1 := rdI1 (ga := evE Φ a') (gc := fun w G1 => enumOf w G1) (by simpa only [evI] using h)
  refine rd_mono h1 fun v H1 q => ?_
  obtain ⟨F, ρ, G, w, g, r, res⟩ := q
  unfold enumOf at res
  split at res
  · rename_i us e
    obtain ⟨p, vs, rfl, h2, h3⟩ := items_okA g r e
    exact ⟨_, p, vs, rfl, h2, res F ρ H1 _ Ext.refl g (walk_enum' r e)⟩
  · exact res.elim
theorem PI_zip (O : CxOk K N W' Φ k X) (hg : Gl X "zip") (hm : X.mg "zip" = none) (hp : plainB a = true) (hp2 : plainB b = true) (ha : PE X a (rdE K N W' Φ a')) (hb : PE X b (rdE K N W' Φ b')) :
    PI X (.Tuple elts kk tpos) (.Call (.Name "zip" p) [a, b] [] pos) (rdI K N W' (evI Φ (.zip a' b'))) := by
  have O1 := O.hK; subst O1
  refine ⟨fun pins s σ H Rr I h => ?_⟩
  refine (pi_zipA hg hm (pa_cons ha (pa_cons hb pa_nil (star_of hp2)) (star_of hp)) (by rw [star_of hp, star_of hp2]; rfl) (star_of hp2)).run pins s σ H Rr I ?_
  have h1 := rdI2 (ga := evE Φ a') (gb := evE Φ b') (gc := fun x y G2 => zipOf x y G2) (by simpa only [evI] using h)
  refine rd_mono h1 fun v H1 q => rd_mono q fun v2 H2 q => ?_
  obtain ⟨F, ρ, G, w, u, g, r, r2, res⟩ := q
  unfold zipOf at res
  split at res
  · rename_i us ws e1 e2
    obtain ⟨p, vs, rfl, h2, h3⟩ := items_okA g r e1
    obtain ⟨p2, vs2, rfl, h4, h5⟩ := items_okA g r2 e2
    exact ⟨_, _, p, p2, vs, vs2, rfl, h2, h4, res F ρ H2 _ Ext.refl g (walk_zip' r r2 e1 e2)⟩
  · exact res.elim
theorem PI_range2 (O : CxOk K N W' Φ k X) (hg : Gl X "range") (hm : X.mg "range" = none) (hp : plainB a = true) (hp2 : plainB b = true) (ha : PE X a (rdE K N W' Φ a')) (hb : PE X b (rdE K N W' Φ b')) :
    PI X tg (.Call (.Name "range" p) [a, b] [] pos) (rdI K N W' (evI Φ (.range a' b'))) := by
  refine ⟨fun pins s σ H Rr I h => ?_⟩
  refine (pi_range2 hg hm (pa_cons ha (pa_cons hb pa_nil (star_of hp2)) (star_of hp)) (by rw [star_of hp, star_of hp2]; rfl) (star_of hp2)).run pins s σ H Rr I ?_
  have h1 := rdI2 (ga := evE Φ a') (gb := evE Φ b') (gc := fun x y G2 => rangeOf x y G2) (by simpa only [evI] using h)
  refine rd_mono h1 fun v H1 q => rd_mono q fun v2 H2 q => ?_
  obtain ⟨F, ρ, G, w, u, g, r, r2, res⟩ := q
  unfold rangeOf at res
  split at res
  · cases r; cases r2
    split at res
    · rename_i hh
      exact ⟨_, _, rfl, ⟨hh.1, hh.2.1, hh.2.2.1, hh.2.2.2.1⟩, res F ρ H2 _ Ext.refl g walk_range'⟩
    · exact res.elim
  · exact res.elim
theorem PI_range1 (O : CxOk K N W' Φ k X) (hg : Gl X "range") (hm : X.mg "range" = none) (hp2 : plainB b = true) (hb : PE X b (rdE K N W' Φ b')) :
    PI X tg (.Call (.Name "range" p) [b] [] pos) (rdI K N W' (evI Φ (.range (.lit (.int 0)) b'))) := by
  refine ⟨fun pins s σ H Rr I h => ?_⟩
  refine (pi_range1 hg hm (pa_cons hb pa_nil (star_of hp2)) (star_of hp2)).run pins s σ H Rr I ?_
  have h1 := rdI1 (ga := evE Φ b') (gc := fun y G2 => rangeOf (.d (.int 0)) y G2) (by simpa only [evI, evE, R.ok_bind] using h)
  refine rd_mono h1 fun v H1 q => ?_
  obtain ⟨F, ρ, G, w, g, r, res⟩ := q
  unfold rangeOf at res
  split at res
  · rename_i i j e0
    simp only [W.d.injEq, D.int.injEq] at e0
    subst e0
    cases r
    split at res
    · rename_i hh
      refine ⟨_, rfl, hh.2.2.1, hh.2.2.2.1, ?_⟩
      have := res F ρ H1 _ Ext.refl g walk_range'
      simpa using this
    · exact res.elim
  · exact res.elim
end
end Ev

end

-- part EvR
section
set_option Elab.async false
set_option linter.all false
namespace Ev
open PySem L2 PyProof.Rows
/-! ## names in their scope -/
structure Sta where
  N : List Str
  sc : Scope
  fn : Str → Bool
def visB (st : Sta) (x : Str) : Bool := match st.sc.names.lookup x with
  | some .local => true
  | some .cell => true
  | some .free => true
  | _ => false
def locB (st : Sta) (x : Str) : Bool := match st.sc.names.lookup x with
  | some .local => true
  | some .cell => st.fn x
  | _ => false
def glB (st : Sta) (x : Str) : Bool := match st.sc.names.lookup x with
  | some .globalImplicit => true
  | _ => false
def nmB (st : Sta) (i : Nat) (x : Str) : Bool := decide (st.N[i]? = some x) && locB st x
def nmsB (st : Sta) : List Nat → List Expr → Bool
  | [], [] => true
  | i :: r, .Name x _ :: q => nmB st i x && nmsB st r q
  | _, _ => false
def tgB (st : Sta) : Tg → Expr → Bool
  | .var i, .Name x _ => nmB st i x
  | .tup ts, .Tuple es _ _ => nmsB st ts es
  | _, _ => false
structure CxS (st : Sta) (X : Cx) : Prop where
  N : X.N = st.N
  sc : X.env.scope = st.sc
  fn : X.fn = st.fn
  nd : st.N.Nodup
section
variable {st : Sta} {X : Cx} {x : Str} {i : Nat}
theorem CxS.vis (S : CxS st X) (h : visB st x = true) : Vis X.env.scope x := by
  rw [S.sc]
  unfold visB at h
  unfold Vis
  split at h <;> simp_all
theorem CxS.loc (S : CxS st X) (h : locB st x = true) : L2.Loc X.env.scope x ∧ (X.fn x = true ∨ X.env.scope.names.lookup x = some .local) := by
  rw [S.sc, S.fn]
  unfold locB at h
  unfold L2.Loc
  split at h <;> simp_all
theorem CxS.gl (S : CxS st X) (h : glB st x = true) : Gl X x := by
  unfold Gl Env.kindOf
  rw [S.sc]
  unfold glB at h
  split at h <;> simp_all
end
/-! ## targets -/
def gNs : List Nat → TGs
  | [] => gNil
  | i :: r => gCons (gName i) (gNs r)
def gT (K : PySem.W.Frag) : Tg → TG
  | .var i => gName i
  | .tup ts => gTup K ts.length (gNs ts)
section
variable {st : Sta} {X : Cx}
theorem assignEach_names : ∀ {ts : List Nat} {es : List Expr} {env : Env}, nmsB st ts es = true → (assignEach es env).length = ts.length ∧ (assignEach es env).findIdx? (·.1) = none
  | [], [], _, _ => ⟨rfl, rfl⟩
  | [], _ :: _, _, h => by simp [nmsB] at h
  | i :: r, [], _, h => by simp [nmsB] at h
  | i :: r, e :: q, env, h => by
    cases e <;> first | (simp [nmsB] at h; done) | skip
    rename_i x p
    simp only [nmsB, Bool.and_eq_true] at h
    obtain ⟨h1, h2⟩ := assignEach_names (env := env) h.2
    have e1 : assignEach (.Name x p :: q) env = (false, assign (.Name x p) env) :: assignEach q env := rfl
    rw [e1]
    refine ⟨by simp [h1], ?_⟩
    rw [List.findIdx?_cons]
    simp [h2]
theorem PG_nm (S : CxS st X) {i : Nat} {x : Str} {p : Pos} (h : nmB st i x = true) : PG X (.Name x p) (gName i) := by
  simp only [nmB, Bool.and_eq_true, decide_eq_true_eq] at h
  obtain ⟨h1, h2⟩ := S.loc h.2
  exact pg_name (by rw [S.N]; exact S.nd) (by rw [S.N]; exact h.1) h1 h2
theorem PGs_nms (S : CxS st X) : ∀ {ts : List Nat} {es : List Expr}, nmsB st ts es = true → PGs X es (gNs ts)
  | [], [], _ => pgs_nil
  | [], _ :: _, h => by simp [nmsB] at h
  | i :: r, [], h => by simp [nmsB] at h
  | i :: r, e :: q, h => by
    cases e <;> first | (simp [nmsB] at h; done) | skip
    simp only [nmsB, Bool.and_eq_true] at h
    exact pgs_cons (PG_nm S h.1) (PGs_nms S h.2) rfl
theorem PG_tg (S : CxS st X) (hc : X.calm = true) {t : Tg} {e : Expr} (h : tgB st t e = true) : PG X e (gT X.K t) := by
  cases t with
  | var i =>
    cases e <;> first | (simp [tgB] at h; done) | skip
    exact PG_nm S h
  | tup ts =>
    cases e <;> first | (simp [tgB] at h; done) | skip
    have h : nmsB st ts _ = true := h
    obtain ⟨h1, h2⟩ := assignEach_names (env := X.env) h
    exact pg_tup hc (PGs_nms S h) h1 h2
end
section
variable {K : PySem.W.Frag} {N : Names} {F F' F1 F2 : Hp} {ρ ρ' ρ1 ρ2 : Nat → Addr} {G G' G1 G2 : Gs} {H H' H1 H2 : Hp} {n m : Nat} {W' : WX} {σv : L2.St}
theorem RepS.set : ∀ {σ : Sl} {vs : L2.St} {w : W} {v : V}, RepS K N F ρ n σ vs → RepW K N F ρ n w v → ∀ i, RepS K N F ρ n (σ.set i (some w)) (vs.set i (some v))
  | [], vs, w, v, h, r, i => by simp only [RepS] at h; subst h; simp [RepS]
  | x :: q, vs, w, v, h, r, i => by
    simp only [RepS] at h
    obtain ⟨y, p, rfl, h1, h2⟩ := h
    cases i with
    | zero => simp only [List.set_cons_zero, RepS]; exact ⟨some v, p, rfl, ⟨v, rfl, r⟩, h2⟩
    | succ i => simp only [List.set_cons_succ, RepS]; exact ⟨y, _, rfl, h1, RepS.set h2 r i⟩
theorem RepS.wipe1 : ∀ {σ : Sl} {vs : L2.St}, RepS K N F ρ n σ vs → ∀ i, RepS K N F ρ n (σ.set i none) (vs.set i none)
  | [], vs, h, i => by simp only [RepS] at h; subst h; simp [RepS]
  | x :: q, vs, h, i => by
    simp only [RepS] at h
    obtain ⟨y, p, rfl, h1, h2⟩ := h
    cases i with
    | zero => simp only [List.set_cons_zero, RepS]; exact ⟨none, p, rfl, trivial, h2⟩
    | succ i => simp only [List.set_cons_succ, RepS]; exact ⟨y, _, rfl, h1, RepS.wipe1 h2 i⟩
theorem RepS.wipe {σ : Sl} {vs : L2.St} (h : RepS K N F ρ n σ vs) : ∀ own : List Nat, RepS K N F ρ n (wipeS σ own) (wipe vs own)
  | [] => h
  | v :: r => by
    simp only [wipeS, L2.wipe]
    exact (RepS.wipe h r).wipe1 v
theorem set_comm' {α : Type} (l : List α) (i j : Nat) (x : α) : (l.set i x).set j x = (l.set j x).set i x := by
  by_cases h : i = j
  · subst h; rfl
  · exact List.set_comm _ _ h
theorem wipe_set (σ : L2.St) (i : Nat) (x : Option V) : ∀ vs : List Nat, i ∈ vs → wipe (σ.set i x) vs = wipe σ vs
  | [], h => by simp at h
  | v :: r, h => by
    simp only [L2.wipe]
    by_cases hr : i ∈ r
    · rw [wipe_set σ i x r hr]
    · have : i = v := by simpa [hr] using h
      subst this
      clear h
      have key : ∀ (r : List Nat), i ∉ r → wipe (σ.set i x) r = (wipe σ r).set i x := by
        intro r
        induction r with
        | nil => intro _; rfl
        | cons u r ih =>
          intro hr
          simp only [List.mem_cons, not_or] at hr
          simp only [L2.wipe]
          rw [ih hr.2, List.set_comm _ _ hr.1]
      rw [key r hr, List.set_set]
theorem wipe_none (σ : L2.St) (i : Nat) : ∀ vs : List Nat, (wipe σ vs).set i none = wipe (σ.set i none) vs
  | [] => rfl
  | v :: r => by
    simp only [L2.wipe]
    rw [set_comm', wipe_none σ i r]
theorem wipe_wipe (σ : L2.St) (vs : List Nat) : wipe (wipe σ vs) vs = wipe σ vs := by
  have key : ∀ us : List Nat, (∀ u ∈ us, u ∈ vs) → wipe (wipe σ us) vs = wipe σ vs := by
    intro us
    induction us with
    | nil => intro _; rfl
    | cons u r ih =>
      intro h
      simp only [L2.wipe]
      rw [wipe_set _ u none vs (h u (by simp)), ih fun w hw => h w (by simp [hw])]
  exact key vs fun _ h => h
theorem bindNs_ok : ∀ {ts : List Nat} {ws : List W} {xs : List V} {σ σ1 : Sl} {σv : L2.St}, bindNs ts ws σ = some σ1 → RepWs K N F ρ n ws xs → RepS K N F ρ n σ σv →
    ∃ σv1, RepS K N F ρ n σ1 σv1 ∧ (∀ Q, Q σv1 H → gNs ts xs σv H Q) ∧ xs.length = ts.length ∧ ∀ own : List Nat, (∀ t ∈ ts, t ∈ own) → L2.wipe σv1 own = L2.wipe σv own
  | [], [], xs, σ, σ1, σv, e, r, s => by
    simp only [bindNs, Option.some.injEq] at e
    subst e
    simp only [RepWs] at r
    subst r
    exact ⟨σv, s, fun Q q => ⟨rfl, q⟩, rfl, fun _ _ => rfl⟩
  | [], _ :: _, _, _, _, _, e, _, _ => by simp [bindNs] at e
  | _ :: _, [], _, _, _, _, e, _, _ => by simp [bindNs] at e
  | i :: ts, w :: ws, xs, σ, σ1, σv, e, r, s => by
    simp only [bindNs, setS] at e
    simp only [RepWs] at r
    obtain ⟨v, q, rfl, r1, r2⟩ := r
    obtain ⟨σv1, h1, h2, h3, h4⟩ := bindNs_ok e r2 (s.set r1 i)
    refine ⟨σv1, h1, fun Q hq => ⟨v, q, rfl, h2 Q hq⟩, by simp [h3], fun own ho => ?_⟩
    rw [h4 own fun t ht => ho t (by simp [ht]), wipe_set _ _ _ _ (ho i (by simp))]
def tgOwn : Tg → List Nat
  | .var i => [i]
  | .tup ts => ts
theorem bindTg_ok {t : Tg} {it : It} {v : V} {σ σ1 : Sl} (g : Good K N F ρ G H) (s : RepS K N F ρ G.length σ σv) (y : Yo K N F ρ G.length H it v H') (e : bindTg G t it σ = some σ1) :
    ∃ F' σv1, Good K N F' ρ G H' ∧ Ext F ρ G H F' ρ G H' ∧ RepS K N F' ρ G.length σ1 σv1 ∧ (∀ Q, Q σv1 H' → gT K t v σv H' Q) ∧ ∀ own : List Nat, (∀ i ∈ tgOwn t, i ∈ own) → L2.wipe σv1 own = L2.wipe σv own := by
  cases t with
  | var i =>
    cases it with
    | one w =>
      simp only [bindTg, setS, Option.some.injEq] at e
      subst e
      obtain ⟨rfl, r⟩ := y
      exact ⟨F, σv.set i (some v), g, Ext.refl, s.set r i, fun Q q => q, fun own ho => wipe_set _ _ _ _ (ho i (by simp [tgOwn]))⟩
    | two a b => simp [bindTg] at e
  | tup ts =>
    cases it with
    | one w =>
      obtain ⟨rfl, r⟩ := y
      simp only [bindTg, Option.bind_eq_bind, Option.bind_eq_some_iff] at e
      obtain ⟨ws, e1, e2⟩ := e
      cases w with
      | r i => simp [titems] at e1
      | d x =>
        cases x <;> first | (simp [titems] at e1; done) | skip
        rename_i ds
        simp only [titems, Option.some.injEq] at e1
        subst e1
        simp only [RepW, Rep] at r
        obtain ⟨a, vs, rfl, h1, h2⟩ := r
        obtain ⟨σv1, q1, q2, q3, q4⟩ := bindNs_ok (H := H') e2 h2.ws s
        exact ⟨F, σv1, g, Ext.refl, q1, fun Q q => ⟨a, vs, rfl, Same.seqT g.sub h1, q3, q2 Q q⟩, q4⟩
    | two a b =>
      simp only [bindTg] at e
      obtain ⟨T, x, y', rfl, hT, rfl, r1, r2⟩ := y
      obtain ⟨g2, x2⟩ := g.new (o := .tup [x, y']) hT
      have rw2 : RepWs K N (upd F T (.tup [x, y'])) ρ G.length [a, b] [x, y'] := by
        simp only [RepWs]
        exact ⟨x, [y'], rfl, r1.mono x2.later, y', [], rfl, r2.mono x2.later, rfl⟩
      obtain ⟨σv1, q1, q2, q3, q4⟩ := bindNs_ok (H := upd H T (.tup [x, y'])) e rw2 (s.mono x2.later)
      exact ⟨_, σv1, g2, x2, q1, fun Q q => ⟨T, [x, y'], rfl, .of upd_same, q3, q2 Q q⟩, q4⟩
/-! ## a heap without one object -/
def era (H : Hp) (D : Addr) : Hp := fun a => if a = D then none else H a
theorem era_ne {D a : Addr} (h : a ≠ D) : era H D a = H a := if_neg h
theorem era_same {D : Addr} : era H D D = none := if_pos rfl
theorem era_upd {D : Addr} {o : HO} (h : H D = some o) : upd (era H D) D o = H := by
  funext a
  by_cases e : a = D
  · subst e; rw [upd_same, h]
  · rw [upd_ne e, era_ne e]
theorem era_put {D : Addr} {o : HO} (h : H D = none) : era (upd H D o) D = H := by
  funext a
  by_cases e : a = D
  · subst e; rw [era_same, h]
  · rw [era_ne e, upd_ne e]
theorem era_upd2 {D : Addr} {o : HO} : era (upd H D o) D = era H D := by
  funext a
  by_cases e : a = D
  · subst e; rw [era_same, era_same]
  · rw [era_ne e, era_ne e, upd_ne e]
theorem Good.era {D : Addr} (g : Good K N F ρ G H) (hF : F D = none) (hC : ¬ IsC ρ G D) : Good K N F ρ G (era H D) := by
  refine ⟨fun a o e => ?_, fun i c e => (g.cell i c e).mono (Later.same (Same.refl _)) fun l => ?_, g.inj⟩
  · rw [era_ne (by rintro rfl; rw [hF] at e; cases e)]
    exact g.sub a o e
  · have : ρ i ≠ D := fun z => hC ⟨i, c, e, l, z⟩
    exact ⟨era_ne this, ((g.cell i c e).at l).1⟩
theorem Good.hid {D : Addr} {o : HO} (g : Good K N F ρ G H) (hF : F D = none) (hC : ¬ IsC ρ G D) : Good K N F ρ G (upd H D o) := by
  refine ⟨fun a u e => ?_, fun i c e => (g.cell i c e).mono (Later.same (Same.refl _)) fun l => ?_, g.inj⟩
  · rw [upd_ne (by rintro rfl; rw [hF] at e; cases e)]
    exact g.sub a u e
  · have : ρ i ≠ D := fun z => hC ⟨i, c, e, l, z⟩
    exact ⟨upd_ne this, ((g.cell i c e).at l).1⟩
theorem Ext.era {D : Addr} (x : Ext F ρ G H F' ρ' G' H') : Ext F ρ G (Ev.era H D) F' ρ' G' (Ev.era H' D) := by
  refine ⟨x.f, x.l, x.r, fun a o e k => ?_, fun a o e k => ?_⟩
  · by_cases z : a = D
    · subst z; rw [era_same] at e; cases e
    · rw [era_ne z] at e ⊢; exact x.h a o e k
  · by_cases z : a = D
    · subst z; rw [era_same] at e; cases e
    · rw [era_ne z] at e; exact x.n a o e k
end
end Ev

end

-- part EvS
section
set_option Elab.async false
set_option linter.all false
namespace Ev
open PySem L2 PyProof.Rows
/-- nothing may be raised -/
def WF : WX := fun _ _ _ _ => False
theorem takes_WF {X : Cx} : Takes X WF := fun u s' ⟨a, B, sI, pins, σ, H, cls, d, e, I, nb, up, sky, na, os, ag, w⟩ => w.elim
section
variable {K : PySem.W.Frag} {N : Names} {F F' F1 F2 : Hp} {ρ ρ' ρ1 ρ2 : Nat → Addr} {G G' G1 G2 : Gs} {H H' H1 H2 : Hp} {n m : Nat} {W' : WX} {σv : L2.St} {Φ : Fns} {Q : VK}
theorem lcLoop_shape {cond elt : Sl → Gs → R W} {hasIf : Bool} {tg : Tg} {σ : Sl} {chk : Gs → Bool} : ∀ (its : List It) (acc : List W) (G : Gs), lcLoop cond elt hasIf tg σ chk its acc G = .no ∨ ∃ ws G', lcLoop cond elt hasIf tg σ chk its acc G = .ok ws G' ∧ acc.length ≤ ws.length
  | [], acc, G => .inr ⟨acc, G, rfl, Nat.le_refl _⟩
  | x :: r, acc, G => by
    unfold lcLoop
    split
    · exact .inl rfl
    · split
      · split
        · split
          · rename_i w G2 _ _
            rcases lcLoop_shape r (acc ++ [w]) G2 with h | ⟨ws, G', h1, h2⟩
            · exact .inl h
            · exact .inr ⟨ws, G', h1, by simp at h2; omega⟩
          · exact .inl rfl
        · exact .inl rfl
      · split
        · exact lcLoop_shape r acc _
        · exact .inl rfl
      · exact .inl rfl
/-- a clause's test -/
def tIfs (K : PySem.W.Frag) (N : Names) (Φ : Fns) : Option E → TT
  | none => tYes
  | some c => rdT K N WF Φ c
theorem lc_reading {own : List Nat} {tg : Tg} {it : Itr} {elt : E} {ifs : Option E} {kk : Nat} (hown : ∀ i ∈ tgOwn tg, i ∈ own) (h : rdE K N W' Φ (.lc kk elt tg it own ifs) σv H Q) :
    tLc (rdI K N W' (evI Φ it)) (gT K tg) (tIfs K N Φ ifs) (rdE K N WF Φ elt) own σv H Q := by
  obtain ⟨F, ρ, G, σ, g, s, res⟩ := h
  simp only [evE] at res
  refine ⟨F, ρ, G, σ, g, s, ?_⟩
  cases e0 : evI Φ it σ G with
  | exc z G1 => rw [e0] at res; exact res
  | no => rw [e0] at res; exact res
  | ok p G1 =>
  rw [e0] at res
  simp only [R.ok_bind] at res
  intro F1 ρ1 H1 J x1 g1 wp D hD
  generalize hT : lcLoop (evC Φ ifs) (evE Φ elt) ifs.isSome tg (wipeS σ own) (watch p.2 G1) p.1 [] G1 = T at res
  have hT0 := lcLoop_shape (cond := evC Φ ifs) (elt := evE Φ elt) (hasIf := ifs.isSome) (tg := tg) (σ := wipeS σ own) (chk := watch p.2 G1) p.1 [] G1
  rw [hT] at hT0
  rcases hT0 with rfl | ⟨ws, G3, rfl, _⟩
  · exact res.elim
  simp only [R.ok_bind] at res
  have hline : ws.length ≤ sizeLine := by
    have res' := res
    unfold mkL at res'
    split at res'
    · rename_i z; exact lineB_le z
    · exact res'.elim
  have hD1 : ¬ IsC ρ1 G1 D ∧ F1 D = none := ⟨fun z => (by obtain ⟨_, o, q⟩ := g1.isC z; rw [hD] at q; cases q), g1.sub.free hD⟩
  refine ⟨fun i m H => m = p.1.length - i ∧ i ≤ p.1.length ∧ ∃ F2 ρ2 G2 acc accV, Good K N F2 ρ2 G2 H ∧ F2 D = none ∧ ¬ IsC ρ2 G2 D ∧ H D = some (.lst accV) ∧ RepWs K N F2 ρ2 G2.length acc accV ∧ RepS K N F2 ρ2 G2.length (wipeS σ own) (L2.wipe σv own) ∧
      Ext F1 ρ1 G1 H1 F2 ρ2 G2 (era H D) ∧ watch p.2 G1 G2 = true ∧ lcLoop (evC Φ ifs) (evE Φ elt) ifs.isSome tg (wipeS σ own) (watch p.2 G1) (p.1.drop i) acc G2 = .ok ws G3, ⟨p.1.length, by simp, Nat.zero_le _, ?_⟩, ?_⟩
  · obtain ⟨g2, x2⟩ := g1.newH (o := .lst []) hD
    exact ⟨F1, ρ1, G1, [], [], g2, hD1.2, hD1.1, upd_same, rfl, (s.mono x1.later).wipe own, by rw [era_put hD]; exact Ext.refl, wp.self, hT⟩
  rintro i m H ⟨rfl, hi, F2, ρ2, G2, acc, accV, g2, hF2, hC2, hHD, ra, rs, x2, hw, hL⟩
  obtain ⟨a1, a2, a3⟩ := wp.at_ F2 ρ2 G2 H x2.f hw (fun j hj => x2.r j (wp.ix j hj)) g2
  by_cases hlt : i < p.1.length
  case neg =>
    have e : i = p.1.length := by omega
    subst e
    rw [List.drop_length] at hL
    simp only [lcLoop, R.ok.injEq] at hL
    obtain ⟨rfl, rfl⟩ := hL
    refine .inl ⟨a2, ?_⟩
    have ge := g2.era hF2 hC2
    have := mkL_ok ge ra (Res.later (x1.trans x2) res) D era_same
    rw [era_upd hHD] at this
    exact this
  refine .inr ⟨a1 i hlt, fun H' => i + 1 ≤ p.1.length ∧ ∃ F2 ρ2 G2 acc accV, Good K N F2 ρ2 G2 H' ∧ F2 D = none ∧ ¬ IsC ρ2 G2 D ∧ H' D = some (.lst accV) ∧ RepWs K N F2 ρ2 G2.length acc accV ∧ RepS K N F2 ρ2 G2.length (wipeS σ own) (L2.wipe σv own) ∧
      Ext F1 ρ1 G1 H1 F2 ρ2 G2 (era H' D) ∧ watch p.2 G1 G2 = true ∧ lcLoop (evC Φ ifs) (evE Φ elt) ifs.isSome tg (wipeS σ own) (watch p.2 G1) (p.1.drop (i + 1)) acc G2 = .ok ws G3, fun H' q => ⟨_, by omega, rfl, q⟩, fun v H' y => ?_⟩
  obtain ⟨itm, e1, yo⟩ := a3 i v H' hlt y
  have e2 : p.1.drop i = itm :: p.1.drop (i + 1) := by
    obtain ⟨h1, h2⟩ := List.getElem?_eq_some_iff.mp e1
    rw [← h2]; exact List.drop_eq_getElem_cons h1
  rw [e2] at hL
  unfold lcLoop at hL
  split at hL
  · cases hL
  rename_i σ1 e3
  obtain ⟨F3, σv1, g3, x3, rs3, hg, hwp⟩ := bindTg_ok g2 rs yo e3
  refine hg _ ⟨by rw [hwp own hown, wipe_wipe], ?_⟩
  have d3 : H' D = some (.lst accV) := x3.h D _ hHD hC2
  obtain ⟨c3, f3⟩ := x3.n D _ hHD hC2
  have f3 := f3 hF2
  -- behind the test
  have after : ∀ (b : Bool) (F4 : Hp) (ρ4 : Nat → Addr) (G4 : Gs) (H4 : Hp), Ext F3 ρ2 G2 H' F4 ρ4 G4 H4 → Good K N F4 ρ4 G4 H4 →
      (match (R.ok (W.d (.bl b)) G4 : R W) with
      | .ok (.d (.bl true)) G1' => (match evE Φ elt σ1 G1' with
        | .ok w G2' => if watch p.2 G1 G2' then lcLoop (evC Φ ifs) (evE Φ elt) ifs.isSome tg (wipeS σ own) (watch p.2 G1) (p.1.drop (i + 1)) (acc ++ [w]) G2' else .no
        | _ => .no)
      | .ok (.d (.bl false)) G1' => if watch p.2 G1 G1' then lcLoop (evC Φ ifs) (evE Φ elt) ifs.isSome tg (wipeS σ own) (watch p.2 G1) (p.1.drop (i + 1)) acc G1' else .no
      | _ => .no) = R.ok ws G3 →
      if b = true then rdE K N WF Φ elt σv1 H4 (fun y H4 => ∃ acc, H4 D = some (.lst acc) ∧ acc.length < sizeLine ∧ (i + 1 ≤ p.1.length ∧ ∃ F2 ρ2 G2 acc' accV, Good K N F2 ρ2 G2 (upd H4 D (.lst (acc ++ [y]))) ∧ F2 D = none ∧ ¬ IsC ρ2 G2 D ∧ (upd H4 D (.lst (acc ++ [y]))) D = some (.lst accV) ∧ RepWs K N F2 ρ2 G2.length acc' accV ∧ RepS K N F2 ρ2 G2.length (wipeS σ own) (L2.wipe σv own) ∧
        Ext F1 ρ1 G1 H1 F2 ρ2 G2 (era (upd H4 D (.lst (acc ++ [y]))) D) ∧ watch p.2 G1 G2 = true ∧ lcLoop (evC Φ ifs) (evE Φ elt) ifs.isSome tg (wipeS σ own) (watch p.2 G1) (p.1.drop (i + 1)) acc' G2 = .ok ws G3))
      else (i + 1 ≤ p.1.length ∧ ∃ F2 ρ2 G2 acc' accV, Good K N F2 ρ2 G2 H4 ∧ F2 D = none ∧ ¬ IsC ρ2 G2 D ∧ H4 D = some (.lst accV) ∧ RepWs K N F2 ρ2 G2.length acc' accV ∧ RepS K N F2 ρ2 G2.length (wipeS σ own) (L2.wipe σv own) ∧
        Ext F1 ρ1 G1 H1 F2 ρ2 G2 (era H4 D) ∧ watch p.2 G1 G2 = true ∧ lcLoop (evC Φ ifs) (evE Φ elt) ifs.isSome tg (wipeS σ own) (watch p.2 G1) (p.1.drop (i + 1)) acc' G2 = .ok ws G3) := by
    intro b F4 ρ4 G4 H4 x4 g4 hM
    have d4 : H4 D = some (.lst accV) := x4.h D _ d3 c3
    obtain ⟨c4, f4⟩ := x4.n D _ d3 c3
    have f4 := f4 f3
    have x24 : Ext F2 ρ2 G2 H F4 ρ4 G4 H4 := x3.trans x4
    cases b with
    | false =>
      dsimp only at hM
      rw [if_neg (by decide)]
      split at hM
      · rename_i hw4
        exact ⟨hlt, F4, ρ4, G4, acc, accV, g4, f4, c4, d4, ra.mono x24.later, rs.mono x24.later, x2.trans x24.era, hw4, hM⟩
      · cases hM
    | true =>
      dsimp only at hM
      rw [if_pos rfl]
      split at hM
      · rename_i w G5 e5
        split at hM
        · rename_i hw5
          refine ⟨F4, ρ4, G4, σ1, g4, rs3.mono x4.later, ?_⟩
          rw [e5]
          intro F5 ρ5 H5 v5 x5 g5 r5
          have d5 : H5 D = some (.lst accV) := x5.h D _ d4 c4
          obtain ⟨c5, f5⟩ := x5.n D _ d4 c4
          have f5 := f5 f4
          have x25 := x24.trans x5
          have hacc : accV.length < sizeLine := by
            rcases lcLoop_shape (cond := evC Φ ifs) (elt := evE Φ elt) (hasIf := ifs.isSome) (tg := tg) (σ := wipeS σ own) (chk := watch p.2 G1) (p.1.drop (i + 1)) (acc ++ [w]) G5 with z | ⟨ws', G', z, l⟩
            · rw [z] at hM; cases hM
            · rw [z] at hM
              cases hM
              have := ra.len
              simp at l
              omega
          refine ⟨accV, d5, hacc, hlt, F5, ρ5, G5, acc ++ [w], accV ++ [v5], g5.hid f5 c5, f5, c5, upd_same, (ra.mono x25.later).app (.one r5), rs.mono x25.later, ?_, hw5, hM⟩
          rw [era_upd2]
          exact x2.trans x25.era
        · cases hM
      · cases hM
  cases ifs with
  | none =>
    simp only [Option.isSome_none, Bool.false_eq_true, if_false, bL] at hL
    exact after true F3 ρ2 G2 H' Ext.refl g3 hL
  | some c =>
    simp only [Option.isSome_some, if_true, evC] at hL
    refine ⟨F3, ρ2, G2, σ1, g3, rs3, ?_⟩
    cases e4 : evE Φ c σ1 G2 with
    | exc z G4 => rw [e4] at hL; cases hL
    | no => rw [e4] at hL; cases hL
    | ok w G4 =>
      intro F4 ρ4 H4 v4 x4 g4 r4
      rw [e4] at hL
      cases w with
      | r j => cases hL
      | d x =>
        cases x <;> first | (cases hL; done) | skip
        rename_i b
        cases r4
        exact ⟨b, rfl, after b F4 ρ4 G4 H4 x4 g4 hL⟩
end
end Ev

end

-- part EvT
section
set_option Elab.async false
set_option linter.all false
namespace Ev
open PySem L2 PyProof.Rows
/-! ## what the names of the text stand for -/
inductive GK where
  | fn (i : Nat)
  | cls (c np : Nat) (ks : List Str)
  | exc (c : Nat)
  | int (z : Int)
  | blt
structure Gam where
  glo : Str → Option GK
  an : Nat → Str
/-- a context that fits -/
structure Fit (P : Program) (w : World) (K : PySem.W.Frag) (mg : Str → Option Value) (base : Heap) (W' : WX) (k : Nat) (st : Sta) (X : Cx) : Prop where
  prog : X.prog = P
  w : X.w = w
  K : X.K = K
  mg : X.mg = mg
  base : X.base = base
  tk : Takes X W'
  room : Room k X.A
  calm : X.calm = true
  cs : CxS st X
def blkSta (st : Sta) (scope : Scope) : Sta := ⟨st.N, relS scope st.sc, fun x => scope.names.lookup x == some .cell⟩
theorem Fit.blk {P : Program} {w : World} {K : PySem.W.Frag} {mg : Str → Option Value} {base : Heap} {W' : WX} {k : Nat} {st : Sta} {X : Cx} (f : Fit P w K mg base W' k st X) (scope : Scope) (s : Shared) (H : Hp) (C : Addr) (cl : List (Str × Addr)) (fp : List Addr) :
    Fit P w K mg base WF k (blkSta st scope) (X.blk s H scope (compEnvC scope cl C X.env) fp) :=
  ⟨f.prog, f.w, f.K, f.mg, f.base, takes_WF, f.room, f.calm, ⟨f.cs.N, by show relS scope X.env.scope = relS scope st.sc; rw [f.cs.sc], rfl, f.cs.nd⟩⟩
theorem CxOk.mono {K : PySem.W.Frag} {N : Names} {W' : WX} {Φ : Fns} {j k : Nat} {X : Cx} (O : CxOk K N W' Φ k X) (h : j ≤ k) : CxOk K N W' Φ j X := ⟨O.hK, O.hS, O.tk, O.room.mono h, O.calm, O.bin, O.eq, O.isin⟩
structure EnvOk (P : Program) (w : World) (K : PySem.W.Frag) (mg : Str → Option Value) (base : Heap) (N : Names) (Φ : Fns) (k : Nat) (Γ : Gam) : Prop where
  own : ∀ {W' : WX} {st : Sta} {X : Cx}, Fit P w K mg base W' (k + 1) st X → CxOk K N W' Φ (k + 1) X ∧ OwnLen K N W' Φ X
  attrs : Attrs K N Φ
  kits : Kits K N Φ.isc
  an : N.an = Γ.an
  free : ∀ x, Γ.glo x = some .blt → mg x = none
  int : ∀ x z, Γ.glo x = some (.int z) → ∃ t, mg x = some (.int z t)
  fn : ∀ x i, Γ.glo x = some (.fn i) → ∃ f fd ps, mg x = some (.ref f) ∧ PySem.W.keepIn K (.ref f) = true ∧ Binds K fd ps [] ∧ FnOk P w K mg base (L2.CX P w) k f fd ps (spP K N (Φ.call i))
  cls : ∀ x c np ks, Γ.glo x = some (.cls c np ks) → mg x = some (.ref (N.cA c)) ∧ ∃ f fd ps, Mk K (N.cA c) f ∧ FnOk P w K mg base (L2.CX P w) k f fd ps (spI K N c (Φ.init c)) ∧ (ks = [] → Binds K fd ps []) ∧ (ks ≠ [] → KBn K fd ps (np + 1) ks (fun us ws => us ++ ws) (fun us ws => us ++ ws))
  meth : ∀ c m i, Φ.meth c m = some i → Cls K (N.cA c) ∧ ∃ f fd ps, Meth K (N.cA c) (N.an m) f ∧ Binds K fd ps [] ∧ FnOk P w K mg base (L2.CX P w) k f fd ps (spP K N (Φ.call i))
/-! ## the check -/
def opB (o : BO) (p : Operator) : Bool := decide (p = opOf o)
def copB (o : CO) (p : CmpOp) : Bool := decide (p = copOf o)
def isBlt (Γ : Gam) (x : Str) : Bool := match Γ.glo x with
  | some .blt => true
  | _ => false
def litB (Γ : Gam) (st : Sta) (x : D) (e : Expr) : Bool := match x with
  | .int i => (match e with
    | .Constant (.int j) _ _ => decide (i = j)
    | .Name x _ => glB st x && (match Γ.glo x with
      | some (.int j) => decide (i = j)
      | _ => false) && !(x == ("__debug__" : Str))
    | _ => false)
  | .bl b => (match e with
    | .Constant (.bool c) _ _ => b == c
    | _ => false)
  | .str s => (match e with
    | .Constant (.str t) _ _ => decide (s = t)
    | _ => false)
  | .non => (match e with
    | .Constant .none _ _ => true
    | _ => false)
  | _ => false
def bfName : BF → Str
  | .len => "len" | .tuple => "tuple" | .list => "list" | .int => "int" | .str => "str" | .abs => "abs" | .sum => "sum" | .any => "any" | .all => "all"
  | .min1 => "min" | .min2 => "min" | .max1 => "max" | .max2 => "max" | .sorted => "sorted" | .repr => "repr" | .set => "set"
def tyNmB (Γ : Gam) (st : Sta) (t : Ty) (e : Expr) : Bool := match e with
  | .Name y _ => glB st y && !(y == ("__debug__" : Str)) && (match t with
    | .cls c => (match Γ.glo y with
      | some (.cls d _ _) => decide (c = d)
      | _ => false)
    | .err _ => false
    | t => decide (y = tyName t) && isBlt Γ y)
  | _ => false
def tyNmsB (Γ : Gam) (st : Sta) : List Ty → List Expr → Bool
  | [], [] => true
  | t :: r, e :: q => tyNmB Γ st t e && tyNmsB Γ st r q
  | _, _ => false
def setB : Expr → Bool
  | .Set .. => false
  | _ => true
def truB : Expr → Bool
  | .UnaryOp .Not _ _ => false
  | .BoolOp .. => false
  | .IfExp .. => false
  | .Compare .. => false
  | _ => true
def ownNames (N : List Str) (own : List Nat) : List (Str × Nat) := own.map fun i => (N.getD i Str.empty, i)
def tupT : Expr → Bool
  | .Tuple .. => true
  | _ => false
def zeroB : E → Bool
  | .lit (.int 0) => true
  | _ => false
mutual
def chkE (Γ : Gam) : E → Sta → Expr → Bool
  | .var i, st, e => (match e with
    | .Name x _ => decide (st.N[i]? = some x) && visB st x && !(x == ("__debug__" : Str)) && !(x == ("__classdict__" : Str))
    | _ => false)
  | .lit x, st, e => litB Γ st x e
  | .bin _ o a b, st, e => (match e with
    | .BinOp a' p b' _ => opB o p && chkE Γ a st a' && chkE Γ b st b'
    | _ => false)
  | .neg a, st, e => (match e with
    | .UnaryOp .USub a' _ => chkE Γ a st a'
    | _ => false)
  | .not a, st, e => (match e with
    | .UnaryOp .Not a' _ => chkE Γ a st a'
    | _ => false)
  | .inv _, _, _ => false
  | .cmp o a b, st, e => (match e with
    | .Compare a' [p] [b'] _ => copB o p && chkE Γ a st a' && chkE Γ b st b' && !(behindInMarks p b')
    | _ => false)
  | .chain o1 o2 a b c, st, e => (match e with
    | .Compare a' [p1, p2] [b', c'] _ => copB o1 p1 && copB o2 p2 && chkE Γ a st a' && chkE Γ b st b' && chkE Γ c st c' && !(lastMarks [p1, p2] [b', c'])
    | _ => false)
  | .chain3 o1 o2 o3 a b c d, st, e => (match e with
    | .Compare a' [p1, p2, p3] [b', c', d'] _ => copB o1 p1 && copB o2 p2 && copB o3 p3 && chkE Γ a st a' && chkE Γ b st b' && chkE Γ c st c' && chkE Γ d st d' && !(lastMarks [p1, p2, p3] [b', c', d'])
    | _ => false)
  | .and a b, st, e => (match e with
    | .BoolOp .And [x, y] _ => chkE Γ a st x && chkE Γ b st y
    | .BoolOp .And (x :: y :: z :: r) _ => chkE Γ a st x && chkAnd Γ b st (y :: z :: r)
    | _ => false)
  | .or a b, st, e => (match e with
    | .BoolOp .Or [x, y] _ => chkE Γ a st x && chkE Γ b st y
    | .BoolOp .Or (x :: y :: z :: r) _ => chkE Γ a st x && chkOr Γ b st (y :: z :: r)
    | _ => false)
  | .truth _, _, _ => false
  | .ite c a b, st, e => (match e with
    | .IfExp c' a' b' _ => chkT Γ c st c' && chkE Γ a st a' && chkE Γ b st b'
    | _ => false)
  | .tup es, st, e => (match e with
    | .Tuple es' _ _ => es'.all plainB && chkEs Γ es st es'
    | _ => false)
  | .lst _ es, st, e => (match e with
    | .List es' _ => es'.all plainB && chkEs Γ es st es'
    | _ => false)
  | .sub a b, st, e => (match e with
    | .Subscript a' b' _ => chkE Γ a st a' && chkE Γ b st b' && plainB b'
    | _ => false)
  | .sli _ a lo hi, st, e => (match e with
    | .Subscript a' (.Slice lo' hi' none _) _ => chkE Γ a st a' && chkO Γ lo st lo' && chkO Γ hi st hi'
    | _ => false)
  | .attr a f, st, e => (match e with
    | .Attribute a' x _ => decide (x = Γ.an f) && baseB a' && chkE Γ a st a'
    | _ => false)
  | .call i es, st, e => (match e with
    | .Call (.Name x _) es' [] _ => glB st x && !(x == ("__debug__" : Str)) && (match Γ.glo x with
      | some (.fn j) => decide (i = j)
      | _ => false) && es'.all plainB && chkEs Γ es st es'
    | _ => false)
  | .meth m a es, st, e => (match e with
    | .Call (.Attribute a' x ap) es' [] p => decide (x = Γ.an m) && baseB a' && (ap.endLine == p.line) && chkE Γ a st a' && es'.all plainB && decide (es'.length < 30) && chkEs Γ es st es'
    | _ => false)
  | .new c es, st, e => (match e with
    | .Call (.Name x _) es' kws _ => glB st x && !(x == ("__debug__" : Str)) && (match Γ.glo x with
      | some (.cls d np ks) => decide (c = d) && decide (kws.map (·.arg) = ks.map some) && (kws.isEmpty || (decide (es'.length = np) && !es'.isEmpty))
      | _ => false) && es'.all plainB && (kws.map (·.value)).all plainB && chkEs Γ es st (es' ++ kws.map (·.value))
    | _ => false)
  | .blt _ b es, st, e => (match e with
    | .Call (.Name x _) [] [] _ => decide (b = .set) && es.isEmpty && glB st x && decide (x = bfName b) && isBlt Γ x
    | .Call (.Name x _) (e1 :: es') [] _ => glB st x && decide (x = bfName b) && isBlt Γ x && (e1 :: es').all plainB && chkEs Γ es st (e1 :: es')
    | _ => false)
  | .mth m a es, st, e => (match e with
    | .Call (.Attribute a' x ap) es' [] p => decide (x = bmName m) && bmAny m es' && baseB a' && (ap.endLine == p.line) && chkE Γ a st a' && es'.all plainB && decide (es'.length < 30) && chkEs Γ es st es'
    | _ => false)
  | .lc _ elt tg it own ifs, st, e => (match e with
    | .ListComp elt' [⟨tg', it', ifs', 0⟩] scope _ => blkC st.N st.sc scope (ownNames st.N own) && chkI Γ it st tg' it' && setB it' && tgB (blkSta st scope) tg tg' && (tgOwn tg).all (own.contains ·) && chkC Γ ifs (blkSta st scope) ifs' && chkE Γ elt (blkSta st scope) elt'
    | _ => false)
  | .isin a ts, st, e => (match e with
    | .Call (.Name x _) [a', b'] [] _ => decide (x = ("isinstance" : Str)) && glB st x && isBlt Γ x && plainB a' && plainB b' && chkE Γ a st a' && (match ts, b' with
      | t :: r, .Tuple bs _ _ => bs.all plainB && decide ((t :: r).length ≤ 100) && tyNmsB Γ st (t :: r) bs
      | [t], b' => tyNmB Γ st t b'
      | _, _ => false)
    | _ => false)
def chkEs (Γ : Gam) : List E → Sta → List Expr → Bool
  | [], st, es => (match es with
    | [] => true
    | _ => false)
  | a :: r, st, es => (match es with
    | e :: q => chkE Γ a st e && chkEs Γ r st q
    | _ => false)
/-- the rest of a row of ands -/
def chkAnd (Γ : Gam) : E → Sta → List Expr → Bool
  | .and a b, st, es => (match es with
    | [x, y] => chkE Γ a st x && chkE Γ b st y
    | x :: y :: z :: r => chkE Γ a st x && chkAnd Γ b st (y :: z :: r)
    | _ => false)
  | _, _, _ => false
def chkOr (Γ : Gam) : E → Sta → List Expr → Bool
  | .or a b, st, es => (match es with
    | [x, y] => chkE Γ a st x && chkE Γ b st y
    | x :: y :: z :: r => chkE Γ a st x && chkOr Γ b st (y :: z :: r)
    | _ => false)
  | _, _, _ => false
def chkAndT (Γ : Gam) : E → Sta → List Expr → Bool
  | .and a b, st, es => (match es with
    | [x, y] => chkT Γ a st x && chkT Γ b st y
    | x :: y :: z :: r => chkT Γ a st x && chkAndT Γ b st (y :: z :: r)
    | _ => false)
  | _, _, _ => false
def chkOrT (Γ : Gam) : E → Sta → List Expr → Bool
  | .or a b, st, es => (match es with
    | [x, y] => chkT Γ a st x && chkT Γ b st y
    | x :: y :: z :: r => chkT Γ a st x && chkOrT Γ b st (y :: z :: r)
    | _ => false)
  | _, _, _ => false
/-- as a test -/
def chkT (Γ : Gam) : E → Sta → Expr → Bool
  | .cmp o a b, st, e => (match e with
    | .Compare a' [p] [b'] _ => copB o p && chkE Γ a st a' && chkE Γ b st b' && !(behindInMarks p b')
    | _ => false)
  | .chain o1 o2 a b c, st, e => (match e with
    | .Compare a' [p1, p2] [b', c'] _ => copB o1 p1 && copB o2 p2 && chkE Γ a st a' && chkE Γ b st b' && chkE Γ c st c' && !(lastMarks [p1, p2] [b', c'])
    | _ => false)
  | .not a, st, e => (match e with
    | .UnaryOp .Not a' _ => chkT Γ a st a'
    | _ => false)
  | .and a b, st, e => (match e with
    | .BoolOp .And [x, y] _ => chkT Γ a st x && chkT Γ b st y
    | .BoolOp .And (x :: y :: z :: r) _ => chkT Γ a st x && chkAndT Γ b st (y :: z :: r)
    | _ => false)
  | .or a b, st, e => (match e with
    | .BoolOp .Or [x, y] _ => chkT Γ a st x && chkT Γ b st y
    | .BoolOp .Or (x :: y :: z :: r) _ => chkT Γ a st x && chkOrT Γ b st (y :: z :: r)
    | _ => false)
  | .truth a, st, e => truB e && chkE Γ a st e
  | _, _, _ => false
def chkC (Γ : Gam) : Option E → Sta → List Expr → Bool
  | none, st, es => (match es with
    | [] => true
    | _ => false)
  | some c, st, es => (match es with
    | [x] => chkT Γ c st x
    | _ => false)
def chkO (Γ : Gam) : Option E → Sta → Option Expr → Bool
  | none, st, e => (match e with
    | none => true
    | _ => false)
  | some c, st, e => (match e with
    | some x => chkE Γ c st x
    | _ => false)
def chkI (Γ : Gam) : Itr → Sta → Expr → Expr → Bool
  | .val a, st, _, e => chkE Γ a st e
  | .range a b, st, _, e => (match e with
    | .Call (.Name x _) [a', b'] [] _ => decide (x = ("range" : Str)) && glB st x && isBlt Γ x && plainB a' && plainB b' && chkE Γ a st a' && chkE Γ b st b'
    | .Call (.Name x _) [b'] [] _ => decide (x = ("range" : Str)) && glB st x && isBlt Γ x && plainB b' && zeroB a && chkE Γ b st b'
    | _ => false)
  | .enum a, st, tg, e => (match e with
    | .Call (.Name x _) [a'] [] _ => decide (x = ("enumerate" : Str)) && glB st x && isBlt Γ x && plainB a' && tupT tg && chkE Γ a st a'
    | _ => false)
  | .zip a b, st, tg, e => (match e with
    | .Call (.Name x _) [a', b'] [] _ => decide (x = ("zip" : Str)) && glB st x && isBlt Γ x && plainB a' && plainB b' && tupT tg && chkE Γ a st a' && chkE Γ b st b'
    | _ => false)
  | .rev _, _, _, _ => false
end

/-! ## it is sound -/
section
variable {P : Program} {w : World} {K : PySem.W.Frag} {mg : Str → Option Value} {base : Heap} {N : Names} {Φ : Fns} {k : Nat} {Γ : Gam} {W' : WX} {st : Sta} {X : Cx}
variable {a b c e : Expr} {es : List Expr} {a' b' c' : E} {es' : List E} {pos p apos : Pos} {x : Str}
theorem set_of {e : Expr} {env : Env} (h : setB e = true) : ∀ x, foldedSetIterable e env x = pure x := by
  intro x
  cases e <;> first | rfl | simp [setB] at h
theorem tru_of {e : Expr} {env : Env} (h : truB e = true) : ∀ whole, isTrue e env whole = (do let v ← whole; standAt e.pos; holding [v] (truthy v)) := by
  intro x
  cases e with
  | UnaryOp o a p => cases o <;> first | rfl | simp [truB] at h
  | _ => first | rfl | simp [truB] at h
theorem PT_chain {o1 o2 : CO} (O : CxOk K N W' Φ k X) (ha : PE X a (rdE K N W' Φ a')) (hb : PE X b (rdE K N W' Φ b')) (hc : PE X c (rdE K N W' Φ c')) (hm : lastMarks [copOf o1, copOf o2] [b, c] = false) :
    PT X (.Compare a [copOf o1, copOf o2] [b, c] pos) (rdT K N W' Φ (.chain o1 o2 a' b' c')) := by
  refine ⟨fun pins s σ H Q I h => ?_⟩
  have h2 := rd2 (ga := evE Φ a') (gb := evE Φ b') (gc := fun x y σ G2 => cond3 (cmpW Φ o1 x y G2) (fun G3 => (evE Φ c' σ G3).bind fun z G4 => cmpW Φ o2 y z G4) (fun G3 => bL false G3)) (by simpa only [rdT, rdE, evE] using h)
  refine isTrue_chain (thn (ha.run pins s σ H _ I h2) fun v s1 ⟨x, H1, I1, r1, q1⟩ => test_link (thn (hb.run pins s1 σ H1 _ I1 q1) fun u s2 ⟨y, H2, I2, r2, q2⟩ => ?_)) hm
  obtain ⟨F, ρ, G, σ', a2, b2, g, s', ra, rb, res⟩ := q2
  refine thn (cmp_run O.eq O.isin O.hK O.hS O.units I2 r1 r2 g s' ra rb (Res.cond (gt := fun y σ G3 => (evE Φ c' σ G3).bind fun z G4 => cmpW Φ o2 y z G4) (ge := fun _ _ G3 => bL false G3) s' rb res)) fun d s3 ⟨z, H3, I3, r3, k, e, q3⟩ => ?_
  subst e
  cases r3
  refine wpAny_truthy_bool ?_
  cases k with
  | false =>
    rw [if_neg (by decide)] at q3
    obtain ⟨k', e', q'⟩ := rd1_bl q3
    cases e'
    exact ite_ff ⟨H3, I3, q'⟩
  | true =>
    rw [if_pos rfl] at q3
    have q4 := rd1b (ga := evE Φ c') (gc := fun y z _ G => cmpW Φ o2 y z G) q3
    refine ite_tt (test_last (thn (hc.run pins s3 σ H3 _ I3 q4) fun w' s4 ⟨z', H4, I4, r4, q4⟩ => ?_))
    obtain ⟨F, ρ, G, σ', a3, b3, g, s', ra, rb, res⟩ := q4
    refine thn (cmp_run O.eq O.isin O.hK O.hS O.units I4 r2 r4 g s' ra rb res) fun d' s5 ⟨z2, H5, I5, r5, k2, e2, q5⟩ => ?_
    subst e2
    cases r5
    exact wpAny_truthy_bool ⟨H5, I5, q5⟩
theorem isBlt_ok (E : EnvOk P w K mg base N Φ k Γ) (f : Fit P w K mg base W' (k + 1) st X) {x : Str} (h : isBlt Γ x = true) : X.mg x = none := by
  rw [f.mg]
  apply E.free
  unfold isBlt at h
  split at h
  · assumption
  · cases h
theorem lit_ok (E : EnvOk P w K mg base N Φ k Γ) (f : Fit P w K mg base W' (k + 1) st X) {d : D} (h : litB Γ st d e = true) : PE X e (rdE K N W' Φ (.lit d)) := by
  unfold litB at h
  split at h
  · rename_i i
    split at h
    · simp only [decide_eq_true_eq] at h; subst h
      exact PE_lit pe_int fun _ => rfl
    · rename_i y _
      simp only [Bool.and_eq_true, Bool.not_eq_true'] at h
      obtain ⟨⟨h1, h2⟩, h3⟩ := h
      split at h2
      · rename_i j e
        simp only [decide_eq_true_eq] at h2; subst h2
        obtain ⟨t, q⟩ := E.int _ _ e
        exact PE_lit (pe_glob (v := .int i) (f.cs.gl h1) (by rw [f.mg]; exact q) ⟨t, rfl⟩ h3) fun _ => rfl
      · cases h2
    · cases h
  · split at h
    · have h := eq_of_beq h; subst h
      exact PE_lit pe_bl fun _ => rfl
    · cases h
  · split at h
    · simp only [decide_eq_true_eq] at h; subst h
      exact PE_lit pe_str fun _ => rfl
    · cases h
  · split at h
    · exact PE_lit pe_non fun _ => rfl
    · cases h
  · cases h
theorem boot_bf (b : BF) : bootBuiltins (bfName b) = some (bfVal b) := by cases b <;> decide +kernel
theorem bf_dbg (b : BF) : bfName b ≠ "__name__" ∧ (bfName b == ("__debug__" : Str)) = false := by cases b <;> decide +kernel
theorem tyNm_ok (E : EnvOk P w K mg base N Φ k Γ) (f : Fit P w K mg base W' (k + 1) st X) {t : Ty} (h : tyNmB Γ st t e = true) : PE X e (tC (tyV' N t)) := by
  unfold tyNmB at h
  split at h
  · rename_i y _
    simp only [Bool.and_eq_true, Bool.not_eq_true'] at h
    obtain ⟨⟨h1, h2⟩, h3⟩ := h
    cases t with
    | cls c =>
      dsimp only at h3
      split at h3
      · rename_i d np ks e
        simp only [decide_eq_true_eq] at h3; subst h3
        exact pe_glob (v := .ref (N.cA c)) (f.cs.gl h1) (by rw [f.mg]; exact (E.cls _ _ _ _ e).1) rfl h2
      · cases h3
    | err c => cases h3
    | _ =>
      simp only [Bool.and_eq_true, decide_eq_true_eq] at h3
      obtain ⟨e1, h4⟩ := h3
      subst e1
      exact pe_bltn (f.cs.gl h1) (isBlt_ok E f h4) (by decide +kernel) rfl (by decide +kernel) h2
  · cases h
end
end Ev

end

-- part EvU
section
set_option Elab.async false
set_option linter.all false
namespace Ev
open PySem L2 PyProof.Rows
section
variable {P : Program} {w : World} {K : PySem.W.Frag} {mg : Str → Option Value} {base : Heap} {N : Names} {Φ : Fns} {k : Nat} {Γ : Gam}
theorem opB_ok {o : BO} {p : Operator} (h : opB o p = true) : p = opOf o := of_decide_eq_true h
theorem copB_ok {o : CO} {p : CmpOp} (h : copB o p = true) : p = copOf o := of_decide_eq_true h
theorem chkEs_len : ∀ {es' : List E} {st : Sta} {es : List Expr}, chkEs Γ es' st es = true → es'.length = es.length
  | [], st, es, h => by
    simp only [chkEs] at h
    split at h
    · rfl
    · cases h
  | a :: r, st, es, h => by
    simp only [chkEs] at h
    split at h
    · simp only [Bool.and_eq_true] at h
      simp [chkEs_len h.2]
    · cases h
theorem chkEs_nil {es' : List E} {st : Sta} {es : List Expr} (h : chkEs Γ es' st es = true) : es = [] → es' = [] := fun e => by
  have := chkEs_len h
  subst e
  cases es' with
  | nil => rfl
  | cons _ _ => simp at this
theorem chkEs_take : ∀ {es' : List E} {st : Sta} {es fs : List Expr}, chkEs Γ es' st (es ++ fs) = true → chkEs Γ (es'.take es.length) st es = true ∧ chkEs Γ (es'.drop es.length) st fs = true
  | es', st, [], fs, h => ⟨rfl, by simpa using h⟩
  | [], st, e :: es, fs, h => by simp [chkEs] at h
  | a :: r, st, e :: es, fs, h => by
    simp only [List.cons_append, chkEs, Bool.and_eq_true] at h
    obtain ⟨h1, h2⟩ := chkEs_take h.2
    simp only [List.length_cons, List.take_succ_cons, List.drop_succ_cons, chkEs, Bool.and_eq_true]
    exact ⟨⟨h.1, h1⟩, h2⟩
/-- expressions, one by one -/
abbrev PEs (K : PySem.W.Frag) (N : Names) (W' : WX) (Φ : Fns) (X : Cx) : List Expr → List E → Prop := Paired fun e m => PE X e (rdE K N W' Φ m)
theorem PA_of {W' : WX} {X : Cx} : ∀ {es : List Expr} {ms : List E}, es.all plainB = true → PEs K N W' Φ X es ms → PA X es (rdEs K N W' Φ ms)
  | _, _, _, .nil => PA_nil
  | _, _, hp, .cons h r => by
    simp only [List.all_cons, Bool.and_eq_true] at hp
    exact PA_cons h (PA_of hp.2 r) (star_of hp.1)
theorem PK_of {W' : WX} {X : Cx} : ∀ {kws : List Keyword} {ms : List E}, PEs K N W' Φ X (kws.map (·.value)) ms → PK X kws (rdEs K N W' Φ ms)
  | [], _, h => by cases h; exact PK_nil
  | ⟨n, v, p⟩ :: r, _, h => by
    cases h with
    | cons h q => exact PK_cons h (PK_of q)
theorem PEs_app {W' : WX} {X : Cx} : ∀ {es fs : List Expr} {ms : List E}, PEs K N W' Φ X (es ++ fs) ms → ∃ m1 m2, ms = m1 ++ m2 ∧ m1.length = es.length ∧ m2.length = fs.length ∧ PEs K N W' Φ X es m1 ∧ PEs K N W' Φ X fs m2
  | [], fs, ms, h => ⟨[], ms, rfl, rfl, (Paired.length h).symm, .nil, h⟩
  | e :: es, fs, ms, h => by
    cases h with
    | cons h q =>
      obtain ⟨m1, m2, rfl, h1, h2, h3, h4⟩ := PEs_app q
      exact ⟨_ :: m1, m2, rfl, by simp [h1], h2, .cons h h3, h4⟩
def tTys (N : Names) : List Ty → TA
  | [] => tNil
  | t :: r => tCons (tC (tyV' N t)) (tTys N r)
theorem tTys_ok : ∀ (ts : List Ty) (σ : L2.St) (H : Hp) (Q : List V → Hp → Prop), Q (ts.map (tyV' N)) H → tTys N ts σ H Q
  | [], _, _, _, q => q
  | t :: r, σ, H, Q, q => tTys_ok r σ H (fun xs H2 => Q (tyV' N t :: xs) H2) q
theorem all_app {α : Type} {p : α → Bool} {a b : List α} (h1 : a.all p = true) (h2 : b.all p = true) : (a ++ b).all p = true := by rw [List.all_append, h1, h2]; rfl
theorem tyNms_ok (E : EnvOk P w K mg base N Φ k Γ) {W' : WX} {st : Sta} {X : Cx} (f : Fit P w K mg base W' (k + 1) st X) : ∀ {ts : List Ty} {es : List Expr}, es.all plainB = true → tyNmsB Γ st ts es = true → PA X es (tTys N ts)
  | [], [], _, _ => pa_nil
  | [], _ :: _, _, h => by simp [tyNmsB] at h
  | _ :: _, [], _, h => by simp [tyNmsB] at h
  | t :: r, e :: q, hp, h => by
    simp only [tyNmsB, Bool.and_eq_true] at h
    simp only [List.all_cons, Bool.and_eq_true] at hp
    exact pa_cons (tyNm_ok E f h.1) (tyNms_ok E f hp.2 h.2) (star_of hp.1)
variable (E0 : EnvOk P w K mg base N Φ k Γ)
include E0
mutual
theorem chkE_ok : ∀ (m : E) {W' : WX} {st : Sta} {X : Cx} {e : Expr}, Fit P w K mg base W' (k + 1) st X → chkE Γ m st e = true → PE X e (rdE K N W' Φ m)
  | .var i, W', st, X, e, f, h => by
    simp only [chkE] at h
    split at h
    · simp only [Bool.and_eq_true, decide_eq_true_eq, Bool.not_eq_true'] at h
      obtain ⟨⟨⟨h1, h2⟩, h3⟩, h4⟩ := h
      exact PE_var (pe_var (by rw [f.cs.N]; exact h1) (f.cs.vis h2) h3 h4)
    · cases h
  | .lit x, W', st, X, e, f, h => by
    simp only [chkE] at h
    exact lit_ok E0 f h
  | .bin kb o a b, W', st, X, e, f, h => by
    simp only [chkE] at h
    split at h
    · simp only [Bool.and_eq_true] at h
      obtain ⟨⟨h1, h2⟩, h3⟩ := h
      have := opB_ok h1; subst this
      exact PE_bin (E0.own f).1 (chkE_ok a f h2) (chkE_ok b f h3)
    · cases h
  | .neg a, W', st, X, e, f, h => by
    simp only [chkE] at h
    split at h
    · exact PE_neg (chkE_ok a f h)
    · cases h
  | .not a, W', st, X, e, f, h => by
    simp only [chkE] at h
    split at h
    · exact PE_not (chkE_ok a f h)
    · cases h
  | .inv a, W', st, X, e, f, h => by simp [chkE] at h
  | .cmp o a b, W', st, X, e, f, h => by
    simp only [chkE] at h
    split at h
    · simp only [Bool.and_eq_true, Bool.not_eq_true'] at h
      obtain ⟨⟨⟨h1, h2⟩, h3⟩, h4⟩ := h
      have := copB_ok h1; subst this
      exact PE_cmp (E0.own f).1 (chkE_ok a f h2) (chkE_ok b f h3) h4
    · cases h
  | .chain o1 o2 a b c, W', st, X, e, f, h => by
    simp only [chkE] at h
    split at h
    · simp only [Bool.and_eq_true, Bool.not_eq_true'] at h
      obtain ⟨⟨⟨⟨⟨h1, h2⟩, h3⟩, h4⟩, h5⟩, h6⟩ := h
      have := copB_ok h1; subst this
      have := copB_ok h2; subst this
      exact PE_chain (E0.own f).1 (chkE_ok a f h3) (chkE_ok b f h4) (chkE_ok c f h5) h6
    · cases h
  | .chain3 o1 o2 o3 a b c d, W', st, X, e, f, h => by
    simp only [chkE] at h
    split at h
    · simp only [Bool.and_eq_true, Bool.not_eq_true'] at h
      obtain ⟨⟨⟨⟨⟨⟨⟨h1, h2⟩, h0⟩, h3⟩, h4⟩, h5⟩, h7⟩, h6⟩ := h
      have := copB_ok h1; subst this
      have := copB_ok h2; subst this
      have := copB_ok h0; subst this
      exact PE_chain3 (E0.own f).1 (chkE_ok a f h3) (chkE_ok b f h4) (chkE_ok c f h5) (chkE_ok d f h7) h6
    · cases h
  | .and a b, W', st, X, e, f, h => by
    simp only [chkE] at h
    split at h
    · simp only [Bool.and_eq_true] at h
      exact PE_and (chkE_ok a f h.1) (pe_one (chkE_ok b f h.2))
    · simp only [Bool.and_eq_true] at h
      exact PE_and (chkE_ok a f h.1) (chkAnd_ok b f h.2)
    · cases h
  | .or a b, W', st, X, e, f, h => by
    simp only [chkE] at h
    split at h
    · simp only [Bool.and_eq_true] at h
      exact PE_or (chkE_ok a f h.1) (pe_one (chkE_ok b f h.2))
    · simp only [Bool.and_eq_true] at h
      exact PE_or (chkE_ok a f h.1) (chkOr_ok b f h.2)
    · cases h
  | .truth a, W', st, X, e, f, h => by simp [chkE] at h
  | .ite c a b, W', st, X, e, f, h => by
    simp only [chkE] at h
    split at h
    · simp only [Bool.and_eq_true] at h
      exact PE_ite (chkT_ok c f h.1.1) (chkE_ok a f h.1.2) (chkE_ok b f h.2)
    · cases h
  | .tup es, W', st, X, e, f, h => by
    simp only [chkE] at h
    split at h
    · simp only [Bool.and_eq_true] at h
      exact PE_tup (PA_of h.1 (chkEs_ok es f h.2))
    · cases h
  | .lst kk es, W', st, X, e, f, h => by
    simp only [chkE] at h
    split at h
    · simp only [Bool.and_eq_true] at h
      exact PE_lst (PA_of h.1 (chkEs_ok es f h.2))
    · cases h
  | .sub a b, W', st, X, e, f, h => by
    simp only [chkE] at h
    split at h
    · simp only [Bool.and_eq_true] at h
      exact PE_sub (E0.own f).1 (chkE_ok a f h.1.1) (chkE_ok b f h.1.2) (plainIx_of h.2)
    · cases h
  | .sli kk a lo hi, W', st, X, e, f, h => by
    simp only [chkE] at h
    split at h
    · simp only [Bool.and_eq_true] at h
      exact PE_sli (E0.own f).1 (chkE_ok a f h.1.1) (chkO_ok lo f h.1.2) (chkO_ok hi f h.2)
    · cases h
  | .attr a i, W', st, X, e, f, h => by
    simp only [chkE] at h
    split at h
    · simp only [Bool.and_eq_true, decide_eq_true_eq] at h
      obtain ⟨⟨h1, h2⟩, h3⟩ := h
      rw [← E0.an] at h1
      subst h1
      exact PE_attr (E0.own f).1 E0.attrs (chkE_ok a f h3) (base_of h2)
    · cases h
  | .call i es, W', st, X, e, f, h => by
    simp only [chkE] at h
    split at h
    · rename_i x p es' pos
      simp only [Bool.and_eq_true, Bool.not_eq_true'] at h
      obtain ⟨⟨⟨⟨h1, h2⟩, h3⟩, h4⟩, h5⟩ := h
      split at h3
      · rename_i j e
        simp only [decide_eq_true_eq] at h3; subst h3
        obtain ⟨fa, fd, ps, q1, q2, q3, q4⟩ := E0.fn _ _ e
        have O := (E0.own f).1.mono (Nat.le_succ k)
        refine PE_call O ?_ (f.cs.gl h1) (by rw [f.mg]; exact q1) (by rw [f.K]; exact q2) (by rw [f.K]; exact q3) h2 h4 (chkEs_nil h5) (PA_of h4 (chkEs_ok es f h5))
        rw [f.prog, f.w, f.K, f.mg, f.base]; exact q4
      · cases h3
    · cases h
  | .meth m a es, W', st, X, e, f, h => by
    simp only [chkE] at h
    split at h
    · rename_i a1 x ap es' p
      simp only [Bool.and_eq_true, decide_eq_true_eq] at h
      obtain ⟨⟨⟨⟨⟨⟨h1, h2⟩, h3⟩, h4⟩, h5⟩, h6⟩, h7⟩ := h
      rw [← E0.an] at h1
      subst h1
      have O := (E0.own f).1.mono (Nat.le_succ k)
      refine PE_meth O E0.attrs (fun c i hci => ?_) (chkE_ok a f h4) h2 h3 h5 h6 (chkEs_nil h7) (PA_of h5 (chkEs_ok es f h7))
      obtain ⟨q1, fa, fd, ps, q2, q3, q4⟩ := E0.meth c m i hci
      exact ⟨q1, fa, fd, ps, q2, q3, by rw [f.prog, f.w, f.mg, f.base]; first | exact q4 | (rw [f.K]; exact q4)⟩
    · cases h
  | .new c es, W', st, X, e, f, h => by
    simp only [chkE] at h
    split at h
    · rename_i x p es' kws pos
      simp only [Bool.and_eq_true, Bool.not_eq_true'] at h
      obtain ⟨⟨⟨⟨⟨h1, h2⟩, h3⟩, h4⟩, h5⟩, h6⟩ := h
      split at h3
      · rename_i d np ks e
        simp only [Bool.and_eq_true, decide_eq_true_eq, Bool.or_eq_true, Bool.not_eq_true'] at h3
        obtain ⟨⟨h3, h7⟩, h8⟩ := h3
        subst h3
        obtain ⟨q1, fa, fd, ps, q2, q3, q4, q5⟩ := E0.cls _ _ _ _ e
        have O := (E0.own f).1
        have M : Mk X.K (N.cA c) fa := by rw [f.K]; exact q2
        have A : FnOk X.prog X.w X.K X.mg X.base (L2.CX X.prog X.w) k fa fd ps (spI K N c (Φ.init c)) := by rw [f.prog, f.w, f.K, f.mg, f.base]; exact q3
        by_cases hk : ks = []
        · subst hk
          have : kws = [] := by simpa using h7
          subst this
          simp only [List.map_nil, List.append_nil] at h6
          exact PE_new O M A (f.cs.gl h1) (by rw [f.mg]; exact q1) (by rw [f.K]; exact q4 rfl) h2 h4 (chkEs_nil h6) (PA_of h4 (chkEs_ok es f h6))
        · have hkw : kws.isEmpty = false := by
            cases kws with
            | nil => exact absurd (by simpa using h7.symm) hk
            | cons _ _ => rfl
          rw [hkw] at h8
          simp only [Bool.false_eq_true, false_or] at h8
          obtain ⟨h8, h9⟩ := h8
          have lk : kws.length = ks.length := by have := congrArg List.length h7; simpa using this
          obtain ⟨m1, m2, rfl, l1, l2, p1, p2⟩ := PEs_app (chkEs_ok es f h6)
          cases es' with
          | nil => simp at h9
          | cons e1' es' =>
            exact PE_newK O M A (f.cs.gl h1) (by rw [f.mg]; exact q1) (ks := ks) (by rw [f.K, l1, h8]; exact q5 hk) h2 h4 (PA_of h4 p1) (PK_of p2) h7 (by rw [l2, List.length_map, lk])
      · cases h3
    · cases h
  | .blt kk b es, W', st, X, e, f, h => by
    simp only [chkE] at h
    split at h
    · simp only [Bool.and_eq_true, decide_eq_true_eq] at h
      obtain ⟨⟨⟨⟨h0, h1⟩, h2⟩, h3⟩, h4⟩ := h
      subst h0; subst h3
      obtain rfl : es = [] := by simpa using h1
      have O := (E0.own f)
      exact PE_set0 O.1 O.2 (f.cs.gl h2) (isBlt_ok E0 f h4) (boot_bf .set) (bf_dbg .set).1 (bf_dbg .set).2
    · simp only [Bool.and_eq_true, decide_eq_true_eq] at h
      obtain ⟨⟨⟨⟨h1, h2⟩, h3⟩, h4⟩, h5⟩ := h
      subst h2
      have O := (E0.own f)
      exact PE_blt O.1 O.2 (f.cs.gl h1) (isBlt_ok E0 f h3) (boot_bf b) (bf_dbg b).1 (bf_dbg b).2 h4 (PA_of h4 (chkEs_ok es f h5))
    · cases h
  | .mth m a es, W', st, X, e, f, h => by
    simp only [chkE] at h
    split at h
    · rename_i a1 x ap es' p
      simp only [Bool.and_eq_true, decide_eq_true_eq] at h
      obtain ⟨⟨⟨⟨⟨⟨⟨h1, h0⟩, h2⟩, h3⟩, h4⟩, h5⟩, h6⟩, h7⟩ := h
      subst h1
      have O := (E0.own f).1
      cases es' with
      | nil =>
        have := chkEs_nil h7 rfl
        subst this
        exact PE_mth0 O (by simpa [bmAny] using h0) (chkE_ok a f h4) h2 h3
      | cons e1 es1 =>
        unfold bmAny at h0
        rw [Bool.or_eq_true] at h0
        rcases h0 with h0 | h0
        case inr =>
          simp only [Bool.and_eq_true, decide_eq_true_eq] at h0
          obtain ⟨h0, _⟩ := h0
          subst h0
          exact PE_sadd O (chkE_ok a f h4) h2 h3 h5 h6 (PA_of h5 (chkEs_ok es f h7))
        exact PE_mth O h0 (chkE_ok a f h4) h2 h3 h5 h6 (PA_of h5 (chkEs_ok es f h7))
    · cases h
  | .lc kk elt tg it own ifs, W', st, X, e, f, h => by
    simp only [chkE] at h
    split at h
    · rename_i elt' tg' it' ifs' scope pos
      simp only [Bool.and_eq_true] at h
      obtain ⟨⟨⟨⟨⟨⟨h1, h2⟩, h3⟩, h4⟩, h5⟩, h6⟩, h7⟩ := h
      have hown : (ownNames st.N own).map (·.2) = own := by unfold ownNames; rw [List.map_map]; exact List.map_id' own
      have ok : BlkOk X.N X.env.scope scope (ownNames st.N own) := by rw [f.cs.N, f.cs.sc]; exact blkOk_by h1
      refine PE.imp (pe_lc (own := ownNames st.N own) f.calm (by rw [f.cs.N]; exact f.cs.nd) (chkI_ok it f h2) ok (g := gT K tg) (tt := tIfs K N Φ ifs) (te := rdE K N WF Φ elt) (fun s H C cl fp => ?_) (fun s H C cl fp => ?_) (fun s H C cl fp => ?_) (set_of h3)) fun σ H Q hh => ?_
      · have f2 := f.blk scope s H C cl fp
        have := PG_tg f2.cs f2.calm h4
        rw [f2.K] at this
        exact this
      · exact chkC_ok ifs (f.blk scope s H C cl fp) h6
      · exact chkE_ok elt (f.blk scope s H C cl fp) h7
      · rw [hown]
        exact lc_reading (fun i hi => by have := List.all_eq_true.mp h5 i hi; simpa using this) hh
    · cases h
  | .isin a ts, W', st, X, e, f, h => by
    simp only [chkE] at h
    split at h
    · rename_i x p a1 b1 pos
      simp only [Bool.and_eq_true, decide_eq_true_eq] at h
      obtain ⟨⟨⟨⟨⟨⟨h1, h2⟩, h3⟩, h4⟩, h5⟩, h6⟩, h7⟩ := h
      subst h1
      have O := (E0.own f).1
      split at h7
      · simp only [Bool.and_eq_true, decide_eq_true_eq] at h7
        obtain ⟨⟨h8, h9⟩, h10⟩ := h7
        exact PE_isinT O E0.kits (f.cs.gl h2) (isBlt_ok E0 f h3) h4 (chkE_ok a f h6) (tyNms_ok E0 f h8 h10) (tTys_ok _) h9
      · exact PE_isin1 O E0.kits (f.cs.gl h2) (isBlt_ok E0 f h3) h4 (chkE_ok a f h6) (tyNm_ok E0 f h7) h5
      · cases h7
    · cases h
theorem chkEs_ok : ∀ (ms : List E) {W' : WX} {st : Sta} {X : Cx} {es : List Expr}, Fit P w K mg base W' (k + 1) st X → chkEs Γ ms st es = true → PEs K N W' Φ X es ms
  | [], W', st, X, es, f, h => by
    simp only [chkEs] at h
    split at h
    · exact .nil
    · cases h
  | a :: r, W', st, X, es, f, h => by
    simp only [chkEs] at h
    split at h
    · simp only [Bool.and_eq_true] at h
      exact .cons (chkE_ok a f h.1) (chkEs_ok r f h.2)
    · cases h
theorem chkAnd_ok : ∀ (m : E) {W' : WX} {st : Sta} {X : Cx} {es : List Expr} {pos : Pos}, Fit P w K mg base W' (k + 1) st X → chkAnd Γ m st es = true → PE X (.BoolOp .And es pos) (rdE K N W' Φ m)
  | .and a b, W', st, X, es, pos, f, h => by
    simp only [chkAnd] at h
    split at h
    · simp only [Bool.and_eq_true] at h
      exact PE_and (chkE_ok a f h.1) (pe_one (chkE_ok b f h.2))
    · simp only [Bool.and_eq_true] at h
      exact PE_and (chkE_ok a f h.1) (chkAnd_ok b f h.2)
    · cases h
  | .var _, _, _, _, _, _, _, h => by simp [chkAnd] at h
  | .lit _, _, _, _, _, _, _, h => by simp [chkAnd] at h
  | .bin .., _, _, _, _, _, _, h => by simp [chkAnd] at h
  | .neg .., _, _, _, _, _, _, h => by simp [chkAnd] at h
  | .not .., _, _, _, _, _, _, h => by simp [chkAnd] at h
  | .inv .., _, _, _, _, _, _, h => by simp [chkAnd] at h
  | .cmp .., _, _, _, _, _, _, h => by simp [chkAnd] at h
  | .chain .., _, _, _, _, _, _, h => by simp [chkAnd] at h
  | .chain3 .., _, _, _, _, _, _, h => by simp [chkAnd] at h
  | .or .., _, _, _, _, _, _, h => by simp [chkAnd] at h
  | .truth .., _, _, _, _, _, _, h => by simp [chkAnd] at h
  | .ite .., _, _, _, _, _, _, h => by simp [chkAnd] at h
  | .tup .., _, _, _, _, _, _, h => by simp [chkAnd] at h
  | .lst .., _, _, _, _, _, _, h => by simp [chkAnd] at h
  | .sub .., _, _, _, _, _, _, h => by simp [chkAnd] at h
  | .sli .., _, _, _, _, _, _, h => by simp [chkAnd] at h
  | .attr .., _, _, _, _, _, _, h => by simp [chkAnd] at h
  | .call .., _, _, _, _, _, _, h => by simp [chkAnd] at h
  | .meth .., _, _, _, _, _, _, h => by simp [chkAnd] at h
  | .new .., _, _, _, _, _, _, h => by simp [chkAnd] at h
  | .blt .., _, _, _, _, _, _, h => by simp [chkAnd] at h
  | .mth .., _, _, _, _, _, _, h => by simp [chkAnd] at h
  | .lc .., _, _, _, _, _, _, h => by simp [chkAnd] at h
  | .isin .., _, _, _, _, _, _, h => by simp [chkAnd] at h
theorem chkOr_ok : ∀ (m : E) {W' : WX} {st : Sta} {X : Cx} {es : List Expr} {pos : Pos}, Fit P w K mg base W' (k + 1) st X → chkOr Γ m st es = true → PE X (.BoolOp .Or es pos) (rdE K N W' Φ m)
  | .or a b, W', st, X, es, pos, f, h => by
    simp only [chkOr] at h
    split at h
    · simp only [Bool.and_eq_true] at h
      exact PE_or (chkE_ok a f h.1) (pe_one (chkE_ok b f h.2))
    · simp only [Bool.and_eq_true] at h
      exact PE_or (chkE_ok a f h.1) (chkOr_ok b f h.2)
    · cases h
  | .var _, _, _, _, _, _, _, h => by simp [chkOr] at h
  | .lit _, _, _, _, _, _, _, h => by simp [chkOr] at h
  | .bin .., _, _, _, _, _, _, h => by simp [chkOr] at h
  | .neg .., _, _, _, _, _, _, h => by simp [chkOr] at h
  | .not .., _, _, _, _, _, _, h => by simp [chkOr] at h
  | .inv .., _, _, _, _, _, _, h => by simp [chkOr] at h
  | .cmp .., _, _, _, _, _, _, h => by simp [chkOr] at h
  | .chain .., _, _, _, _, _, _, h => by simp [chkOr] at h
  | .chain3 .., _, _, _, _, _, _, h => by simp [chkOr] at h
  | .and .., _, _, _, _, _, _, h => by simp [chkOr] at h
  | .truth .., _, _, _, _, _, _, h => by simp [chkOr] at h
  | .ite .., _, _, _, _, _, _, h => by simp [chkOr] at h
  | .tup .., _, _, _, _, _, _, h => by simp [chkOr] at h
  | .lst .., _, _, _, _, _, _, h => by simp [chkOr] at h
  | .sub .., _, _, _, _, _, _, h => by simp [chkOr] at h
  | .sli .., _, _, _, _, _, _, h => by simp [chkOr] at h
  | .attr .., _, _, _, _, _, _, h => by simp [chkOr] at h
  | .call .., _, _, _, _, _, _, h => by simp [chkOr] at h
  | .meth .., _, _, _, _, _, _, h => by simp [chkOr] at h
  | .new .., _, _, _, _, _, _, h => by simp [chkOr] at h
  | .blt .., _, _, _, _, _, _, h => by simp [chkOr] at h
  | .mth .., _, _, _, _, _, _, h => by simp [chkOr] at h
  | .lc .., _, _, _, _, _, _, h => by simp [chkOr] at h
  | .isin .., _, _, _, _, _, _, h => by simp [chkOr] at h
theorem chkT_ok : ∀ (m : E) {W' : WX} {st : Sta} {X : Cx} {e : Expr}, Fit P w K mg base W' (k + 1) st X → chkT Γ m st e = true → PT X e (rdT K N W' Φ m)
  | .cmp o a b, W', st, X, e, f, h => by
    simp only [chkT] at h
    split at h
    · simp only [Bool.and_eq_true, Bool.not_eq_true'] at h
      obtain ⟨⟨⟨h1, h2⟩, h3⟩, h4⟩ := h
      have := copB_ok h1; subst this
      exact PT_cmp (E0.own f).1 (chkE_ok a f h2) (chkE_ok b f h3) h4
    · cases h
  | .chain o1 o2 a b c, W', st, X, e, f, h => by
    simp only [chkT] at h
    split at h
    · simp only [Bool.and_eq_true, Bool.not_eq_true'] at h
      obtain ⟨⟨⟨⟨⟨h1, h2⟩, h3⟩, h4⟩, h5⟩, h6⟩ := h
      have := copB_ok h1; subst this
      have := copB_ok h2; subst this
      exact PT_chain (E0.own f).1 (chkE_ok a f h3) (chkE_ok b f h4) (chkE_ok c f h5) h6
    · cases h
  | .not a, W', st, X, e, f, h => by
    simp only [chkT] at h
    split at h
    · exact PT_not (chkT_ok a f h)
    · cases h
  | .and a b, W', st, X, e, f, h => by
    simp only [chkT] at h
    split at h
    · simp only [Bool.and_eq_true] at h
      exact (PW_and (chkT_ok a f h.1) (pw_and1 (chkT_ok b f h.2))).pt
    · simp only [Bool.and_eq_true] at h
      exact (PW_and (chkT_ok a f h.1) (chkAndT_ok b f h.2)).pt
    · cases h
  | .or a b, W', st, X, e, f, h => by
    simp only [chkT] at h
    split at h
    · simp only [Bool.and_eq_true] at h
      exact (PW_or (chkT_ok a f h.1) (pw_or1 (chkT_ok b f h.2))).pt
    · simp only [Bool.and_eq_true] at h
      exact (PW_or (chkT_ok a f h.1) (chkOrT_ok b f h.2)).pt
    · cases h
  | .truth a, W', st, X, e, f, h => by
    simp only [chkT, Bool.and_eq_true] at h
    exact PT_truth (chkE_ok a f h.2) (E0.own f).1 (tru_of h.1)
  | .var _, _, _, _, _, _, h => by simp [chkT] at h
  | .chain3 .., _, _, _, _, _, h => by simp [chkT] at h
  | .lit _, _, _, _, _, _, h => by simp [chkT] at h
  | .bin .., _, _, _, _, _, h => by simp [chkT] at h
  | .neg .., _, _, _, _, _, h => by simp [chkT] at h
  | .inv .., _, _, _, _, _, h => by simp [chkT] at h
  | .ite .., _, _, _, _, _, h => by simp [chkT] at h
  | .tup .., _, _, _, _, _, h => by simp [chkT] at h
  | .lst .., _, _, _, _, _, h => by simp [chkT] at h
  | .sub .., _, _, _, _, _, h => by simp [chkT] at h
  | .sli .., _, _, _, _, _, h => by simp [chkT] at h
  | .attr .., _, _, _, _, _, h => by simp [chkT] at h
  | .call .., _, _, _, _, _, h => by simp [chkT] at h
  | .meth .., _, _, _, _, _, h => by simp [chkT] at h
  | .new .., _, _, _, _, _, h => by simp [chkT] at h
  | .blt .., _, _, _, _, _, h => by simp [chkT] at h
  | .mth .., _, _, _, _, _, h => by simp [chkT] at h
  | .lc .., _, _, _, _, _, h => by simp [chkT] at h
  | .isin .., _, _, _, _, _, h => by simp [chkT] at h
theorem chkAndT_ok : ∀ (m : E) {W' : WX} {st : Sta} {X : Cx} {es : List Expr} {pos : Pos}, Fit P w K mg base W' (k + 1) st X → chkAndT Γ m st es = true → PW X (.BoolOp .And es pos) (rdT K N W' Φ m)
  | .and a b, W', st, X, es, pos, f, h => by
    simp only [chkAndT] at h
    split at h
    · simp only [Bool.and_eq_true] at h
      exact PW_and (chkT_ok a f h.1) (pw_and1 (chkT_ok b f h.2))
    · simp only [Bool.and_eq_true] at h
      exact PW_and (chkT_ok a f h.1) (chkAndT_ok b f h.2)
    · cases h
  | .var _, _, _, _, _, _, _, h => by simp [chkAndT] at h
  | .lit _, _, _, _, _, _, _, h => by simp [chkAndT] at h
  | .bin .., _, _, _, _, _, _, h => by simp [chkAndT] at h
  | .neg .., _, _, _, _, _, _, h => by simp [chkAndT] at h
  | .inv .., _, _, _, _, _, _, h => by simp [chkAndT] at h
  | .ite .., _, _, _, _, _, _, h => by simp [chkAndT] at h
  | .tup .., _, _, _, _, _, _, h => by simp [chkAndT] at h
  | .lst .., _, _, _, _, _, _, h => by simp [chkAndT] at h
  | .sub .., _, _, _, _, _, _, h => by simp [chkAndT] at h
  | .sli .., _, _, _, _, _, _, h => by simp [chkAndT] at h
  | .attr .., _, _, _, _, _, _, h => by simp [chkAndT] at h
  | .call .., _, _, _, _, _, _, h => by simp [chkAndT] at h
  | .meth .., _, _, _, _, _, _, h => by simp [chkAndT] at h
  | .new .., _, _, _, _, _, _, h => by simp [chkAndT] at h
  | .blt .., _, _, _, _, _, _, h => by simp [chkAndT] at h
  | .mth .., _, _, _, _, _, _, h => by simp [chkAndT] at h
  | .lc .., _, _, _, _, _, _, h => by simp [chkAndT] at h
  | .isin .., _, _, _, _, _, _, h => by simp [chkAndT] at h
  | .or .., _, _, _, _, _, _, h => by simp [chkAndT] at h
  | .truth .., _, _, _, _, _, _, h => by simp [chkAndT] at h
  | .cmp .., _, _, _, _, _, _, h => by simp [chkAndT] at h
  | .chain .., _, _, _, _, _, _, h => by simp [chkAndT] at h
  | .chain3 .., _, _, _, _, _, _, h => by simp [chkAndT] at h
  | .not .., _, _, _, _, _, _, h => by simp [chkAndT] at h
theorem chkOrT_ok : ∀ (m : E) {W' : WX} {st : Sta} {X : Cx} {es : List Expr} {pos : Pos}, Fit P w K mg base W' (k + 1) st X → chkOrT Γ m st es = true → PW X (.BoolOp .Or es pos) (rdT K N W' Φ m)
  | .or a b, W', st, X, es, pos, f, h => by
    simp only [chkOrT] at h
    split at h
    · simp only [Bool.and_eq_true] at h
      exact PW_or (chkT_ok a f h.1) (pw_or1 (chkT_ok b f h.2))
    · simp only [Bool.and_eq_true] at h
      exact PW_or (chkT_ok a f h.1) (chkOrT_ok b f h.2)
    · cases h
  | .var _, _, _, _, _, _, _, h => by simp [chkOrT] at h
  | .lit _, _, _, _, _, _, _, h => by simp [chkOrT] at h
  | .bin .., _, _, _, _, _, _, h => by simp [chkOrT] at h
  | .neg .., _, _, _, _, _, _, h => by simp [chkOrT] at h
  | .inv .., _, _, _, _, _, _, h => by simp [chkOrT] at h
  | .ite .., _, _, _, _, _, _, h => by simp [chkOrT] at h
  | .tup .., _, _, _, _, _, _, h => by simp [chkOrT] at h
  | .lst .., _, _, _, _, _, _, h => by simp [chkOrT] at h
  | .sub .., _, _, _, _, _, _, h => by simp [chkOrT] at h
  | .sli .., _, _, _, _, _, _, h => by simp [chkOrT] at h
  | .attr .., _, _, _, _, _, _, h => by simp [chkOrT] at h
  | .call .., _, _, _, _, _, _, h => by simp [chkOrT] at h
  | .meth .., _, _, _, _, _, _, h => by simp [chkOrT] at h
  | .new .., _, _, _, _, _, _, h => by simp [chkOrT] at h
  | .blt .., _, _, _, _, _, _, h => by simp [chkOrT] at h
  | .mth .., _, _, _, _, _, _, h => by simp [chkOrT] at h
  | .lc .., _, _, _, _, _, _, h => by simp [chkOrT] at h
  | .isin .., _, _, _, _, _, _, h => by simp [chkOrT] at h
  | .and .., _, _, _, _, _, _, h => by simp [chkOrT] at h
  | .truth .., _, _, _, _, _, _, h => by simp [chkOrT] at h
  | .cmp .., _, _, _, _, _, _, h => by simp [chkOrT] at h
  | .chain .., _, _, _, _, _, _, h => by simp [chkOrT] at h
  | .chain3 .., _, _, _, _, _, _, h => by simp [chkOrT] at h
  | .not .., _, _, _, _, _, _, h => by simp [chkOrT] at h
theorem chkC_ok : ∀ (m : Option E) {st : Sta} {X : Cx} {es : List Expr}, Fit P w K mg base WF (k + 1) st X → chkC Γ m st es = true → PTs X es (tIfs K N Φ m)
  | none, st, X, es, f, h => by
    simp only [chkC] at h
    split at h
    · exact pts_nil
    · cases h
  | some c, st, X, es, f, h => by
    simp only [chkC] at h
    split at h
    · exact pts_one (chkT_ok c f h)
    · cases h
theorem chkO_ok : ∀ (m : Option E) {W' : WX} {st : Sta} {X : Cx} {e : Option Expr}, Fit P w K mg base W' (k + 1) st X → chkO Γ m st e = true → PO X e (rdO K N W' (evO Φ m))
  | none, W', st, X, e, f, h => by
    simp only [chkO] at h
    split at h
    · exact PO_none
    · cases h
  | some c, W', st, X, e, f, h => by
    simp only [chkO] at h
    split at h
    · exact PO_some (chkE_ok c f h)
    · cases h
theorem chkI_ok : ∀ (m : Itr) {W' : WX} {st : Sta} {X : Cx} {tg e : Expr}, Fit P w K mg base W' (k + 1) st X → chkI Γ m st tg e = true → PI X tg e (rdI K N W' (evI Φ m))
  | .val a, W', st, X, tg, e, f, h => by
    simp only [chkI] at h
    exact PI_val (E0.own f).1 (chkE_ok a f h)
  | .range a b, W', st, X, tg, e, f, h => by
    simp only [chkI] at h
    split at h
    · simp only [Bool.and_eq_true, decide_eq_true_eq] at h
      obtain ⟨⟨⟨⟨⟨⟨h1, h2⟩, h3⟩, h4⟩, h5⟩, h6⟩, h7⟩ := h
      subst h1
      exact PI_range2 (E0.own f).1 (f.cs.gl h2) (isBlt_ok E0 f h3) h4 h5 (chkE_ok a f h6) (chkE_ok b f h7)
    · simp only [Bool.and_eq_true, decide_eq_true_eq] at h
      obtain ⟨⟨⟨⟨⟨h1, h2⟩, h3⟩, h4⟩, h5⟩, h6⟩ := h
      subst h1
      have e0 : a = .lit (.int 0) := by
        unfold zeroB at h5
        split at h5
        · rfl
        · cases h5
      rw [e0]
      exact PI_range1 (E0.own f).1 (f.cs.gl h2) (isBlt_ok E0 f h3) h4 (chkE_ok b f h6)
    · cases h
  | .enum a, W', st, X, tg, e, f, h => by
    simp only [chkI] at h
    split at h
    · simp only [Bool.and_eq_true, decide_eq_true_eq] at h
      obtain ⟨⟨⟨⟨⟨h1, h2⟩, h3⟩, h4⟩, h5⟩, h6⟩ := h
      subst h1
      cases tg <;> first | (simp [tupT] at h5; done) | skip
      exact PI_enum (E0.own f).1 (f.cs.gl h2) (isBlt_ok E0 f h3) h4 (chkE_ok a f h6)
    · cases h
  | .zip a b, W', st, X, tg, e, f, h => by
    simp only [chkI] at h
    split at h
    · simp only [Bool.and_eq_true, decide_eq_true_eq] at h
      obtain ⟨⟨⟨⟨⟨⟨⟨h1, h2⟩, h3⟩, h4⟩, h5⟩, h6⟩, h7⟩, h8⟩ := h
      subst h1
      cases tg <;> first | (simp [tupT] at h6; done) | skip
      exact PI_zip (E0.own f).1 (f.cs.gl h2) (isBlt_ok E0 f h3) h4 h5 (chkE_ok a f h7) (chkE_ok b f h8)
    · cases h
  | .rev a, W', st, X, tg, e, f, h => by simp [chkI] at h
end
end
end Ev

end

-- part EvV
section
set_option Elab.async false
set_option linter.all false
namespace Ev
open PySem L2 PyProof.Rows
/-! ## statements: what they leave -/
/-- as Ext, but cells from fl on may have gone -/
structure ExtS (fl : Nat) (F : Hp) (ρ : Nat → Addr) (G : Gs) (H : Hp) (F' : Hp) (ρ' : Nat → Addr) (G' : Gs) (H' : Hp) : Prop where
  f : Same F F'
  r : ∀ i, i < fl → i < G.length → i < G'.length ∧ ρ' i = ρ i
  h : ∀ a o, H a = some o → ¬ IsC ρ G a → H' a = some o
  n : ∀ a o, H a = some o → ¬ IsC ρ G a → ¬ IsC ρ' G' a ∧ (F a = none → F' a = none)
section
variable {K : PySem.W.Frag} {N : Names} {F F' F1 F2 : Hp} {ρ ρ' ρ1 ρ2 : Nat → Addr} {G G' G1 G2 : Gs} {H H' H1 H2 : Hp} {n m fl fl' : Nat} {W' : WX} {σv : L2.St} {Φ : Fns} {Q : VK}
theorem ExtS.of (x : Ext F ρ G H F' ρ' G' H') : ExtS fl F ρ G H F' ρ' G' H' := ⟨x.f, fun i _ h => ⟨Nat.lt_of_lt_of_le h x.l, x.r i h⟩, x.h, x.n⟩
theorem ExtS.refl : ExtS fl F ρ G H F ρ G H := .of Ext.refl
theorem ExtS.trans (a : ExtS fl F ρ G H F1 ρ1 G1 H1) (b : ExtS fl F1 ρ1 G1 H1 F2 ρ2 G2 H2) : ExtS fl F ρ G H F2 ρ2 G2 H2 where
  f := a.f.trans b.f
  r := fun i hi hl => let ⟨h1, h2⟩ := a.r i hi hl; let ⟨h3, h4⟩ := b.r i hi h1; ⟨h3, h4.trans h2⟩
  h := fun x o hx nc => b.h x o (a.h x o hx nc) (a.n x o hx nc).1
  n := fun x o hx nc => ⟨(b.n x o (a.h x o hx nc) (a.n x o hx nc).1).1, fun e => (b.n x o (a.h x o hx nc) (a.n x o hx nc).1).2 ((a.n x o hx nc).2 e)⟩
theorem ExtS.mono (x : ExtS fl' F ρ G H F' ρ' G' H') (h : fl ≤ fl') : ExtS fl F ρ G H F' ρ' G' H' := ⟨x.f, fun i hi => x.r i (Nat.lt_of_lt_of_le hi h), x.h, x.n⟩
theorem ExtS.all (x : ExtS G.length F ρ G H F' ρ' G' H') : ExtS fl F ρ G H F' ρ' G' H' := ⟨x.f, fun i _ h => x.r i h h, x.h, x.n⟩
/-! ### cells that go -/
theorem RepW.take {w : W} {v : V} {j : Nat} (h : RepW K N F ρ n w v) (hn : ∀ k, w = .r k → k < j) : RepW K N F ρ j w v := by
  cases w with
  | d x => exact h
  | r k => exact ⟨hn k rfl, h.2⟩
theorem RepWs.takeC {j : Nat} : ∀ {ws : List W} {vs : List V}, RepWs K N F ρ n ws vs → (∀ w ∈ ws, ∀ k, w = .r k → k < j) → RepWs K N F ρ j ws vs
  | [], _, h, _ => h
  | w :: r, _, h, hn => by
    simp only [RepWs] at h ⊢
    obtain ⟨v, q, rfl, h1, h2⟩ := h
    exact ⟨v, q, rfl, h1.take (hn w (by simp)), RepWs.takeC h2 fun u hu => hn u (by simp [hu])⟩
theorem RepFW.takeC {j : Nat} : ∀ {ws : List (Nat × W)} {vs : List (Str × V)}, RepFW K N F ρ n ws vs → (∀ w ∈ ws, ∀ k, w.2 = .r k → k < j) → RepFW K N F ρ j ws vs
  | [], _, h, _ => h
  | (m, w) :: r, _, h, hn => by
    simp only [RepFW] at h ⊢
    obtain ⟨v, q, rfl, h1, h2⟩ := h
    exact ⟨v, q, rfl, h1.take (hn (m, w) (by simp)), RepFW.takeC h2 fun u hu => hn u (by simp [hu])⟩
theorem RepWs.lt : ∀ {ws : List W} {vs : List V}, RepWs K N F ρ n ws vs → ∀ w ∈ ws, ∀ k, w = .r k → k < n
  | [], _, _, w, hw, _, _ => by simp at hw
  | w :: r, _, h, u, hu, k, e => by
    simp only [RepWs] at h
    obtain ⟨v, q, rfl, h1, h2⟩ := h
    rcases List.mem_cons.mp hu with rfl | hu
    · subst e; exact h1.1
    · exact RepWs.lt h2 u hu k e
theorem RepFW.lt : ∀ {ws : List (Nat × W)} {vs : List (Str × V)}, RepFW K N F ρ n ws vs → ∀ w ∈ ws, ∀ k, w.2 = .r k → k < n
  | [], _, _, w, hw, _, _ => by simp at hw
  | (m, w) :: r, _, h, u, hu, k, e => by
    simp only [RepFW] at h
    obtain ⟨v, q, rfl, h1, h2⟩ := h
    rcases List.mem_cons.mp hu with rfl | hu
    · simp only at e; subst e; exact h1.1
    · exact RepFW.lt h2 u hu k e
theorem noRef_ok {j k : Nat} {w : W} (h : (match w with | .r k => !decide (k = j) | .d _ => true) = true) (e : w = .r k) : k ≠ j := by
  subst e
  simpa using h
theorem drop_good {j : Nat} (g : Good K N F ρ G H) (hj : j + 1 = G.length) (hr : G.all (noRefC j) = true) : Good K N F ρ (G.take j) H := by
  have hl : (G.take j).length = j := by rw [List.length_take]; omega
  have at_ : ∀ i c, (G.take j)[i]? = some c → i < j ∧ G[i]? = some c := fun i c e => by
    have hi : i < j := by have := (List.getElem?_eq_some_iff.mp e).1; omega
    rw [List.getElem?_take_of_lt hi] at e
    exact ⟨hi, e⟩
  refine ⟨g.sub, fun i c e => ?_, fun i i' c d e1 e2 => g.inj i i' c d (at_ i c e1).2 (at_ i' d e2).2⟩
  obtain ⟨hi, e⟩ := at_ i c e
  have ok := g.cell i c e
  have nr := List.all_eq_true.mp hr c (List.mem_of_getElem? e)
  rw [hl]
  cases c with
  | sh ds => exact ok
  | dp ws =>
    obtain ⟨h1, vs, h2, h3⟩ := ok
    refine ⟨h1, vs, h2, h3.takeC fun w hw k ek => ?_⟩
    have h4 := h3.lt w hw k ek
    have h5 := noRef_ok (List.all_eq_true.mp (show (ws.all fun w => match w with | .r k => !decide (k = j) | .d _ => true) = true from nr) w hw) ek
    omega
  | ob c fs =>
    obtain ⟨h1, dx, fv, h2, h3⟩ := ok
    refine ⟨h1, dx, fv, h2, h3.takeC fun w hw k ek => ?_⟩
    have h4 := h3.lt w hw k ek
    have h5 := noRef_ok (List.all_eq_true.mp (show (fs.all fun p => match p.2 with | .r k => !decide (k = j) | .d _ => true) = true from nr) w hw) ek
    omega
  | fz x => exact ok
  | st ks => exact ok
  | tp ws =>
    obtain ⟨h1, vs, h2, h3⟩ := ok
    refine ⟨h1, vs, h2, h3.takeC fun w hw k ek => ?_⟩
    have h4 := h3.lt w hw k ek
    have h5 := noRef_ok (List.all_eq_true.mp (show (ws.all fun w => match w with | .r k => !decide (k = j) | .d _ => true) = true from nr) w hw) ek
    omega
  | gone => trivial
theorem drop_slots {j : Nat} : ∀ {σ : Sl} {vs : L2.St}, RepS K N F ρ (j + 1) σ vs → RepS K N F ρ j (σ.map (clr j)) vs
  | [], _, h => h
  | x :: r, _, h => by
    simp only [RepS] at h
    obtain ⟨v, q, rfl, h1, h2⟩ := h
    simp only [List.map_cons, RepS]
    refine ⟨v, q, rfl, ?_, drop_slots h2⟩
    cases x with
    | none => trivial
    | some w =>
      cases w with
      | d x => exact h1
      | r k =>
        show RepO K N F ρ j (if k = j then none else some (.r k)) v
        by_cases e : k = j
        · rw [if_pos e]; trivial
        · rw [if_neg e]
          obtain ⟨y, e2, h3, h4⟩ := h1
          exact ⟨y, e2, by omega, h4⟩
theorem RepS.hide : ∀ {σ : Sl} {vs : L2.St}, RepS K N F ρ n σ vs → ∀ i, RepS K N F ρ n (σ.set i none) vs
  | [], _, h, i => by simpa using h
  | x :: r, _, h, i => by
    simp only [RepS] at h
    obtain ⟨v, q, rfl, h1, h2⟩ := h
    cases i with
    | zero => simp only [List.set_cons_zero, RepS]; exact ⟨v, q, rfl, trivial, h2⟩
    | succ i => simp only [List.set_cons_succ, RepS]; exact ⟨v, q, rfl, h1, RepS.hide h2 i⟩
theorem drop1_ok {i : Nat} {σ : Sl} (g : Good K N F ρ G H) (s : RepS K N F ρ G.length σ σv) : Good K N F ρ (drop1 fl i σ G).2 H ∧ RepS K N F ρ (drop1 fl i σ G).2.length (drop1 fl i σ G).1 σv ∧ ExtS fl F ρ G H F ρ (drop1 fl i σ G).2 H := by
  unfold drop1
  split
  · rename_i j e
    split
    · rename_i h
      obtain ⟨h1, h2, h3⟩ := h
      have hl : (G.take j).length = j := by rw [List.length_take]; omega
      refine ⟨drop_good g h2 h3, ?_, ⟨Same.refl _, fun i hi _ => ⟨(by show i < (G.take j).length; rw [hl]; omega), rfl⟩, fun _ _ h _ => h, fun a o e k => ⟨fun z => k ?_, fun z => z⟩⟩⟩
      · rw [hl]; exact drop_slots (by rw [h2]; exact s)
      · obtain ⟨i, c, e1, e2, e3⟩ := z
        have e1 : (G.take j)[i]? = some c := e1
        have hi : i < j := by have := (List.getElem?_eq_some_iff.mp e1).1; omega
        rw [List.getElem?_take_of_lt hi] at e1
        exact ⟨i, c, e1, e2, e3⟩
    · exact ⟨g, s.hide i, ExtS.refl⟩
  · exact ⟨g, s.hide i, ExtS.refl⟩
theorem dropAll_ok : ∀ (dr : List Nat) {σ : Sl} {G : Gs}, Good K N F ρ G H → RepS K N F ρ G.length σ σv → Good K N F ρ (dropAll fl dr σ G).2 H ∧ RepS K N F ρ (dropAll fl dr σ G).2.length (dropAll fl dr σ G).1 σv ∧ ExtS fl F ρ G H F ρ (dropAll fl dr σ G).2 H
  | [], σ, G, g, s => ⟨g, s, ExtS.refl⟩
  | i :: r, σ, G, g, s => by
    obtain ⟨g1, s1, x1⟩ := drop1_ok (fl := fl) (i := i) g s
    obtain ⟨g2, s2, x2⟩ := dropAll_ok r g1 s1
    exact ⟨g2, s2, x1.trans x2⟩
/-! ### readings of statements -/
def ResO (K : PySem.W.Frag) (N : Names) (W' : WX) (D : Ends) (fl : Nat) (F : Hp) (ρ : Nat → Addr) (G : Gs) (H : Hp) : O → Prop
  | .nx σ' G' => ∀ F' ρ' H' σv', ExtS fl F ρ G H F' ρ' G' H' → Good K N F' ρ' G' H' → RepS K N F' ρ' G'.length σ' σv' → D.nx σv' H'
  | .bk σ' G' => ∀ F' ρ' H' σv', ExtS fl F ρ G H F' ρ' G' H' → Good K N F' ρ' G' H' → RepS K N F' ρ' G'.length σ' σv' → D.bk σv' H'
  | .ct σ' G' => ∀ F' ρ' H' σv', ExtS fl F ρ G H F' ρ' G' H' → Good K N F' ρ' G' H' → RepS K N F' ρ' G'.length σ' σv' → D.ct σv' H'
  | .rt w G' => ∀ F' ρ' H' v, ExtS fl F ρ G H F' ρ' G' H' → Good K N F' ρ' G' H' → RepW K N F' ρ' G'.length w v → D.rt v H'
  | .ex e σ' G' => ∀ F' ρ' H' cls d σv', ExtS fl F ρ G H F' ρ' G' H' → Good K N F' ρ' G' H' → RepS K N F' ρ' G'.length σ' σv' → RepX K N F' e cls d H' → W' cls d σv' H'
  | .no => False
theorem ResO.later {D : Ends} {o : O} (x : ExtS fl F ρ G H F1 ρ1 G1 H1) (h : ResO K N W' D fl F ρ G H o) : ResO K N W' D fl F1 ρ1 G1 H1 o := by
  cases o with
  | nx σ G' => exact fun F' ρ' H' s e => h F' ρ' H' s (x.trans e)
  | bk σ G' => exact fun F' ρ' H' s e => h F' ρ' H' s (x.trans e)
  | ct σ G' => exact fun F' ρ' H' s e => h F' ρ' H' s (x.trans e)
  | rt w G' => exact fun F' ρ' H' s e => h F' ρ' H' s (x.trans e)
  | ex z σ G' => exact fun F' ρ' H' cls d s e => h F' ρ' H' cls d s (x.trans e)
  | no => exact h
def rdS (K : PySem.W.Frag) (N : Names) (W' : WX) (fl : Nat) (g : Sl → Gs → O) : TS := fun D σv H => ∃ F ρ G σ, Good K N F ρ G H ∧ RepS K N F ρ G.length σ σv ∧ ResO K N W' D fl F ρ G H (g σ G)
/-- an expression, then what its value is for -/
theorem rdS1 {ga : Sl → Gs → R W} {gc : W → Sl → Gs → O} {D : Ends} (h : rdS K N W' fl (fun σ G => (ga σ G).thenS σ fun w G1 => gc w σ G1) D σv H) :
    rd K N W' ga σv H fun v H1 => ∃ F ρ G σ w, Good K N F ρ G H1 ∧ RepS K N F ρ G.length σ σv ∧ RepW K N F ρ G.length w v ∧ ResO K N W' D fl F ρ G H1 (gc w σ G) := by
  obtain ⟨F, ρ, G, σ, g, s, res⟩ := h
  refine ⟨F, ρ, G, σ, g, s, ?_⟩
  dsimp only at res
  cases e : ga σ G with
  | ok w G1 =>
    intro F1 ρ1 H1 v x1 g1 r1
    rw [e] at res
    exact ⟨F1, ρ1, G1, σ, w, g1, s.mono x1.later, r1, ResO.later (.of x1) res⟩
  | exc z G1 =>
    rw [e] at res
    exact fun F' ρ' H' cls d x g' r => res F' ρ' H' cls d σv (.of x) g' (s.mono x.later) r
  | no => rw [e] at res; exact res
theorem rdS1b {ga : Sl → Gs → R W} {gc : W → W → Sl → Gs → O} {D : Ends} {v : V} (h : ∃ F ρ G σ w, Good K N F ρ G H ∧ RepS K N F ρ G.length σ σv ∧ RepW K N F ρ G.length w v ∧ ResO K N W' D fl F ρ G H ((ga σ G).thenS σ fun u G1 => gc w u σ G1)) :
    rd K N W' ga σv H fun v2 H1 => ∃ F ρ G σ w u, Good K N F ρ G H1 ∧ RepS K N F ρ G.length σ σv ∧ RepW K N F ρ G.length w v ∧ RepW K N F ρ G.length u v2 ∧ ResO K N W' D fl F ρ G H1 (gc w u σ G) := by
  obtain ⟨F, ρ, G, σ, w, g, s, r, res⟩ := h
  refine ⟨F, ρ, G, σ, g, s, ?_⟩
  cases e : ga σ G with
  | ok u G1 =>
    intro F1 ρ1 H1 v x1 g1 r1
    rw [e] at res
    exact ⟨F1, ρ1, G1, σ, w, u, g1, s.mono x1.later, r.mono x1.later, r1, ResO.later (.of x1) res⟩
  | exc z G1 =>
    rw [e] at res
    exact fun F' ρ' H' cls d x g' r => res F' ρ' H' cls d σv (.of x) g' (s.mono x.later) r
  | no => rw [e] at res; exact res
theorem rdS1c {ga : Sl → Gs → R W} {gc : W → W → W → Sl → Gs → O} {D : Ends} {v v2 : V} (h : ∃ F ρ G σ w u, Good K N F ρ G H ∧ RepS K N F ρ G.length σ σv ∧ RepW K N F ρ G.length w v ∧ RepW K N F ρ G.length u v2 ∧ ResO K N W' D fl F ρ G H ((ga σ G).thenS σ fun y G1 => gc w u y σ G1)) :
    rd K N W' ga σv H fun v3 H1 => ∃ F ρ G σ w u y, Good K N F ρ G H1 ∧ RepS K N F ρ G.length σ σv ∧ RepW K N F ρ G.length w v ∧ RepW K N F ρ G.length u v2 ∧ RepW K N F ρ G.length y v3 ∧ ResO K N W' D fl F ρ G H1 (gc w u y σ G) := by
  obtain ⟨F, ρ, G, σ, w, u, g, s, r, r2, res⟩ := h
  refine ⟨F, ρ, G, σ, g, s, ?_⟩
  cases e : ga σ G with
  | ok y G1 =>
    intro F1 ρ1 H1 v x1 g1 r1
    rw [e] at res
    exact ⟨F1, ρ1, G1, σ, w, u, y, g1, s.mono x1.later, r.mono x1.later, r2.mono x1.later, r1, ResO.later (.of x1) res⟩
  | exc z G1 =>
    rw [e] at res
    exact fun F' ρ' H' cls d x g' r => res F' ρ' H' cls d σv (.of x) g' (s.mono x.later) r
  | no => rw [e] at res; exact res
end
end Ev

end

-- part EvW
section
set_option Elab.async false
set_option linter.all false
namespace Ev
open PySem L2 PyProof.Rows
section
variable {K : PySem.W.Frag} {N : Names} {F F' F1 F2 : Hp} {ρ ρ' ρ1 ρ2 : Nat → Addr} {G G' G1 G2 : Gs} {H H' H1 H2 : Hp} {n m fl fl' k : Nat} {W' : WX} {σv : L2.St} {Φ : Fns} {Q : VK} {X : Cx} {D : Ends}
variable {pins : List (Addr × Obj)} {s : Shared}
/-! ### readings, statement by statement -/
theorem s_set {dr : List Nat} {i : Nat} {e : E} (h : rdS K N W' fl (evS Φ (.set dr i e) fl) D σv H) : rdE K N W' Φ e σv H fun v H1 => D.nx (σv.set i (some v)) H1 := by
  obtain ⟨F, ρ, G, σ, g, s, res⟩ := h
  simp only [evS] at res
  obtain ⟨g1, s1, x1⟩ := dropAll_ok (fl := fl) dr g s
  generalize (dropAll fl dr σ G) = q at g1 s1 x1 res
  refine ⟨F, ρ, q.2, q.1, g1, s1, ?_⟩
  cases e1 : evE Φ e q.1 q.2 with
  | ok w G1 =>
    intro F1 ρ1 H1 v x2 g2 r2
    rw [e1] at res
    exact res F1 ρ1 H1 _ (x1.trans (.of x2)) g2 ((s1.mono x2.later).set r2 i)
  | exc z G1 =>
    rw [e1] at res
    exact fun F' ρ' H' cls d x g' r => res F' ρ' H' cls d σv (x1.trans (.of x)) g' (s1.mono x.later) r
  | no => rw [e1] at res; exact res
theorem s_unp {ts : List Nat} {e : E} (h : rdS K N W' fl (evS Φ (.unp ts e) fl) D σv H) : rdE K N W' Φ e σv H fun v H1 => gT K (.tup ts) v σv H1 D.nx := by
  refine rd_mono (rdS1 (ga := evE Φ e) (gc := fun w σ G1 => match (titems w).bind fun ws => bindNs ts ws σ with
    | some σ1 => .nx σ1 G1
    | none => .no) (by have h' := h; simp only [evS] at h'; exact h')) fun v H1 q => ?_
  obtain ⟨F, ρ, G, σ, w, g, s, r, res⟩ := q
  split at res
  · rename_i σ1 e1
    obtain ⟨F', σv1, g1, x1, s1, hq, _⟩ := bindTg_ok (t := .tup ts) (it := .one w) g s ⟨rfl, r⟩ e1
    exact hq _ (res _ _ _ _ (.of x1) g1 s1)
  · exact res.elim
theorem s_expr {e : E} (h : rdS K N W' fl (evS Φ (.expr e) fl) D σv H) : rdE K N W' Φ e σv H fun _ H1 => D.nx σv H1 := by
  refine rd_mono (rdS1 (ga := evE Φ e) (gc := fun w σ G1 => .nx σ G1) (by simpa only [evS] using h)) fun v H1 q => ?_
  obtain ⟨F, ρ, G, σ, w, g, s, r, res⟩ := q
  exact res F ρ H1 σv ExtS.refl g s
theorem s_ret {e : E} (h : rdS K N W' fl (evS Φ (.ret e) fl) D σv H) : rdE K N W' Φ e σv H D.rt := by
  refine rd_mono (rdS1 (ga := evE Φ e) (gc := fun w σ G1 => .rt w G1) (by simpa only [evS] using h)) fun v H1 q => ?_
  obtain ⟨F, ρ, G, σ, w, g, s, r, res⟩ := q
  exact res F ρ H1 v ExtS.refl g r
theorem s_retN (h : rdS K N W' fl (evS Φ .retN fl) D σv H) : D.rt .non H := by
  obtain ⟨F, ρ, G, σ, g, s, res⟩ := h
  simp only [evS] at res
  exact res F ρ H .non ExtS.refl g rfl
theorem s_pas (h : rdS K N W' fl (evS Φ .pas fl) D σv H) : D.nx σv H := by
  obtain ⟨F, ρ, G, σ, g, s, res⟩ := h
  simp only [evS] at res
  exact res F ρ H σv ExtS.refl g s
theorem s_brk (h : rdS K N W' fl (evS Φ .brk fl) D σv H) : D.bk σv H := by
  obtain ⟨F, ρ, G, σ, g, s, res⟩ := h
  simp only [evS] at res
  exact res F ρ H σv ExtS.refl g s
theorem s_cnt (h : rdS K N W' fl (evS Φ .cnt fl) D σv H) : D.ct σv H := by
  obtain ⟨F, ρ, G, σ, g, s, res⟩ := h
  simp only [evS] at res
  exact res F ρ H σv ExtS.refl g s
theorem s_never (h : rdS K N W' fl (evS Φ .never fl) D σv H) : False := by
  obtain ⟨F, ρ, G, σ, g, s, res⟩ := h
  simp only [evS] at res
  exact res
theorem s_seq {a : S} {r : List S} (h : rdS K N W' fl (evSs Φ (a :: r) fl) D σv H) : rdS K N W' fl (evS Φ a fl) { D with nx := rdS K N W' fl (evSs Φ r fl) D } σv H := by
  obtain ⟨F, ρ, G, σ, g, s, res⟩ := h
  simp only [evSs] at res
  refine ⟨F, ρ, G, σ, g, s, ?_⟩
  cases e : evS Φ a fl σ G with
  | nx σ1 G1 =>
    rw [e] at res
    exact fun F' ρ' H' σv' x g' s' => ⟨F', ρ', G1, σ1, g', s', ResO.later x res⟩
  | _ => rw [e] at res; exact res
theorem s_nil (h : rdS K N W' fl (evSs Φ [] fl) D σv H) : D.nx σv H := by
  obtain ⟨F, ρ, G, σ, g, s, res⟩ := h
  simp only [evSs] at res
  exact res F ρ H σv ExtS.refl g s
theorem s_ife {c : E} {a b : List S} (h : rdS K N W' fl (evS Φ (.ife c a b) fl) D σv H) :
    rdT K N W' Φ c σv H fun t H1 => if t = true then rdS K N W' fl (evSs Φ a fl) D σv H1 else rdS K N W' fl (evSs Φ b fl) D σv H1 := by
  obtain ⟨F, ρ, G, σ, g, s, res⟩ := h
  simp only [evS] at res
  refine ⟨F, ρ, G, σ, g, s, ?_⟩
  unfold condS at res
  split at res
  · rename_i G1 e
    rw [e]
    intro F1 ρ1 H1 v x1 g1 r1
    cases r1
    refine ⟨true, rfl, ?_⟩
    dsimp only
    rw [if_pos rfl]
    exact ⟨F1, ρ1, G1, σ, g1, s.mono x1.later, ResO.later (.of x1) res⟩
  · rename_i G1 e
    rw [e]
    intro F1 ρ1 H1 v x1 g1 r1
    cases r1
    refine ⟨false, rfl, ?_⟩
    dsimp only
    rw [if_neg (by decide)]
    exact ⟨F1, ρ1, G1, σ, g1, s.mono x1.later, ResO.later (.of x1) res⟩
  · rename_i z G1 e
    rw [e]
    exact fun F' ρ' H' cls d x g' r => res F' ρ' H' cls d σv (.of x) g' (s.mono x.later) r
  · exact res.elim
theorem set_ok {ds : List Ev.D} {vs : List V} {x : Ev.D} {v : V} (h : RepL K N F ds vs) (r : Rep K N F x v) (n : Nat) : RepL K N F (ds.set n x) (vs.set n v) := by
  induction ds generalizing vs n with
  | nil => simp only [RepL] at h; subst h; simp [RepL]
  | cons y q ih =>
    simp only [RepL] at h
    obtain ⟨u, p, rfl, h1, h2⟩ := h
    cases n with
    | zero => simp only [List.set_cons_zero, RepL]; exact ⟨v, p, rfl, r, h2⟩
    | succ n => simp only [List.set_cons_succ, RepL]; exact ⟨u, _, rfl, h1, ih h2 n⟩
theorem setW_ok {ds : List W} {vs : List V} {x : W} {v : V} (h : RepWs K N F ρ m ds vs) (r : RepW K N F ρ m x v) (n : Nat) : RepWs K N F ρ m (ds.set n x) (vs.set n v) := by
  induction ds generalizing vs n with
  | nil => simp only [RepWs] at h; subst h; simp [RepWs]
  | cons y q ih =>
    simp only [RepWs] at h
    obtain ⟨u, p, rfl, h1, h2⟩ := h
    cases n with
    | zero => simp only [List.set_cons_zero, RepWs]; exact ⟨v, p, rfl, r, h2⟩
    | succ n => simp only [List.set_cons_succ, RepWs]; exact ⟨u, _, rfl, h1, ih h2 n⟩
theorem s_item {o i e : E} (h : rdS K N W' fl (evS Φ (.item o i e) fl) D σv H) :
    rdE K N W' Φ e σv H fun v H1 => rdE K N W' Φ o σv H1 fun x H2 => rdE K N W' Φ i σv H2 fun y H3 => rSetL x y v H3 fun H4 => D.nx σv H4 := by
  refine rd_mono (rdS1 (ga := evE Φ e) (gc := fun v σ G1 => (evE Φ o σ G1).thenS σ fun x G2 => (evE Φ i σ G2).thenS σ fun y G3 => match setItemW x y v G3 with
    | some G4 => .nx σ G4
    | none => .no) (by have h' := h; simp only [evS] at h'; exact h')) fun v H1 q => ?_
  refine rd_mono (rdS1b (ga := evE Φ o) (gc := fun v x σ G2 => (evE Φ i σ G2).thenS σ fun y G3 => match setItemW x y v G3 with
    | some G4 => .nx σ G4
    | none => .no) q) fun x H2 q => ?_
  refine rd_mono (rdS1c (ga := evE Φ i) (gc := fun v x y σ G3 => match setItemW x y v G3 with
    | some G4 => .nx σ G4
    | none => .no) q) fun y H3 q => ?_
  obtain ⟨F, ρ, G, σ, wv, wx, wy, g, s, rv, rx, ry, res⟩ := q
  split at res
  · rename_i G4 e1
    unfold setItemW at e1
    split at e1
    · rename_i c j
      obtain ⟨hi, rfl⟩ := rx
      cases ry
      split at e1
      · rename_i ds hc
        simp only [Option.bind_eq_bind, Option.bind_eq_some_iff] at e1
        obtain ⟨n, e2, p, e3, e4⟩ := e1
        obtain ⟨xd, G5⟩ := p
        obtain ⟨F1, z, rz⟩ := fz_ok fzN F G wv v xd G5 g rv e3
        dsimp only at e4
        split at e4
        · rename_i es hc1
          cases e4
          obtain ⟨f1, vs, h1, h2⟩ := g.cell c _ hc
          obtain ⟨f2, vs2, h3, h4⟩ := z.good.cell c _ hc1
          have : vs2 = vs := by rw [h1] at h3; cases h3; rfl
          subst this
          obtain ⟨g2, x2⟩ := z.good.put (c := .sh (es.set n xd)) (o := .lst (vs2.set n v)) hc1 rfl ⟨f2, _, upd_same, set_ok h4 rz n⟩
          exact ⟨_, vs2, j, n, rfl, rfl, h1, by unfold ixN at e2; rw [h2.len] at e2; exact e2, res _ _ _ _ (.of (z.ext.trans x2)) g2 (s.mono (z.ext.trans x2).later)⟩
        · cases e4
      · rename_i ws hc
        simp only [Option.map_eq_some_iff] at e1
        obtain ⟨n, e2, rfl⟩ := e1
        obtain ⟨f1, vs, h1, h2⟩ := g.cell c _ hc
        obtain ⟨g2, x2⟩ := g.put (c := .dp (ws.set n wv)) (o := .lst (vs.set n v)) hc rfl ⟨f1, _, upd_same, setW_ok h2 rv n⟩
        exact ⟨_, vs, j, n, rfl, rfl, h1, by unfold ixN at e2; rw [h2.len] at e2; exact e2, res _ _ _ _ (.of x2) g2 (s.mono x2.later)⟩
      · cases e1
    · cases e1
  · exact res.elim
theorem putF_ok {f : Nat} {w : W} {v : V} (hn : ∀ i j, N.an i = N.an j → i = j) (r : RepW K N F ρ m w v) : ∀ {fs : List (Nat × W)} {fv : List (Str × V)}, RepFW K N F ρ m fs fv → RepFW K N F ρ m (Ev.putF f w fs) (L2.putF (N.an f) v fv)
  | [], _, h => by simp only [RepFW] at h; subst h; simp only [Ev.putF, L2.putF, RepFW]; exact ⟨v, [], rfl, r, rfl⟩
  | (g, x) :: q, _, h => by
    simp only [RepFW] at h
    obtain ⟨u, p, rfl, h1, h2⟩ := h
    by_cases e : g = f
    · subst e
      simp only [Ev.putF, L2.putF, if_true, RepFW]
      exact ⟨v, p, rfl, r, h2⟩
    · have e2 : ¬ N.an g = N.an f := fun z => e (hn _ _ z)
      simp only [Ev.putF, L2.putF, if_neg e, if_neg e2, RepFW]
      exact ⟨u, _, rfl, h1, putF_ok hn r h2⟩
theorem RepFW.len : ∀ {fs : List (Nat × W)} {fv : List (Str × V)}, RepFW K N F ρ m fs fv → fs.length = fv.length
  | [], _, h => by simp only [RepFW] at h; subst h; rfl
  | (g, x) :: q, _, h => by
    simp only [RepFW] at h
    obtain ⟨u, p, rfl, h1, h2⟩ := h
    simp [RepFW.len h2]
theorem s_attr {o e : E} {f : Nat} (A : Attrs K N Φ) (h : rdS K N W' fl (evS Φ (.attrS o f e) fl) D σv H) : sFld K (rdE K N W' Φ o) (rdE K N W' Φ e) (N.an f) D σv H := by
  refine rd_mono (rdS1 (ga := evE Φ e) (gc := fun v σ G1 => (evE Φ o σ G1).thenS σ fun x G2 => match setAttrW Φ x f v G2 with
    | some G3 => .nx σ G3
    | none => .no) (by have h' := h; simp only [evS] at h'; exact h')) fun v H1 q => ?_
  refine rd_mono (rdS1b (ga := evE Φ o) (gc := fun v x σ G2 => match setAttrW Φ x f v G2 with
    | some G3 => .nx σ G3
    | none => .no) q) fun x H2 q => ?_
  obtain ⟨F, ρ, G, σ, wv, wx, g, s, rv, rx, res⟩ := q
  split at res
  · rename_i G3 e1
    unfold setAttrW at e1
    split at e1
    · rename_i c
      obtain ⟨hi, rfl⟩ := rx
      split at e1
      · rename_i kc fs hc
        split at e1
        · rename_i hf
          simp only [Bool.and_eq_true, decide_eq_true_eq] at hf
          cases e1
          obtain ⟨f1, dx, fv, h1, h2⟩ := g.cell c _ hc
          obtain ⟨g2, x2⟩ := g.put (c := .ob kc (Ev.putF f wv fs)) (o := .ins (N.cA kc) dx (L2.putF (N.an f) v fv)) hc rfl ⟨f1, dx, _, upd_same, putF_ok A.inj rv h2⟩
          exact ⟨_, _, dx, fv, rfl, h1, A.cls _ _ hf.1, A.no _ _ hf.1, by rw [← h2.len]; omega, res _ _ _ _ (.of x2) g2 (s.mono x2.later)⟩
        · cases e1
      · cases e1
    · cases e1
  · exact res.elim
/-! ### op= -/
def tiA (K : PySem.W.Frag) (N : Names) (o : BO) : TIp := fun x y H Q => ∃ W' F ρ G a b σv, Good K N F ρ G H ∧ RepW K N F ρ G.length a x ∧ RepW K N F ρ G.length b y ∧ ResW K N W' σv F ρ G H Q (augW o a b G)
theorem aug_run {o : BO} : PIp X (opOf o) (tiA K N o) := by
  intro pins s σ H x y v u Q I rx ry h
  obtain ⟨W', F, ρ, G, a, b, σv, g, ra, rb, res⟩ := h
  unfold augW at res
  split at res
  · cases ra; cases rb
    split at res
    · exact iop_add pins s σ H _ _ v u Q I rx ry ⟨_, _, rfl, rfl, ResW.il res g⟩
    · exact iop_sub pins s σ H _ _ v u Q I rx ry ⟨_, _, rfl, rfl, ResW.il res g⟩
    · exact res.elim
  · cases ra; cases rb
    split at res
    · split at res
      · rename_i hl
        exact iop_add_str pins s σ H _ _ v u Q I rx ry ⟨_, _, rfl, rfl, lineB_le hl, ResW.data res g rfl⟩
      · exact res.elim
    · exact res.elim
  · exact res.elim
theorem s_aug {i : Nat} {o : BO} {e : E} (h : rdS K N W' fl (evS Φ (.aug i o e) fl) D σv H) : tAug i (rdE K N W' Φ e) (tiA K N o) D σv H := by
  obtain ⟨F, ρ, G, σ, g, s, res⟩ := h
  simp only [evS] at res
  split at res
  · rename_i x e1
    obtain ⟨v, e2, r⟩ := RepS.at s i x e1
    refine ⟨v, e2, F, ρ, G, σ, g, s, ?_⟩
    cases e3 : evE Φ e σ G with
    | ok w G1 =>
      intro F1 ρ1 H1 u x1 g1 r1
      rw [e3] at res
      simp only [R.thenS] at res
      refine ⟨WF, F1, ρ1, G1, x, w, σv, g1, r.mono x1.later, r1, ?_⟩
      cases e4 : augW o x w G1 with
      | ok y G2 =>
        rw [e4] at res
        intro F2 ρ2 H2 z x2 g2 r2
        exact res F2 ρ2 H2 _ (.of (x1.trans x2)) g2 ((s.mono (x1.trans x2).later).set r2 i)
      | exc z G2 =>
        exfalso
        unfold augW at e4
        split at e4
        · split at e4 <;> cases e4
        · split at e4
          · split at e4 <;> cases e4
          · cases e4
        · cases e4
      | no => rw [e4] at res; exact res
    | exc z G1 =>
      rw [e3] at res
      exact fun F' ρ' H' cls d x g' r => res F' ρ' H' cls d σv (.of x) g' (s.mono x.later) r
    | no => rw [e3] at res; exact res
  · exact res.elim
/-! ### loops -/
theorem s_for {tg : Tg} {it : Itr} {body : List S} (h : rdS K N W' fl (evS Φ (.for tg it body) fl) D σv H) (tb : TS) (hb : ∀ fl D σv H, rdS K N W' fl (evSs Φ body fl) D σv H → tb D σv H) :
    tFor (rdI K N W' (evI Φ it)) (gT K tg) tb D σv H := by
  obtain ⟨F, ρ, G, σ, g, s, res⟩ := h
  simp only [evS] at res
  refine ⟨F, ρ, G, σ, g, s, ?_⟩
  cases e0 : evI Φ it σ G with
  | exc z G1 =>
    rw [e0] at res
    exact fun F' ρ' H' cls d x g' r => res F' ρ' H' cls d σv (.of x) g' (s.mono x.later) r
  | no => rw [e0] at res; exact res
  | ok p G1 =>
  rw [e0] at res
  simp only [R.thenS] at res
  intro F1 ρ1 H1 J x1 g1 wp
  generalize hT : forLoop (evSs Φ body G1.length) tg (watch p.2 G1) p.1 σ G1 = T at res
  have res : ResO K N W' D fl F1 ρ1 G1 H1 T := ResO.later (.of x1) res
  refine ⟨fun i m σv H => m = p.1.length - i ∧ i ≤ p.1.length ∧ ∃ F2 ρ2 G2 σ2, Good K N F2 ρ2 G2 H ∧ RepS K N F2 ρ2 G2.length σ2 σv ∧ ExtS G1.length F1 ρ1 G1 H1 F2 ρ2 G2 H ∧ watch p.2 G1 G2 = true ∧
      forLoop (evSs Φ body G1.length) tg (watch p.2 G1) (p.1.drop i) σ2 G2 = T, ⟨p.1.length, by simp, Nat.zero_le _, F1, ρ1, G1, σ, g1, s.mono x1.later, ExtS.refl, wp.self, hT⟩, ?_⟩
  rintro i m σv2 H2 ⟨rfl, hi, F2, ρ2, G2, σ2, g2, s2, x2, hw, hL⟩
  obtain ⟨a1, a2, a3⟩ := wp.at_ F2 ρ2 G2 H2 x2.f hw (fun j hj => (x2.r j (wp.ix j hj) (wp.ix j hj)).2) g2
  by_cases hlt : i < p.1.length
  case neg =>
    have e : i = p.1.length := by omega
    subst e
    rw [List.drop_length] at hL
    simp only [forLoop] at hL
    subst hL
    exact .inl ⟨a2, res _ _ _ _ x2.all g2 s2⟩
  refine .inr ⟨a1 i hlt, fun σv' H' => i + 1 ≤ p.1.length ∧ ∃ F2 ρ2 G2 σ2, Good K N F2 ρ2 G2 H' ∧ RepS K N F2 ρ2 G2.length σ2 σv' ∧ ExtS G1.length F1 ρ1 G1 H1 F2 ρ2 G2 H' ∧ watch p.2 G1 G2 = true ∧
      forLoop (evSs Φ body G1.length) tg (watch p.2 G1) (p.1.drop (i + 1)) σ2 G2 = T, fun σ' H' q => ⟨_, by omega, rfl, q⟩, fun v H' y => ?_⟩
  obtain ⟨itm, e1, yo⟩ := a3 i v H' hlt y
  have e2 : p.1.drop i = itm :: p.1.drop (i + 1) := by
    obtain ⟨h1, h2⟩ := List.getElem?_eq_some_iff.mp e1
    rw [← h2]; exact List.drop_eq_getElem_cons h1
  rw [e2] at hL
  unfold forLoop at hL
  split at hL
  · subst hL; exact res.elim
  rename_i σ3 e3
  obtain ⟨F3, σv3, g3, x3, s3, hg, _⟩ := bindTg_ok g2 s2 yo e3
  have x23 := x2.trans (.of x3)
  refine hg _ (hb G1.length _ _ _ ⟨F3, ρ2, G2, σ3, g3, s3, ?_⟩)
  cases e4 : evSs Φ body G1.length σ3 G2 with
  | nx σ4 G4 =>
    rw [e4] at hL
    dsimp only at hL
    intro F4 ρ4 H4 σv4 x4 g4 s4
    split at hL
    · rename_i hw4
      exact ⟨hlt, F4, ρ4, G4, σ4, g4, s4, x23.trans x4, hw4, hL⟩
    · subst hL; exact res.elim
  | ct σ4 G4 =>
    rw [e4] at hL
    dsimp only at hL
    intro F4 ρ4 H4 σv4 x4 g4 s4
    split at hL
    · rename_i hw4
      exact ⟨hlt, F4, ρ4, G4, σ4, g4, s4, x23.trans x4, hw4, hL⟩
    · subst hL; exact res.elim
  | bk σ4 G4 =>
    rw [e4] at hL
    dsimp only at hL
    subst hL
    exact fun F4 ρ4 H4 σv4 x4 g4 s4 => res _ _ _ _ (x23.trans x4).all g4 s4
  | rt w G4 =>
    rw [e4] at hL
    dsimp only at hL
    subst hL
    exact fun F4 ρ4 H4 v4 x4 g4 r4 => res _ _ _ _ (x23.trans x4).all g4 r4
  | ex z σ4 G4 =>
    rw [e4] at hL
    dsimp only at hL
    subst hL
    exact fun F4 ρ4 H4 cls d σv4 x4 g4 s4 r4 => res _ _ _ _ _ _ (x23.trans x4).all g4 s4 r4
  | no =>
    rw [e4] at hL
    dsimp only at hL
    subst hL
    exact res
theorem s_whl {c : E} {body : List S} {k0 : Nat} (h : rdS K N W' fl (evS Φ (.whl k0 c body) fl) D σv H) (tb : TS) (hb : ∀ fl D σv H, rdS K N W' fl (evSs Φ body fl) D σv H → tb D σv H) :
    tWhile (rdT K N W' Φ c) tb D σv H := by
  obtain ⟨F, ρ, G, σ, g, s, res⟩ := h
  simp only [evS] at res
  generalize hT : whlLoop (evE Φ c) (evSs Φ body G.length) k0 σ G = T at res
  refine ⟨fun m σv H' => ∃ F2 ρ2 G2 σ2, Good K N F2 ρ2 G2 H' ∧ RepS K N F2 ρ2 G2.length σ2 σv ∧ ExtS G.length F ρ G H F2 ρ2 G2 H' ∧ whlLoop (evE Φ c) (evSs Φ body G.length) m σ2 G2 = T, ⟨k0, F, ρ, G, σ, g, s, ExtS.refl, hT⟩, ?_⟩
  rintro m σv2 H2 ⟨F2, ρ2, G2, σ2, g2, s2, x2, hL⟩
  cases m with
  | zero => simp only [whlLoop] at hL; subst hL; exact res.elim
  | succ m =>
  unfold whlLoop at hL
  unfold condS at hL
  refine ⟨F2, ρ2, G2, σ2, g2, s2, ?_⟩
  split at hL
  · rename_i G3 e3
    dsimp only at hL
    rw [e3]
    intro F3 ρ3 H3 v x3 g3 r3
    cases r3
    refine ⟨true, rfl, ?_⟩
    dsimp only
    rw [if_pos rfl]
    have x23 := x2.trans (.of x3)
    have s3 := s2.mono x3.later
    refine ⟨fun σv' H' => ∃ F2 ρ2 G2 σ2, Good K N F2 ρ2 G2 H' ∧ RepS K N F2 ρ2 G2.length σ2 σv' ∧ ExtS G.length F ρ G H F2 ρ2 G2 H' ∧ whlLoop (evE Φ c) (evSs Φ body G.length) m σ2 G2 = T, fun σ' H' q => ⟨m, Nat.lt_succ_self m, q⟩, ?_⟩
    refine hb G.length _ _ _ ⟨F3, ρ3, G3, σ2, g3, s3, ?_⟩
    cases e4 : evSs Φ body G.length σ2 G3 with
    | nx σ4 G4 =>
      rw [e4] at hL
      exact fun F4 ρ4 H4 σv4 x4 g4 s4 => ⟨F4, ρ4, G4, σ4, g4, s4, x23.trans x4, hL⟩
    | ct σ4 G4 =>
      rw [e4] at hL
      exact fun F4 ρ4 H4 σv4 x4 g4 s4 => ⟨F4, ρ4, G4, σ4, g4, s4, x23.trans x4, hL⟩
    | bk σ4 G4 =>
      rw [e4] at hL
      dsimp only at hL
      subst hL
      exact fun F4 ρ4 H4 σv4 x4 g4 s4 => res _ _ _ _ (x23.trans x4).all g4 s4
    | rt w G4 =>
      rw [e4] at hL
      dsimp only at hL
      subst hL
      exact fun F4 ρ4 H4 v4 x4 g4 r4 => res _ _ _ _ (x23.trans x4).all g4 r4
    | ex z σ4 G4 =>
      rw [e4] at hL
      dsimp only at hL
      subst hL
      exact fun F4 ρ4 H4 cls d σv4 x4 g4 s4 r4 => res _ _ _ _ _ _ (x23.trans x4).all g4 s4 r4
    | no =>
      rw [e4] at hL
      dsimp only at hL
      subst hL
      exact res
  · rename_i G3 e3
    rw [e3]
    intro F3 ρ3 H3 v x3 g3 r3
    cases r3
    refine ⟨false, rfl, ?_⟩
    dsimp only
    rw [if_neg (by decide)]
    subst hL
    exact res _ _ _ _ (x2.trans (.of x3)).all g3 (s2.mono x3.later)
  · rename_i z G3 e3
    rw [e3]
    subst hL
    exact fun F' ρ' H' cls d x g' r => res F' ρ' H' cls d σv2 (x2.trans (.of x)).all g' (s2.mono x.later) r
  · subst hL; exact res.elim
end
end Ev

end

-- part EvX
section
set_option Elab.async false
set_option linter.all false
namespace Ev
open PySem L2 PyProof.Rows
/-! ## the check of statements -/
def swB : Expr → Bool
  | .ListComp .. => false
  | .SetComp .. => false
  | .DictComp .. => false
  | _ => true
def tupN : Expr → Bool
  | .Tuple .. => false
  | _ => true
def swC (st : Sta) (y : Str) (py pos : Pos) (scope : Scope) : Bool := (st.sc.names.lookup y == some .local) && (py.line == pos.line) && !(scope.names.any fun (n, k) => n == y && (k == .local || k == .cell))
mutual
def chkS (Γ : Gam) : S → Sta → Stmt → Bool
  | .set _ i e, st, t => (match t with
    | .Assign [.Name y _] e' _ => nmB st i y && chkE Γ e st e' && (match e' with
      | .SetComp .. => false
      | .DictComp .. => false
      | _ => true)
    | _ => false)
  | .unp ts e, st, t => (match t with
    | .Assign [.Tuple es _ _] e' _ => nmsB st ts es && chkE Γ e st e' && swB e' && tupN e'
    | _ => false)
  | .aug i o e, st, t => (match t with
    | .AugAssign (.Name x _) p e' _ => nmB st i x && opB o p && chkE Γ e st e'
    | _ => false)
  | .item o i e, st, t => (match t with
    | .Assign [.Subscript o' i' _] e' _ => chkE Γ o st o' && chkE Γ i st i' && chkE Γ e st e' && plainB i'
    | _ => false)
  | .attrS o f e, st, t => (match t with
    | .Assign [.Attribute o' x _] e' _ => decide (x = Γ.an f) && chkE Γ o st o' && chkE Γ e st e'
    | _ => false)
  | .expr e, st, t => (match t with
    | .Expr e' _ => chkE Γ e st e' && swB e'
    | _ => false)
  | .ret e, st, t => (match t with
    | .Return (some e') _ => chkE Γ e st e'
    | _ => false)
  | .retN, _, t => (match t with
    | .Return none _ => true
    | _ => false)
  | .ife c a b, st, t => (match t with
    | .If c' a' b' _ => chkT Γ c st c' && chkSs Γ a st a' && chkSs Γ b st b'
    | _ => false)
  | .for tg it body, st, t => (match t with
    | .For tg' it' body' [] _ => tgB st tg tg' && chkI Γ it st tg' it' && setB it' && chkSs Γ body st body'
    | _ => false)
  | .whl _ c body, st, t => (match t with
    | .While c' body' [] _ => chkT Γ c st c' && chkSs Γ body st body'
    | _ => false)
  | .brk, _, t => (match t with
    | .Break _ => true
    | _ => false)
  | .cnt, _, t => (match t with
    | .Continue _ => true
    | _ => false)
  | .pas, _, t => (match t with
    | .Pass _ => true
    | .Expr (.Constant (.str _) _ _) _ => true
    | _ => false)
  | .raise _ _, _, _ => false
  | .never, _, _ => true
def chkSs (Γ : Gam) : List S → Sta → List Stmt → Bool
  | [], _, ts => (match ts with
    | [] => true
    | _ => false)
  | a :: r, st, ts => (match ts with
    | t :: q => chkS Γ a st t && chkSs Γ r st q
    | _ => false)
end
/-! ## it is sound -/
structure FitS (P : Program) (w : World) (K : PySem.W.Frag) (mg : Str → Option Value) (base : Heap) (W' : WX) (k : Nat) (st : Sta) (X : Cx) : Prop extends Fit P w K mg base W' k st X where
  own : PassesOwn (model X.prog X.w) X.A X.env X.xe
  kind : X.env.scope.kind = .function
section
variable {P : Program} {w : World} {K : PySem.W.Frag} {mg : Str → Option Value} {base : Heap} {N : Names} {Φ : Fns} {k fl : Nat} {Γ : Gam} {W' : WX} {st : Sta} {X : Cx}
theorem PS.imp {X : Cx} {e : Stmt} {t t' : TS} (h : PS X e t) (i : ∀ D σ H, t' D σ H → t D σ H) : PS X e t' := ⟨fun pins s σ H D I q => h.run pins s σ H D I (i D σ H q)⟩
theorem PSs.imp {X : Cx} {e : List Stmt} {t t' : TS} (h : PSs X e t) (i : ∀ D σ H, t' D σ H → t D σ H) : PSs X e t' := ⟨fun pins s σ H D I q => h.run pins s σ H D I (i D σ H q)⟩
theorem sw_of {e : Expr} {t : Option Expr} {l : Nat} {env : Env} (h : swB e = true) : swapsWith e t l env = pure false := by
  cases e <;> first | rfl | simp [swB] at h
theorem sw_sub {o i e : Expr} {p : Pos} {l : Nat} {env : Env} : swapsWith e (some (.Subscript o i p)) l env = pure false := by
  cases e <;> rfl
theorem sw_att {o e : Expr} {x : Str} {p : Pos} {l : Nat} {env : Env} : swapsWith e (some (.Attribute o x p)) l env = pure false := by
  cases e <;> rfl
theorem sw_false {elt : Expr} {gs : List Comprehension} {scope : Scope} {pos py : Pos} {y : Str} {l : Nat} {env : Env} (hs : env.scope = st.sc) (h : swC st y py pos scope = false) : swapsWith (.ListComp elt gs scope pos) (some (.Name y py)) l env = pure false := by
  have e1 : swapsWith (.ListComp elt gs scope pos) (some (.Name y py)) l env = pure (env.blockKind == .function && env.kindOf y == some .local && py.line == pos.line && !(scope.names.any fun (n, k) => n == y && (k == .local || k == .cell))) := rfl
  rw [e1]
  unfold swC at h
  have e2 : env.kindOf y = st.sc.names.lookup y := by unfold Env.kindOf; rw [hs]
  rw [e2, Bool.and_assoc, Bool.and_assoc, ← Bool.and_assoc (st.sc.names.lookup y == some NameKind.local), h, Bool.and_false]
theorem lc_of {e : E} {elt : Expr} {gs : List Comprehension} {scope : Scope} {pos : Pos} (h : chkE Γ e st (.ListComp elt gs scope pos) = true) : ∃ kk elt' tg it own ifs, e = .lc kk elt' tg it own ifs := by
  cases e <;> first | exact ⟨_, _, _, _, _, _, rfl⟩ | (simp [chkE] at h; done) | skip
  rename_i x
  cases x <;> simp [chkE, litB] at h
theorem swapped_no {ts : List Expr} {k : Nat} {p : Pos} {e : Expr} {env : Env} (h : tupN e = true) : swappedStores [.Tuple ts k p] e env = pure none := by
  cases e <;> first | rfl | simp [tupN] at h
theorem subA {o i : Expr} {pos : Pos} {env : Env} (h : plainB i = true) : ∀ v, assign (.Subscript o i pos) env v = (do
      let ov ← holding [v] (eval o env)
      let iv ← holding [v, ov] (eval i env)
      standAt pos
      holding [v, ov, iv] (setItem ov iv v)
      release [v, ov, iv] []) := by
  intro v
  cases i <;> first | rfl | simp [plainB] at h
variable (E0 : EnvOk P w K mg base N Φ k Γ)
include E0
mutual
theorem chkS_ok : ∀ (m : S) {fl : Nat} {W' : WX} {st : Sta} {X : Cx} {t : Stmt}, FitS P w K mg base W' (k + 1) st X → chkS Γ m st t = true → PS X t (rdS K N W' fl (evS Φ m fl))
  | .set dr i e, fl, W', st, X, t, f, h => by
    simp only [chkS] at h
    split at h
    · rename_i y py e' pos
      simp only [Bool.and_eq_true] at h
      obtain ⟨⟨h1, h2⟩, h3⟩ := h
      have h1' := h1
      simp only [nmB, Bool.and_eq_true, decide_eq_true_eq] at h1'
      obtain ⟨n1, n2⟩ := f.cs.loc h1'.2
      have plain : swapsWith e' (some (.Name y py)) pos.line X.env = pure false → PS X (.Assign [.Name y py] e' pos) (rdS K N W' fl (evS Φ (.set dr i e) fl)) := fun hs =>
        PS.imp (ps_set (by rw [f.cs.N]; exact f.cs.nd) (by rw [f.cs.N]; exact h1'.1) n1 (chkE_ok E0 e f.toFit h2) hs n2) fun D σ H q => s_set q
      by_cases hl : swB e' = true
      · exact plain (sw_of hl)
      · cases e' <;> first | (exact absurd rfl hl) | (simp at h3; done) | skip
        rename_i elt' gs scope p2
        by_cases hc : swC st y py p2 scope = true
        · obtain ⟨kk, elt, tg, it, own, ifs, rfl⟩ := lc_of h2
          simp only [chkE] at h2
          split at h2
          · rename_i elt' tg' it' ifs' scope' pos' heq
            cases heq
            simp only [Bool.and_eq_true] at h2
            obtain ⟨⟨⟨⟨⟨⟨g1, g2⟩, g3⟩, g4⟩, g5⟩, g6⟩, g7⟩ := h2
            have hown : (ownNames st.N own).map (·.2) = own := by unfold ownNames; rw [List.map_map]; exact List.map_id' own
            have ok : BlkOk X.N X.env.scope scope (ownNames st.N own) := by rw [f.cs.N, f.cs.sc]; exact blkOk_by g1
            simp only [swC, Bool.and_eq_true, Bool.not_eq_true', beq_iff_eq] at hc
            obtain ⟨⟨c1, c2⟩, c3⟩ := hc
            refine PS.imp (ps_setLc (i := i) (own := ownNames st.N own) f.calm (by rw [f.cs.N]; exact f.cs.nd) (by rw [f.cs.N]; exact h1'.1) (by rw [f.cs.sc]; exact c1) (sw_true f.kind (by rw [f.cs.sc]; exact c1) (by simpa using c2) c3) (chkI_ok E0 it f.toFit g2) ok (g := gT K tg) (tt := tIfs K N Φ ifs) (te := rdE K N WF Φ elt)
              (fun s H C cl fp => ?_) (fun s H C cl fp => ?_) (fun s H C cl fp => ?_) (set_of g3)) fun D σ H hh => ?_
            · have f2 := f.toFit.blk scope s H C cl fp
              have := PG_tg f2.cs f2.calm g4
              rw [f2.K] at this
              exact this
            · exact chkC_ok E0 ifs (f.toFit.blk scope s H C cl fp) g6
            · exact chkE_ok E0 elt (f.toFit.blk scope s H C cl fp) g7
            · rw [hown]
              exact lc_reading (fun i hi => by have := List.all_eq_true.mp g5 i hi; simpa using this) (s_set hh)
          · cases h2
        · exact plain (sw_false f.cs.sc (by simpa using hc))
    · cases h
  | .unp ts e, fl, W', st, X, t, f, h => by
    simp only [chkS] at h
    split at h
    · rename_i es ke pe e' pos
      simp only [Bool.and_eq_true] at h
      obtain ⟨⟨⟨h1, h2⟩, h3⟩, h4⟩ := h
      have pg := PG_tg f.cs f.calm (t := .tup ts) (e := .Tuple es ke pe) h1
      rw [f.K] at pg
      exact PS.imp (ps_asg (chkE_ok E0 e f.toFit h2) pg (show swapsWith e' (some (.Tuple es ke pe)) pos.line X.env = pure false from sw_of h3) (swapped_no h4) rfl) fun D σ H q => s_unp q
    · cases h
  | .aug i o e, fl, W', st, X, t, f, h => by
    simp only [chkS] at h
    split at h
    · simp only [Bool.and_eq_true] at h
      obtain ⟨⟨h1, h2⟩, h3⟩ := h
      simp only [nmB, Bool.and_eq_true, decide_eq_true_eq] at h1
      obtain ⟨n1, n2⟩ := f.cs.loc h1.2
      have := opB_ok h2; subst this
      exact PS.imp (ps_aug (by rw [f.cs.N]; exact f.cs.nd) (by rw [f.cs.N]; exact h1.1) n1 (chkE_ok E0 e f.toFit h3) aug_run n2) fun D σ H q => s_aug q
    · cases h
  | .item o i e, fl, W', st, X, t, f, h => by
    simp only [chkS] at h
    split at h
    · rename_i o' i' p2 e' pos
      simp only [Bool.and_eq_true] at h
      obtain ⟨⟨⟨h1, h2⟩, h3⟩, h4⟩ := h
      exact PS.imp (ps_asg (chkE_ok E0 e f.toFit h3) (pg_sub (chkE_ok E0 o f.toFit h1) (chkE_ok E0 i f.toFit h2) set_list (subA h4)) (show swapsWith e' (some (.Subscript o' i' p2)) pos.line X.env = pure false from sw_sub) rfl rfl) fun D σ H q => s_item q
    · cases h
  | .attrS o j e, fl, W', st, X, t, f, h => by
    simp only [chkS] at h
    split at h
    · simp only [Bool.and_eq_true, decide_eq_true_eq] at h
      obtain ⟨⟨h1, h2⟩, h3⟩ := h
      rw [← E0.an] at h1
      subst h1
      refine PS.imp (ps_fld (chkE_ok E0 o f.toFit h2) (chkE_ok E0 e f.toFit h3) sw_att) fun D σ H q => ?_
      rw [f.K]
      exact s_attr E0.attrs q
    · cases h
  | .expr e, fl, W', st, X, t, f, h => by
    simp only [chkS] at h
    split at h
    · simp only [Bool.and_eq_true] at h
      exact PS.imp (ps_expr (chkE_ok E0 e f.toFit h.1) (sw_of h.2)) fun D σ H q => s_expr q
    · cases h
  | .ret e, fl, W', st, X, t, f, h => by
    simp only [chkS] at h
    split at h
    · exact PS.imp (ps_ret (chkE_ok E0 e f.toFit h)) fun D σ H q => s_ret q
    · cases h
  | .retN, fl, W', st, X, t, f, h => by
    simp only [chkS] at h
    split at h
    · exact PS.imp ps_retN fun D σ H q => s_retN q
    · cases h
  | .ife c a b, fl, W', st, X, t, f, h => by
    simp only [chkS] at h
    split at h
    · simp only [Bool.and_eq_true] at h
      exact PS.imp (ps_if (chkT_ok E0 c f.toFit h.1.1) (chkSs_ok a f h.1.2) (chkSs_ok b f h.2)) fun D σ H q => s_ife q
    · cases h
  | .for tg it body, fl, W', st, X, t, f, h => by
    simp only [chkS] at h
    split at h
    · simp only [Bool.and_eq_true] at h
      obtain ⟨⟨⟨h1, h2⟩, h3⟩, h4⟩ := h
      have pg := PG_tg f.cs f.calm h1
      rw [f.K] at pg
      have hb : PSs X _ (fun D σ H => ∃ fl, rdS K N W' fl (evSs Φ body fl) D σ H) := ⟨fun pins s σ H D I q => by
        obtain ⟨fl, q⟩ := q
        exact (chkSs_ok body (fl := fl) f h4).run pins s σ H D I q⟩
      exact PS.imp (ps_for f.own f.calm (chkI_ok E0 it f.toFit h2) pg hb (set_of h3)) fun D σ H q => s_for q _ fun fl D σ H z => ⟨fl, z⟩
    · cases h
  | .whl n c body, fl, W', st, X, t, f, h => by
    simp only [chkS] at h
    split at h
    · simp only [Bool.and_eq_true] at h
      have hb : PSs X _ (fun D σ H => ∃ fl, rdS K N W' fl (evSs Φ body fl) D σ H) := ⟨fun pins s σ H D I q => by
        obtain ⟨fl, q⟩ := q
        exact (chkSs_ok body (fl := fl) f h.2).run pins s σ H D I q⟩
      exact PS.imp (ps_while f.own (chkT_ok E0 c f.toFit h.1) hb) fun D σ H q => s_whl q _ fun fl D σ H z => ⟨fl, z⟩
    · cases h
  | .brk, fl, W', st, X, t, f, h => by
    simp only [chkS] at h
    split at h
    · exact PS.imp ps_break fun D σ H q => s_brk q
    · cases h
  | .cnt, fl, W', st, X, t, f, h => by
    simp only [chkS] at h
    split at h
    · exact PS.imp ps_continue fun D σ H q => s_cnt q
    · cases h
  | .pas, fl, W', st, X, t, f, h => by
    simp only [chkS] at h
    split at h
    · exact PS.imp ps_pass fun D σ H q => s_pas q
    · exact PS.imp ps_doc fun D σ H q => s_pas q
    · cases h
  | .raise _ _, fl, W', st, X, t, f, h => by simp [chkS] at h
  | .never, fl, W', st, X, t, f, h => PS.imp ps_never fun D σ H q => (s_never q).elim
theorem chkSs_ok : ∀ (ms : List S) {fl : Nat} {W' : WX} {st : Sta} {X : Cx} {ts : List Stmt}, FitS P w K mg base W' (k + 1) st X → chkSs Γ ms st ts = true → PSs X ts (rdS K N W' fl (evSs Φ ms fl))
  | [], fl, W', st, X, ts, f, h => by
    simp only [chkSs] at h
    split at h
    · exact PSs.imp pss_nil fun D σ H q => s_nil q
    · cases h
  | a :: r, fl, W', st, X, ts, f, h => by
    simp only [chkSs] at h
    split at h
    · simp only [Bool.and_eq_true] at h
      exact PSs.imp (pss_cons (chkS_ok a f h.1) (chkSs_ok r f h.2)) fun D σ H q => s_seq q
    · cases h
end
end
end Ev

end

-- part EvY
section
set_option Elab.async false
set_option linter.all false
namespace Ev
open PySem L2 PyProof.Rows
section
variable {P : Program} {w : World} {K : PySem.W.Frag} {mg : Str → Option Value} {base : Heap} {N : Names} {Φ : Fns} {k : Nat} {Γ : Gam}
theorem takes_cx {names : List Str} {qual : Str} {scope : Scope} {f : Addr} {cd : Value} {A : Around} {outer : List Env} {s : Shared} {H : Hp} {E : XK} :
    Takes (cxOf (L2.CX P w) P w K mg base names qual scope f cd A outer s H E) (fun cls d _ H' => E cls d H') := fun u s' x =>
  XE.leave (W := fun cls d _ H' => E cls d H') (E := E) rfl rfl rfl (fun _ _ _ _ h => h) x
theorem owns_cx {names : List Str} {qual : Str} {scope : Scope} {f : Addr} {cd : Value} {A : Around} {outer : List Env} {s : Shared} {H : Hp} {E : XK} :
    PassesOwn (model P w) (cxOf (L2.CX P w) P w K mg base names qual scope f cd A outer s H E).A (cxOf (L2.CX P w) P w K mg base names qual scope f cd A outer s H E).env (cxOf (L2.CX P w) P w K mg base names qual scope f cd A outer s H E).xe :=
  passes_of (X := cxOf (L2.CX P w) P w K mg base names qual scope f cd A outer s H E) (K := fun e s'' => L2.CX P w outer H s E e s'') (E₁ := fun e' s'' => L2.CX P w outer H s E e' s'') rfl
theorem fit_cx {names ps : List Str} {qual : Str} {scope : Scope} {f : Addr} {cd : Value} {A : Around} {outer : List Env} {s : Shared} {H : Hp} {E : XK} (S : FnScope names ps scope) (hr : Room k (A.deeper (envOfC qual scope s.heap.objs.size f cd))) :
    FitS P w K mg base (fun cls d _ H' => E cls d H') k ⟨names, scope, fun _ => true⟩ (cxOf (L2.CX P w) P w K mg base names qual scope f cd A outer s H E) :=
  { prog := rfl, w := rfl, K := rfl, mg := rfl, base := rfl, tk := takes_cx, room := hr, calm := rfl, cs := ⟨rfl, rfl, rfl, S.nd⟩, own := owns_cx, kind := S.kind }
theorem RepL.slots {F : Hp} {ρ : Nat → Addr} {n : Nat} : ∀ {ds : List D} {vs : List V} (j : Nat), RepL K N F ds vs → RepS K N F ρ n (ds.map (fun d => some (W.d d)) ++ List.replicate j none) (vs.map some ++ List.replicate j none)
  | [], vs, j, h => by
    simp only [RepL] at h; subst h
    simp only [List.map_nil, List.nil_append]
    induction j with
    | zero => rfl
    | succ j ih => simp only [List.replicate_succ, RepS]; exact ⟨none, _, rfl, trivial, ih⟩
  | d :: ds, vs, j, h => by
    simp only [RepL] at h
    obtain ⟨v, q, rfl, h1, h2⟩ := h
    simp only [List.map_cons, List.cons_append, RepS]
    exact ⟨some v, _, rfl, ⟨v, rfl, h1⟩, RepL.slots j h2⟩
theorem startS_ok {F : Hp} {ρ : Nat → Addr} {n : Nat} {ds : List D} {vs : List V} {names : List Str} (h : RepL K N F ds vs) : RepS K N F ρ n (startS names.length (ds.map .d)) (L2.start names vs) := by
  unfold startS L2.start
  rw [List.map_map, List.length_map, h.len]
  exact RepL.slots _ h
theorem isC_nil {ρ : Nat → Addr} {a : Addr} : ¬ IsC ρ [] a := fun ⟨i, c, e, _⟩ => by simp at e
/-- what a def's promise is -/
def fnP (Φ : Fns) (m : Fd) : List D → PR := fun ds => if ds.length = m.params then (evSs Φ m.body 0 (startS m.slots (ds.map .d)) []).res else .no
def inP (Φ : Fns) (c : Nat) (m : Fd) : List D → PR := fun ds => if ds.length + 1 = m.params then (evSs Φ m.body 1 (startS m.slots (.r 0 :: ds.map .d)) [.ob c []]).resI else .no
theorem res_ok {o : O} {F H : Hp} {ρ : Nat → Addr} {Q : VK} {E : XK} (h : PROut K N F H Q E o.res) : ResO K N (fun cls d _ H' => E cls d H') { nx := fun _ H' => Q .non H', rt := Q } 0 F ρ [] H o := by
  cases o with
  | nx σ G => exact fun F' ρ' H' σv x g s => h F' H' .non (fun a o e => x.h a o e isC_nil) x.f g.sub (fun a o e => (x.n a o e isC_nil).2) rfl
  | rt w G =>
    intro F' ρ' H' v x g r
    unfold O.res at h
    dsimp only at h
    cases e : fz fzN w G with
    | none => rw [e] at h; exact h.elim
    | some p =>
      rw [e] at h
      obtain ⟨y, G1⟩ := p
      obtain ⟨F1, z, rz⟩ := fz_ok fzN F' G w v y G1 g r e
      refine h F1 H' v (fun a o e => x.h a o e isC_nil) (x.f.trans z.ext.f) z.good.sub (fun a o e q => ?_) rz
      have := x.n a o e isC_nil
      exact (z.ext.n a o (x.h a o e isC_nil) this.1).2 (this.2 q)
  | bk σ G => exact h.elim
  | ct σ G => exact h.elim
  | ex z σ G => exact fun F' ρ' H' cls d σv x g s r => h F' H' cls d (fun a o e => x.h a o e isC_nil) x.f g.sub (fun a o e => (x.n a o e isC_nil).2) r
  | no => exact h
theorem fn_ok (E0 : EnvOk P w K mg base N Φ k Γ) {x qual : Str} {params : Arguments} {body : List Stmt} {scope : Scope} {dv : List V} {kw : List (Str × V)} {f : Addr} {fd : FuncData} {names ps : List Str} {m : Fd}
    (F : FunD K x qual params body scope dv kw f fd) (S : FnScope names ps scope) (hc : chkSs Γ m.body ⟨names, scope, fun _ => true⟩ body = true) (hs : m.slots = names.length) (hp : m.params = ps.length) :
    FnOk P w K mg base (L2.CX P w) (k + 2) f fd ps (spP K N (fnP Φ m)) := by
  refine F.ok S (fun vs H Q E h => ?_) fun cdv A outer s H vs Q E hr h => ?_
  · obtain ⟨F0, ds, h1, h2, h3⟩ := h
    unfold fnP at h3
    split at h3
    · rename_i e; rw [← h2.len, e, hp]
    · exact h3.elim
  · obtain ⟨F0, ds, h1, h2, h3⟩ := h
    unfold fnP at h3
    split at h3
    · refine ⟨_, chkSs_ok E0 m.body (fl := 0) (fit_cx S hr) hc, F0, fun _ => 0, [], startS m.slots (ds.map .d), ⟨h1, fun i c e => by simp at e, fun i j c d e => by simp at e⟩, ?_, res_ok h3⟩
      rw [hs]
      exact startS_ok h2
    · exact h3.elim
theorem isC_one {a x : Addr} {c : Nat} : IsC (fun _ => x) [.ob c []] a ↔ a = x := by
  constructor
  · rintro ⟨i, d, e, _, rfl⟩; rfl
  · rintro rfl
    exact ⟨0, .ob c [], rfl, rfl, rfl⟩
theorem in_ok (E0 : EnvOk P w K mg base N Φ k Γ) {x qual : Str} {params : Arguments} {body : List Stmt} {scope : Scope} {dv : List V} {kw : List (Str × V)} {f : Addr} {fd : FuncData} {names ps : List Str} {m : Fd} {c : Nat}
    (F : FunD K x qual params body scope dv kw f fd) (S : FnScope names ps scope) (hc : chkSs Γ m.body ⟨names, scope, fun _ => true⟩ body = true) (hs : m.slots = names.length) (hp : m.params = ps.length) :
    FnOk P w K mg base (L2.CX P w) (k + 2) f fd ps (spI K N c (inP Φ c m)) := by
  refine F.ok S (fun vs H Q E h => ?_) fun cdv A outer s H vs Q E hr h => ?_
  · obtain ⟨F0, xa, dx, ds, us, rfl, h0, h4, h1, h2, h3⟩ := h
    unfold inP at h3
    split at h3
    · rename_i y e
      split at e
      · rename_i e2; rw [List.length_cons, ← h2.len, e2, hp]
      · cases e
    · rename_i y e
      split at e
      · rename_i e2; rw [List.length_cons, ← h2.len, e2, hp]
      · cases e
    · exact h3.elim
  · obtain ⟨F0, xa, dx, ds, us, rfl, h0, h4, h1, h2, h3⟩ := h
    have hnil : Good K N F0 (fun _ => xa) [.ob c []] H := by
      refine ⟨h1, fun i d e => ?_, fun i j d d' e1 e2 _ _ _ => ?_⟩
      · cases i with
        | zero => simp at e; subst e; exact ⟨h4, dx, [], h0, rfl⟩
        | succ i => simp at e
      · cases i <;> cases j <;> simp at e1 e2 ⊢
    refine ⟨_, chkSs_ok E0 m.body (fl := 1) (fit_cx S hr) hc, F0, fun _ => xa, [.ob c []], startS m.slots (.r 0 :: ds.map .d), hnil, ?_, ?_⟩
    · rw [hs]
      unfold startS L2.start
      simp only [List.map_cons, List.cons_append, RepS, List.length_cons, List.length_map]
      refine ⟨some (.ref xa), _, rfl, ⟨_, rfl, by simp, rfl⟩, ?_⟩
      rw [List.map_map, h2.len]
      exact RepL.slots _ h2
    · unfold inP at h3
      have nC : ∀ a, a ≠ xa → ¬ IsC (fun _ => xa) [.ob c []] a := fun a h z => h (isC_one.mp z)
      by_cases hl : ds.length + 1 = m.params
      · rw [if_pos hl] at h3
        generalize evSs Φ m.body 1 (startS m.slots (.r 0 :: ds.map .d)) [.ob c []] = o at h3
        cases o with
        | nx σ G =>
          intro F' ρ' H' σv x g s
          unfold O.resI at h3
          dsimp only at h3
          cases e : fz fzN (.r 0) G with
          | none => rw [e] at h3; exact h3.elim
          | some p =>
            rw [e] at h3
            obtain ⟨y, G1⟩ := p
            obtain ⟨r1, r2⟩ := x.r 0 (by omega) (by simp)
            obtain ⟨F1, z, rz⟩ := fz_ok fzN F' G (.r 0) (.ref xa) y G1 g ⟨r1, by rw [r2]⟩ e
            refine h3 F1 H' (fun a o e ne => x.h a o e (nC a ne)) (x.f.trans z.ext.f) z.good.sub (fun a o e ne q => ?_) rz
            have := x.n a o e (nC a ne)
            exact (z.ext.n a o (x.h a o e (nC a ne)) this.1).2 (this.2 q)
        | rt w G => exact h3.elim
        | bk σ G => exact h3.elim
        | ct σ G => exact h3.elim
        | ex z σ G => exact fun F' ρ' H' cls d σv x g s r => h3 F' H' cls d (fun a o e ne => x.h a o e (nC a ne)) x.f g.sub (fun a o e ne => (x.n a o e (nC a ne)).2) r
        | no => exact h3.elim
      · rw [if_neg hl] at h3; exact h3.elim
theorem fn_none {f : Addr} {fd : FuncData} {ps : List Str} : FnOk P w K mg base (L2.CX P w) 0 f fd ps (spP K N fun _ => .no) :=
  ⟨fun vs H Q E ⟨_, _, _, _, h⟩ => h.elim, fun _ _ _ _ _ _ _ _ _ _ _ _ _ ⟨_, _, _, _, h⟩ => h.elim⟩
theorem in_none {f : Addr} {fd : FuncData} {ps : List Str} {c : Nat} : FnOk P w K mg base (L2.CX P w) 0 f fd ps (spI K N c fun _ => .no) :=
  ⟨fun vs H Q E ⟨_, _, _, _, _, _, _, _, _, _, h⟩ => h.elim, fun _ _ _ _ _ _ _ _ _ _ _ _ _ ⟨_, _, _, _, _, _, _, _, _, _, h⟩ => h.elim⟩
/-! ## all levels -/
/-- a def of the text and its body in the small syntax -/
structure DefOk (K : PySem.W.Frag) (Γ : Gam) (m : Fd) (fa : Addr) (fd : FuncData) (ps : List Str) : Prop where
  ex : ∃ (x qual : Str) (params : Arguments) (body : List Stmt) (scope : Scope) (dv : List V) (kw : List (Str × V)) (names : List Str),
    FunD K x qual params body scope dv kw fa fd ∧ FnScope names ps scope ∧ chkSs Γ m.body ⟨names, scope, fun _ => true⟩ body = true ∧ m.slots = names.length ∧ m.params = ps.length
/-- a def by its index: with a body, or proved by hand -/
inductive FnBy (P : Program) (w : World) (K : PySem.W.Frag) (mg : Str → Option Value) (base : Heap) (N : Names) (T : Tab) (Γ : Gam) (i : Nat) (fa : Addr) (fd : FuncData) (ps : List Str) : Prop where
  | body (m : Fd) (e : T.fd i = some m) (d : DefOk K Γ m fa fd ps)
  | prim (φ : List D → PR) (e : T.fd i = none) (q : T.prim i = some φ) (d : ∀ n, EnvOk P w K mg base N (lvl T n) (2 * n) Γ → FnOk P w K mg base (L2.CX P w) (2 * n + 2) fa fd ps (spP K N φ))
structure RowOk (P : Program) (w : World) (K : PySem.W.Frag) (mg : Str → Option Value) (base : Heap) (N : Names) (T : Tab) (Γ : Gam) : Prop where
  nP : N.P = P ∧ N.w = w
  inj : ∀ i j, N.an i = N.an j → i = j
  cls_ : ∀ c f, T.fld c f = true → Cls K (N.cA c) ∧ NoAttr K (N.cA c) (N.an f)
  kits : Kits K N T.isc
  an : N.an = Γ.an
  free : ∀ x, Γ.glo x = some .blt → mg x = none
  int : ∀ x z, Γ.glo x = some (.int z) → ∃ t, mg x = some (.int z t)
  fn : ∀ x i, Γ.glo x = some (.fn i) → ∃ f fd ps, mg x = some (.ref f) ∧ PySem.W.keepIn K (.ref f) = true ∧ Binds K fd ps [] ∧ FnBy P w K mg base N T Γ i f fd ps
  cls : ∀ x c np ks, Γ.glo x = some (.cls c np ks) → mg x = some (.ref (N.cA c)) ∧ ∃ f fd ps m i, Mk K (N.cA c) f ∧ T.ini c = some i ∧ T.fd i = some m ∧ DefOk K Γ m f fd ps ∧ (ks = [] → Binds K fd ps []) ∧ (ks ≠ [] → KBn K fd ps (np + 1) ks (fun us ws => us ++ ws) (fun us ws => us ++ ws))
  meth : ∀ c m i, T.meth c m = some i → Cls K (N.cA c) ∧ ∃ f fd ps, Meth K (N.cA c) (N.an m) f ∧ Binds K fd ps [] ∧ FnBy P w K mg base N T Γ i f fd ps
  own : ∀ n, (∀ c m i, T.meth c m = some i → Cls K (N.cA c) ∧ ∃ f fd ps, Meth K (N.cA c) (N.an m) f ∧ Binds K fd ps [] ∧ FnOk P w K mg base (L2.CX P w) (2 * n) f fd ps (spP K N ((lvl T n).call i))) →
    ∀ {W' : WX} {st : Sta} {X : Cx}, Fit P w K mg base W' (2 * n + 1) st X → OwnBin K N W' (lvl T n) X ∧ OwnEq K N W' (lvl T n) X ∧ OwnIn K N W' (lvl T n) X ∧ OwnLen K N W' (lvl T n) X
theorem lvl_call {T : Tab} {n i : Nat} {m : Fd} (e : T.fd i = some m) : (lvl T (n + 1)).call i = fnP (lvl T n) m := by
  funext ds
  simp only [lvl, e, fnP]
theorem lvl_init {T : Tab} {n c i : Nat} {m : Fd} (e1 : T.ini c = some i) (e : T.fd i = some m) : (lvl T (n + 1)).init c = inP (lvl T n) c m := by
  funext ds
  simp only [lvl, e1, Option.bind_some, e, inP]
theorem lvl_prim {T : Tab} {n i : Nat} {φ : List D → PR} (e : T.fd i = none) (q : T.prim i = some φ) : (lvl T (n + 1)).call i = φ := by
  funext ds
  simp only [lvl, e, q]
theorem lvl_meth {T : Tab} : ∀ n, (lvl T n).meth = T.meth ∧ (lvl T n).fld = T.fld ∧ (lvl T n).isc = T.isc
  | 0 => ⟨rfl, rfl, rfl⟩
  | _ + 1 => ⟨rfl, rfl, rfl⟩
theorem env_of {T : Tab} {n : Nat} (R : RowOk P w K mg base N T Γ)
    (hf : ∀ i f fd ps, FnBy P w K mg base N T Γ i f fd ps → FnOk P w K mg base (L2.CX P w) (2 * n) f fd ps (spP K N ((lvl T n).call i)))
    (hi : ∀ c i m f fd ps, T.ini c = some i → T.fd i = some m → DefOk K Γ m f fd ps → FnOk P w K mg base (L2.CX P w) (2 * n) f fd ps (spI K N c ((lvl T n).init c))) :
    EnvOk P w K mg base N (lvl T n) (2 * n) Γ := by
  obtain ⟨l1, l2, l3⟩ := lvl_meth (T := T) n
  have hm : ∀ c m i, T.meth c m = some i → Cls K (N.cA c) ∧ ∃ f fd ps, Meth K (N.cA c) (N.an m) f ∧ Binds K fd ps [] ∧ FnOk P w K mg base (L2.CX P w) (2 * n) f fd ps (spP K N ((lvl T n).call i)) := fun c m i e => by
    obtain ⟨q1, f, fd, ps, q2, q3, q4⟩ := R.meth c m i e
    exact ⟨q1, f, fd, ps, q2, q3, hf _ _ _ _ q4⟩
  refine ⟨fun {W' st X} f => ?_, ⟨R.inj, fun c i h => (R.cls_ c i (by rw [← l2]; exact h)).1, fun c i h => (R.cls_ c i (by rw [← l2]; exact h)).2⟩, by rw [l3]; exact R.kits, R.an, R.free, R.int, fun x i e => ?_, fun x c np ks e => ?_, fun c m i e => hm c m i (by rw [← l1]; exact e)⟩
  · obtain ⟨o1, o2, o3, o4⟩ := R.own n hm f
    exact ⟨⟨f.K, ⟨R.nP.1.trans f.prog.symm, R.nP.2.trans f.w.symm⟩, f.tk, f.room, f.calm, o1, o2, o3⟩, o4⟩
  · obtain ⟨f, fd, ps, q1, q2, q3, q4⟩ := R.fn x i e
    exact ⟨f, fd, ps, q1, q2, q3, hf _ _ _ _ q4⟩
  · obtain ⟨q0, f, fd, ps, m, i, q1, q2, q3, q4, q5, q6⟩ := R.cls x c np ks e
    exact ⟨q0, f, fd, ps, q1, hi c i m f fd ps q2 q3 q4, q5, q6⟩
theorem env_all {T : Tab} (R : RowOk P w K mg base N T Γ) : ∀ n, EnvOk P w K mg base N (lvl T n) (2 * n) Γ
  | 0 => env_of R (fun i f fd ps _ => fn_none) fun c i m f fd ps _ _ _ => in_none
  | n + 1 => by
    have E := env_all R n
    refine env_of R (fun i f fd ps h => ?_) fun c i m f fd ps e1 e2 d => ?_
    · cases h with
      | body m e d =>
        obtain ⟨x, qual, params, body, scope, dv, kw, names, F, S, hc, hs, hp⟩ := d.ex
        rw [lvl_call e]
        exact fn_ok E F S hc hs hp
      | prim φ e q d =>
        rw [lvl_prim e q]
        exact d n E
    · obtain ⟨x, qual, params, body, scope, dv, kw, names, F, S, hc, hs, hp⟩ := d.ex
      rw [lvl_init e1 e2]
      exact in_ok E F S hc hs hp
/-- the law's own def, at a script -/
theorem law_sp {φ : List D → PR} {H : Hp} {a : Addr} {ns : List Int} (h : φ [.scr ns] = .ok (.bl true)) (hs : SqL K H a (ns.map V.int)) : spP K N φ [.ref a] H (fun v _ => v = .bl true) fun _ _ _ => False := by
  refine ⟨H, [.scr ns], Same.refl _, ?_, ?_⟩
  · simp only [RepL]
    exact ⟨_, [], rfl, ⟨a, rfl, hs⟩, rfl⟩
  · rw [h]
    exact fun F' H' v _ _ _ _ r => r
end
end Ev

end

-- part EvZ
section
set_option Elab.async false
set_option linter.all false
namespace Ev
open PySem L2 PyProof.Rows
section
variable {K : PySem.W.Frag} {N : Names} {F : Hp} {ρ : Nat → Addr} {G : Gs} {H : Hp} {W' : WX} {σv : L2.St} {Φ : Fns} {Q : VK} {X : Cx} {pins : List (Addr × Obj)} {s : Shared} {k : Nat}
/-- a def runs, wherever there is room -/
theorem run_at {A : Around} {f : Addr} {fd : FuncData} {ps : List Str} {sp : Sp} {us : List Value} {vs : List V} (FO : FnOk X.prog X.w X.K X.mg X.base (L2.CX X.prog X.w) k f fd ps sp) (hr : Room k A) (fr : A.frames = X.A.frames) (hb : Binds X.K fd ps [])
    (tk : Takes X W') (I : Inv X pins σv H s) (r : Vals vs us) (h : sp vs H Q (WE W' σv)) : wpAny (model X.prog X.w) A (call (.ref f) us) (EP X pins σv Q) X.xe s := by
  have hl : us.length = ps.length := by rw [← r.length]; exact FO.len _ _ _ _ h
  have b := hb s us I.kIn (by rw [List.append_nil]; exact hl)
  rw [List.append_nil] at b
  have e0 : Env0 X.prog X.w X.K X.mg X.base A X.stack s H := by
    have e := I.env0
    exact ⟨by rw [fr]; exact e.frames, e.mod, e.bs, e.bsz, e.funs, e.frf, e.hok, e.bare⟩
  refine wpAny_call (codeAny_mono (FO.run A X.stack s H ⟨us, []⟩ us vs Q (WE W' σv) hr e0 b r h) fun r s' hq => ?_)
  cases r with
  | error e => exact passAt tk σv pins H s e s' I hq
  | ok fl =>
    cases fl with
    | ret u => exact I.after hq
    | next => exact False.elim hq
    | brk => exact False.elim hq
    | cont => exact False.elim hq
/-- an own method, where it stands -/
abbrev MthAll (P : Program) (w : World) (K : PySem.W.Frag) (mg : Str → Option Value) (base : Heap) (N : Names) (Φ : Fns) (k : Nat) : Prop := ∀ c m i, Φ.meth c m = some i → Cls K (N.cA c) ∧ ∃ f fd ps, Meth K (N.cA c) (N.an m) f ∧ Binds K fd ps [] ∧ FnOk P w K mg base (L2.CX P w) k f fd ps (spP K N (Φ.call i))
theorem own_len (M : MthAll X.prog X.w X.K X.mg X.base N Φ k) (tk : Takes X W') (hr : Room (k + 1) X.A) (hn : N.an nmLen = "__len__") : OwnLen X.K N W' Φ X := by
  intro c fs pins s σv H F ρ G σ x us Q I ru g rs rx res
  unfold lenW at res
  dsimp only at res
  cases e : mcall Φ c nmLen [.d (.ins c fs)] G with
  | no => rw [e] at res; exact res.elim
  | ok w G1 =>
    rw [e] at res
    have r := rx
    simp only [RepW, Rep] at rx
    obtain ⟨p, dx, fv, rfl, h1, h2⟩ := rx
    obtain ⟨u, rfl, ru1⟩ := vals1 ru
    obtain rfl : u = Value.ref p := ru1
    unfold mcall at e
    split at e
    · rename_i i ei
      obtain ⟨q1, f, fd, ps, q2, q3, q4⟩ := M _ _ _ ei
      rw [hn] at q2
      obtain ⟨mA, J, _⟩ := ins_get I.hok (g.sub _ _ h1)
      obtain ⟨od, J, _⟩ := J.look
      obtain ⟨m, hF⟩ := I.fr
      have hsp := fcall_ok (K := X.K) (N := N) (W' := W') (σv := σv) (Q := fun v H' => ∃ n : Int, v = .int n ∧ (0 ≤ n ∧ n < 2 ^ 63) ∧ Q (.int n) H') g (RepWs.one r) (by
        rw [e]
        intro F' ρ' H' v x' g' r'
        cases w with
        | r j => exact res.elim
        | d y =>
          cases y <;> first | (exact res.elim) | skip
          rename_i n
          cases r'
          dsimp only at res
          split at res
          · rename_i hh
            exact ⟨n, rfl, hh, res F' ρ' H' _ x' g' rfl⟩
          · exact res.elim)
      refine PySem.W.len_K hF I.ok.mod.kin J q2.at_ q2.fn (wpAny_mono (run_at q4 hr.in1 (by rfl) q3 tk I (.cons (show RelV (.ref p) (Value.ref p) from rfl) .nil) hsp) (fun v s' hv => ?_) fun _ _ z => z)
      obtain ⟨z, H', I', rz, n, rfl, hh, q⟩ := hv
      obtain ⟨t, rfl⟩ := rz
      exact ⟨hh, .int n, H', I'.tok _, ⟨_, rfl⟩, q⟩
    · cases e
  | exc z G1 =>
    rw [e] at res
    have r := rx
    simp only [RepW, Rep] at rx
    obtain ⟨p, dx, fv, rfl, h1, h2⟩ := rx
    obtain ⟨u, rfl, ru1⟩ := vals1 ru
    obtain rfl : u = Value.ref p := ru1
    unfold mcall at e
    split at e
    · rename_i i ei
      obtain ⟨q1, f, fd, ps, q2, q3, q4⟩ := M _ _ _ ei
      rw [hn] at q2
      obtain ⟨mA, J, _⟩ := ins_get I.hok (g.sub _ _ h1)
      obtain ⟨od, J, _⟩ := J.look
      obtain ⟨m, hF⟩ := I.fr
      have hsp := fcall_ok (K := X.K) (N := N) (W' := W') (σv := σv) (Q := fun v H' => False) g (RepWs.one r) (by rw [e]; exact res)
      exact PySem.W.len_K hF I.ok.mod.kin J q2.at_ q2.fn (wpAny_mono (run_at q4 hr.in1 (by rfl) q3 tk I (.cons (show RelV (.ref p) (Value.ref p) from rfl) .nil) hsp) (fun v s' ⟨_, _, _, _, z⟩ => z.elim) fun _ _ z => z)
    · cases e
theorem tyKn_isTy {ok : Nat → Bool} {w : W} (h : tyKn ok G w = true) : ∃ b, isTy ok G w .int = some b := by
  unfold isTy
  rw [if_pos (by rfl)]
  unfold tyKn at h
  unfold isTy0
  split at h
  · simp only [clsTy, h, if_true]; exact ⟨_, rfl⟩
  · rename_i x hx
    cases x <;> first | exact ⟨_, rfl⟩ | exact absurd rfl (hx _ _)
  · split at h
    · rename_i q; simp only [q]; exact ⟨_, rfl⟩
    · rename_i q; simp only [q]; exact ⟨_, rfl⟩
    · rename_i q; simp only [q, clsTy, h, if_true]; exact ⟨_, rfl⟩
    · rename_i q; simp only [q]; exact ⟨_, rfl⟩
    · rename_i q; simp only [q, clsTy, h, if_true]; exact ⟨_, rfl⟩
    · cases h
/-- the values' types, to own classes' comparisons -/
def tyVals (N : Names) (ok : Nat → Bool) (t : Value) : Prop := t = .type "NoneType" ∨ ∃ u : Ty, u.okB ok = true ∧ t = tyVal N u
theorem TyX.val {ok : Nat → Bool} (kit : Kits K N ok) {w : W} {v : V} (g : Good K N F ρ G H) (r : RepW K N F ρ G.length w v) (h : tyKn ok G w = true) : ∃ tv, TyX K H v tv ∧ tyVals N ok tv := by
  have tl : ∀ {a : Addr} {vs : List V}, H a = some (.lst vs) → TyX K H (.ref a) (tyVal N .list) := fun h => .base (.lst h)
  have ti : ∀ {a : Addr} {c : Nat} {dx fv}, ok c = true → H a = some (.ins (N.cA c) dx fv) → TyX K H (.ref a) (tyVal N (.cls c)) := fun hc h =>
    .base (.ins h (kit.ins _ hc).1 (kit.ins _ hc).2.1 kit.get.1 kit.get.2 (kit.ins _ hc).2.2)
  cases w with
  | d x =>
    cases x with
    | non => cases r; exact ⟨_, .base .non, .inl rfl⟩
    | bl b => cases r; exact ⟨_, .base (.bl b), .inr ⟨.bool, rfl, rfl⟩⟩
    | int b => cases r; exact ⟨_, .base (.int b), .inr ⟨.int, rfl, rfl⟩⟩
    | str b => cases r; exact ⟨_, .base (.str b), .inr ⟨.str, rfl, rfl⟩⟩
    | tup ds =>
      simp only [RepW, Rep] at r
      obtain ⟨a, vs, rfl, h1, _⟩ := r
      refine ⟨.type "tuple", ?_, .inr ⟨.tuple, rfl, rfl⟩⟩
      have h1 := Same.seqT g.sub h1
      rcases h1 with (h1 | ⟨o, h1⟩) | ⟨o, its, n, h1, h2, _⟩
      · exact .base (.tup h1)
      · exact .fTuple h1
      · exact .kTuple h1 h2
    | lst ds =>
      simp only [RepW, Rep] at r
      obtain ⟨a, vs, rfl, h1, _⟩ := r
      exact ⟨_, tl (g.sub _ _ h1), .inr ⟨.list, rfl, rfl⟩⟩
    | ins c fs =>
      simp only [RepW, Rep] at r
      obtain ⟨a, dx, fv, rfl, h1, _⟩ := r
      exact ⟨_, ti h (g.sub _ _ h1), .inr ⟨.cls c, h, rfl⟩⟩
    | scr ns =>
      simp only [RepW, Rep] at r
      obtain ⟨a, rfl, h1⟩ := r
      refine ⟨.type "list", ?_, .inr ⟨.list, rfl, rfl⟩⟩
      have h1 := g.sub.seq h1
      rcases h1 with (h1 | ⟨o, h1⟩) | ⟨o, its, n, h1, h2, _⟩
      · exact .base (.lst h1)
      · exact .base (.frz h1)
      · exact .kList h1 h2
  | r i =>
    obtain ⟨hi, rfl⟩ := r
    simp only [tyKn] at h
    split at h
    · rename_i ds hc
      obtain ⟨_, vs, h1, _⟩ := g.cell i _ hc
      exact ⟨_, tl h1, .inr ⟨.list, rfl, rfl⟩⟩
    · rename_i ds hc
      obtain ⟨_, vs, h1, _⟩ := g.cell i _ hc
      exact ⟨_, tl h1, .inr ⟨.list, rfl, rfl⟩⟩
    · rename_i c fs hc
      obtain ⟨_, dx, fv, h1, _⟩ := g.cell i _ hc
      exact ⟨_, ti h h1, .inr ⟨.cls c, h, rfl⟩⟩
    · rename_i ds hc
      have h0 := g.cell i _ hc
      simp only [CellOk, Rep] at h0
      obtain ⟨a, vs, e1, h1, h2⟩ := h0
      cases e1
      exact ⟨_, tl (g.sub _ _ h1), .inr ⟨.list, rfl, rfl⟩⟩
    · rename_i c fs hc
      have h0 := g.cell i _ hc
      simp only [CellOk, Rep] at h0
      obtain ⟨a, dx, fv, e1, h1, h2⟩ := h0
      cases e1
      exact ⟨_, ti h (g.sub _ _ h1), .inr ⟨.cls c, h, rfl⟩⟩
    · cases h
theorem own_eq (M : MthAll X.prog X.w X.K X.mg X.base N Φ k) (tk : Takes X W') (hr : Room (k + 1) X.A) (hn : N.an nmEq = "__eq__") (kit : Kits X.K N Φ.isc)
    (nf : ∀ c t, Φ.isc c = true → tyVals N Φ.isc t → PySem.W.notFirst X.K (N.cA c) t = true) (hm : ∀ c i, Φ.meth c nmEq = some i → Φ.isc c = true) : OwnEq X.K N W' Φ X := by
  intro c fs pins s σv H F ρ G σ b x y v u Q I rx ry g rs ra rb res
  split at res
  case isFalse => exact res.elim
  rename_i hk
  unfold mcall at res
  split at res
  case h_2 => exact res.elim
  rename_i i ei
  have r := ra
  simp only [RepW, Rep] at ra
  obtain ⟨p, dx, fv, rfl, h1, h2⟩ := ra
  cases rx
  obtain ⟨q1, f, fd, ps, q2, q3, q4⟩ := M _ _ _ ei
  rw [hn] at q2
  obtain ⟨mA, J, _⟩ := ins_get I.hok (g.sub _ _ h1)
  obtain ⟨od, J, _⟩ := J.look
  obtain ⟨m, hF⟩ := I.fr
  obtain ⟨tv, ty, tvs⟩ := TyX.val kit g rb hk
  obtain ⟨Pk, Z, pk, hx⟩ := kit_of I ry ty
  have hsp := fcall_ok (K := X.K) (N := N) (W' := W') (σv := σv) (Q := Q) g (ws := [.d (.ins c fs), b]) (vs := [.ref p, y]) (by
    simp only [RepWs]
    exact ⟨_, _, rfl, r, y, [], rfl, rb, rfl⟩) res
  show wpAny (model X.prog X.w) X.A (richCompare .Eq (.ref p) u) (EP X pins σv Q) X.xe s
  refine PySem.W.cmp_K (op := .Eq) hr.units0 hF I.ok.mod.kin J (Z.ty _ _ I.kIn pk) (nf c tv (hm c i ei) tvs) q2.at_ q2.fn (wpAny_mono (run_at q4 (hr.mono (Nat.le_succ k)) rfl q3 tk I (.cons (show RelV (.ref p) (Value.ref p) from rfl) (.cons ry .nil)) hsp) (fun z s' hz => ?_) fun _ _ z => z)
  obtain ⟨zv, H', I', rz, q⟩ := hz
  have : PySem.W.CmpBack (EP X pins σv Q) z s' = EP X pins σv Q z s' := by
    cases zv <;> simp only [L2.RelV] at rz <;> first | (subst rz; rfl) | (obtain ⟨t, rfl⟩ := rz; rfl) | (cases rz; rfl)
  rw [this]
  exact ⟨zv, H', I', rz, q⟩
theorem own_bin (h : ∀ c, Φ.meth c nmAdd = none ∧ Φ.meth c nmOr = none) : OwnBin K N W' Φ X := by
  intro o m c fs pins s σv H F ρ G σ b x y v u Q ho I rx ry g rs ra rb res
  unfold mcall at res
  rcases ho with ⟨_, rfl⟩ | ⟨_, rfl⟩
  · rw [(h c).1] at res; exact res.elim
  · rw [(h c).2] at res; exact res.elim
theorem own_in (h : ∀ c, Φ.meth c nmIn = none) : OwnIn K N W' Φ X := by
  intro neg c fs pins s σv H F ρ G σ a x y v u Q I rx ry g rs ra rb res
  unfold mcall at res
  rw [h c] at res
  cases neg <;> exact res.elim
end
end Ev

end

-- part EvRow
section
set_option Elab.async false
set_option linter.all false
namespace Ev
open PySem L2 PyProof.Rows
/-! ## a row's tables -/
structure FE where
  d : He.DefD
  ps : List Str
  names : List Str
  m : Fd
structure FE.Ok (Γ : Gam) (e : FE) : Prop where
  sc : FnScope e.names e.ps e.d.scope
  chk : chkSs Γ e.m.body ⟨e.names, e.d.scope, fun _ => true⟩ e.d.body = true
  sl : e.m.slots = e.names.length
  pl : e.m.params = e.ps.length
abbrev FE.Fun (K : PySem.W.Frag) (e : FE) (f : Addr) (fd : FuncData) : Prop := FunD K e.d.name e.d.qual e.d.params e.d.body e.d.scope (e.d.dvs K) (e.d.kws K) f fd
def FE.Bind (e : FE) : Prop := ∀ (K : PySem.W.Frag) (f : Addr) (fd : FuncData), e.Fun K f fd → Binds K fd e.ps []
def FE.BindK (e : FE) (np : Nat) (ks : List Str) : Prop := ∀ (K : PySem.W.Frag) (f : Addr) (fd : FuncData), e.Fun K f fd → KBn K fd e.ps (np + 1) ks (fun us ws => us ++ ws) (fun us ws => us ++ ws)
structure RowD where
  cls : List Str
  an : List Str
  fns : List FE
  glo : List (Str × GK)
  ini : List Nat
  meth : List ((Nat × Nat) × Nat)
  fld : List (Nat × Nat)
  prim : List (Nat × (List D → PR)) := []
  ck : List (Nat × List Str)
def AllI (Q : Nat → FE → Prop) : Nat → List FE → Prop
  | _, [] => True
  | n, e :: r => Q n e ∧ AllI Q (n + 1) r
theorem AllI.at {Q : Nat → FE → Prop} : ∀ {l : List FE} {n i : Nat} {e : FE}, AllI Q n l → l[i]? = some e → Q (n + i) e
  | [], _, _, _, _, h => by simp at h
  | a :: r, n, 0, e, h, q => by simp at q; subst q; exact h.1
  | a :: r, n, i + 1, e, h, q => by
    have := AllI.at h.2 (by simpa using q)
    rwa [show n + 1 + i = n + (i + 1) by omega] at this
def anF (l : List Str) (i : Nat) : Str := match l[i]? with
  | some s => s
  | none => ⟨(List.replicate (i + 1000) 0).toArray⟩
theorem anF_inj {l : List Str} (nd : l.Nodup) (hs : ∀ s ∈ l, s.cps.size < 1000) : ∀ i j, anF l i = anF l j → i = j := by
  intro i j h
  unfold anF at h
  cases e1 : l[i]? with
  | some a =>
    cases e2 : l[j]? with
    | some b =>
      rw [e1, e2] at h
      dsimp only at h
      subst h
      exact nodup_ix nd e1 e2
    | none =>
      rw [e1, e2] at h
      dsimp only at h
      have := hs a (List.mem_of_getElem? e1)
      rw [h] at this
      simp at this
      omega
  | none =>
    cases e2 : l[j]? with
    | some b =>
      rw [e1, e2] at h
      dsimp only at h
      have := hs b (List.mem_of_getElem? e2)
      rw [← h] at this
      simp at this
      omega
    | none =>
      rw [e1, e2] at h
      dsimp only at h
      have := congrArg (fun s : Str => s.cps.size) h
      simp at this
      omega
theorem memL {α β : Type} [BEq α] [LawfulBEq α] {k : α} {v : β} : ∀ {l : List (α × β)}, l.lookup k = some v → (k, v) ∈ l
  | [], h => by simp at h
  | (a, b) :: r, h => by
    rw [List.lookup_cons] at h
    split at h
    · rename_i e
      cases h
      rw [eq_of_beq e]; exact List.mem_cons_self
    · exact List.mem_cons_of_mem _ (memL h)
namespace RowD
variable (R : RowD)
def cn (c : Nat) : Str := R.cls.getD c Str.empty
def cA (K : PySem.W.Frag) (c : Nat) : Addr := He.ga K (R.cn c)
def N (P : Program) (w : World) (K : PySem.W.Frag) : Names := ⟨R.cA K, anF R.an, P, w⟩
def Γ : Gam := ⟨fun x => R.glo.lookup x, anF R.an⟩
def T : Tab := ⟨fun i => match R.prim.lookup i with
  | some _ => none
  | none => (R.fns[i]?).map (·.m), fun i => R.prim.lookup i, fun c => R.ini[c]?, fun c m => R.meth.lookup (c, m), fun _ => [], fun _ _ => false, fun c f => R.fld.contains (c, f), fun c => decide (c < R.cls.length)⟩
def gfa : Str × GK → List He.Fa
  | (x, .fn _) => [.glo x]
  | (x, .cls _ _ _) => [.glo x, .mkr x, .cls x]
  | (x, .exc _) => [.glo x]
  | (x, .int z) => [.int x z]
  | (x, .blt) => [.free x]
/-- the head's facts -/
def fa : List He.Fa := R.glo.flatMap gfa ++ R.cls.map He.Fa.cls ++ R.meth.map (fun p => He.Fa.meth (R.cn p.1.1) (anF R.an p.1.2)) ++ R.fld.map (fun p => He.Fa.noat (R.cn p.1) (anF R.an p.2))
def fn : List He.DefD := R.fns.map (·.d)
def isFn (i : Nat) : Bool := (R.glo.any fun p => match p.2 with
  | .fn j => j == i
  | _ => false) || R.meth.any fun p => p.2 == i
/-- the tables agree -/
def okB : Bool := (R.glo.all fun p => match p.2 with
    | .fn i => (match R.fns[i]? with
      | some e => decide (e.d.at_ = (p.1, none))
      | none => false)
    | .cls c np ks => decide (R.cls[c]? = some p.1) && decide (R.ck[c]? = some (np, ks)) && (match (R.ini[c]?).bind (R.fns[·]?) with
      | some e => decide (e.d.at_ = (p.1, some ("__init__" : Str))) && (match R.ini[c]? with
        | some i => (R.prim.lookup i).isNone
        | none => false)
      | none => false)
    | _ => true) &&
  (R.meth.all fun p => decide (p.1.1 < R.cls.length) && (match R.fns[p.2]? with
      | some e => decide (e.d.at_ = (R.cn p.1.1, some (anF R.an p.1.2)))
      | none => false)) &&
  (R.fld.all fun p => decide (p.1 < R.cls.length)) && decide (R.an.Nodup) && (R.an.all fun s => decide (s.cps.size < 1000)) && decide (R.an[0]? = some ("__len__" : Str)) && decide (R.an[1]? = some ("__eq__" : Str)) &&
  (R.meth.all fun p => p.1.2 != nmAdd && p.1.2 != nmOr && p.1.2 != nmIn)
def tys : List Ty := [.int, .bool, .str, .list, .tuple] ++ (List.range R.cls.length).map Ty.cls
/-- more of the head -/
def ex (K : PySem.W.Frag) : Bool :=
  (R.tys.all fun t => decide (PySem.W.kitOne K (.type "NoneType") (tyValC (R.cA K) t) = some false)) &&
  (R.tys.all fun t => R.tys.all fun u => decide (PySem.W.kitOne K (tyValC (R.cA K) t) (tyValC (R.cA K) u) = some (t == u || (t == .bool && u == .int)))) &&
  ((List.range R.cls.length).all fun c => decide (PySem.W.findIn K (.ref (R.cA K c)) "__class__" = some (some (.builtin "object.__class__"))) && decide (PySem.W.mroIn K (R.cA K c) (.type "object") = some true) &&
    PySem.W.notFirst K (R.cA K c) (.type "NoneType") && R.tys.all fun t => PySem.W.notFirst K (R.cA K c) (tyValC (R.cA K) t)) &&
  decide (PySem.W.specialIn K (.builtin "object.__class__") "__get__" = some (some (.builtin "getset_descriptor.__get__"))) && decide (PySem.W.takesIn K (.builtin "object.__class__") = some true)
end RowD
section
variable {R : RowD} {P : Program} {w : World} {K : PySem.W.Frag} {mg : Str → Option Value} {base h : Heap}
theorem ty_mem {t : Ty} (ht : t.okB (fun c => decide (c < R.cls.length)) = true) : t ∈ R.tys := by
  unfold RowD.tys
  cases t with
  | cls c => simp only [Ty.okB, decide_eq_true_eq] at ht; simp [ht]
  | err c => simp [Ty.okB] at ht
  | _ => simp
theorem row_of (hR : R.okB = true) (hall : AllI (fun i e => (R.prim.lookup i = none → e.Ok R.Γ) ∧ (R.isFn i = true → e.Bind)) 0 R.fns)
    (hbc : ∀ (c np : Nat) (ks : List Str) (i : Nat) (e : FE), R.ck[c]? = some (np, ks) → R.ini[c]? = some i → R.fns[i]? = some e → (ks = [] → e.Bind) ∧ (ks ≠ [] → e.BindK np ks))
    (hp : ∀ i φ e fd, R.prim.lookup i = some φ → R.fns[i]? = some e → e.Fun K (He.fAd K e.d.at_) fd → ∀ n, EnvOk P w K mg base (R.N P w K) (lvl R.T n) (2 * n) R.Γ → FnOk P w K mg base (L2.CX P w) (2 * n + 2) (He.fAd K e.d.at_) fd e.ps (spP K (R.N P w K) φ))
    (X : K.In h) (G : h.Ns mainGlobals mg) (c : He.SaysD R.fa R.fn K) (hx : R.ex K = true) : RowOk P w K mg base (R.N P w K) R.T R.Γ := by
  have ok : ∀ i e, R.fns[i]? = some e → R.prim.lookup i = none → e.Ok R.Γ := fun i e h => by have := (hall.at h).1; rwa [Nat.zero_add] at this
  have hbi : ∀ i e, R.fns[i]? = some e → R.isFn i = true → e.Bind := fun i e h => by have := (hall.at h).2; rwa [Nat.zero_add] at this
  unfold RowD.okB at hR
  simp only [Bool.and_eq_true, decide_eq_true_eq] at hR
  obtain ⟨⟨⟨⟨⟨⟨⟨o1, o2⟩, o3⟩, o4⟩, o5⟩, o6⟩, o7⟩, o8⟩ := hR
  unfold RowD.ex at hx
  simp only [Bool.and_eq_true, decide_eq_true_eq] at hx
  obtain ⟨⟨⟨⟨x1, x2⟩, x3⟩, x4⟩, x5⟩ := hx
  have fact : ∀ {f : He.Fa}, f ∈ R.fa → f.ok K = true := fun {f} hf => by
    obtain ⟨i, hi, e⟩ := List.mem_iff_getElem.mp hf
    exact c.fact i (f := f) (by rw [List.getElem?_eq_getElem hi, e])
  have defs : ∀ {i : Nat} {e : FE}, R.fns[i]? = some e → ∃ fd, e.Fun K (He.fAd K e.d.at_) fd := fun {i e} hi =>
    c.def_ i (d := e.d) (by show (R.fns.map (·.d))[i]? = _; rw [List.getElem?_map, hi]; rfl)
  have dok : ∀ {i : Nat} {e : FE} {fd : FuncData}, R.fns[i]? = some e → R.prim.lookup i = none → e.Fun K (He.fAd K e.d.at_) fd → DefOk K R.Γ e.m (He.fAd K e.d.at_) fd e.ps := fun {i e fd} hi hq F => by
    have k := ok i e hi hq
    exact ⟨_, _, _, _, _, _, _, e.names, F, k.sc, k.chk, k.sl, k.pl⟩
  have by_ : ∀ {i : Nat} {e : FE} {fd : FuncData}, R.fns[i]? = some e → e.Fun K (He.fAd K e.d.at_) fd → FnBy P w K mg base (R.N P w K) R.T R.Γ i (He.fAd K e.d.at_) fd e.ps := fun {i e fd} q F => by
    cases hq : R.prim.lookup i with
    | none => exact .body e.m (by show (match R.prim.lookup i with | some _ => none | none => (R.fns[i]?).map _) = _; rw [hq, q]; rfl) (dok q hq F)
    | some φ => exact .prim φ (by show (match R.prim.lookup i with | some _ => none | none => (R.fns[i]?).map _) = _; rw [hq]) hq (hp i φ e fd hq q F)
  have glo : ∀ {x : Str} {g : GK}, R.Γ.glo x = some g → (x, g) ∈ R.glo := fun {x g} e => PySem.mem_of_lookup e
  have gmem : ∀ {p : Str × GK} {f : He.Fa}, p ∈ R.glo → f ∈ RowD.gfa p → f ∈ R.fa := fun {p f} hp hf => by
    unfold RowD.fa
    exact List.mem_append_left _ (List.mem_append_left _ (List.mem_append_left _ (List.mem_flatMap.mpr ⟨p, hp, hf⟩)))
  have cmem : ∀ {k : Nat}, k < R.cls.length → Cls K ((R.N P w K).cA k) := fun {k} hk => by
    have : He.Fa.cls (R.cn k) ∈ R.fa := by
      unfold RowD.fa RowD.cn
      refine List.mem_append_left _ (List.mem_append_left _ (List.mem_append_right _ (List.mem_map.mpr ⟨_, ?_, rfl⟩)))
      rw [List.getD_eq_getElem?_getD, List.getElem?_eq_getElem hk]
      exact List.getElem_mem hk
    exact He.cls_ok (fact this)
  have mm : ∀ {k m i : Nat}, R.T.meth k m = some i → k < R.cls.length ∧ ∃ e, R.fns[i]? = some e ∧ e.d.at_ = (R.cn k, some (anF R.an m)) ∧ Meth K ((R.N P w K).cA k) ((R.N P w K).an m) (He.fAd K e.d.at_) ∧ ((k, m), i) ∈ R.meth := fun {k m i} e => by
    have hm : ((k, m), i) ∈ R.meth := memL e
    have h1 := List.all_eq_true.mp o2 _ hm
    simp only [Bool.and_eq_true, decide_eq_true_eq] at h1
    obtain ⟨h1, h2⟩ := h1
    split at h2
    · rename_i e1 q
      simp only [decide_eq_true_eq] at h2
      refine ⟨h1, e1, q, h2, ?_, hm⟩
      have : He.Fa.meth (R.cn k) (anF R.an m) ∈ R.fa := by
        unfold RowD.fa
        exact List.mem_append_left _ (List.mem_append_right _ (List.mem_map.mpr ⟨_, hm, rfl⟩))
      rw [h2]
      exact He.meth_ok (fact this)
    · cases h2
  have kits : Kits K (R.N P w K) R.T.isc := by
    refine ⟨fun t ht => ?_, fun t u ht hu => ?_, fun k hk => ?_, x4, x5⟩
    · have := List.all_eq_true.mp x1 t (ty_mem ht)
      exact of_decide_eq_true this
    · have := List.all_eq_true.mp (List.all_eq_true.mp x2 t (ty_mem ht)) u (ty_mem hu)
      exact of_decide_eq_true this
    · have hk' : k < R.cls.length := of_decide_eq_true hk
      have := List.all_eq_true.mp x3 k (List.mem_range.mpr hk')
      simp only [Bool.and_eq_true, decide_eq_true_eq] at this
      exact ⟨cmem hk', this.1.1.1, this.1.1.2⟩
  refine ⟨⟨rfl, rfl⟩, anF_inj o4 fun s hs => ?_, fun k f e => ?_, kits, rfl, fun x e => ?_, fun x z e => ?_, fun x i e => ?_, fun x k np ks e => ?_, fun k m i e => ?_, fun n M {W' st X'} f => ?_⟩
  · have := List.all_eq_true.mp o5 s hs
    simpa using this
  · have hm : (k, f) ∈ R.fld := by
      have : R.fld.contains (k, f) = true := e
      simpa using this
    have hk := List.all_eq_true.mp o3 _ hm
    simp only [decide_eq_true_eq] at hk
    refine ⟨cmem hk, ?_⟩
    have : He.Fa.noat (R.cn k) (anF R.an f) ∈ R.fa := by
      unfold RowD.fa
      exact List.mem_append_right _ (List.mem_map.mpr ⟨_, hm, rfl⟩)
    exact He.noat_ok (fact this)
  · exact He.free_ok X G (fact (gmem (glo e) (by simp [RowD.gfa])))
  · exact He.int_ok X G (fact (gmem (glo e) (by simp [RowD.gfa])))
  · have h1 := List.all_eq_true.mp o1 _ (glo e)
    dsimp only at h1
    split at h1
    · rename_i e1 q
      simp only [decide_eq_true_eq] at h1
      obtain ⟨fd, F⟩ := defs q
      refine ⟨He.fAd K e1.d.at_, fd, e1.ps, ?_, F.kp, hbi i e1 q (by unfold RowD.isFn; rw [Bool.or_eq_true]; exact .inl (List.any_eq_true.mpr ⟨_, glo e, by simp⟩)) K _ fd F, by_ q F⟩
      rw [h1]
      exact He.glo_ok X G (fact (gmem (glo e) (by simp [RowD.gfa])))
    · cases h1
  · have h1 := List.all_eq_true.mp o1 _ (glo e)
    simp only [Bool.and_eq_true, decide_eq_true_eq] at h1
    obtain ⟨⟨h1, h0⟩, h2⟩ := h1
    split at h2
    · rename_i e1 q
      simp only [Bool.and_eq_true, decide_eq_true_eq] at h2
      obtain ⟨h2, h3⟩ := h2
      simp only [Option.bind_eq_bind, Option.bind_eq_some_iff] at q
      obtain ⟨i, q1, q⟩ := q
      have h3 : R.prim.lookup i = none := by
        rw [q1] at h3
        simpa using h3
      obtain ⟨fd, F⟩ := defs q
      have hc : (R.N P w K).cA k = He.ga K x := by
        show He.ga K (R.cls.getD k Str.empty) = _
        rw [List.getD_eq_getElem?_getD, h1]; rfl
      obtain ⟨b1, b2⟩ := hbc k np ks i e1 h0 q1 q
      refine ⟨by rw [hc]; exact He.glo_ok X G (fact (gmem (glo e) (by simp [RowD.gfa]))), He.fAd K e1.d.at_, fd, e1.ps, e1.m, i, ?_, q1, by show (match R.prim.lookup i with | some _ => none | none => (R.fns[i]?).map _) = _; rw [h3, q]; rfl, dok q h3 F, fun z => b1 z K _ fd F, fun z => b2 z K _ fd F⟩
      rw [h2, hc]
      exact He.mkr_ok (fact (gmem (glo e) (by simp [RowD.gfa])))
    · cases h2
  · obtain ⟨h1, e1, q, h2, h3, h4⟩ := mm e
    obtain ⟨fd, F⟩ := defs q
    exact ⟨cmem h1, He.fAd K e1.d.at_, fd, e1.ps, h3, hbi i e1 q (by unfold RowD.isFn; rw [Bool.or_eq_true]; exact .inr (List.any_eq_true.mpr ⟨_, h4, by simp⟩)) K _ fd F, by_ q F⟩
  · obtain ⟨l1, l2, l3⟩ := lvl_meth (T := R.T) n
    have nometh : ∀ m, (m = nmAdd ∨ m = nmOr ∨ m = nmIn) → ∀ k, (lvl R.T n).meth k m = none := fun m hm k => by
      rw [l1]
      cases q : R.T.meth k m with
      | none => rfl
      | some i =>
        have := List.all_eq_true.mp o8 _ (memL (show R.meth.lookup (k, m) = some i from q))
        simp only [Bool.and_eq_true, bne_iff_ne, ne_eq] at this
        rcases hm with rfl | rfl | rfl
        · exact absurd rfl this.1.1
        · exact absurd rfl this.1.2
        · exact absurd rfl this.2
    obtain ⟨f1, f2, f3, f4, f5, f6, f7, f8, f9⟩ := f
    subst f1 f2 f3 f4 f5
    have M' : MthAll X'.prog X'.w X'.K X'.mg X'.base (R.N X'.prog X'.w X'.K) (lvl R.T n) (2 * n) := fun k m i e => M k m i (by rw [← l1]; exact e)
    have a0 : (R.N X'.prog X'.w X'.K).an nmLen = "__len__" := by show anF R.an 0 = _; unfold anF; rw [o6]
    have a1 : (R.N X'.prog X'.w X'.K).an nmEq = "__eq__" := by show anF R.an 1 = _; unfold anF; rw [o7]
    refine ⟨own_bin fun k => ⟨nometh _ (.inl rfl) k, nometh _ (.inr (.inl rfl)) k⟩, own_eq M' f6 f7 a1 (by rw [l3]; exact kits) (fun k t hk ht => ?_) (fun k i e => ?_), own_in fun k => nometh _ (.inr (.inr rfl)) k, own_len M' f6 f7 a0⟩
    · rw [l3] at hk ht
      have hk' : k < R.cls.length := of_decide_eq_true hk
      have := List.all_eq_true.mp x3 k (List.mem_range.mpr hk')
      simp only [Bool.and_eq_true, decide_eq_true_eq] at this
      rcases ht with rfl | ⟨u, hu, rfl⟩
      · exact this.1.2
      · exact List.all_eq_true.mp this.2 u (ty_mem hu)
    · rw [l1] at e
      rw [l3]
      exact decide_eq_true (mm e).1
end
/-! ## the law's own def -/
def CXw (P : Program) : CXT := fun outer H s E e s' => ∃ w, L2.CX P w outer H s E e s'
theorem FnOk.cx {P : Program} {w : World} {K : PySem.W.Frag} {mg : Str → Option Value} {base : Heap} {k : Nat} {f : Addr} {fd : FuncData} {ps : List Str} {sp : Sp} (F : FnOk P w K mg base (L2.CX P w) k f fd ps sp) : FnOk P w K mg base (CXw P) k f fd ps sp :=
  ⟨F.len, fun A outer s H args us vs Q E hr he hb hv hs => codeAny_mono (F.run A outer s H args us vs Q E hr he hb hv hs) fun r s' h => by
    cases r with
    | error e => exact ⟨w, h⟩
    | ok fl => cases fl <;> exact h⟩
theorem cxw_no {P : Program} (H : Hp) (s : Shared) (e : Value) (s' : Shared) : CXw P [] H s (fun _ _ _ => False) e s' → False := fun ⟨_, _, _, _, _, _, _, _, _, _, _, _, _, z⟩ => z
theorem law_F {R : RowD} {P : Program} {e : FE} {x p : Str} {n : Nat} (hR : R.okB = true) (hall : AllI (fun i e => (R.prim.lookup i = none → e.Ok R.Γ) ∧ (R.isFn i = true → e.Bind)) 0 R.fns)
    (hbc : ∀ (c np : Nat) (ks : List Str) (i : Nat) (e : FE), R.ck[c]? = some (np, ks) → R.ini[c]? = some i → R.fns[i]? = some e → (ks = [] → e.Bind) ∧ (ks ≠ [] → e.BindK np ks))
    (hp : ∀ (w : World) (K : PySem.W.Frag) (mg : Str → Option Value) (base : Heap) i φ e fd, R.prim.lookup i = some φ → R.fns[i]? = some e → e.Fun K (He.fAd K e.d.at_) fd → ∀ n, EnvOk P w K mg base (R.N P w K) (lvl R.T n) (2 * n) R.Γ → FnOk P w K mg base (L2.CX P w) (2 * n + 2) (He.fAd K e.d.at_) fd e.ps (spP K (R.N P w K) φ))
    (he : R.fns[0]? = some e) (hat : e.d.at_ = (x, none)) (hps : e.ps = [p]) (hq : R.prim.lookup 0 = none) (hg : He.Fa.glo x ∈ R.fa)
    (hb : ∀ (K : PySem.W.Frag) (f : Addr) (fd : FuncData), e.Fun K f fd → ∀ (s : Shared) (u : Value), BindsTo s fd ⟨[u], []⟩ [(p, u)])
    (law : ∀ ns : List Int, ns.length ≤ n → (lvl R.T 60).call 0 [.scr ns] = .ok (.bl true)) :
    ∀ (w : World) (mg : Str → Option Value) (fa : Addr) (h : Heap), (∃ K : PySem.W.Frag, K.In h ∧ He.SaysD R.fa R.fn K ∧ R.ex K = true) → h.Ns mainGlobals mg → mg x = some (.ref fa) →
      ∃ (K : PySem.W.Frag) (fd : FuncData) (sp : Sp), K.In h ∧ (∀ (s : Shared) (u : Value), BindsTo s fd ⟨[u], []⟩ [(p, u)]) ∧
        (∀ (H : Hp) (a : Addr) (ns : List Int), ns.length ≤ n → Only H → SqL K H a (ns.map V.int) → sp [.ref a] H (fun v _ => v = .bl true) fun _ _ _ => False) ∧
        ∀ base : Heap, K.In base → base.Ns mainGlobals mg → FnOk P w K mg base (CXw P) 120 fa fd [p] sp := by
  intro w mg fa h ⟨K, KX, c, hx⟩ G hm
  obtain ⟨fd, F⟩ := c.def_ 0 (d := e.d) (by show (R.fns.map (·.d))[0]? = _; rw [List.getElem?_map, he]; rfl)
  have hf : He.fAd K e.d.at_ = fa := by
    obtain ⟨i, hi, e2⟩ := List.mem_iff_getElem.mp hg
    have := He.glo_ok KX G (c.fact i (f := .glo x) (by rw [List.getElem?_eq_getElem hi, e2]))
    rw [hm] at this
    rw [hat]
    cases this; rfl
  refine ⟨K, fd, spP K (R.N P w K) ((lvl R.T 60).call 0), KX, hb K _ fd F, fun H a ns hn _ hS => law_sp (law ns hn) hS, fun base _ _ => ?_⟩
  have E := env_all (row_of (P := P) (w := w) (base := base) hR hall hbc (hp w K mg base) KX G c hx) 59
  have ok : e.Ok R.Γ := (hall.at he).1 hq
  have := fn_ok E F ok.sc ok.chk ok.sl ok.pl
  rw [hf, hps] at this
  rw [lvl_call (n := 59) (i := 0) (m := e.m) (by show (match R.prim.lookup 0 with | some _ => none | none => (R.fns[0]?).map _) = _; rw [hq, he]; rfl)]
  exact FnOk.cx this
/-! ## the head's Hook -/
def hookE (n : Nat) (R : RowD) : PySem.W.Hook where
  α := He.AlD × Bool
  obs := fun s => (He.obsD R.fa R.fn (He.frG s.heap.get? (He.asD s.heap.get? n)), R.ex (He.frG s.heap.get? (He.asD s.heap.get? n)))
  val := fun _ => (He.valD R.fn, true)
  says := fun _ h => ∃ K : PySem.W.Frag, K.In h ∧ He.SaysD R.fa R.fn K ∧ R.ex K = true
  of := fun _ _ e => ⟨_, He.frG_in, congrArg (fun z : He.AlD × Bool => z.1) e, congrArg (fun z : He.AlD × Bool => z.2) e⟩
  keeps := fun _ _ _ ⟨K, hK, c⟩ k => ⟨K, PySem.W.Frag.In.keeps hK k, c⟩
def obsE (n : Nat) (R : RowD) (g : Addr → Option Obj) : He.AlD × Bool := (He.obsD R.fa R.fn (He.frG g (He.asD g n)), R.ex (He.frG g (He.asD g n)))
theorem obsE_eq {n : Nat} {R : RowD} {g : Addr → Option Obj} {s : Shared} (h : ∀ a, g a = s.heap.get? a) : obsE n R g = (hookE n R).obs s := by
  have e : g = s.heap.get? := funext h
  rw [e] <;> rfl
end Ev

end

-- part RowK43
section
set_option Elab.async false
set_option linter.all false
set_option maxRecDepth 100000
set_option maxHeartbeats 0
namespace Rw
open PySem L2 PyProof.Rows Ev
def topS (i : Nat) : Stmt := PySem.Challenge.pw_sloweralone_k43_toll_judge.main.body.getD i (.Pass ⟨0, 0, 0, 0⟩)
def f0_616 : List S := [.set [] 15 (.sli 0 (.var 8) (some (.bin false .mul (.lit (.int 2)) (.var 13))) (some (.bin false .add (.bin false .mul (.lit (.int 2)) (.var 13)) (.lit (.int 2))))), .expr (.mth .append (.var 12) [(.sub (.lst 0 [(.sub (.var 10) (.var 13)), (.bin false .add (.sub (.var 10) (.var 13)) (.sub (.var 15) (.lit (.int 0)))), (.blt 0 .max2 [(.lit (.int 0)), (.bin false .sub (.sub (.var 10) (.var 13)) (.lit (.int 1)))]), (.sub (.var 15) (.lit (.int 0))), (.bin false .add (.sub (.var 10) (.var 13)) (.lit (.int 1))), (.bin false .fdiv (.sub (.var 10) (.var 13)) (.lit (.int 2))), (.bin false .add (.bin false .mul (.var 6) (.lit (.int 7))) (.sub (.var 15) (.lit (.int 0))))]) (.sub (.var 15) (.lit (.int 1))))])]
/-- law -/
def f0 : Fd := ⟨1, 20, [.set [] 1 (.call 1 [(.call 2 [(.var 0), (.lit (.int 0))]), (.lst 0 [(.lit (.int 8)), (.lit (.int 8)), (.lit (.int 8)), (.lit (.int 25)), (.lit (.int 4))])]), .set [] 2 (.sub (.lst 0 [(.lst 0 [(.lit (.int 5)), (.lit (.int 6))]), (.lst 0 [(.lit (.int 8)), (.lit (.int 8))]), (.lst 0 [(.lit (.int 4)), (.lit (.int 6))]), (.lst 0 [(.lit (.int 5)), (.lit (.int 5))]), (.lst 0 [(.lit (.int 6)), (.lit (.int 7))]), (.lst 0 [(.lit (.int 4)), (.lit (.int 4))]), (.lst 0 [(.lit (.int 5)), (.lit (.int 8))]), (.lst 0 [(.lit (.int 3)), (.lit (.int 6))])]) (.sub (.var 1) (.lit (.int 1)))), .set [] 3 (.call 3 [(.var 0), (.lit (.int 1)), (.sub (.lst 0 [(.lit (.int 2)), (.lit (.int 3)), (.lit (.int 1)), (.lit (.int 2)), (.lit (.int 3)), (.lit (.int 2)), (.lit (.int 1)), (.lit (.int 3))]) (.sub (.var 1) (.lit (.int 0)))), (.sub (.var 2) (.lit (.int 0))), (.sub (.var 2) (.lit (.int 1)))]), .set [] 4 (.call 4 [(.var 3)]), .set [] 5 (.call 5 [(.var 3)]), .set [] 6 (.bin false .mod (.blt 0 .int [(.call 2 [(.var 0), (.lit (.int 6))])]) (.bin false .pow (.lit (.int 10)) (.lit (.int 24)))), .set [] 7 (.call 6 [(.var 3), (.call 2 [(.var 0), (.lit (.int 5))]), (.sub (.var 1) (.lit (.int 2))), (.var 6)]), .set [] 8 (.call 1 [(.call 2 [(.var 0), (.lit (.int 7))]), (.bin false .add (.bin false .mul (.lst 0 [(.lit (.int 100)), (.lit (.int 7))]) (.lit (.int 8))) (.bin false .mul (.lst 0 [(.lit (.int 840))]) (.lit (.int 6))))]), .set [] 9 (.lst 0 [(.sub (.var 1) (.lit (.int 3))), (.sub (.var 1) (.lit (.int 4))), (.bin false .add (.lit (.int 25)) (.bin false .mod (.blt 0 .int [(.call 2 [(.var 0), (.lit (.int 8))])]) (.bin false .pow (.lit (.int 10)) (.lit (.int 20)))))]), .set [] 10 (.call 7 [(.var 3), (.var 5), (.var 7)]), .set [] 11 (.call 8 [(.var 4), (.var 3), (.var 5), (.var 7), (.var 10), (.var 9)]), .ife (.or (.cmp .is (.var 11) (.lit .non)) (.cmp .isnot (.call 9 [(.var 4), (.var 11)]) (.lit .non))) [.ret (.lit (.bl false))] [], .set [] 12 (.lst 1 []), .for (.var 13) (.range (.lit (.int 0)) (.blt 0 .len [(.var 10)])) f0_616, .ife (.cmp .is (.call 8 [(.var 4), (.var 3), (.var 5), (.var 7), (.var 12), (.var 9)]) (.lit .non)) [.ret (.lit (.bl false))] [], .set [] 14 (.lc 0 (.var 13) (.var 13) (.range (.lit (.int 0)) (.blt 0 .len [(.var 10)])) [13] (some (.cmp .gt (.sub (.var 10) (.var 13)) (.lit (.int 0))))), .ife (.cmp .gt (.blt 0 .len [(.var 14)]) (.lit (.int 0))) [.set [] 16 (.lst 0 [(.sub (.var 14) (.bin false .mod (.blt 0 .int [(.sub (.var 8) (.lit (.int 16)))]) (.blt 0 .len [(.var 14)]))), (.sub (.var 14) (.bin false .mod (.blt 0 .int [(.sub (.var 8) (.lit (.int 17)))]) (.blt 0 .len [(.var 14)])))]), .set [] 17 (.lc 0 (.bin false .sub (.sub (.var 10) (.var 13)) (.blt 0 .int [(.cmp .isin (.var 13) (.var 16))])) (.var 13) (.range (.lit (.int 0)) (.blt 0 .len [(.var 10)])) [13] none), .set [] 18 (.call 8 [(.var 4), (.var 3), (.var 5), (.var 7), (.var 17), (.var 9)]), .ife (.or (.cmp .is (.var 18) (.lit .non)) (.cmp .ne (.call 9 [(.var 4), (.var 18)]) (.blt 0 .min1 [(.var 16)]))) [.ret (.lit (.bl false))] [], .set [] 19 (.call 10 [(.var 3), (.var 5), (.var 7), (.sub (.var 16) (.lit (.int 0))), (.sub (.var 8) (.lit (.int 18)))]), .ife (.cmp .is (.call 8 [(.var 4), (.var 3), (.var 5), (.var 19), (.var 10), (.var 9)]) (.lit .non)) [.ret (.lit (.bl false))] []] [], .ife (.not (.truth (.call 11 [(.var 4), (.var 3), (.var 5), (.var 11), (.var 7), (.var 10), (.var 9)]))) [.ret (.lit (.bl false))] [], .ret (.and (.call 12 [(.var 11), (.var 4), (.var 7), (.var 10), (.sli 0 (.var 8) (some (.lit (.int 19))) none)]) (.call 13 [(.var 4), (.var 3)]))]⟩
def f1_293 : List S := [.set [] 4 (.bin false .mod (.blt 0 .int [(.bin false .add (.bin false .add (.bin false .mul (.var 4) (.lit (.int 48271))) (.bin false .mul (.lit (.int 974711)) (.var 5))) (.lit (.int 12345)))]) (.lit (.int 2147483647))), .set [] 6 (.bin false .mod (.blt 0 .int [(.bin false .mul (.var 4) (.bin false .add (.bin false .fdiv (.var 4) (.lit (.int 65537))) (.lit (.int 3))))]) (.lit (.int 2147483629))), .ife (.cmp .gt (.var 3) (.lit (.int 0))) [.expr (.mth .append (.var 2) [(.bin false .mod (.blt 0 .int [(.var 3)]) (.sub (.var 1) (.var 5)))]), .set [] 3 (.bin false .fdiv (.var 3) (.sub (.var 1) (.var 5)))] [.expr (.mth .append (.var 2) [(.bin false .mod (.blt 0 .int [(.bin false .fdiv (.var 6) (.lit (.int 19)))]) (.sub (.var 1) (.var 5)))])]]
/-- _law_digits -/
def f1 : Fd := ⟨2, 7, [.set [] 2 (.lst 1 []), .set [] 3 (.lit (.int 0)), .ife (.cmp .ge (.var 0) (.bin false .pow (.lit (.int 10)) (.lit (.int 18)))) [.set [] 3 (.bin false .mod (.blt 0 .int [(.bin false .sub (.var 0) (.bin false .pow (.lit (.int 10)) (.lit (.int 18))))]) (.bin false .mul (.bin false .mul (.bin false .mul (.bin false .pow (.lit (.int 10)) (.lit (.int 64))) (.bin false .pow (.lit (.int 10)) (.lit (.int 64)))) (.bin false .pow (.lit (.int 10)) (.lit (.int 64)))) (.bin false .pow (.lit (.int 10)) (.lit (.int 64)))))] [], .set [] 4 (.bin false .mod (.blt 0 .int [(.var 0)]) (.lit (.int 2147483629))), .for (.var 5) (.range (.lit (.int 0)) (.blt 0 .len [(.var 1)])) f1_293, .ret (.var 2)]⟩
def f2_284 : List S := [.set [] 2 (.bin false .mod (.blt 0 .int [(.bin false .add (.bin false .mul (.var 2) (.lit (.int 31))) (.bin false .mod (.blt 0 .int [(.var 3)]) (.lit (.int 1000003))))]) (.lit (.int 1000003)))]
/-- _law_cell -/
def f2 : Fd := ⟨2, 4, [.ife (.cmp .lt (.var 1) (.blt 0 .len [(.var 0)])) [.ret (.sub (.var 0) (.var 1))] [], .set [] 2 (.lit (.int 17)), .for (.var 3) (.val (.var 0)) f2_284, .ret (.bin false .mod (.blt 0 .int [(.bin false .mul (.bin false .mul (.bin false .add (.var 2) (.lit (.int 7))) (.bin false .add (.var 1) (.lit (.int 3)))) (.lit (.int 69621)))]) (.lit (.int 2147483647)))]⟩
def f3_385 : List S := [.set [] 7 (.call 1 [(.call 2 [(.var 0), (.bin false .add (.var 1) (.var 6))]), (.bin false .add (.lst 0 [(.lit (.int 8))]) (.call 14 [(.var 3)]))]), .set [] 8 (.call 15 [(.sli 0 (.var 7) (some (.lit (.int 1))) none), (.var 3)]), .ife (.cmp .gt (.sub (.var 7) (.lit (.int 0))) (.lit (.int 0))) [.set [] 8 (.call 16 [(.var 8)])] [], .expr (.mth .append (.var 5) [(.var 8)])]
/-- _law_office -/
def f3 : Fd := ⟨5, 11, [.set [] 5 (.lst 1 []), .for (.var 6) (.range (.lit (.int 0)) (.var 2)) f3_385, .set [] 7 (.call 1 [(.call 2 [(.var 0), (.bin false .add (.var 1) (.var 2))]), (.call 17 [(.var 4), (.var 2)])]), .ife (.and (.cmp .eq (.sub (.var 7) (.lit (.int 2))) (.lit (.int 0))) (.cmp .gt (.var 2) (.lit (.int 1)))) [.item (.var 5) (.lit (.int 1)) (.sub (.var 5) (.lit (.int 0)))] [], .ife (.and (.chain .lt .lt (.lit (.int 0)) (.sub (.var 7) (.lit (.int 2))) (.lit (.int 5))) (.cmp .gt (.var 2) (.lit (.int 1)))) [.set [] 9 (.sub (.var 5) (.bin false .mod (.blt 0 .int [(.sub (.var 7) (.lit (.int 2)))]) (.lit (.int 2)))), .item (.var 5) (.bin false .mod (.blt 0 .int [(.sub (.var 7) (.lit (.int 2)))]) (.lit (.int 2))) (.lst 0 [(.lc 0 (.lit (.int 9)) (.var 10) (.val (.sub (.var 9) (.lit (.int 0)))) [10] none), (.sub (.var 9) (.lit (.int 1))), (.sub (.var 9) (.lit (.int 2)))])] [], .ret (.lst 0 [(.var 5), (.call 18 [(.var 7), (.var 4), (.var 5)])])]⟩
def f4_400 : List S := [.set [] 6 (.lst 2 [(.blt 1 .list [(.sub (.var 2) (.lit (.int 0)))]), (.lc 1 (.lst 0 [(.sub (.var 8) (.lit (.int 0))), (.sub (.var 8) (.lit (.int 1))), (.sub (.var 8) (.lit (.int 2)))]) (.var 8) (.val (.sub (.var 2) (.lit (.int 1)))) [8] none), (.blt 1 .list [(.sub (.var 2) (.lit (.int 2)))])]), .expr (.mth .append (.var 1) [(.new 0 [(.sub (.var 6) (.lit (.int 0))), (.sub (.var 6) (.lit (.int 1))), (.sub (.var 6) (.lit (.int 2)))])]), .expr (.mth .append (.sub (.var 6) (.lit (.int 0))) [(.lit (.int 1))]), .expr (.mth .append (.sub (.var 6) (.lit (.int 1))) [(.lst 0 [(.lit (.int 0)), (.lit (.int 0)), (.lit (.int 0))])]), .expr (.mth .append (.sub (.var 6) (.lit (.int 2))) [(.lit (.int 0))])]
def f4_407 : List S := [.set [] 7 (.blt 1 .list [(.sub (.var 4) (.lit (.int 0)))]), .expr (.mth .append (.var 3) [(.new 1 [(.var 7), (.sub (.var 4) (.lit (.int 1))), (.sub (.var 4) (.lit (.int 2)))])]), .expr (.mth .append (.var 7) [(.lit (.int 0))])]
/-- _law_make -/
def f4 : Fd := ⟨1, 9, [.set [] 1 (.lst 1 []), .for (.var 2) (.val (.sub (.var 0) (.lit (.int 0)))) f4_400, .set [] 3 (.lst 1 []), .for (.var 4) (.val (.sub (.var 0) (.lit (.int 1)))) f4_407, .set [] 1 (.lc 1 (.sub (.var 1) (.mth .index (.sub (.var 0) (.lit (.int 0))) [(.var 2)])) (.var 2) (.val (.sub (.var 0) (.lit (.int 0)))) [2] none), .set [] 3 (.lc 1 (.sub (.var 3) (.mth .index (.sub (.var 0) (.lit (.int 1))) [(.var 4)])) (.var 4) (.val (.sub (.var 0) (.lit (.int 1)))) [4] none), .set [] 5 (.new 2 [(.var 1), (.var 3)]), .expr (.mth .append (.var 1) [(.lit .non)]), .expr (.mth .append (.var 3) [(.lit .non)]), .ret (.var 5)]⟩
def f5_450 : List S := [.expr (.mth .append (.var 4) [(.ite (.cmp .isin (.var 5) (.var 3)) (.call 27 [(.sub (.sub (.var 0) (.lit (.int 0))) (.var 2)), (.var 5)]) (.lst 0 []))])]
def f5_447 : List S := [.set [] 3 (.lc 0 (.sub (.sub (.var 6) (.lit (.int 0))) (.var 2)) (.var 6) (.val (.sub (.var 0) (.lit (.int 1)))) [6] none), .set [] 4 (.lst 1 []), .for (.var 5) (.range (.lit (.int 0)) (.blt 0 .len [(.sub (.sub (.sub (.var 0) (.lit (.int 0))) (.var 2)) (.lit (.int 0)))])) f5_450, .expr (.mth .append (.var 1) [(.var 4)])]
/-- _law_all_ways -/
def f5 : Fd := ⟨1, 7, [.set [] 1 (.lst 1 []), .for (.var 2) (.range (.lit (.int 0)) (.blt 0 .len [(.sub (.var 0) (.lit (.int 0)))])) f5_447, .ret (.var 1)]⟩
def f6_488 : List S := [.set [] 9 (.sli 0 (.var 4) (some (.bin false .add (.bin false .mul (.lit (.int 16)) (.var 6)) (.bin false .mul (.lit (.int 2)) (.var 8)))) (some (.bin false .add (.bin false .add (.bin false .mul (.lit (.int 16)) (.var 6)) (.bin false .mul (.lit (.int 2)) (.var 8))) (.lit (.int 2))))), .set [] 10 (.blt 0 .int [(.cmp .eq (.sub (.var 9) (.lit (.int 1))) (.lit (.int 0)))]), .expr (.mth .append (.var 7) [(.sub (.lst 0 [(.sub (.var 9) (.lit (.int 0))), (.bin false .fdiv (.sub (.var 9) (.lit (.int 0))) (.lit (.int 12))), (.bin false .mul (.bin false .mod (.blt 0 .int [(.sub (.var 9) (.lit (.int 0)))]) (.lit (.int 10))) (.blt 0 .int [(.cmp .lt (.sub (.var 9) (.lit (.int 1))) (.lit (.int 3)))])), (.bin false .mul (.bin false .fdiv (.sub (.var 9) (.lit (.int 0))) (.lit (.int 4))) (.var 10)), (.bin false .add (.bin false .fdiv (.sub (.var 9) (.lit (.int 0))) (.lit (.int 20))) (.bin false .mul (.var 3) (.var 10))), (.bin false .mod (.blt 0 .int [(.sub (.var 9) (.lit (.int 0)))]) (.lit (.int 3))), (.bin false .fdiv (.sub (.var 9) (.lit (.int 0))) (.lit (.int 25))), (.lit (.int 0))]) (.var 2))])]
def f6_486 : List S := [.set [] 7 (.lst 1 []), .for (.var 8) (.range (.lit (.int 0)) (.blt 0 .len [(.sub (.sub (.sub (.var 0) (.lit (.int 0))) (.var 6)) (.lit (.int 0)))])) f6_488, .expr (.mth .append (.var 5) [(.var 7)])]
/-- _law_drawn_tolls -/
def f6 : Fd := ⟨4, 11, [.set [] 4 (.call 1 [(.var 1), (.bin false .mul (.lst 0 [(.lit (.int 100)), (.lit (.int 6))]) (.lit (.int 24)))]), .set [] 5 (.lst 1 []), .for (.var 6) (.range (.lit (.int 0)) (.blt 0 .len [(.sub (.var 0) (.lit (.int 0)))])) f6_486, .ret (.var 5)]⟩
def f7_460 : List S := [.set [] 10 (.lc 0 (.call 28 [(.var 11), (.sub (.var 2) (.var 4))]) (.var 11) (.val (.var 8)) [11] none), .expr (.mth .append (.var 7) [(.ite (.cmp .gt (.blt 0 .len [(.var 10)]) (.lit (.int 0))) (.blt 0 .min1 [(.var 10)]) (.lit .non))])]
def f7_458 : List S := [.set [] 7 (.lst 1 []), .for (.var 8) (.val (.sub (.var 1) (.var 4))) f7_460, .expr (.mth .append (.var 3) [(.var 7)])]
def f7_465 : List S := [.set [] 9 (.lc 0 (.sub (.sub (.var 3) (.var 4)) (.sub (.sub (.var 6) (.lit (.int 0))) (.var 4))) (.var 4) (.range (.lit (.int 0)) (.blt 0 .len [(.var 3)])) [4] none), .expr (.mth .append (.var 5) [(.ite (.cmp .isin (.lit .non) (.var 9)) (.lit (.int 0)) (.blt 0 .max2 [(.lit (.int 0)), (.bin false .sub (.sub (.var 6) (.lit (.int 1))) (.blt 0 .sum [(.var 9)]))]))])]
/-- _law_dues -/
def f7 : Fd := ⟨3, 12, [.set [] 3 (.lst 1 []), .for (.var 4) (.range (.lit (.int 0)) (.blt 0 .len [(.sub (.var 0) (.lit (.int 0)))])) f7_458, .set [] 5 (.lst 1 []), .for (.var 6) (.val (.sub (.var 0) (.lit (.int 1)))) f7_465, .ret (.var 5)]⟩
def f8_513 : List S := [.set [] 11 (.sub (.sub (.var 6) (.lit (.int 0))) (.var 9)), .item (.var 11) (.lit (.int 0)) (.bin false .add (.sub (.var 11) (.lit (.int 0))) (.lit (.int 1)))]
def f8_520 : List S := [.ife (.not (.truth (.call 32 [(.call 33 [(.var 0), (.var 7), (.var 10)]), (.call 34 [(.var 1), (.var 3), (.var 4), (.var 10)])]))) [.ret (.lit .non)] []]
/-- _law_asked -/
def f8 : Fd := ⟨6, 12, [.set [] 6 (.lst 2 [(.lc 2 (.blt 1 .list [(.var 11)]) (.var 11) (.val (.var 3)) [11] none), (.blt 1 .list [(.var 4)])]), .set [] 7 (.new 3 [(.sub (.var 6) (.lit (.int 0))), (.sub (.var 6) (.lit (.int 1)))]), .set [] 8 (.call 31 [(.var 1), (.var 2), (.var 3), (.var 4)]), .ife (.not (.truth (.call 32 [(.call 9 [(.var 0), (.var 7)]), (.var 8)]))) [.ret (.lit .non)] [], .for (.var 9) (.range (.lit (.int 0)) (.blt 0 .len [(.var 3)])) f8_513, .expr (.mth .append (.sub (.var 6) (.lit (.int 0))) [(.lst 0 [(.lit (.int 0))])]), .expr (.mth .append (.sub (.var 6) (.lit (.int 1))) [(.lit (.int 1))]), .ife (.or (.not (.truth (.call 32 [(.attr (.var 7) 7), (.blt 0 .tuple [(.lc 0 (.blt 0 .tuple [(.var 11)]) (.var 11) (.val (.var 3)) [11] none)])]))) (.not (.truth (.call 32 [(.attr (.var 7) 8), (.blt 0 .tuple [(.var 4)])])))) [.ret (.lit .non)] [], .for (.var 10) (.val (.var 5)) f8_520, .ife (.not (.truth (.call 32 [(.call 9 [(.var 0), (.var 7)]), (.var 8)]))) [.ret (.lit .non)] [], .ret (.var 7)]⟩
def f9_36 : List S := [.ife (.and (.cmp .isnot (.var 3) (.lit .non)) (.cmp .gt (.attr (.sub (.attr (.var 0) 10) (.var 2)) 9) (.bin false .add (.var 3) (.sub (.attr (.var 1) 8) (.var 2))))) [.ret (.var 2)] []]
/-- toll_fault -/
def f9 : Fd := ⟨2, 4, [.for (.tup [2, 3]) (.enum (.call 35 [(.var 0), (.var 1)])) f9_36, .ret (.lit .non)]⟩
def f10_496 : List S := [.set [] 7 (.bin false .mod (.blt 0 .int [(.bin false .add (.var 6) (.var 4))]) (.blt 0 .len [(.var 2)])), .set [] 8 (.sub (.sub (.var 1) (.var 7)) (.sub (.sub (.sub (.sub (.var 0) (.lit (.int 1))) (.var 3)) (.lit (.int 0))) (.var 7))), .set [] 9 (.lc 0 (.call 28 [(.var 13), (.sub (.var 2) (.var 7))]) (.var 13) (.val (.var 8)) [13] none), .set [] 10 (.lc 0 (.var 12) (.var 12) (.val (.sub (.sub (.var 8) (.mth .index (.var 9) [(.blt 0 .min1 [(.var 9)])])) (.lit (.int 1)))) [12] (some (.cmp .gt (.sub (.sub (.var 2) (.var 7)) (.var 12)) (.lit (.int 0))))), .ife (.cmp .gt (.blt 0 .len [(.var 10)]) (.lit (.int 0))) [.set [] 12 (.sub (.var 10) (.bin false .mod (.blt 0 .int [(.var 4)]) (.blt 0 .len [(.var 10)]))), .set [] 11 (.sub (.var 5) (.var 7)), .item (.var 11) (.var 12) (.bin false .sub (.sub (.var 11) (.var 12)) (.lit (.int 1))), .brk] []]
/-- _law_cheaper -/
def f10 : Fd := ⟨5, 14, [.set [] 5 (.lc 2 (.blt 1 .list [(.var 11)]) (.var 11) (.val (.var 2)) [11] none), .for (.var 6) (.range (.lit (.int 0)) (.blt 0 .len [(.var 2)])) f10_496, .ret (.var 5)]⟩
def f11_595 : List S := [.ife (.not (.truth (.call 32 [(.call 33 [(.sub (.var 9) (.var 10)), (.var 3), (.var 12)]), (.call 34 [(.var 11), (.var 4), (.var 5), (.var 12)])]))) [.ret (.lit (.bl false))] [], .ife (.not (.truth (.call 32 [(.call 33 [(.var 0), (.var 3), (.var 12)]), (.call 34 [(.var 1), (.var 4), (.var 5), (.var 12)])]))) [.ret (.lit (.bl false))] []]
def f11_591 : List S := [.set [] 11 (.sub (.lst 0 [(.var 7), (.var 8)]) (.var 10)), .ife (.not (.truth (.call 32 [(.call 9 [(.sub (.var 9) (.var 10)), (.var 3)]), (.call 31 [(.var 11), (.var 2), (.var 4), (.var 5)])]))) [.ret (.lit (.bl false))] [], .for (.var 12) (.val (.var 6)) f11_595]
/-- _law_other_office -/
def f11 : Fd := ⟨7, 16, [.set [] 7 (.lst 0 [(.sub (.var 1) (.lit (.int 0))), (.lc 0 (.lst 0 [(.sub (.var 13) (.lit (.int 0))), (.lit (.int 99)), (.bin false .sub (.lit (.int 4)) (.sub (.var 13) (.lit (.int 2))))]) (.var 13) (.val (.sub (.var 1) (.lit (.int 1)))) [13] none)]), .set [] 8 (.lst 0 [(.lc 0 (.lst 0 [(.lc 0 (.bin false .sub (.lit (.int 10)) (.var 15)) (.var 15) (.val (.sub (.var 14) (.lit (.int 0)))) [15] none), (.sub (.var 14) (.lit (.int 1))), (.sub (.var 14) (.lit (.int 2)))]) (.var 14) (.val (.sub (.var 1) (.lit (.int 0)))) [14] none), (.sub (.var 1) (.lit (.int 1)))]), .set [] 9 (.lst 0 [(.new 2 [(.attr (.var 0) 11), (.attr (.call 4 [(.var 7)]) 10)]), (.new 2 [(.attr (.call 4 [(.var 8)]) 11), (.attr (.var 0) 10)])]), .for (.var 10) (.range (.lit (.int 0)) (.lit (.int 2))) f11_591, .ret (.cmp .is (.call 9 [(.var 0), (.var 3)]) (.lit .non))]⟩
/-- _law_equals -/
def f12 : Fd := ⟨5, 14, [.ife (.or (.not (.truth (.call 36 [(.var 0), (.var 2), (.var 3)]))) (.not (.truth (.call 37 [(.var 0), (.var 2), (.var 3)])))) [.ret (.lit (.bl false))] [], .ife (.or (.cmp .isnot (.cmp .eq (.var 0) (.var 1)) (.lit (.bl false))) (.cmp .isnot (.cmp .eq (.var 0) (.tup [(.attr (.var 0) 7), (.attr (.var 0) 8)])) (.lit (.bl false)))) [.ret (.lit (.bl false))] [], .set [] 5 (.bin false .mod (.blt 0 .int [(.sub (.var 4) (.lit (.int 0)))]) (.blt 0 .len [(.var 2)])), .set [] 6 (.bin false .mod (.blt 0 .int [(.sub (.var 4) (.lit (.int 1)))]) (.blt 0 .len [(.sub (.var 2) (.var 5))])), .set [] 7 (.lc 2 (.blt 1 .list [(.var 8)]) (.var 8) (.val (.var 2)) [8] none), .set [] 8 (.sub (.var 7) (.var 5)), .item (.var 8) (.var 6) (.bin false .add (.sub (.var 8) (.var 6)) (.lit (.int 1))), .set [] 9 (.new 3 [(.lc 0 (.blt 0 .list [(.var 13)]) (.var 13) (.val (.var 7)) [13] none), (.blt 0 .list [(.var 3)])]), .ife (.or (.cmp .isnot (.cmp .eq (.var 0) (.var 9)) (.lit (.bl false))) (.cmp .isnot (.cmp .eq (.var 9) (.var 0)) (.lit (.bl false)))) [.ret (.lit (.bl false))] [], .ife (.and (.cmp .lt (.blt 0 .len [(.var 2)]) (.lit (.int 3))) (.cmp .isnot (.cmp .eq (.var 0) (.new 3 [(.bin false .add (.var 2) (.lst 0 [(.lst 0 [(.lit (.int 0))])])), (.blt 0 .list [(.var 3)])])) (.lit (.bl false)))) [.ret (.lit (.bl false))] [], .ife (.and (.cmp .lt (.blt 0 .len [(.var 3)]) (.lit (.int 8))) (.cmp .isnot (.cmp .eq (.new 3 [(.blt 0 .list [(.var 2)]), (.bin false .add (.var 3) (.lst 0 [(.lit (.int 0))]))]) (.var 0)) (.lit (.bl false)))) [.ret (.lit (.bl false))] [], .ife (.cmp .gt (.blt 0 .len [(.var 3)]) (.lit (.int 0))) [.set [] 10 (.blt 1 .list [(.var 3)]), .set [] 11 (.bin false .mod (.blt 0 .int [(.sub (.var 4) (.lit (.int 2)))]) (.blt 0 .len [(.var 3)])), .item (.var 10) (.var 11) (.bin false .add (.sub (.var 10) (.var 11)) (.lit (.int 1))), .set [] 12 (.new 3 [(.blt 0 .list [(.var 2)]), (.blt 0 .list [(.var 10)])]), .ret (.and (.cmp .is (.cmp .eq (.var 0) (.var 12)) (.lit (.bl false))) (.and (.cmp .is (.cmp .eq (.var 12) (.var 0)) (.lit (.bl false))) (.cmp .is (.cmp .eq (.var 12) (.var 9)) (.lit (.bl false)))))] [], .ret (.lit (.bl true))]⟩
def f13_420 : List S := [.set [] 4 (.sub (.sub (.var 1) (.lit (.int 0))) (.var 2)), .ife (.or (.cmp .ne (.attr (.sub (.attr (.var 0) 11) (.var 2)) 12) (.blt 0 .tuple [(.sub (.var 4) (.lit (.int 0)))])) (.cmp .ne (.attr (.sub (.attr (.var 0) 11) (.var 2)) 13) (.blt 0 .tuple [(.sub (.var 4) (.lit (.int 2)))]))) [.ret (.lit (.bl false))] [], .ife (.cmp .ne (.attr (.sub (.attr (.var 0) 11) (.var 2)) 14) (.blt 0 .tuple [(.lc 0 (.tup [(.sub (.var 6) (.lit (.int 0))), (.sub (.var 6) (.lit (.int 1))), (.sub (.var 6) (.lit (.int 2)))]) (.var 6) (.val (.sub (.var 4) (.lit (.int 1)))) [6] none)])) [.ret (.lit (.bl false))] []]
def f13_426 : List S := [.set [] 5 (.sub (.sub (.var 1) (.lit (.int 1))) (.var 3)), .ife (.or (.cmp .ne (.attr (.sub (.attr (.var 0) 10) (.var 3)) 15) (.blt 0 .tuple [(.sub (.var 5) (.lit (.int 0)))])) (.or (.cmp .ne (.attr (.sub (.attr (.var 0) 10) (.var 3)) 9) (.sub (.var 5) (.lit (.int 1)))) (.cmp .ne (.attr (.sub (.attr (.var 0) 10) (.var 3)) 16) (.sub (.var 5) (.lit (.int 2)))))) [.ret (.lit (.bl false))] []]
/-- _law_stayed -/
def f13 : Fd := ⟨2, 7, [.ife (.or (.cmp .ne (.blt 0 .len [(.attr (.var 0) 11)]) (.blt 0 .len [(.sub (.var 1) (.lit (.int 0)))])) (.cmp .ne (.blt 0 .len [(.attr (.var 0) 10)]) (.blt 0 .len [(.sub (.var 1) (.lit (.int 1)))]))) [.ret (.lit (.bl false))] [], .for (.var 2) (.range (.lit (.int 0)) (.blt 0 .len [(.sub (.var 1) (.lit (.int 0)))])) f13_420, .for (.var 3) (.range (.lit (.int 0)) (.blt 0 .len [(.sub (.var 1) (.lit (.int 1)))])) f13_426, .ret (.lit (.bl true))]⟩
/-- _law_net_sizes -/
def f14 : Fd := ⟨1, 1, [.ret (.bin false .add (.bin false .add (.bin false .add (.lst 0 [(.lit (.int 8)), (.lit (.int 8))]) (.bin false .mul (.lst 0 [(.lit (.int 9)), (.lit (.int 6)), (.lit (.int 100))]) (.var 0))) (.bin false .mul (.lst 0 [(.lit (.int 100)), (.lit (.int 5))]) (.bin false .mul (.var 0) (.var 0)))) (.lst 0 [(.lit (.int 8))]))]⟩
def f15_323 : List S := [.set [] 13 (.sli 0 (.var 0) (some (.bin false .add (.lit (.int 2)) (.bin false .mul (.lit (.int 3)) (.var 9)))) (some (.bin false .add (.lit (.int 5)) (.bin false .mul (.lit (.int 3)) (.var 9))))), .set [] 14 (.sub (.lst 0 [(.sub (.lst 0 [(.lit (.int 1)), (.lit (.int 1)), (.lit (.int 1)), (.lit (.int 2)), (.lit (.int 1)), (.lit (.int 2)), (.lit (.int 3)), (.lit (.int 1)), (.lit (.int 2))]) (.sub (.var 13) (.lit (.int 0)))), (.bin false .add (.lit (.int 1)) (.sub (.var 13) (.lit (.int 0))))]) (.blt 0 .int [(.cmp .eq (.sub (.var 0) (.lit (.int 1))) (.lit (.int 0)))])), .expr (.mth .append (.var 7) [(.sub (.lst 0 [(.var 14), (.sub (.lst 0 [(.lit (.int 9)), (.bin false .add (.lit (.int 1)) (.bin false .fdiv (.sub (.var 13) (.lit (.int 0))) (.lit (.int 8))))]) (.blt 0 .int [(.chain .le .lt (.var 6) (.var 9) (.bin false .sub (.var 3) (.lit (.int 1))))]))]) (.blt 0 .int [(.var 4)]))]), .ife (.or (.and (.cmp .eq (.sub (.var 13) (.lit (.int 1))) (.lit (.int 0))) (.and (.not (.truth (.var 4))) (.not (.truth (.var 5))))) (.and (.cmp .eq (.var 9) (.bin false .sub (.var 3) (.lit (.int 1)))) (.cmp .lt (.sub (.var 13) (.lit (.int 2))) (.lit (.int 94))))) [.expr (.mth .append (.var 8) [(.var 9)])] []]
def f15_332 : List S := [.set [] 13 (.sli 0 (.var 0) (some (.bin false .add (.var 11) (.bin false .mul (.lit (.int 2)) (.bin false .add (.bin false .mul (.var 12) (.var 1)) (.var 15))))) (some (.bin false .add (.bin false .add (.var 11) (.bin false .mul (.lit (.int 2)) (.bin false .add (.bin false .mul (.var 12) (.var 1)) (.var 15)))) (.lit (.int 2))))), .set [] 16 (.cmp .lt (.sub (.var 13) (.lit (.int 1))) (.lit (.int 2))), .ife (.truth (.var 4)) [.set [] 16 (.or (.and (.chain3 .lt .le .lt (.var 12) (.var 6) (.var 15) (.bin false .sub (.var 3) (.lit (.int 1)))) (.cmp .lt (.sub (.var 13) (.lit (.int 1))) (.lit (.int 4)))) (.and (.cmp .ge (.var 12) (.var 6)) (.or (.cmp .eq (.var 15) (.bin false .sub (.var 3) (.lit (.int 1)))) (.and (.cmp .lt (.var 12) (.var 15)) (.cmp .eq (.sub (.var 13) (.lit (.int 1))) (.lit (.int 0)))))))] [], .ife (.truth (.var 5)) [.set [] 16 (.or (.cmp .eq (.var 15) (.bin false .add (.var 12) (.lit (.int 1)))) (.and (.cmp .lt (.var 15) (.var 12)) (.cmp .lt (.sub (.var 13) (.lit (.int 1))) (.lit (.int 2)))))] [], .ife (.and (.cmp .ne (.var 12) (.var 15)) (.and (.cmp .notin (.var 12) (.var 8)) (.truth (.var 16)))) [.set [] 17 (.bin false .mod (.blt 0 .int [(.sub (.var 13) (.lit (.int 0)))]) (.lit (.int 13))), .expr (.mth .append (.var 10) [(.tup [(.var 12), (.var 15), (.sub (.lst 0 [(.sub (.var 13) (.lit (.int 0))), (.bin false .mod (.blt 0 .int [(.sub (.var 13) (.lit (.int 0)))]) (.lit (.int 4))), (.var 17), (.bin false .fdiv (.sub (.var 13) (.lit (.int 0))) (.lit (.int 3))), (.var 17), (.bin false .fdiv (.sub (.var 13) (.lit (.int 0))) (.lit (.int 5))), (.bin false .mul (.lit (.int 2)) (.var 17)), (.lit (.int 0))]) (.sub (.var 0) (.lit (.int 1))))])])] []]
def f15_331 : List S := [.for (.var 15) (.range (.lit (.int 0)) (.var 3)) f15_332]
/-- _law_net -/
def f15 : Fd := ⟨2, 18, [.set [] 2 (.sub (.var 0) (.bin false .sub (.blt 0 .len [(.var 0)]) (.lit (.int 1)))), .set [] 3 (.blt 0 .max2 [(.lit (.int 1)), (.bin false .sub (.var 1) (.sub (.lst 0 [(.lit (.int 0)), (.lit (.int 1)), (.lit (.int 0)), (.lit (.int 1)), (.lit (.int 0)), (.lit (.int 2)), (.lit (.int 0)), (.var 2)]) (.sub (.var 0) (.lit (.int 0)))))]), .set [] 4 (.and (.cmp .lt (.sub (.var 0) (.lit (.int 0))) (.lit (.int 7))) (.and (.cmp .lt (.var 2) (.lit (.int 3))) (.cmp .gt (.var 3) (.lit (.int 2))))), .set [] 5 (.and (.cmp .lt (.sub (.var 0) (.lit (.int 0))) (.lit (.int 7))) (.chain .lt .lt (.lit (.int 2)) (.var 2) (.lit (.int 5)))), .set [] 6 (.bin false .sub (.bin false .sub (.var 3) (.lit (.int 1))) (.blt 0 .min2 [(.bin false .sub (.var 3) (.lit (.int 2))), (.sub (.lst 0 [(.lit (.int 3)), (.lit (.int 2)), (.lit (.int 4)), (.lit (.int 1)), (.lit (.int 1)), (.lit (.int 1)), (.lit (.int 1)), (.lit (.int 1))]) (.var 2))])), .set [] 7 (.lst 1 []), .set [] 8 (.lst 1 []), .for (.var 9) (.range (.lit (.int 0)) (.var 3)) f15_323, .set [] 10 (.lst 1 []), .set [] 11 (.bin false .add (.lit (.int 2)) (.bin false .mul (.lit (.int 3)) (.var 1))), .for (.var 12) (.range (.lit (.int 0)) (.var 3)) f15_331, .ret (.lst 0 [(.var 7), (.var 10), (.var 8)])]⟩
def f16_357 : List S := [.ife (.not (.truth (.sub (.var 3) (.var 4)))) [.set [] 2 (.lc 1 (.var 5) (.var 5) (.val (.var 2)) [5] (some (.or (.cmp .ne (.sub (.var 5) (.lit (.int 0))) (.var 4)) (.cmp .ne (.sub (.var 5) (.lit (.int 1))) (.sub (.var 1) (.bin false .sub (.blt 0 .len [(.var 1)]) (.lit (.int 1)))))))), .expr (.mth .append (.var 2) [(.tup [(.var 4), (.sub (.var 1) (.bin false .sub (.blt 0 .len [(.var 1)]) (.lit (.int 1)))), (.lit (.int 0))])])] []]
/-- _law_mended -/
def f16 : Fd := ⟨1, 6, [.set [] 1 (.blt 1 .list [(.sub (.var 0) (.lit (.int 2)))]), .set [] 2 (.blt 1 .list [(.sub (.var 0) (.lit (.int 1)))]), .ife (.cmp .eq (.blt 0 .len [(.var 1)]) (.lit (.int 0))) [.expr (.mth .append (.var 1) [(.bin false .sub (.blt 0 .len [(.sub (.var 0) (.lit (.int 0)))]) (.lit (.int 1)))]), .set [] 2 (.lc 1 (.var 5) (.var 5) (.val (.var 2)) [5] (some (.cmp .ne (.sub (.var 5) (.lit (.int 0))) (.bin false .sub (.blt 0 .len [(.sub (.var 0) (.lit (.int 0)))]) (.lit (.int 1))))))] [], .set [] 3 (.call 38 [(.lst 0 [(.sub (.var 0) (.lit (.int 0))), (.var 2), (.var 1)]), (.lst 0 [])]), .for (.var 4) (.range (.lit (.int 0)) (.blt 0 .len [(.sub (.var 0) (.lit (.int 0)))])) f16_357, .ret (.lst 0 [(.blt 0 .list [(.sub (.var 0) (.lit (.int 0)))]), (.blt 0 .sorted [(.var 2)]), (.blt 0 .sorted [(.var 1)])])]⟩
/-- _law_parcel_sizes -/
def f17 : Fd := ⟨2, 2, [.ret (.bin false .add (.lst 0 [(.bin false .add (.var 0) (.lit (.int 2))), (.lit (.int 4)), (.lit (.int 9)), (.lit (.int 6))]) (.bin false .mul (.bin false .add (.lst 0 [(.lit (.int 100)), (.lit (.int 6))]) (.bin false .mul (.lst 0 [(.lit (.int 9)), (.lit (.int 3))]) (.var 1))) (.var 0)))]⟩
def f18_372 : List S := [.set [] 11 (.bin false .mod (.blt 0 .int [(.sub (.lst 0 [(.sub (.var 6) (.bin false .add (.lit (.int 2)) (.bin false .mul (.lit (.int 2)) (.var 8)))), (.bin false .fdiv (.sub (.var 6) (.bin false .add (.lit (.int 2)) (.bin false .mul (.lit (.int 2)) (.var 8)))) (.lit (.int 4)))]) (.blt 0 .int [(.cmp .eq (.sub (.var 6) (.bin false .add (.lit (.int 3)) (.bin false .mul (.lit (.int 2)) (.var 8)))) (.lit (.int 1)))]))]) (.blt 0 .len [(.sub (.sub (.var 2) (.var 8)) (.lit (.int 0)))])), .ife (.and (.cmp .eq (.sub (.var 6) (.bin false .add (.lit (.int 3)) (.bin false .mul (.lit (.int 2)) (.var 8)))) (.lit (.int 0))) (.cmp .gt (.var 5) (.lit (.int 0)))) [.set [] 11 (.sub (.sub (.sub (.var 4) (.bin false .sub (.var 5) (.lit (.int 1)))) (.lit (.int 0))) (.var 8))] [], .expr (.mth .append (.var 7) [(.var 11)])]
def f18_369 : List S := [.set [] 6 (.sli 0 (.var 0) (some (.bin false .add (.lit (.int 4)) (.bin false .mul (.bin false .add (.lit (.int 2)) (.bin false .mul (.lit (.int 2)) (.blt 0 .len [(.var 2)]))) (.var 5)))) (some (.bin false .add (.lit (.int 4)) (.bin false .mul (.bin false .add (.lit (.int 2)) (.bin false .mul (.lit (.int 2)) (.blt 0 .len [(.var 2)]))) (.bin false .add (.var 5) (.lit (.int 1))))))), .set [] 7 (.lst 1 []), .for (.var 8) (.range (.lit (.int 0)) (.blt 0 .len [(.var 2)])) f18_372, .set [] 9 (.sub (.lst 0 [(.sub (.lst 0 [(.lit (.int 1)), (.lit (.int 2)), (.lit (.int 1)), (.lit (.int 2)), (.lit (.int 1)), (.lit (.int 3))]) (.sub (.var 6) (.lit (.int 1)))), (.bin false .add (.lit (.int 1)) (.blt 0 .int [(.cmp .eq (.sub (.var 6) (.lit (.int 1))) (.lit (.int 5)))]))]) (.blt 0 .int [(.cmp .gt (.sub (.var 0) (.lit (.int 1))) (.lit (.int 1)))])), .set [] 10 (.sub (.lst 0 [(.sub (.var 6) (.lit (.int 0))), (.sub (.var 6) (.lit (.int 0))), (.bin false .add (.lit (.int 50)) (.bin false .fdiv (.sub (.var 6) (.lit (.int 0))) (.lit (.int 2)))), (.bin false .add (.lit (.int 20)) (.bin false .fdiv (.sub (.var 6) (.lit (.int 0))) (.lit (.int 4)))), (.bin false .add (.lit (.int 30)) (.bin false .mod (.blt 0 .int [(.sub (.var 6) (.lit (.int 0)))]) (.lit (.int 7)))), (.bin false .sub (.lit (.int 99)) (.bin false .fdiv (.sub (.var 6) (.lit (.int 0))) (.lit (.int 9))))]) (.sub (.var 0) (.lit (.int 3)))), .expr (.mth .append (.var 4) [(.lst 0 [(.var 7), (.var 10), (.var 9)])]), .ife (.and (.cmp .gt (.sub (.var 0) (.lit (.int 2))) (.lit (.int 6))) (.cmp .gt (.var 5) (.lit (.int 1)))) [.item (.var 4) (.var 5) (.lst 0 [(.blt 0 .list [(.sub (.sub (.var 4) (.bin false .sub (.var 5) (.lit (.int 2)))) (.lit (.int 0)))]), (.sub (.sub (.var 4) (.bin false .sub (.var 5) (.lit (.int 2)))) (.lit (.int 1))), (.sub (.sub (.var 4) (.bin false .sub (.var 5) (.lit (.int 2)))) (.lit (.int 2)))])] []]
/-- _law_parcels -/
def f18 : Fd := ⟨3, 12, [.set [] 3 (.bin false .sub (.var 1) (.bin false .mod (.blt 0 .int [(.sub (.lst 0 [(.lit (.int 0)), (.lit (.int 0)), (.lit (.int 1)), (.lit (.int 1)), (.lit (.int 2)), (.lit (.int 0)), (.lit (.int 3)), (.lit (.int 0)), (.lit (.int 1)), (.lit (.int 2))]) (.bin false .mod (.blt 0 .int [(.sub (.var 0) (.lit (.int 0)))]) (.lit (.int 10))))]) (.bin false .add (.var 1) (.lit (.int 1))))), .ife (.cmp .eq (.sub (.var 0) (.lit (.int 0))) (.bin false .add (.var 1) (.lit (.int 1)))) [.set [] 3 (.bin false .mod (.blt 0 .int [(.sub (.var 0) (.lit (.int 2)))]) (.bin false .add (.var 1) (.lit (.int 1))))] [], .set [] 4 (.lst 1 []), .for (.var 5) (.range (.lit (.int 0)) (.var 3)) f18_369, .ret (.var 4)]⟩
/-- Net.__init__ -/
def f19 : Fd := ⟨4, 4, [.attrS (.var 0) 12 (.call 39 [(.var 1)]), .attrS (.var 0) 13 (.call 40 [(.var 3), (.blt 0 .len [(.attr (.var 0) 12)])]), .attrS (.var 0) 14 (.call 41 [(.var 2), (.blt 0 .len [(.attr (.var 0) 12)]), (.attr (.var 0) 13)])]⟩
/-- Net.__len__ -/
def f20 : Fd := ⟨1, 1, [.ret (.blt 0 .len [(.attr (.var 0) 12)])]⟩
/-- Net.__eq__ -/
def f21 : Fd := ⟨2, 2, [.ife (.not (.truth (.isin (.var 1) [(.cls 0)]))) [.ret (.lit (.bl false))] [], .ret (.and (.cmp .eq (.attr (.var 0) 12) (.attr (.var 1) 12)) (.and (.cmp .eq (.attr (.var 0) 14) (.attr (.var 1) 14)) (.cmp .eq (.attr (.var 0) 13) (.attr (.var 1) 13))))]⟩
/-- Parcel.__init__ -/
def f22 : Fd := ⟨4, 4, [.expr (.call 42 [(.var 2)]), .expr (.call 43 [(.var 3)]), .attrS (.var 0) 15 (.blt 0 .tuple [(.var 1)]), .attrS (.var 0) 9 (.var 2), .attrS (.var 0) 16 (.var 3)]⟩
/-- Parcel.__eq__ -/
def f23 : Fd := ⟨2, 2, [.ife (.not (.truth (.isin (.var 1) [(.cls 1)]))) [.ret (.lit (.bl false))] [], .ret (.and (.cmp .eq (.attr (.var 0) 15) (.attr (.var 1) 15)) (.and (.cmp .eq (.attr (.var 0) 9) (.attr (.var 1) 9)) (.cmp .eq (.attr (.var 0) 16) (.attr (.var 1) 16))))]⟩
def f24_233 : List S := [.ife (.not (.truth (.call 44 [(.var 4), (.attr (.var 0) 11)]))) [.never] []]
/-- Office.__init__ -/
def f24 : Fd := ⟨3, 5, [.attrS (.var 0) 11 (.blt 0 .tuple [(.var 1)]), .attrS (.var 0) 10 (.blt 0 .tuple [(.var 2)]), .ife (.not (.chain .le .le (.lit (.int 1)) (.blt 0 .len [(.attr (.var 0) 11)]) (.lit (.int 3)))) [.never] [], .ife (.cmp .gt (.blt 0 .len [(.attr (.var 0) 10)]) (.lit (.int 8))) [.never] [], .for (.tup [3, 4]) (.enum (.attr (.var 0) 10)) f24_233]⟩
/-- Office.__len__ -/
def f25 : Fd := ⟨1, 1, [.ret (.blt 0 .len [(.attr (.var 0) 10)])]⟩
/-- Office.__eq__ -/
def f26 : Fd := ⟨2, 2, [.ife (.not (.truth (.isin (.var 1) [(.cls 2)]))) [.ret (.lit (.bl false))] [], .ret (.and (.cmp .eq (.attr (.var 0) 11) (.attr (.var 1) 11)) (.cmp .eq (.attr (.var 0) 10) (.attr (.var 1) 10)))]⟩
def f27_440 : List S := [.ife (.and (.cmp .eq (.sub (.var 8) (.lit (.int 0))) (.var 7)) (.cmp .notin (.sub (.var 8) (.lit (.int 1))) (.sub (.var 6) (.lit (.int 1))))) [.expr (.mth .append (.var 5) [(.lst 0 [(.bin false .add (.sub (.var 6) (.lit (.int 0))) (.sub (.var 8) (.lit (.int 2)))), (.bin false .add (.sub (.var 6) (.lit (.int 1))) (.lst 0 [(.sub (.var 8) (.lit (.int 1)))]))])])] []]
def f27_436 : List S := [.set [] 7 (.sub (.sub (.var 6) (.lit (.int 1))) (.bin false .sub (.blt 0 .len [(.sub (.var 6) (.lit (.int 1)))]) (.lit (.int 1)))), .ife (.cmp .isin (.var 7) (.sub (.var 0) (.lit (.int 2)))) [.expr (.mth .append (.var 2) [(.var 6)])] [], .for (.var 8) (.val (.sub (.var 0) (.lit (.int 1)))) f27_440]
def f27_434 : List S := [.set [] 5 (.lst 1 []), .for (.var 6) (.val (.var 3)) f27_436, .set [] 3 (.blt 0 .list [(.var 5)])]
/-- _law_ways -/
def f27 : Fd := ⟨2, 9, [.set [] 2 (.lst 1 []), .set [] 3 (.lst 0 [(.lst 0 [(.lit (.int 0)), (.lst 0 [(.var 1)])])]), .for (.var 4) (.range (.lit (.int 0)) (.blt 0 .len [(.sub (.var 0) (.lit (.int 0)))])) f27_434, .ret (.var 2)]⟩
/-- _law_way_cost -/
def f28 : Fd := ⟨2, 3, [.ret (.bin false .add (.sub (.var 0) (.lit (.int 0))) (.blt 0 .sum [(.lc 0 (.sub (.var 1) (.var 2)) (.var 2) (.val (.sub (.var 0) (.lit (.int 1)))) [2] none)]))]⟩
/-- Tolls.__init__ -/
def f29 : Fd := ⟨3, 3, [.attrS (.var 0) 7 (.call 45 [(.var 1)]), .attrS (.var 0) 8 (.call 45 [(.var 2)])]⟩
/-- Tolls.__eq__ -/
def f30 : Fd := ⟨2, 2, [.ret (.and (.isin (.var 1) [(.cls 3)]) (.and (.cmp .eq (.attr (.var 0) 7) (.attr (.var 1) 7)) (.cmp .eq (.attr (.var 0) 8) (.attr (.var 1) 8))))]⟩
def f31_471 : List S := [.ife (.cmp .gt (.sub (.var 4) (.var 5)) (.sub (.var 3) (.var 5))) [.ret (.var 5)] []]
/-- _law_fault -/
def f31 : Fd := ⟨4, 6, [.set [] 4 (.call 7 [(.var 0), (.var 1), (.var 2)]), .for (.var 5) (.range (.lit (.int 0)) (.blt 0 .len [(.var 4)])) f31_471, .ret (.lit .non)]⟩
def f32_308 : List S := [.ife (.not (.truth (.call 32 [(.sub (.var 0) (.var 2)), (.sub (.var 1) (.var 2))]))) [.ret (.lit (.bl false))] []]
/-- _law_same -/
def f32 : Fd := ⟨2, 3, [.ife (.cmp .is (.var 1) (.lit .non)) [.ret (.cmp .is (.var 0) (.lit .non))] [], .ife (.truth (.isin (.var 1) [.tuple])) [.ife (.or (.not (.truth (.isin (.var 0) [.tuple]))) (.cmp .ne (.blt 0 .len [(.var 0)]) (.blt 0 .len [(.var 1)]))) [.ret (.lit (.bl false))] [], .for (.var 2) (.range (.lit (.int 0)) (.blt 0 .len [(.var 1)])) f32_308, .ret (.lit (.bl true))] [], .ret (.and (.isin (.var 0) [.int]) (.and (.not (.isin (.var 0) [.bool])) (.cmp .eq (.var 0) (.var 1))))]⟩
/-- bill -/
def f33 : Fd := ⟨3, 9, [.set [] 3 (.blt 0 .sum [(.lc 0 (.call 46 [(.var 5), (.var 6)]) (.tup [5, 6]) (.zip (.attr (.var 0) 11) (.attr (.var 1) 7)) [5, 6] none)]), .set [] 4 (.blt 0 .sum [(.lc 0 (.bin false .mul (.blt 0 .min2 [(.var 2), (.attr (.var 7) 16)]) (.var 8)) (.tup [7, 8]) (.zip (.attr (.var 0) 10) (.attr (.var 1) 8)) [7, 8] none)]), .ret (.bin false .add (.bin false .mul (.var 2) (.var 3)) (.var 4))]⟩
def f34_478 : List S := [.set [] 4 (.bin false .add (.var 4) (.bin false .mul (.bin false .mul (.var 3) (.sub (.sub (.sub (.sub (.var 0) (.lit (.int 0))) (.var 5)) (.lit (.int 0))) (.var 6))) (.sub (.sub (.var 1) (.var 5)) (.var 6))))]
def f34_477 : List S := [.for (.var 6) (.range (.lit (.int 0)) (.blt 0 .len [(.sub (.var 1) (.var 5))])) f34_478]
def f34_480 : List S := [.set [] 4 (.bin false .add (.var 4) (.bin false .mul (.blt 0 .min2 [(.var 3), (.sub (.sub (.sub (.var 0) (.lit (.int 1))) (.var 6)) (.lit (.int 2)))]) (.sub (.var 2) (.var 6))))]
/-- _law_bill -/
def f34 : Fd := ⟨4, 7, [.set [] 4 (.lit (.int 0)), .for (.var 5) (.range (.lit (.int 0)) (.blt 0 .len [(.var 1)])) f34_477, .for (.var 6) (.range (.lit (.int 0)) (.blt 0 .len [(.var 2)])) f34_480, .ret (.var 4)]⟩
def f35_31 : List S := [.set [] 5 (.lc 0 (.sub (.var 8) (.var 9)) (.tup [8, 9]) (.zip (.var 2) (.attr (.var 4) 15)) [8, 9] none), .expr (.mth .append (.var 3) [(.ite (.truth (.blt 0 .any [(.lc 0 (.cmp .is (.var 10) (.lit .non)) (.var 10) (.val (.var 5)) [10] none)])) (.lit .non) (.blt 0 .sum [(.var 5)]))])]
/-- journey_costs -/
def f35 : Fd := ⟨2, 11, [.set [] 2 (.lc 0 (.call 47 [(.var 7), (.sub (.attr (.var 1) 7) (.var 6)), (.attr (.var 7) 14)]) (.tup [6, 7]) (.enum (.attr (.var 0) 11)) [6, 7] none), .set [] 3 (.lst 1 []), .for (.var 4) (.val (.attr (.var 0) 10)) f35_31, .ret (.blt 0 .tuple [(.var 3)])]⟩
def f36_554 : List S := [.set [] 7 (.sub (.var 3) (.var 5)), .item (.var 7) (.lit (.int 0)) (.bin false .add (.sub (.var 7) (.lit (.int 0))) (.lit (.int 1)))]
def f36_559 : List S := [.ife (.or (.cmp .isnot (.cmp .eq (.var 0) (.var 6)) (.lit (.bl true))) (.cmp .isnot (.cmp .eq (.var 6) (.var 0)) (.lit (.bl true)))) [.ret (.lit (.bl false))] []]
/-- _law_alike -/
def f36 : Fd := ⟨3, 8, [.set [] 3 (.lc 2 (.blt 1 .list [(.var 7)]) (.var 7) (.val (.var 1)) [7] none), .set [] 4 (.new 3 [(.blt 1 .tuple [(.var 3)]), (.blt 0 .tuple [(.var 2)])]), .for (.var 5) (.range (.lit (.int 0)) (.blt 0 .len [(.var 3)])) f36_554, .ife (.or (.not (.truth (.call 32 [(.attr (.var 4) 7), (.blt 0 .tuple [(.lc 0 (.blt 0 .tuple [(.var 7)]) (.var 7) (.val (.var 1)) [7] none)])]))) (.not (.truth (.call 32 [(.attr (.var 4) 8), (.blt 0 .tuple [(.var 2)])])))) [.ret (.lit (.bl false))] [], .for (.var 6) (.val (.lst 0 [(.var 4), (.new 3 [(.blt 0 .tuple [(.lc 0 (.blt 0 .tuple [(.var 7)]) (.var 7) (.val (.var 1)) [7] none)]), (.blt 0 .list [(.var 2)])]), (.new 3 [(.lc 0 (.blt 0 .tuple [(.var 7)]) (.var 7) (.val (.var 1)) [7] none), (.blt 0 .tuple [(.var 2)])])])) f36_559, .ret (.lit (.bl true))]⟩
def f37_541 : List S := [.set [] 5 (.new 3 [(.lc 0 (.blt 0 .list [(.var 7)]) (.var 7) (.val (.var 3)) [7] none), (.blt 0 .list [(.var 2)])]), .ife (.or (.cmp .isnot (.cmp .eq (.var 0) (.var 5)) (.lit (.bl false))) (.cmp .isnot (.cmp .eq (.var 5) (.var 0)) (.lit (.bl false)))) [.ret (.lit (.bl false))] []]
def f37_545 : List S := [.ife (.cmp .ne (.sub (.var 2) (.var 4)) (.sub (.var 2) (.bin false .sub (.var 4) (.lit (.int 1))))) [.set [] 6 (.new 3 [(.lc 0 (.blt 0 .list [(.var 7)]) (.var 7) (.val (.var 1)) [7] none), (.bin false .add (.bin false .add (.sli 0 (.var 2) none (some (.bin false .sub (.var 4) (.lit (.int 1))))) (.lst 0 [(.sub (.var 2) (.var 4)), (.sub (.var 2) (.bin false .sub (.var 4) (.lit (.int 1))))])) (.sli 0 (.var 2) (some (.bin false .add (.var 4) (.lit (.int 1)))) none))]), .ife (.or (.cmp .isnot (.cmp .eq (.var 0) (.var 6)) (.lit (.bl false))) (.cmp .isnot (.cmp .eq (.var 6) (.var 0)) (.lit (.bl false)))) [.ret (.lit (.bl false))] []] []]
/-- _law_unlike -/
def f37 : Fd := ⟨3, 8, [.for (.var 3) (.val (.call 48 [(.var 1)])) f37_541, .for (.var 4) (.range (.lit (.int 1)) (.blt 0 .len [(.var 2)])) f37_545, .ret (.lit (.bl true))]⟩
def f38_346 : List S := [.ife (.and (.truth (.sub (.var 2) (.sub (.var 4) (.lit (.int 1))))) (.cmp .notin (.sub (.var 4) (.lit (.int 0))) (.var 1))) [.item (.var 2) (.sub (.var 4) (.lit (.int 0))) (.lit (.bl true))] []]
def f38_345 : List S := [.for (.var 4) (.val (.sub (.var 0) (.lit (.int 1)))) f38_346]
/-- _law_free -/
def f38 : Fd := ⟨2, 6, [.set [] 2 (.lc 1 (.and (.cmp .isin (.var 5) (.sub (.var 0) (.lit (.int 2)))) (.cmp .notin (.var 5) (.var 1))) (.var 5) (.range (.lit (.int 0)) (.blt 0 .len [(.sub (.var 0) (.lit (.int 0)))])) [5] none), .for (.var 3) (.range (.lit (.int 0)) (.blt 0 .len [(.sub (.var 0) (.lit (.int 0)))])) f38_345, .ret (.var 2)]⟩
def f39_95 : List S := [.ife (.not (.truth (.call 49 [(.var 3)]))) [.never] []]
/-- checked_widths -/
def f39 : Fd := ⟨1, 4, [.set [] 1 (.blt 0 .tuple [(.var 0)]), .ife (.not (.chain .le .le (.lit (.int 1)) (.blt 0 .len [(.var 1)]) (.lit (.int 8)))) [.never] [], .for (.tup [2, 3]) (.enum (.var 1)) f39_95, .ret (.var 1)]⟩
def f40_101 : List S := [.ife (.or (.not (.chain .le .lt (.lit (.int 0)) (.var 4) (.var 1))) (.cmp .isin (.var 4) (.sli 0 (.var 2) none (some (.var 3))))) [.never] []]
/-- checked_gates -/
def f40 : Fd := ⟨2, 5, [.set [] 2 (.blt 0 .tuple [(.var 0)]), .for (.tup [3, 4]) (.enum (.var 2)) f40_101, .ret (.blt 0 .tuple [(.blt 0 .sorted [(.var 2)])])]⟩
def f41_112 : List S := [.set [] 7 (.tup [(.sub (.var 6) (.lit (.int 0))), (.sub (.var 6) (.lit (.int 1)))]), .ife (.or (.not (.truth (.call 50 [(.var 6), (.var 1), (.var 2)]))) (.cmp .isin (.var 7) (.var 4))) [.never] [], .expr (.mth .add (.var 4) [(.var 7)])]
/-- checked_roads -/
def f41 : Fd := ⟨3, 8, [.set [] 3 (.call 45 [(.var 0)]), .set [] 4 (.blt 0 .set []), .for (.tup [5, 6]) (.enum (.var 3)) f41_112, .ret (.blt 0 .tuple [(.blt 0 .sorted [(.var 3)])])]⟩
/-- check_worth -/
def f42 : Fd := ⟨1, 1, [.ife (.not (.chain .le .le (.lit (.int 0)) (.var 0) (.lit (.int 99)))) [.never] []]⟩
/-- check_need -/
def f43 : Fd := ⟨1, 1, [.ife (.not (.chain .le .le (.lit (.int 1)) (.var 0) (.lit (.int 3)))) [.never] []]⟩
/-- starts_fit -/
def f44 : Fd := ⟨2, 4, [.ife (.cmp .ne (.blt 0 .len [(.attr (.var 0) 15)]) (.blt 0 .len [(.var 1)])) [.ret (.lit (.bl false))] [], .ret (.blt 0 .all [(.lc 0 (.chain .le .lt (.lit (.int 0)) (.var 2) (.blt 0 .len [(.var 3)])) (.tup [2, 3]) (.zip (.attr (.var 0) 15) (.var 1)) [2, 3] none)])]⟩
/-- frozen -/
def f45 : Fd := ⟨1, 2, [.ife (.truth (.isin (.var 0) [.list, .tuple])) [.ret (.blt 0 .tuple [(.lc 0 (.call 45 [(.var 1)]) (.var 1) (.val (.var 0)) [1] none)])] [], .ret (.var 0)]⟩
/-- width_tolls -/
def f46 : Fd := ⟨2, 4, [.ret (.blt 0 .sum [(.lc 0 (.bin false .mul (.var 2) (.var 3)) (.tup [2, 3]) (.zip (.attr (.var 0) 12) (.var 1)) [2, 3] none)])]⟩
def f47_22 : List S := [.ife (.cmp .isnot (.sub (.var 3) (.var 7)) (.lit .non)) [.set [] 9 (.bin false .add (.bin false .add (.sub (.var 1) (.var 6)) (.var 8)) (.sub (.var 3) (.var 7))), .ife (.or (.cmp .is (.sub (.var 3) (.var 6)) (.lit .non)) (.cmp .lt (.var 9) (.sub (.var 3) (.var 6)))) [.item (.var 3) (.var 6) (.var 9)] []] []]
def f47_21 : List S := [.for (.tup [6, 7, 8]) (.val (.var 2)) f47_22]
/-- least_ways -/
def f47 : Fd := ⟨3, 10, [.set [] 3 (.lc 1 (.ite (.truth (.meth 17 (.var 0) [(.var 5)])) (.sub (.var 1) (.var 5)) (.lit .non)) (.var 5) (.range (.lit (.int 0)) (.blt 0 .len [(.var 0)])) [5] none), .for (.var 4) (.range (.lit (.int 0)) (.blt 0 .len [(.var 0)])) f47_21, .ret (.blt 0 .tuple [(.var 3)])]⟩
def f48_530 : List S := [.ife (.cmp .ne (.sub (.var 3) (.var 4)) (.sub (.var 3) (.bin false .sub (.var 4) (.lit (.int 1))))) [.expr (.mth .append (.var 1) [(.bin false .add (.bin false .add (.sli 0 (.var 0) none (some (.var 2))) (.lst 0 [(.bin false .add (.bin false .add (.sli 0 (.var 3) none (some (.bin false .sub (.var 4) (.lit (.int 1))))) (.lst 0 [(.sub (.var 3) (.var 4)), (.sub (.var 3) (.bin false .sub (.var 4) (.lit (.int 1))))])) (.sli 0 (.var 3) (some (.bin false .add (.var 4) (.lit (.int 1)))) none))])) (.sli 0 (.var 0) (some (.bin false .add (.var 2) (.lit (.int 1)))) none))])] []]
def f48_528 : List S := [.set [] 3 (.sub (.var 0) (.var 2)), .for (.var 4) (.range (.lit (.int 1)) (.blt 0 .len [(.var 3)])) f48_530, .ife (.cmp .gt (.var 2) (.lit (.int 0))) [.set [] 5 (.sub (.var 0) (.bin false .sub (.var 2) (.lit (.int 1)))), .ife (.cmp .gt (.blt 0 .len [(.var 5)]) (.lit (.int 1))) [.expr (.mth .append (.var 1) [(.bin false .add (.bin false .add (.sli 0 (.var 0) none (some (.bin false .sub (.var 2) (.lit (.int 1))))) (.lst 0 [(.sli 0 (.var 5) none (some (.bin false .sub (.blt 0 .len [(.var 5)]) (.lit (.int 1))))), (.bin false .add (.lst 0 [(.sub (.var 5) (.bin false .sub (.blt 0 .len [(.var 5)]) (.lit (.int 1))))]) (.var 3))])) (.sli 0 (.var 0) (some (.bin false .add (.var 2) (.lit (.int 1)))) none))])] [], .ife (.cmp .ne (.var 5) (.var 3)) [.expr (.mth .append (.var 1) [(.bin false .add (.bin false .add (.sli 0 (.var 0) none (some (.bin false .sub (.var 2) (.lit (.int 1))))) (.lst 0 [(.var 3), (.var 5)])) (.sli 0 (.var 0) (some (.bin false .add (.var 2) (.lit (.int 1)))) none))])] []] []]
/-- _law_shuffled -/
def f48 : Fd := ⟨1, 6, [.set [] 1 (.lst 1 []), .for (.var 2) (.range (.lit (.int 0)) (.blt 0 .len [(.var 0)])) f48_528, .ret (.var 1)]⟩
/-- is_width -/
def f49 : Fd := ⟨1, 1, [.ret (.chain .le .le (.lit (.int 1)) (.var 0) (.lit (.int 9)))]⟩
/-- is_road -/
def f50 : Fd := ⟨3, 7, [.unp [4, 5, 6] (.var 0), .set [] 3 (.and (.chain .le .lt (.lit (.int 0)) (.var 4) (.var 1)) (.and (.chain .le .lt (.lit (.int 0)) (.var 5) (.var 1)) (.cmp .ne (.var 4) (.var 5)))), .ret (.and (.var 3) (.and (.cmp .notin (.var 4) (.var 2)) (.chain .le .le (.lit (.int 0)) (.var 6) (.lit (.int 99)))))]⟩
/-- Net.is_gate -/
def f51 : Fd := ⟨2, 2, [.ret (.cmp .isin (.var 1) (.attr (.var 0) 13))]⟩
def d0 : He.DefD := ⟨("law", none), "law", "law", defArgs (topS 68), defBody (topS 68), defScope (topS 68), [], []⟩
def e0 : FE := ⟨d0, ["script"], ["script", "mode", "sizes", "office", "made", "ways", "big", "places", "pick", "days", "dues", "first", "drawn", "k", "paid", "part", "ones", "less", "told", "cheaper"], f0⟩
def d1 : He.DefD := ⟨("_law_digits", none), "_law_digits", "_law_digits", defArgs (topS 43), defBody (topS 43), defScope (topS 43), [], []⟩
def e1 : FE := ⟨d1, ["cell", "sizes"], ["cell", "sizes", "row", "rest", "seed", "k", "twice"], f1⟩
def d2 : He.DefD := ⟨("_law_cell", none), "_law_cell", "_law_cell", defArgs (topS 42), defBody (topS 42), defScope (topS 42), [], []⟩
def e2 : FE := ⟨d2, ["script", "k"], ["script", "k", "seed", "cell"], f2⟩
def d3 : He.DefD := ⟨("_law_office", none), "_law_office", "_law_office", defArgs (topS 51), defBody (topS 51), defScope (topS 51), [], []⟩
def e3 : FE := ⟨d3, ["script", "at", "count", "places", "many"], ["script", "at", "count", "places", "many", "nets", "j", "row", "net", "wide", "width"], f3⟩
def d4 : He.DefD := ⟨("_law_make", none), "_law_make", "_law_make", defArgs (topS 52), defBody (topS 52), defScope (topS 52), [], []⟩
def e4 : FE := ⟨d4, ["office"], ["office", "nets", "net", "parcels", "part", "made", "passed", "starts", "road"], f4⟩
def d5 : He.DefD := ⟨("_law_all_ways", none), "_law_all_ways", "_law_all_ways", defArgs (topS 55), defBody (topS 55), defScope (topS 55), [], []⟩
def e5 : FE := ⟨d5, ["office"], ["office", "found", "j", "starts", "row", "k", "part"], f5⟩
def d6 : He.DefD := ⟨("_law_drawn_tolls", none), "_law_drawn_tolls", "_law_drawn_tolls", defArgs (topS 60), defBody (topS 60), defScope (topS 60), [], []⟩
def e6 : FE := ⟨d6, ["office", "cell", "mode", "big"], ["office", "cell", "mode", "big", "row", "places", "j", "tolls", "k", "part", "few"], f6⟩
def d7 : He.DefD := ⟨("_law_dues", none), "_law_dues", "_law_dues", defArgs (topS 57), defBody (topS 57), defScope (topS 57), [], []⟩
def e7 : FE := ⟨d7, ["office", "ways", "places"], ["office", "ways", "places", "least", "j", "dues", "part", "row", "found", "steps", "costs", "way"], f7⟩
def d8 : He.DefD := ⟨("_law_asked", none), "_law_asked", "_law_asked", defArgs (topS 62), defBody (topS 62), defScope (topS 62), [], []⟩
def e8 : FE := ⟨d8, ["made", "office", "ways", "places", "fees", "days"], ["made", "office", "ways", "places", "fees", "days", "passed", "told", "due", "j", "number", "row"], f8⟩
def d9 : He.DefD := ⟨("toll_fault", none), "toll_fault", "toll_fault", defArgs (topS 7), defBody (topS 7), defScope (topS 7), [], []⟩
def e9 : FE := ⟨d9, ["office", "tolls"], ["office", "tolls", "number", "cost"], f9⟩
def d10 : He.DefD := ⟨("_law_cheaper", none), "_law_cheaper", "_law_cheaper", defArgs (topS 61), defBody (topS 61), defScope (topS 61), [], []⟩
def e10 : FE := ⟨d10, ["office", "ways", "places", "k", "pick"], ["office", "ways", "places", "k", "pick", "changed", "j", "at", "found", "costs", "spots", "row", "spot", "way"], f10⟩
def d11 : He.DefD := ⟨("_law_other_office", none), "_law_other_office", "_law_other_office", defArgs (topS 67), defBody (topS 67), defScope (topS 67), [], []⟩
def e11 : FE := ⟨d11, ["made", "office", "ways", "told", "places", "fees", "days"], ["made", "office", "ways", "told", "places", "fees", "days", "needy", "wide", "built", "k", "other", "number", "part", "net", "width"], f11⟩
def d12 : He.DefD := ⟨("_law_equals", none), "_law_equals", "_law_equals", defArgs (topS 66), defBody (topS 66), defScope (topS 66), [], []⟩
def e12 : FE := ⟨d12, ["told", "made", "places", "fees", "pick"], ["told", "made", "places", "fees", "pick", "at", "spot", "changed", "row", "other", "more", "k", "dearer", "line"], f12⟩
def d13 : He.DefD := ⟨("_law_stayed", none), "_law_stayed", "_law_stayed", defArgs (topS 53), defBody (topS 53), defScope (topS 53), [], []⟩
def e13 : FE := ⟨d13, ["made", "office"], ["made", "office", "j", "k", "net", "part", "road"], f13⟩
def d14 : He.DefD := ⟨("_law_net_sizes", none), "_law_net_sizes", "_law_net_sizes", defArgs (topS 45), defBody (topS 45), defScope (topS 45), [], []⟩
def e14 : FE := ⟨d14, ["many"], ["many"], f14⟩
def d15 : He.DefD := ⟨("_law_net", none), "_law_net", "_law_net", defArgs (topS 46), defBody (topS 46), defScope (topS 46), [], []⟩
def e15 : FE := ⟨d15, ["row", "many"], ["row", "many", "last", "count", "fan", "line", "outer", "widths", "gates", "k", "roads", "at", "a", "part", "width", "b", "near", "cheap"], f15⟩
def d16 : He.DefD := ⟨("_law_mended", none), "_law_mended", "_law_mended", defArgs (topS 48), defBody (topS 48), defScope (topS 48), [], []⟩
def e16 : FE := ⟨d16, ["net"], ["net", "gates", "roads", "free", "k", "road"], f16⟩
def d17 : He.DefD := ⟨("_law_parcel_sizes", none), "_law_parcel_sizes", "_law_parcel_sizes", defArgs (topS 49), defBody (topS 49), defScope (topS 49), [], []⟩
def e17 : FE := ⟨d17, ["many", "nets"], ["many", "nets"], f17⟩
def d18 : He.DefD := ⟨("_law_parcels", none), "_law_parcels", "_law_parcels", defArgs (topS 50), defBody (topS 50), defScope (topS 50), [], []⟩
def e18 : FE := ⟨d18, ["row", "many", "nets"], ["row", "many", "nets", "count", "parcels", "k", "part", "starts", "j", "wanted", "prize", "start"], f18⟩
def d19 : He.DefD := ⟨("Net", some "__init__"), "__init__", "Net.__init__", defArgs (inClass (topS 30) 0), defBody (inClass (topS 30) 0), defScope (inClass (topS 30) 0), [.adr (He.dflAt ("Net", some "__init__") 0), .adr (He.dflAt ("Net", some "__init__") 1)], []⟩
def e19 : FE := ⟨d19, ["self", "widths", "roads", "gates"], ["self", "widths", "roads", "gates"], f19⟩
def d20 : He.DefD := ⟨("Net", some "__len__"), "__len__", "Net.__len__", defArgs (inClass (topS 30) 3), defBody (inClass (topS 30) 3), defScope (inClass (topS 30) 3), [], []⟩
def e20 : FE := ⟨d20, ["self"], ["self"], f20⟩
def d21 : He.DefD := ⟨("Net", some "__eq__"), "__eq__", "Net.__eq__", defArgs (inClass (topS 30) 5), defBody (inClass (topS 30) 5), defScope (inClass (topS 30) 5), [], []⟩
def e21 : FE := ⟨d21, ["self", "other"], ["self", "other"], f21⟩
def d22 : He.DefD := ⟨("Parcel", some "__init__"), "__init__", "Parcel.__init__", defArgs (inClass (topS 38) 0), defBody (inClass (topS 38) 0), defScope (inClass (topS 38) 0), [], [("worth", .int 1), ("need", .int 1)]⟩
def e22 : FE := ⟨d22, ["self", "starts", "worth", "need"], ["self", "starts", "worth", "need"], f22⟩
def d23 : He.DefD := ⟨("Parcel", some "__eq__"), "__eq__", "Parcel.__eq__", defArgs (inClass (topS 38) 1), defBody (inClass (topS 38) 1), defScope (inClass (topS 38) 1), [], []⟩
def e23 : FE := ⟨d23, ["self", "other"], ["self", "other"], f23⟩
def d24 : He.DefD := ⟨("Office", some "__init__"), "__init__", "Office.__init__", defArgs (inClass (topS 40) 0), defBody (inClass (topS 40) 0), defScope (inClass (topS 40) 0), [], []⟩
def e24 : FE := ⟨d24, ["self", "nets", "parcels"], ["self", "nets", "parcels", "number", "parcel"], f24⟩
def d25 : He.DefD := ⟨("Office", some "__len__"), "__len__", "Office.__len__", defArgs (inClass (topS 40) 1), defBody (inClass (topS 40) 1), defScope (inClass (topS 40) 1), [], []⟩
def e25 : FE := ⟨d25, ["self"], ["self"], f25⟩
def d26 : He.DefD := ⟨("Office", some "__eq__"), "__eq__", "Office.__eq__", defArgs (inClass (topS 40) 2), defBody (inClass (topS 40) 2), defScope (inClass (topS 40) 2), [], []⟩
def e26 : FE := ⟨d26, ["self", "other"], ["self", "other"], f26⟩
def d27 : He.DefD := ⟨("_law_ways", none), "_law_ways", "_law_ways", defArgs (topS 54), defBody (topS 54), defScope (topS 54), [], []⟩
def e27 : FE := ⟨d27, ["net", "start"], ["net", "start", "ways", "begun", "turn", "longer", "way", "at", "road"], f27⟩
def d28 : He.DefD := ⟨("_law_way_cost", none), "_law_way_cost", "_law_way_cost", defArgs (topS 56), defBody (topS 56), defScope (topS 56), [], []⟩
def e28 : FE := ⟨d28, ["way", "tolls"], ["way", "tolls", "spot"], f28⟩
def d29 : He.DefD := ⟨("Tolls", some "__init__"), "__init__", "Tolls.__init__", defArgs (inClass (topS 4) 0), defBody (inClass (topS 4) 0), defScope (inClass (topS 4) 0), [], []⟩
def e29 : FE := ⟨d29, ["self", "places", "fees"], ["self", "places", "fees"], f29⟩
def d30 : He.DefD := ⟨("Tolls", some "__eq__"), "__eq__", "Tolls.__eq__", defArgs (inClass (topS 4) 1), defBody (inClass (topS 4) 1), defScope (inClass (topS 4) 1), [], []⟩
def e30 : FE := ⟨d30, ["self", "other"], ["self", "other"], f30⟩
def d31 : He.DefD := ⟨("_law_fault", none), "_law_fault", "_law_fault", defArgs (topS 58), defBody (topS 58), defScope (topS 58), [], []⟩
def e31 : FE := ⟨d31, ["office", "ways", "places", "fees"], ["office", "ways", "places", "fees", "dues", "k"], f31⟩
def d32 : He.DefD := ⟨("_law_same", none), "_law_same", "_law_same", defArgs (topS 44), defBody (topS 44), defScope (topS 44), [], []⟩
def e32 : FE := ⟨d32, ["told", "due"], ["told", "due", "k"], f32⟩
def d33 : He.DefD := ⟨("bill", none), "bill", "bill", defArgs (topS 9), defBody (topS 9), defScope (topS 9), [], []⟩
def e33 : FE := ⟨d33, ["office", "tolls", "days"], ["office", "tolls", "days", "places", "fees", "net", "row", "parcel", "fee"], f33⟩
def d34 : He.DefD := ⟨("_law_bill", none), "_law_bill", "_law_bill", defArgs (topS 59), defBody (topS 59), defScope (topS 59), [], []⟩
def e34 : FE := ⟨d34, ["office", "places", "fees", "days"], ["office", "places", "fees", "days", "total", "j", "k"], f34⟩
def d35 : He.DefD := ⟨("journey_costs", none), "journey_costs", "journey_costs", defArgs (topS 6), defBody (topS 6), defScope (topS 6), [], []⟩
def e35 : FE := ⟨d35, ["office", "tolls"], ["office", "tolls", "rows", "costs", "parcel", "parts", "number", "net", "row", "start", "part"], f35⟩
def d36 : He.DefD := ⟨("_law_alike", none), "_law_alike", "_law_alike", defArgs (topS 65), defBody (topS 65), defScope (topS 65), [], []⟩
def e36 : FE := ⟨d36, ["told", "places", "fees"], ["told", "places", "fees", "inner", "mixed", "j", "again", "row"], f36⟩
def d37 : He.DefD := ⟨("_law_unlike", none), "_law_unlike", "_law_unlike", defArgs (topS 64), defBody (topS 64), defScope (topS 64), [], []⟩
def e37 : FE := ⟨d37, ["told", "places", "fees"], ["told", "places", "fees", "rows", "k", "moved", "turned", "row"], f37⟩
def d38 : He.DefD := ⟨("_law_free", none), "_law_free", "_law_free", defArgs (topS 47), defBody (topS 47), defScope (topS 47), [], []⟩
def e38 : FE := ⟨d38, ["net", "closed"], ["net", "closed", "free", "turn", "road", "k"], f38⟩
def d39 : He.DefD := ⟨("checked_widths", none), "checked_widths", "checked_widths", defArgs (topS 26), defBody (topS 26), defScope (topS 26), [], []⟩
def e39 : FE := ⟨d39, ["widths"], ["widths", "told", "place", "width"], f39⟩
def d40 : He.DefD := ⟨("checked_gates", none), "checked_gates", "checked_gates", defArgs (topS 27), defBody (topS 27), defScope (topS 27), [], []⟩
def e40 : FE := ⟨d40, ["gates", "count"], ["gates", "count", "told", "index", "gate"], f40⟩
def d41 : He.DefD := ⟨("checked_roads", none), "checked_roads", "checked_roads", defArgs (topS 29), defBody (topS 29), defScope (topS 29), [], []⟩
def e41 : FE := ⟨d41, ["roads", "count", "gates"], ["roads", "count", "gates", "told", "seen", "index", "road", "pair"], f41⟩
def d42 : He.DefD := ⟨("check_worth", none), "check_worth", "check_worth", defArgs (topS 36), defBody (topS 36), defScope (topS 36), [], []⟩
def e42 : FE := ⟨d42, ["worth"], ["worth"], f42⟩
def d43 : He.DefD := ⟨("check_need", none), "check_need", "check_need", defArgs (topS 37), defBody (topS 37), defScope (topS 37), [], []⟩
def e43 : FE := ⟨d43, ["need"], ["need"], f43⟩
def d44 : He.DefD := ⟨("starts_fit", none), "starts_fit", "starts_fit", defArgs (topS 39), defBody (topS 39), defScope (topS 39), [], []⟩
def e44 : FE := ⟨d44, ["parcel", "nets"], ["parcel", "nets", "start", "net"], f44⟩
def d45 : He.DefD := ⟨("frozen", none), "frozen", "frozen", defArgs (topS 2), defBody (topS 2), defScope (topS 2), [], []⟩
def e45 : FE := ⟨d45, ["value"], ["value", "item"], f45⟩
def d46 : He.DefD := ⟨("width_tolls", none), "width_tolls", "width_tolls", defArgs (topS 8), defBody (topS 8), defScope (topS 8), [], []⟩
def e46 : FE := ⟨d46, ["net", "tolls"], ["net", "tolls", "width", "toll"], f46⟩
def d47 : He.DefD := ⟨("least_ways", none), "least_ways", "least_ways", defArgs (topS 5), defBody (topS 5), defScope (topS 5), [], []⟩
def e47 : FE := ⟨d47, ["net", "tolls", "roads"], ["net", "tolls", "roads", "least", "_", "place", "tail", "head", "cost", "through"], f47⟩
def d48 : He.DefD := ⟨("_law_shuffled", none), "_law_shuffled", "_law_shuffled", defArgs (topS 63), defBody (topS 63), defScope (topS 63), [], []⟩
def e48 : FE := ⟨d48, ["places"], ["places", "found", "j", "row", "k", "before"], f48⟩
def d49 : He.DefD := ⟨("is_width", none), "is_width", "is_width", defArgs (topS 25), defBody (topS 25), defScope (topS 25), [], []⟩
def e49 : FE := ⟨d49, ["width"], ["width"], f49⟩
def d50 : He.DefD := ⟨("is_road", none), "is_road", "is_road", defArgs (topS 28), defBody (topS 28), defScope (topS 28), [], []⟩
def e50 : FE := ⟨d50, ["road", "count", "gates"], ["road", "count", "gates", "ends_fit", "tail", "head", "cost"], f50⟩
def d51 : He.DefD := ⟨("Net", some "is_gate"), "is_gate", "Net.is_gate", defArgs (inClass (topS 30) 10), defBody (inClass (topS 30) 10), defScope (inClass (topS 30) 10), [], []⟩
def e51 : FE := ⟨d51, ["self", "place"], ["self", "place"], f51⟩
def fnsL0 : List (FE) := [e0, e1, e2, e3, e4, e5, e6, e7, e8, e9, e10, e11, e12, e13, e14, e15, e16, e17, e18, e19, e20, e21, e22, e23, e24, e25, e26, e27, e28, e29, e30, e31, e32, e33, e34, e35, e36, e37, e38, e39, e40, e41, e42, e43, e44, e45, e46, e47, e48, e49, e50, e51]
def fnsL : List (FE) := fnsL0
def gloL0 : List (Str × GK) := [("law", .fn 0), ("_law_digits", .fn 1), ("_law_cell", .fn 2), ("_law_office", .fn 3), ("_law_make", .fn 4), ("_law_all_ways", .fn 5), ("_law_drawn_tolls", .fn 6), ("_law_dues", .fn 7), ("_law_asked", .fn 8), ("toll_fault", .fn 9), ("_law_cheaper", .fn 10), ("_law_other_office", .fn 11), ("_law_equals", .fn 12), ("_law_stayed", .fn 13), ("_law_net_sizes", .fn 14), ("_law_net", .fn 15), ("_law_mended", .fn 16), ("_law_parcel_sizes", .fn 17), ("_law_parcels", .fn 18), ("_law_ways", .fn 27)]
def gloL1 : List (Str × GK) := [("_law_way_cost", .fn 28), ("_law_fault", .fn 31), ("_law_same", .fn 32), ("bill", .fn 33), ("_law_bill", .fn 34), ("journey_costs", .fn 35), ("_law_alike", .fn 36), ("_law_unlike", .fn 37), ("_law_free", .fn 38), ("checked_widths", .fn 39), ("checked_gates", .fn 40), ("checked_roads", .fn 41), ("check_worth", .fn 42), ("check_need", .fn 43), ("starts_fit", .fn 44), ("frozen", .fn 45), ("width_tolls", .fn 46), ("least_ways", .fn 47), ("_law_shuffled", .fn 48), ("is_width", .fn 49)]
def gloL2 : List (Str × GK) := [("is_road", .fn 50), ("Net", .cls 0 3 []), ("Parcel", .cls 1 1 ["worth", "need"]), ("Office", .cls 2 2 []), ("Tolls", .cls 3 2 []), ("MOST_COST", .int 99), ("MOST_NEED", .int 3), ("MOST_NETS", .int 3), ("MOST_PARCELS", .int 8), ("MOST_PLACES", .int 8), ("MOST_WIDTH", .int 9), ("MOST_WORTH", .int 99), ("all", .blt), ("any", .blt), ("bool", .blt), ("enumerate", .blt), ("int", .blt), ("isinstance", .blt), ("len", .blt), ("list", .blt)]
def gloL3 : List (Str × GK) := [("max", .blt), ("min", .blt), ("range", .blt), ("set", .blt), ("sorted", .blt), ("sum", .blt), ("tuple", .blt), ("zip", .blt)]
def gloL : List (Str × GK) := gloL0 ++ gloL1 ++ gloL2 ++ gloL3
def primL : List (Nat × (List D → PR)) := []
def RwR : RowD := ⟨["Net", "Parcel", "Office", "Tolls"], ["__len__", "__eq__", "__contains__", "__iter__", "__or__", "__add__", "__invert__", "places", "fees", "worth", "parcels", "nets", "widths", "gates", "roads", "starts", "need", "is_gate"], fnsL, gloL, [19, 22, 24, 29], [((0, 0), 20), ((0, 1), 21), ((1, 1), 23), ((2, 0), 25), ((2, 1), 26), ((3, 1), 30), ((0, 17), 51)], [(0, 13), (0, 14), (0, 12), (1, 16), (1, 15), (1, 9), (2, 11), (2, 10), (3, 8), (3, 7)], primL, [(3, []), (1, ["worth", "need"]), (2, []), (2, [])]⟩
theorem R_ok : RwR.okB = true := by decide +kernel
theorem ok0 : e0.Ok RwR.Γ := ⟨⟨rfl, rfl, rfl, by decide +kernel, rfl, by decide +kernel, by decide +kernel⟩, by kernel_rfl, rfl, rfl⟩
theorem ok1 : e1.Ok RwR.Γ := ⟨⟨rfl, rfl, rfl, by decide +kernel, rfl, by decide +kernel, by decide +kernel⟩, by kernel_rfl, rfl, rfl⟩
theorem ok2 : e2.Ok RwR.Γ := ⟨⟨rfl, rfl, rfl, by decide +kernel, rfl, by decide +kernel, by decide +kernel⟩, by kernel_rfl, rfl, rfl⟩
theorem ok3 : e3.Ok RwR.Γ := ⟨⟨rfl, rfl, rfl, by decide +kernel, rfl, by decide +kernel, by decide +kernel⟩, by kernel_rfl, rfl, rfl⟩
theorem ok4 : e4.Ok RwR.Γ := ⟨⟨rfl, rfl, rfl, by decide +kernel, rfl, by decide +kernel, by decide +kernel⟩, by kernel_rfl, rfl, rfl⟩
theorem ok5 : e5.Ok RwR.Γ := ⟨⟨rfl, rfl, rfl, by decide +kernel, rfl, by decide +kernel, by decide +kernel⟩, by kernel_rfl, rfl, rfl⟩
theorem ok6 : e6.Ok RwR.Γ := ⟨⟨rfl, rfl, rfl, by decide +kernel, rfl, by decide +kernel, by decide +kernel⟩, by kernel_rfl, rfl, rfl⟩
theorem ok7 : e7.Ok RwR.Γ := ⟨⟨rfl, rfl, rfl, by decide +kernel, rfl, by decide +kernel, by decide +kernel⟩, by kernel_rfl, rfl, rfl⟩
theorem ok8 : e8.Ok RwR.Γ := ⟨⟨rfl, rfl, rfl, by decide +kernel, rfl, by decide +kernel, by decide +kernel⟩, by kernel_rfl, rfl, rfl⟩
theorem ok9 : e9.Ok RwR.Γ := ⟨⟨rfl, rfl, rfl, by decide +kernel, rfl, by decide +kernel, by decide +kernel⟩, by kernel_rfl, rfl, rfl⟩
theorem ok10 : e10.Ok RwR.Γ := ⟨⟨rfl, rfl, rfl, by decide +kernel, rfl, by decide +kernel, by decide +kernel⟩, by kernel_rfl, rfl, rfl⟩
theorem ok11 : e11.Ok RwR.Γ := ⟨⟨rfl, rfl, rfl, by decide +kernel, rfl, by decide +kernel, by decide +kernel⟩, by kernel_rfl, rfl, rfl⟩
theorem ok12 : e12.Ok RwR.Γ := ⟨⟨rfl, rfl, rfl, by decide +kernel, rfl, by decide +kernel, by decide +kernel⟩, by kernel_rfl, rfl, rfl⟩
theorem ok13 : e13.Ok RwR.Γ := ⟨⟨rfl, rfl, rfl, by decide +kernel, rfl, by decide +kernel, by decide +kernel⟩, by kernel_rfl, rfl, rfl⟩
theorem ok14 : e14.Ok RwR.Γ := ⟨⟨rfl, rfl, rfl, by decide +kernel, rfl, by decide +kernel, by decide +kernel⟩, by kernel_rfl, rfl, rfl⟩
theorem ok15 : e15.Ok RwR.Γ := ⟨⟨rfl, rfl, rfl, by decide +kernel, rfl, by decide +kernel, by decide +kernel⟩, by kernel_rfl, rfl, rfl⟩
theorem ok16 : e16.Ok RwR.Γ := ⟨⟨rfl, rfl, rfl, by decide +kernel, rfl, by decide +kernel, by decide +kernel⟩, by kernel_rfl, rfl, rfl⟩
theorem ok17 : e17.Ok RwR.Γ := ⟨⟨rfl, rfl, rfl, by decide +kernel, rfl, by decide +kernel, by decide +kernel⟩, by kernel_rfl, rfl, rfl⟩
theorem ok18 : e18.Ok RwR.Γ := ⟨⟨rfl, rfl, rfl, by decide +kernel, rfl, by decide +kernel, by decide +kernel⟩, by kernel_rfl, rfl, rfl⟩
theorem ok19 : e19.Ok RwR.Γ := ⟨⟨rfl, rfl, rfl, by decide +kernel, rfl, by decide +kernel, by decide +kernel⟩, by kernel_rfl, rfl, rfl⟩
theorem ok20 : e20.Ok RwR.Γ := ⟨⟨rfl, rfl, rfl, by decide +kernel, rfl, by decide +kernel, by decide +kernel⟩, by kernel_rfl, rfl, rfl⟩
theorem ok21 : e21.Ok RwR.Γ := ⟨⟨rfl, rfl, rfl, by decide +kernel, rfl, by decide +kernel, by decide +kernel⟩, by kernel_rfl, rfl, rfl⟩
theorem ok22 : e22.Ok RwR.Γ := ⟨⟨rfl, rfl, rfl, by decide +kernel, rfl, by decide +kernel, by decide +kernel⟩, by kernel_rfl, rfl, rfl⟩
theorem ok23 : e23.Ok RwR.Γ := ⟨⟨rfl, rfl, rfl, by decide +kernel, rfl, by decide +kernel, by decide +kernel⟩, by kernel_rfl, rfl, rfl⟩
theorem ok24 : e24.Ok RwR.Γ := ⟨⟨rfl, rfl, rfl, by decide +kernel, rfl, by decide +kernel, by decide +kernel⟩, by kernel_rfl, rfl, rfl⟩
theorem ok25 : e25.Ok RwR.Γ := ⟨⟨rfl, rfl, rfl, by decide +kernel, rfl, by decide +kernel, by decide +kernel⟩, by kernel_rfl, rfl, rfl⟩
theorem ok26 : e26.Ok RwR.Γ := ⟨⟨rfl, rfl, rfl, by decide +kernel, rfl, by decide +kernel, by decide +kernel⟩, by kernel_rfl, rfl, rfl⟩
theorem ok27 : e27.Ok RwR.Γ := ⟨⟨rfl, rfl, rfl, by decide +kernel, rfl, by decide +kernel, by decide +kernel⟩, by kernel_rfl, rfl, rfl⟩
theorem ok28 : e28.Ok RwR.Γ := ⟨⟨rfl, rfl, rfl, by decide +kernel, rfl, by decide +kernel, by decide +kernel⟩, by kernel_rfl, rfl, rfl⟩
theorem ok29 : e29.Ok RwR.Γ := ⟨⟨rfl, rfl, rfl, by decide +kernel, rfl, by decide +kernel, by decide +kernel⟩, by kernel_rfl, rfl, rfl⟩
theorem ok30 : e30.Ok RwR.Γ := ⟨⟨rfl, rfl, rfl, by decide +kernel, rfl, by decide +kernel, by decide +kernel⟩, by kernel_rfl, rfl, rfl⟩
theorem ok31 : e31.Ok RwR.Γ := ⟨⟨rfl, rfl, rfl, by decide +kernel, rfl, by decide +kernel, by decide +kernel⟩, by kernel_rfl, rfl, rfl⟩
theorem ok32 : e32.Ok RwR.Γ := ⟨⟨rfl, rfl, rfl, by decide +kernel, rfl, by decide +kernel, by decide +kernel⟩, by kernel_rfl, rfl, rfl⟩
theorem ok33 : e33.Ok RwR.Γ := ⟨⟨rfl, rfl, rfl, by decide +kernel, rfl, by decide +kernel, by decide +kernel⟩, by kernel_rfl, rfl, rfl⟩
theorem ok34 : e34.Ok RwR.Γ := ⟨⟨rfl, rfl, rfl, by decide +kernel, rfl, by decide +kernel, by decide +kernel⟩, by kernel_rfl, rfl, rfl⟩
theorem ok35 : e35.Ok RwR.Γ := ⟨⟨rfl, rfl, rfl, by decide +kernel, rfl, by decide +kernel, by decide +kernel⟩, by kernel_rfl, rfl, rfl⟩
theorem ok36 : e36.Ok RwR.Γ := ⟨⟨rfl, rfl, rfl, by decide +kernel, rfl, by decide +kernel, by decide +kernel⟩, by kernel_rfl, rfl, rfl⟩
theorem ok37 : e37.Ok RwR.Γ := ⟨⟨rfl, rfl, rfl, by decide +kernel, rfl, by decide +kernel, by decide +kernel⟩, by kernel_rfl, rfl, rfl⟩
theorem ok38 : e38.Ok RwR.Γ := ⟨⟨rfl, rfl, rfl, by decide +kernel, rfl, by decide +kernel, by decide +kernel⟩, by kernel_rfl, rfl, rfl⟩
theorem ok39 : e39.Ok RwR.Γ := ⟨⟨rfl, rfl, rfl, by decide +kernel, rfl, by decide +kernel, by decide +kernel⟩, by kernel_rfl, rfl, rfl⟩
theorem ok40 : e40.Ok RwR.Γ := ⟨⟨rfl, rfl, rfl, by decide +kernel, rfl, by decide +kernel, by decide +kernel⟩, by kernel_rfl, rfl, rfl⟩
theorem ok41 : e41.Ok RwR.Γ := ⟨⟨rfl, rfl, rfl, by decide +kernel, rfl, by decide +kernel, by decide +kernel⟩, by kernel_rfl, rfl, rfl⟩
theorem ok42 : e42.Ok RwR.Γ := ⟨⟨rfl, rfl, rfl, by decide +kernel, rfl, by decide +kernel, by decide +kernel⟩, by kernel_rfl, rfl, rfl⟩
theorem ok43 : e43.Ok RwR.Γ := ⟨⟨rfl, rfl, rfl, by decide +kernel, rfl, by decide +kernel, by decide +kernel⟩, by kernel_rfl, rfl, rfl⟩
theorem ok44 : e44.Ok RwR.Γ := ⟨⟨rfl, rfl, rfl, by decide +kernel, rfl, by decide +kernel, by decide +kernel⟩, by kernel_rfl, rfl, rfl⟩
theorem ok45 : e45.Ok RwR.Γ := ⟨⟨rfl, rfl, rfl, by decide +kernel, rfl, by decide +kernel, by decide +kernel⟩, by kernel_rfl, rfl, rfl⟩
theorem ok46 : e46.Ok RwR.Γ := ⟨⟨rfl, rfl, rfl, by decide +kernel, rfl, by decide +kernel, by decide +kernel⟩, by kernel_rfl, rfl, rfl⟩
theorem ok47 : e47.Ok RwR.Γ := ⟨⟨rfl, rfl, rfl, by decide +kernel, rfl, by decide +kernel, by decide +kernel⟩, by kernel_rfl, rfl, rfl⟩
theorem ok48 : e48.Ok RwR.Γ := ⟨⟨rfl, rfl, rfl, by decide +kernel, rfl, by decide +kernel, by decide +kernel⟩, by kernel_rfl, rfl, rfl⟩
theorem ok49 : e49.Ok RwR.Γ := ⟨⟨rfl, rfl, rfl, by decide +kernel, rfl, by decide +kernel, by decide +kernel⟩, by kernel_rfl, rfl, rfl⟩
theorem ok50 : e50.Ok RwR.Γ := ⟨⟨rfl, rfl, rfl, by decide +kernel, rfl, by decide +kernel, by decide +kernel⟩, by kernel_rfl, rfl, rfl⟩
theorem ok51 : e51.Ok RwR.Γ := ⟨⟨rfl, rfl, rfl, by decide +kernel, rfl, by decide +kernel, by decide +kernel⟩, by kernel_rfl, rfl, rfl⟩
theorem bi0 : e0.Bind := fun K f fd F => FunD.bindsN (ps := e0.ps) F fun _ _ _ _ _ _ us hl => match us, hl with | [_], _ => rfl
theorem bi1 : e1.Bind := fun K f fd F => FunD.bindsN (ps := e1.ps) F fun _ _ _ _ _ _ us hl => match us, hl with | [_, _], _ => rfl
theorem bi2 : e2.Bind := fun K f fd F => FunD.bindsN (ps := e2.ps) F fun _ _ _ _ _ _ us hl => match us, hl with | [_, _], _ => rfl
theorem bi3 : e3.Bind := fun K f fd F => FunD.bindsN (ps := e3.ps) F fun _ _ _ _ _ _ us hl => match us, hl with | [_, _, _, _, _], _ => rfl
theorem bi4 : e4.Bind := fun K f fd F => FunD.bindsN (ps := e4.ps) F fun _ _ _ _ _ _ us hl => match us, hl with | [_], _ => rfl
theorem bi5 : e5.Bind := fun K f fd F => FunD.bindsN (ps := e5.ps) F fun _ _ _ _ _ _ us hl => match us, hl with | [_], _ => rfl
theorem bi6 : e6.Bind := fun K f fd F => FunD.bindsN (ps := e6.ps) F fun _ _ _ _ _ _ us hl => match us, hl with | [_, _, _, _], _ => rfl
theorem bi7 : e7.Bind := fun K f fd F => FunD.bindsN (ps := e7.ps) F fun _ _ _ _ _ _ us hl => match us, hl with | [_, _, _], _ => rfl
theorem bi8 : e8.Bind := fun K f fd F => FunD.bindsN (ps := e8.ps) F fun _ _ _ _ _ _ us hl => match us, hl with | [_, _, _, _, _, _], _ => rfl
theorem bi9 : e9.Bind := fun K f fd F => FunD.bindsN (ps := e9.ps) F fun _ _ _ _ _ _ us hl => match us, hl with | [_, _], _ => rfl
theorem bi10 : e10.Bind := fun K f fd F => FunD.bindsN (ps := e10.ps) F fun _ _ _ _ _ _ us hl => match us, hl with | [_, _, _, _, _], _ => rfl
theorem bi11 : e11.Bind := fun K f fd F => FunD.bindsN (ps := e11.ps) F fun _ _ _ _ _ _ us hl => match us, hl with | [_, _, _, _, _, _, _], _ => rfl
theorem bi12 : e12.Bind := fun K f fd F => FunD.bindsN (ps := e12.ps) F fun _ _ _ _ _ _ us hl => match us, hl with | [_, _, _, _, _], _ => rfl
theorem bi13 : e13.Bind := fun K f fd F => FunD.bindsN (ps := e13.ps) F fun _ _ _ _ _ _ us hl => match us, hl with | [_, _], _ => rfl
theorem bi14 : e14.Bind := fun K f fd F => FunD.bindsN (ps := e14.ps) F fun _ _ _ _ _ _ us hl => match us, hl with | [_], _ => rfl
theorem bi15 : e15.Bind := fun K f fd F => FunD.bindsN (ps := e15.ps) F fun _ _ _ _ _ _ us hl => match us, hl with | [_, _], _ => rfl
theorem bi16 : e16.Bind := fun K f fd F => FunD.bindsN (ps := e16.ps) F fun _ _ _ _ _ _ us hl => match us, hl with | [_], _ => rfl
theorem bi17 : e17.Bind := fun K f fd F => FunD.bindsN (ps := e17.ps) F fun _ _ _ _ _ _ us hl => match us, hl with | [_, _], _ => rfl
theorem bi18 : e18.Bind := fun K f fd F => FunD.bindsN (ps := e18.ps) F fun _ _ _ _ _ _ us hl => match us, hl with | [_, _, _], _ => rfl
theorem bi19 : e19.Bind := fun K f fd F => by
  obtain ⟨ds, r, b⟩ := FunD.binds1 (ps := e19.ps) F 4 2 (by simp [e19, d19, He.DefD.dvs]) rfl (fun T kV doc pm an cdv ct us its l1 l2 => match us, its, l1, l2 with | [_, _, _, _], [_, _], _, _ => ⟨_, rfl, rfl⟩)
  have : ds = [] := by cases r; rfl
  subst this
  exact b
theorem bi20 : e20.Bind := fun K f fd F => FunD.bindsN (ps := e20.ps) F fun _ _ _ _ _ _ us hl => match us, hl with | [_], _ => rfl
theorem bi21 : e21.Bind := fun K f fd F => FunD.bindsN (ps := e21.ps) F fun _ _ _ _ _ _ us hl => match us, hl with | [_, _], _ => rfl
theorem bi23 : e23.Bind := fun K f fd F => FunD.bindsN (ps := e23.ps) F fun _ _ _ _ _ _ us hl => match us, hl with | [_, _], _ => rfl
theorem bi24 : e24.Bind := fun K f fd F => FunD.bindsN (ps := e24.ps) F fun _ _ _ _ _ _ us hl => match us, hl with | [_, _, _], _ => rfl
theorem bi25 : e25.Bind := fun K f fd F => FunD.bindsN (ps := e25.ps) F fun _ _ _ _ _ _ us hl => match us, hl with | [_], _ => rfl
theorem bi26 : e26.Bind := fun K f fd F => FunD.bindsN (ps := e26.ps) F fun _ _ _ _ _ _ us hl => match us, hl with | [_, _], _ => rfl
theorem bi27 : e27.Bind := fun K f fd F => FunD.bindsN (ps := e27.ps) F fun _ _ _ _ _ _ us hl => match us, hl with | [_, _], _ => rfl
theorem bi28 : e28.Bind := fun K f fd F => FunD.bindsN (ps := e28.ps) F fun _ _ _ _ _ _ us hl => match us, hl with | [_, _], _ => rfl
theorem bi29 : e29.Bind := fun K f fd F => FunD.bindsN (ps := e29.ps) F fun _ _ _ _ _ _ us hl => match us, hl with | [_, _, _], _ => rfl
theorem bi30 : e30.Bind := fun K f fd F => FunD.bindsN (ps := e30.ps) F fun _ _ _ _ _ _ us hl => match us, hl with | [_, _], _ => rfl
theorem bi31 : e31.Bind := fun K f fd F => FunD.bindsN (ps := e31.ps) F fun _ _ _ _ _ _ us hl => match us, hl with | [_, _, _, _], _ => rfl
theorem bi32 : e32.Bind := fun K f fd F => FunD.bindsN (ps := e32.ps) F fun _ _ _ _ _ _ us hl => match us, hl with | [_, _], _ => rfl
theorem bi33 : e33.Bind := fun K f fd F => FunD.bindsN (ps := e33.ps) F fun _ _ _ _ _ _ us hl => match us, hl with | [_, _, _], _ => rfl
theorem bi34 : e34.Bind := fun K f fd F => FunD.bindsN (ps := e34.ps) F fun _ _ _ _ _ _ us hl => match us, hl with | [_, _, _, _], _ => rfl
theorem bi35 : e35.Bind := fun K f fd F => FunD.bindsN (ps := e35.ps) F fun _ _ _ _ _ _ us hl => match us, hl with | [_, _], _ => rfl
theorem bi36 : e36.Bind := fun K f fd F => FunD.bindsN (ps := e36.ps) F fun _ _ _ _ _ _ us hl => match us, hl with | [_, _, _], _ => rfl
theorem bi37 : e37.Bind := fun K f fd F => FunD.bindsN (ps := e37.ps) F fun _ _ _ _ _ _ us hl => match us, hl with | [_, _, _], _ => rfl
theorem bi38 : e38.Bind := fun K f fd F => FunD.bindsN (ps := e38.ps) F fun _ _ _ _ _ _ us hl => match us, hl with | [_, _], _ => rfl
theorem bi39 : e39.Bind := fun K f fd F => FunD.bindsN (ps := e39.ps) F fun _ _ _ _ _ _ us hl => match us, hl with | [_], _ => rfl
theorem bi40 : e40.Bind := fun K f fd F => FunD.bindsN (ps := e40.ps) F fun _ _ _ _ _ _ us hl => match us, hl with | [_, _], _ => rfl
theorem bi41 : e41.Bind := fun K f fd F => FunD.bindsN (ps := e41.ps) F fun _ _ _ _ _ _ us hl => match us, hl with | [_, _, _], _ => rfl
theorem bi42 : e42.Bind := fun K f fd F => FunD.bindsN (ps := e42.ps) F fun _ _ _ _ _ _ us hl => match us, hl with | [_], _ => rfl
theorem bi43 : e43.Bind := fun K f fd F => FunD.bindsN (ps := e43.ps) F fun _ _ _ _ _ _ us hl => match us, hl with | [_], _ => rfl
theorem bi44 : e44.Bind := fun K f fd F => FunD.bindsN (ps := e44.ps) F fun _ _ _ _ _ _ us hl => match us, hl with | [_, _], _ => rfl
theorem bi45 : e45.Bind := fun K f fd F => FunD.bindsN (ps := e45.ps) F fun _ _ _ _ _ _ us hl => match us, hl with | [_], _ => rfl
theorem bi46 : e46.Bind := fun K f fd F => FunD.bindsN (ps := e46.ps) F fun _ _ _ _ _ _ us hl => match us, hl with | [_, _], _ => rfl
theorem bi47 : e47.Bind := fun K f fd F => FunD.bindsN (ps := e47.ps) F fun _ _ _ _ _ _ us hl => match us, hl with | [_, _, _], _ => rfl
theorem bi48 : e48.Bind := fun K f fd F => FunD.bindsN (ps := e48.ps) F fun _ _ _ _ _ _ us hl => match us, hl with | [_], _ => rfl
theorem bi49 : e49.Bind := fun K f fd F => FunD.bindsN (ps := e49.ps) F fun _ _ _ _ _ _ us hl => match us, hl with | [_], _ => rfl
theorem bi50 : e50.Bind := fun K f fd F => FunD.bindsN (ps := e50.ps) F fun _ _ _ _ _ _ us hl => match us, hl with | [_, _, _], _ => rfl
theorem bi51 : e51.Bind := fun K f fd F => FunD.bindsN (ps := e51.ps) F fun _ _ _ _ _ _ us hl => match us, hl with | [_, _], _ => rfl
theorem bk22 : e22.BindK 1 ["worth", "need"] := fun K f fd F => by
  obtain ⟨mv, h⟩ := FunD.kbinds0 (ps := e22.ps) F 2 ["worth", "need"] [] (fun us _ ws => us ++ ws) (by simp [e22, d22, He.DefD.kws]) (by simp) (fun r1 _ r3 => r1.append r3)
    (fun D doc pm an cdv ct us mv ws l1 l2 l3 => match us, mv, ws, l1, l2, l3 with | [_, _], [], [_, _], _, _, _ => rfl)
  exact h
theorem all_ok : AllI (fun i e => (RwR.prim.lookup i = none → e.Ok RwR.Γ) ∧ (RwR.isFn i = true → e.Bind)) 0 RwR.fns := ⟨⟨fun _ => ok0, fun _ => bi0⟩, ⟨fun _ => ok1, fun _ => bi1⟩, ⟨fun _ => ok2, fun _ => bi2⟩, ⟨fun _ => ok3, fun _ => bi3⟩, ⟨fun _ => ok4, fun _ => bi4⟩, ⟨fun _ => ok5, fun _ => bi5⟩, ⟨fun _ => ok6, fun _ => bi6⟩, ⟨fun _ => ok7, fun _ => bi7⟩, ⟨fun _ => ok8, fun _ => bi8⟩, ⟨fun _ => ok9, fun _ => bi9⟩, ⟨fun _ => ok10, fun _ => bi10⟩, ⟨fun _ => ok11, fun _ => bi11⟩, ⟨fun _ => ok12, fun _ => bi12⟩, ⟨fun _ => ok13, fun _ => bi13⟩, ⟨fun _ => ok14, fun _ => bi14⟩, ⟨fun _ => ok15, fun _ => bi15⟩, ⟨fun _ => ok16, fun _ => bi16⟩, ⟨fun _ => ok17, fun _ => bi17⟩, ⟨fun _ => ok18, fun _ => bi18⟩, ⟨fun _ => ok19, fun _ => bi19⟩, ⟨fun _ => ok20, fun _ => bi20⟩, ⟨fun _ => ok21, fun _ => bi21⟩, ⟨fun _ => ok22, fun h => absurd h (by decide +kernel)⟩, ⟨fun _ => ok23, fun _ => bi23⟩, ⟨fun _ => ok24, fun _ => bi24⟩, ⟨fun _ => ok25, fun _ => bi25⟩, ⟨fun _ => ok26, fun _ => bi26⟩, ⟨fun _ => ok27, fun _ => bi27⟩, ⟨fun _ => ok28, fun _ => bi28⟩, ⟨fun _ => ok29, fun _ => bi29⟩, ⟨fun _ => ok30, fun _ => bi30⟩, ⟨fun _ => ok31, fun _ => bi31⟩, ⟨fun _ => ok32, fun _ => bi32⟩, ⟨fun _ => ok33, fun _ => bi33⟩, ⟨fun _ => ok34, fun _ => bi34⟩, ⟨fun _ => ok35, fun _ => bi35⟩, ⟨fun _ => ok36, fun _ => bi36⟩, ⟨fun _ => ok37, fun _ => bi37⟩, ⟨fun _ => ok38, fun _ => bi38⟩, ⟨fun _ => ok39, fun _ => bi39⟩, ⟨fun _ => ok40, fun _ => bi40⟩, ⟨fun _ => ok41, fun _ => bi41⟩, ⟨fun _ => ok42, fun _ => bi42⟩, ⟨fun _ => ok43, fun _ => bi43⟩, ⟨fun _ => ok44, fun _ => bi44⟩, ⟨fun _ => ok45, fun _ => bi45⟩, ⟨fun _ => ok46, fun _ => bi46⟩, ⟨fun _ => ok47, fun _ => bi47⟩, ⟨fun _ => ok48, fun _ => bi48⟩, ⟨fun _ => ok49, fun _ => bi49⟩, ⟨fun _ => ok50, fun _ => bi50⟩, ⟨fun _ => ok51, fun _ => bi51⟩, trivial⟩
theorem cls_ok : ∀ (c np : Nat) (ks : List Str) (i : Nat) (e : FE), RwR.ck[c]? = some (np, ks) → RwR.ini[c]? = some i → RwR.fns[i]? = some e → (ks = [] → e.Bind) ∧ (ks ≠ [] → e.BindK np ks) := by
  intro c np ks i e h1 h2 h3
  rcases c with _|_|_|_|c
  · have z1 : ((3, []) : Nat × List Str) = (np, ks) := Option.some.inj h1
    have z2 : 19 = i := Option.some.inj h2
    cases z1
    cases z2
    cases (show e19 = e from Option.some.inj h3)
    exact ⟨fun _ => bi19, fun h => absurd rfl h⟩
  · have z1 : ((1, ["worth", "need"]) : Nat × List Str) = (np, ks) := Option.some.inj h1
    have z2 : 22 = i := Option.some.inj h2
    cases z1
    cases z2
    cases (show e22 = e from Option.some.inj h3)
    exact ⟨fun h => absurd h (by simp), fun _ => bk22⟩
  · have z1 : ((2, []) : Nat × List Str) = (np, ks) := Option.some.inj h1
    have z2 : 24 = i := Option.some.inj h2
    cases z1
    cases z2
    cases (show e24 = e from Option.some.inj h3)
    exact ⟨fun _ => bi24, fun h => absurd rfl h⟩
  · have z1 : ((2, []) : Nat × List Str) = (np, ks) := Option.some.inj h1
    have z2 : 29 = i := Option.some.inj h2
    cases z1
    cases z2
    cases (show e29 = e from Option.some.inj h3)
    exact ⟨fun _ => bi29, fun h => absurd rfl h⟩
  · simp [RwR] at h1
end Rw

end

-- part LawK43
section
section
set_option Elab.async false
set_option linter.all false
set_option maxRecDepth 100000
set_option maxHeartbeats 0
namespace Rw
open PySem PySem.Spec PyProof.Rows L2 Ev
def loose0 : List PySem.Str := ["_wall", "frozen", "Tolls", "least_ways", "journey_costs", "toll_fault", "width_tolls", "bill", "OfficeError", "BadSize", "BadWidth", "BadGate", "BadRoad", "BadWorth", "BadNeed", "BadNets", "BadCount", "BadStarts", "MOST_PLACES", "MOST_WIDTH", "MOST_COST", "is_width", "checked_widths", "checked_gates", "is_road", "checked_roads", "Net", "MOST_PARCELS", "MOST_NETS", "MOST_WORTH"]
def loose1 : List PySem.Str := ["MOST_NEED", "check_worth", "check_need", "Parcel", "starts_fit", "Office", "_law_cell", "_law_digits", "_law_same", "_law_net_sizes", "_law_net", "_law_free", "_law_mended", "_law_parcel_sizes", "_law_parcels", "_law_office", "_law_make", "_law_stayed", "_law_ways", "_law_all_ways", "_law_way_cost", "_law_dues", "_law_fault", "_law_bill", "_law_drawn_tolls", "_law_cheaper", "_law_asked", "_law_shuffled", "_law_unlike", "_law_alike"]
def loose2 : List PySem.Str := ["_law_equals", "_law_other_office"]
def loose : List PySem.Str := loose0 ++ loose1 ++ loose2
abbrev RR : PySem.W.OpenRow := PySem.W.OpenLaw.row PySem.Challenge.rw_sloweralone_k43_toll_judge
abbrev hk : PySem.W.Hook := hookE 4 RwR
def ob (s : PySem.W.SharedT) : He.AlD × Bool := obsE 4 RwR (HandSHeadRun.getT s)
theorem ob_eq (s : PySem.W.SharedT) : ob s = hk.obs s.abs := obsE_eq (HandSHeadRun.getT_eq s)
theorem run (w : World) : HandSHeadRun.RunEq RR (PySem.W.view RR.prog [68]) hk ob 20000 loose w := by
  intro os
  kernel_rfl
end Rw
open PySem PySem.W PySem.Calls PyProof.Rows
open L2 in
theorem law_from (prims : ∀ (w : World) (K : PySem.W.Frag) (mg : Str → Option Value) (base : Heap) i φ e fd, Rw.RwR.prim.lookup i = some φ → Rw.RwR.fns[i]? = some e → Ev.FE.Fun K e (He.fAd K e.d.at_) fd → ∀ n, Ev.EnvOk PySem.Challenge.rw_sloweralone_k43_toll_judge.prog w K mg base (Rw.RwR.N PySem.Challenge.rw_sloweralone_k43_toll_judge.prog w K) (Ev.lvl Rw.RwR.T n) (2 * n) Rw.RwR.Γ → FnOk PySem.Challenge.rw_sloweralone_k43_toll_judge.prog w K mg base (L2.CX PySem.Challenge.rw_sloweralone_k43_toll_judge.prog w) (2 * n + 2) (He.fAd K e.d.at_) fd e.ps (Ev.spP K (Rw.RwR.N PySem.Challenge.rw_sloweralone_k43_toll_judge.prog w K) φ)) (law : ∀ ns : List Int, ns.length ≤ 63 → (Ev.lvl Rw.RwR.T 60).call 0 [.scr ns] = .ok (.bl true)) : PySem.Challenge.rw_sloweralone_k43_toll_judge.Holds := by
  w_on; o_law
  refine HandSHeadRun.head_any (r := OpenLaw.row PySem.Challenge.rw_sloweralone_k43_toll_judge) (q := view (OpenLaw.row PySem.Challenge.rw_sloweralone_k43_toll_judge).prog [68]) (H := Rw.hk) (ob := Rw.ob) (M := 20000) (loose := Rw.loose) (d := HandSHeadRun.topDef (OpenLaw.row PySem.Challenge.rw_sloweralone_k43_toll_judge).prog 68) (kwd := []) Rw.ob_eq
    (by kernel_rfl) (fun s => by kernel_rfl) Rw.run (by kernel_rfl) (by kernel_rfl) (by kernel_rfl) (by rfl) (by first | assumption | decide +kernel) (by decide +kernel) ⟨rfl, rfl, rfl, rfl, rfl, by decide +kernel⟩ ?hw ?hc
  case hw => w_witness2
  case hc =>
    refine L2.walk_ofE (l := PySem.Challenge.rw_sloweralone_k43_toll_judge) (n := 63) (k := 120) (x := "script") (CX := Ev.CXw PySem.Challenge.rw_sloweralone_k43_toll_judge.prog) rfl (by decide) (by kernel_rfl) ⟨rfl, by decide, by decide⟩ ?F Ev.cxw_no
    intro w mg fa h Y G hmg0
    have hmg : mg ("law" : PySem.Str) = some (.ref fa) := by
      have e : (HandSHeadRun.topDef (OpenLaw.row PySem.Challenge.rw_sloweralone_k43_toll_judge).prog 68).name = ("law" : PySem.Str) := by kernel_rfl
      rw [← e]
      exact hmg0
    exact Ev.law_F (e := Rw.e0) Rw.R_ok Rw.all_ok Rw.cls_ok (prims) rfl rfl rfl rfl (List.mem_of_getElem? (i := 0) (by rfl)) (fun K f fd F s u => FunD.bindsA (ps := ["script"]) F (fun _ _ _ _ _ _ us hl => match us, hl with | [_], _ => rfl) s [u] rfl) law w mg fa h Y G hmg

end

end

-- part Px
section
set_option Elab.async false
set_option linter.all false
namespace Ev
open PySem
/-! # Stepping through the evaluator -/
def Wp (o : O) (Q : O → Prop) : Prop := Q o
def Ret (p : PR) (Q : D → Prop) : Prop := ∃ x, p = .ok x ∧ Q x
theorem call_at {T : Tab} {n i : Nat} {f : Fd} {ds : List D} (h : T.fd i = some f) (hl : ds.length = f.params) : (lvl T (n + 1)).call i ds = (evSs (lvl T n) f.body 0 (startS f.slots (ds.map .d)) []).res := by
  show (match T.fd i with
      | some f => if ds.length = f.params then (evSs (lvl T n) f.body 0 (startS f.slots (ds.map .d)) []).res else .no
      | none => match T.prim i with
        | some p => p ds
        | none => .no) = _
  rw [h]
  simp only [hl, if_true]
theorem init_at {T : Tab} {n c : Nat} {f : Fd} {ds : List D} (h : (T.ini c).bind T.fd = some f) (hl : ds.length + 1 = f.params) :
    (lvl T (n + 1)).init c ds = (evSs (lvl T n) f.body 1 (startS f.slots (.r 0 :: ds.map .d)) [.ob c []]).resI := by
  show (match (T.ini c).bind T.fd with
      | some f => if ds.length + 1 = f.params then (evSs (lvl T n) f.body 1 (startS f.slots (.r 0 :: ds.map .d)) [.ob c []]).resI else .no
      | none => .no) = _
  rw [h]
  simp only [hl, if_true]
/-- a call that ends with this -/
theorem call_eq {T : Tab} {n i : Nat} {f : Fd} {ds : List D} {p : PR} (hn : 0 < n) (h : T.fd i = some f) (hl : ds.length = f.params)
    (w : ∀ m, m + 1 = n → ∀ R : O → Prop, (∀ o, o.res = p → R o) → Wp (evSs (lvl T m) f.body 0 (startS f.slots (ds.map .d)) []) R) : (lvl T n).call i ds = p := by
  obtain ⟨m, rfl⟩ : ∃ m, n = m + 1 := ⟨n - 1, by omega⟩
  rw [call_at h hl]
  exact w m rfl (fun o => o.res = p) (fun _ h => h)
theorem call_ret {T : Tab} {n i : Nat} {f : Fd} {ds : List D} {Q : D → Prop} (hn : 0 < n) (h : T.fd i = some f) (hl : ds.length = f.params)
    (w : ∀ m, m + 1 = n → ∀ R : O → Prop, (∀ o x, o.res = .ok x → Q x → R o) → Wp (evSs (lvl T m) f.body 0 (startS f.slots (ds.map .d)) []) R) : ∃ x, (lvl T n).call i ds = .ok x ∧ Q x := by
  obtain ⟨m, rfl⟩ : ∃ m, n = m + 1 := ⟨n - 1, by omega⟩
  rw [call_at h hl]
  exact w m rfl (fun o => ∃ x, o.res = .ok x ∧ Q x) (fun _ x h q => ⟨x, h, q⟩)
theorem init_eq {T : Tab} {n c : Nat} {f : Fd} {ds : List D} {p : PR} (hn : 0 < n) (h : (T.ini c).bind T.fd = some f) (hl : ds.length + 1 = f.params)
    (w : ∀ m, m + 1 = n → ∀ R : O → Prop, (∀ o, o.resI = p → R o) → Wp (evSs (lvl T m) f.body 1 (startS f.slots (.r 0 :: ds.map .d)) [.ob c []]) R) : (lvl T n).init c ds = p := by
  obtain ⟨m, rfl⟩ : ∃ m, n = m + 1 := ⟨n - 1, by omega⟩
  rw [init_at h hl]
  exact w m rfl (fun o => o.resI = p) (fun _ h => h)
/-- statements one behind the other -/
theorem wp_then {x : O} {f : Sl → Gs → O} {Q : O → Prop} (h : Wp x (fun o => Q (o.andThen f))) : Wp (x.andThen f) Q := h
theorem wp_mono {x : O} {Q Q' : O → Prop} (h : Wp x Q) (hq : ∀ o, Q o → Q' o) : Wp x Q' := hq _ h
/-- the rule for a for -/
theorem for_gen {body : Sl → Gs → O} {tg : Tg} {chk : Gs → Bool} {Q : O → Prop} (P : Nat → Sl → Gs → Prop) : ∀ (its : List It) (k0 : Nat) (σ : Sl) (G : Gs), P k0 σ G →
    (∀ k x σ G, its[k]? = some x → P (k0 + k) σ G → ∃ σ1, bindTg G tg x σ = some σ1 ∧ (match body σ1 G with
      | .nx σ2 G2 => chk G2 = true ∧ P (k0 + k + 1) σ2 G2
      | .ct σ2 G2 => chk G2 = true ∧ P (k0 + k + 1) σ2 G2
      | .bk σ2 G2 => Q (.nx σ2 G2)
      | o => Q o)) →
    (∀ σ G, P (k0 + its.length) σ G → Q (.nx σ G)) → Q (forLoop body tg chk its σ G)
  | [], k0, σ, G, h, _, hq => by unfold forLoop; exact hq σ G h
  | x :: r, k0, σ, G, h, hs, hq => by
    obtain ⟨σ1, e1, e2⟩ := hs 0 x σ G rfl h
    have next : ∀ σ2 G2, P (k0 + 1) σ2 G2 → Q (forLoop body tg chk r σ2 G2) := fun σ2 G2 h2 =>
      for_gen P r (k0 + 1) σ2 G2 h2 (fun k y σ G e hp => by
        have := hs (k + 1) y σ G (by simpa using e) (by rw [show k0 + (k + 1) = k0 + 1 + k by omega]; exact hp)
        rw [show k0 + (k + 1) + 1 = k0 + 1 + k + 1 by omega] at this
        exact this) fun σ G hp => hq σ G (by simpa [Nat.add_assoc, Nat.add_comm 1] using hp)
    unfold forLoop
    rw [e1]
    dsimp only
    cases eb : body σ1 G with
    | nx σ2 G2 =>
      rw [eb] at e2
      dsimp only at e2 ⊢
      rw [if_pos e2.1]
      exact next _ _ e2.2
    | ct σ2 G2 =>
      rw [eb] at e2
      dsimp only at e2 ⊢
      rw [if_pos e2.1]
      exact next _ _ e2.2
    | bk σ2 G2 => rw [eb] at e2; exact e2
    | rt w G2 => rw [eb] at e2; exact e2
    | ex z σ2 G2 => rw [eb] at e2; exact e2
    | no => rw [eb] at e2; exact e2
/-- what a turn comes to -/
def Turn (chk : Gs → Bool) (P : Sl → Gs → Prop) (Q : O → Prop) : O → Prop
  | .nx σ2 G2 => chk G2 = true ∧ P σ2 G2
  | .ct σ2 G2 => chk G2 = true ∧ P σ2 G2
  | .bk σ2 G2 => Q (.nx σ2 G2)
  | o => Q o
theorem wp_for {body : Sl → Gs → O} {tg : Tg} {chk : Gs → Bool} {its : List It} {f : Sl → Gs → O} {σ : Sl} {G : Gs} {Q : O → Prop} (P : Nat → Sl → Gs → Prop) (h0 : P 0 σ G)
    (hs : ∀ k x σ2 G2, its[k]? = some x → P k σ2 G2 → ∀ R : O → Prop, (∀ o, Turn chk (P (k + 1)) (fun o => Wp (o.andThen f) Q) o → R o) → ∃ σ3, bindTg G2 tg x σ2 = some σ3 ∧ Wp (body σ3 G2) R)
    (he : ∀ σ2 G2, P its.length σ2 G2 → Wp (f σ2 G2) Q) : Wp ((forLoop body tg chk its σ G).andThen f) Q := by
  refine for_gen (Q := fun o => Wp (o.andThen f) Q) P its 0 σ G h0 (fun k x σ2 G2 e hp => ?_) (fun σ2 G2 hp => he σ2 G2 (by simpa using hp))
  obtain ⟨σ3, e1, e2⟩ := hs k x σ2 G2 e (by simpa using hp) _ fun _ h => h
  refine ⟨σ3, e1, ?_⟩
  rw [Nat.zero_add]
  unfold Wp Turn at e2
  generalize body σ3 G2 = o at e2 ⊢
  cases o <;> exact e2
/-- range(n), a name -/
theorem wp_range {body : Sl → Gs → O} {i : Nat} {chk : Gs → Bool} {f : Sl → Gs → O} {σ : Sl} {G : Gs} {Q : O → Prop} {lo hi : Int} (n : Nat) (hh : hi = lo + n) (P : Nat → Sl → Gs → Prop) (h0 : P 0 σ G)
    (hs : ∀ k σ2 G2, k < n → P k σ2 G2 → ∀ R : O → Prop, (∀ o, Turn chk (P (k + 1)) (fun o => Wp (o.andThen f) Q) o → R o) → Wp (body (setS σ2 i (.d (.int (lo + k)))) G2) R)
    (he : ∀ σ2 G2, P n σ2 G2 → Wp (f σ2 G2) Q) : Wp ((forLoop body (.var i) chk (rangeIt lo hi) σ G).andThen f) Q := by
  subst hh
  have hl : (rangeIt lo (lo + n)).length = n := by simp [rangeIt]; omega
  refine wp_for P h0 (fun k x σ2 G2 e hp => ?_) (fun σ2 G2 hp => he σ2 G2 (by rw [hl] at hp; exact hp))
  have hk : k < n := by
    have := (List.getElem?_eq_some_iff.mp e).1
    omega
  have hx : x = .one (.d (.int (lo + k))) := by
    unfold rangeIt at e
    rw [List.getElem?_map] at e
    rw [List.getElem?_range (by omega)] at e
    simpa using e.symm
  subst hx
  exact fun R hR => ⟨_, rfl, hs k σ2 G2 hk hp R hR⟩
theorem wp_range0 {body : Sl → Gs → O} {i : Nat} {chk : Gs → Bool} {f : Sl → Gs → O} {σ : Sl} {G : Gs} {Q : O → Prop} {hi : Int} (n : Nat) (hh : hi = n) (P : Nat → Sl → Gs → Prop) (h0 : P 0 σ G)
    (hs : ∀ k σ2 G2, k < n → P k σ2 G2 → ∀ R : O → Prop, (∀ o, Turn chk (P (k + 1)) (fun o => Wp (o.andThen f) Q) o → R o) → Wp (body (setS σ2 i (.d (.int k))) G2) R)
    (he : ∀ σ2 G2, P n σ2 G2 → Wp (f σ2 G2) Q) : Wp ((forLoop body (.var i) chk (rangeIt 0 hi) σ G).andThen f) Q := by
  refine wp_range n (by omega) P h0 (fun k σ2 G2 hk hp => ?_) he
  rw [Int.zero_add]
  exact hs k σ2 G2 hk hp
/-- a list of data -/
theorem wp_each {α : Type} {body : Sl → Gs → O} {tg : Tg} {chk : Gs → Bool} {f : Sl → Gs → O} {σ : Sl} {G : Gs} {Q : O → Prop} {enc : α → It} (xs : List α) (P : Nat → Sl → Gs → Prop) (h0 : P 0 σ G)
    (hs : ∀ k x σ2 G2, xs[k]? = some x → P k σ2 G2 → ∀ R : O → Prop, (∀ o, Turn chk (P (k + 1)) (fun o => Wp (o.andThen f) Q) o → R o) → ∃ σ3, bindTg G2 tg (enc x) σ2 = some σ3 ∧ Wp (body σ3 G2) R)
    (he : ∀ σ2 G2, P xs.length σ2 G2 → Wp (f σ2 G2) Q) : Wp ((forLoop body tg chk (xs.map enc) σ G).andThen f) Q := by
  refine wp_for P h0 (fun k x σ2 G2 e hp => ?_) (fun σ2 G2 hp => he σ2 G2 (by simpa using hp))
  rw [List.getElem?_map] at e
  cases h : xs[k]? with
  | none => rw [h] at e; simp at e
  | some a =>
    rw [h] at e
    simp only [Option.map_some, Option.some.injEq] at e
    subst e
    exact hs k a σ2 G2 h hp
/-! ## Comprehensions -/
theorem lc_map {α : Type} {cond elt : Sl → Gs → R W} {tg : Tg} {σ : Sl} {chk : Gs → Bool} {G : Gs} {enc : α → It} (f : α → D) (hc : chk G = true) : ∀ (xs : List α) (acc : List W),
    (∀ x ∈ xs, ∃ σ1, bindTg G tg (enc x) σ = some σ1 ∧ elt σ1 G = .ok (.d (f x)) G) → lcLoop cond elt false tg σ chk (xs.map enc) acc G = .ok (acc ++ (xs.map f).map .d) G
  | [], acc, _ => by simp only [List.map_nil, lcLoop, List.append_nil]
  | x :: r, acc, h => by
    obtain ⟨σ1, e1, e2⟩ := h x List.mem_cons_self
    rw [List.map_cons]
    unfold lcLoop
    rw [e1]
    simp only [Bool.false_eq_true, if_false, bL, e2, hc, if_true]
    rw [lc_map f hc r _ fun y hy => h y (List.mem_cons_of_mem _ hy)]
    simp
theorem lc_filter {α : Type} {cond elt : Sl → Gs → R W} {tg : Tg} {σ : Sl} {chk : Gs → Bool} {G : Gs} {enc : α → It} (p : α → Bool) (f : α → D) (hc : chk G = true) : ∀ (xs : List α) (acc : List W),
    (∀ x ∈ xs, ∃ σ1, bindTg G tg (enc x) σ = some σ1 ∧ cond σ1 G = .ok (.d (.bl (p x))) G ∧ (p x = true → elt σ1 G = .ok (.d (f x)) G)) → lcLoop cond elt true tg σ chk (xs.map enc) acc G = .ok (acc ++ ((xs.filter p).map f).map .d) G
  | [], acc, _ => by simp only [List.map_nil, lcLoop, List.append_nil, List.filter_nil]
  | x :: r, acc, h => by
    obtain ⟨σ1, e1, e2, e3⟩ := h x List.mem_cons_self
    rw [List.map_cons]
    unfold lcLoop
    rw [e1]
    simp only [if_true, e2]
    cases hp : p x with
    | true =>
      simp only [e3 hp, hc, if_true]
      rw [lc_filter p f hc r _ fun y hy => h y (List.mem_cons_of_mem _ hy)]
      simp [hp]
    | false =>
      simp only [hc, if_true]
      rw [lc_filter p f hc r _ fun y hy => h y (List.mem_cons_of_mem _ hy)]
      simp [hp]
theorem fz_d (n : Nat) (x : D) (G : Gs) : fz n (.d x) G = some (x, G) := by cases n <;> rfl
theorem sn_d (G : Gs) (n : Nat) (x : D) : sn G n (.d x) = some x := by cases n <;> rfl
theorem fzL_d (n : Nat) (G : Gs) : ∀ ds : List D, fzL (fz n) (ds.map .d) G = some (ds, G)
  | [] => rfl
  | x :: r => by simp only [List.map_cons, fzL, fz_d, Option.bind_some, fzL_d n G r]
theorem allD_d : ∀ ds : List D, allD (ds.map .d) = some ds
  | [] => rfl
  | x :: r => by simp only [List.map_cons, allD, allD_d r, Option.map_some]
theorem evE_lc {α : Type} {Φ : Fns} {k : Nat} {elt : E} {tg : Tg} {it : Itr} {own : List Nat} {σ : Sl} {G G1 : Gs} {enc : α → It} {xs : List α} {cs : List Nat} (f : α → D)
    (hit : evI Φ it σ G = .ok (xs.map enc, cs) G1) (hc : watch cs G1 G1 = true)
    (h : ∀ x ∈ xs, ∃ σ1, bindTg G1 tg (enc x) (wipeS σ own) = some σ1 ∧ evE Φ elt σ1 G1 = .ok (.d (f x)) G1) :
    evE Φ (.lc k elt tg it own none) σ G = mkL k ((xs.map f).map .d) G1 := by
  unfold evE
  rw [hit]
  show (lcLoop (evC Φ none) (evE Φ elt) false tg (wipeS σ own) (watch cs G1) (xs.map enc) [] G1).bind (fun ws G3 => mkL k ws G3) = _
  rw [lc_map f hc xs [] h]
  rfl
theorem evE_lcif {α : Type} {Φ : Fns} {k : Nat} {elt c : E} {tg : Tg} {it : Itr} {own : List Nat} {σ : Sl} {G G1 : Gs} {enc : α → It} {xs : List α} {cs : List Nat} (p : α → Bool) (f : α → D)
    (hit : evI Φ it σ G = .ok (xs.map enc, cs) G1) (hc : watch cs G1 G1 = true)
    (h : ∀ x ∈ xs, ∃ σ1, bindTg G1 tg (enc x) (wipeS σ own) = some σ1 ∧ evE Φ c σ1 G1 = .ok (.d (.bl (p x))) G1 ∧ (p x = true → evE Φ elt σ1 G1 = .ok (.d (f x)) G1)) :
    evE Φ (.lc k elt tg it own (some c)) σ G = mkL k (((xs.filter p).map f).map .d) G1 := by
  unfold evE
  rw [hit]
  show (lcLoop (evC Φ (some c)) (evE Φ elt) true tg (wipeS σ own) (watch cs G1) (xs.map enc) [] G1).bind (fun ws G3 => mkL k ws G3) = _
  rw [lc_filter (cond := evC Φ (some c)) p f hc xs [] h]
  rfl
end Ev

end

-- part Py
section
set_option Elab.async false
set_option linter.all false
namespace Ev
open PySem
/-! # rewriting rules -/
theorem bind_ok {α β : Type} (a : α) (G : Gs) (f : α → Gs → R β) : (R.ok a G).bind f = f a G := rfl
theorem thenS_ok {α : Type} (a : α) (G : Gs) (σ : Sl) (f : α → Gs → O) : (R.ok a G).thenS σ f = f a G := rfl
theorem andThen_nx (σ : Sl) (G : Gs) (f : Sl → Gs → O) : (O.nx σ G).andThen f = f σ G := rfl
theorem andThen_rt (w : W) (G : Gs) (f : Sl → Gs → O) : (O.rt w G).andThen f = .rt w G := rfl
theorem andThen_ct (σ : Sl) (G : Gs) (f : Sl → Gs → O) : (O.ct σ G).andThen f = .ct σ G := rfl
theorem andThen_bk (σ : Sl) (G : Gs) (f : Sl → Gs → O) : (O.bk σ G).andThen f = .bk σ G := rfl
theorem cond3_b (b : Bool) (G : Gs) (t e : Gs → R W) : cond3 (.ok (.d (.bl b)) G) t e = if b = true then t G else e G := by cases b <;> rfl
theorem condS_b (b : Bool) (G : Gs) (σ : Sl) (t e : Gs → O) : condS (.ok (.d (.bl b)) G) σ t e = if b = true then t G else e G := by cases b <;> rfl
theorem notW_b (b : Bool) (G : Gs) : notW (.ok (.d (.bl b)) G) = .ok (.d (.bl (!b))) G := rfl
theorem drop_nil (fl : Nat) (σ : Sl) (G : Gs) : dropAll fl [] σ G = (σ, G) := rfl
theorem res_nx (σ : Sl) (G : Gs) : (O.nx σ G).res = .ok .non := rfl
theorem res_rt (x : D) (G : Gs) : (O.rt (.d x) G).res = .ok x := by simp only [O.res, fz_d]
theorem ite_tt {α : Type} (a b : α) : (if true = true then a else b) = a := rfl
theorem ite_ff {α : Type} (a b : α) : (if false = true then a else b) = b := rfl
/-! choices of booleans: one outcome -/
theorem ite_okb {p : Prop} [Decidable p] (a b : Bool) (G : Gs) : (if p then (R.ok (W.d (.bl a)) G) else .ok (.d (.bl b)) G) = .ok (.d (.bl (if p then a else b))) G := by split <;> rfl
theorem ite_oki {p : Prop} [Decidable p] (a b : Int) (G : Gs) : (if p then (R.ok (W.d (.int a)) G) else .ok (.d (.int b)) G) = .ok (.d (.int (if p then a else b))) G := by split <;> rfl
theorem ite_and (a b : Bool) : (if a = true then b else false) = (a && b) := by cases a <;> rfl
theorem ite_or (a b : Bool) : (if a = true then true else b) = (a || b) := by cases a <;> rfl
theorem b2i_dec (p : Prop) [Decidable p] : (if decide p = true then (1:Int) else 0) = if p then 1 else 0 := by simp
theorem dec_not (p : Prop) [Decidable p] : (!decide p) = decide (¬ p) := by simp
theorem dec_and (p q : Prop) [Decidable p] [Decidable q] : (decide p && decide q) = decide (p ∧ q) := by simp
theorem dec_or (p q : Prop) [Decidable p] [Decidable q] : (decide p || decide q) = decide (p ∨ q) := by simp
section
variable (Φ : Fns) (i j : Int) (G : Gs)
theorem cmp_lt : cmpW Φ .lt (.d (.int i)) (.d (.int j)) G = .ok (.d (.bl (decide (i < j)))) G := rfl
theorem cmp_le : cmpW Φ .le (.d (.int i)) (.d (.int j)) G = .ok (.d (.bl (decide (i ≤ j)))) G := rfl
theorem cmp_gt : cmpW Φ .gt (.d (.int i)) (.d (.int j)) G = .ok (.d (.bl (decide (j < i)))) G := rfl
theorem cmp_ge : cmpW Φ .ge (.d (.int i)) (.d (.int j)) G = .ok (.d (.bl (decide (j ≤ i)))) G := rfl
theorem eqD_int : eqD (.int i) (.int j) = some (decide (i = j)) := by
  unfold eqD
  simp only [py]
  have h : (SeqAt.shaped (.int i) && SeqAt.shaped (.int j)) = true := rfl
  rw [if_pos h]
  congr 1
theorem cmp_eq : cmpW Φ .eq (.d (.int i)) (.d (.int j)) G = .ok (.d (.bl (decide (i = j)))) G := by
  simp only [cmpW, eqW, sn_d, eqD_int]; rfl
theorem cmp_ne : cmpW Φ .ne (.d (.int i)) (.d (.int j)) G = .ok (.d (.bl (decide (¬ i = j)))) G := by
  simp only [cmpW, eqW, sn_d, eqD_int]; rw [← dec_not]; rfl
theorem is_non : cmpW Φ .is (.d .non) (.d .non) G = .ok (.d (.bl true)) G := rfl
theorem is_int : cmpW Φ .is (.d (.int i)) (.d .non) G = .ok (.d (.bl false)) G := rfl
theorem is_ins (c : Nat) (fs : List (Nat × D)) : cmpW Φ .is (.d (.ins c fs)) (.d .non) G = .ok (.d (.bl false)) G := rfl
theorem is_tup (fs : List D) : cmpW Φ .is (.d (.tup fs)) (.d .non) G = .ok (.d (.bl false)) G := rfl
theorem is_bb (a b : Bool) : cmpW Φ .is (.d (.bl a)) (.d (.bl b)) G = .ok (.d (.bl (a == b))) G := rfl
theorem isnot_non : cmpW Φ .isnot (.d .non) (.d .non) G = .ok (.d (.bl false)) G := rfl
theorem isnot_int : cmpW Φ .isnot (.d (.int i)) (.d .non) G = .ok (.d (.bl true)) G := rfl
theorem isnot_bb (a b : Bool) : cmpW Φ .isnot (.d (.bl a)) (.d (.bl b)) G = .ok (.d (.bl (!(a == b)))) G := rfl
end
theorem any_int (a : Int) : ∀ gs : List Int, ((gs.map D.int).any fun z => eqF z (.int a)) = decide (a ∈ gs)
  | [] => rfl
  | g :: r => by
    rw [List.map_cons, List.any_cons, any_int a r]
    show ((g == a) || decide (a ∈ r)) = decide (a ∈ g :: r)
    by_cases h : a = g
    · subst h; simp
    · have h2 : (g == a) = false := by simpa using fun e => h (Eq.symm e)
      rw [h2]; simp [h]
theorem flat_ints : ∀ gs : List Int, (gs.map D.int).all flatD = true
  | [] => rfl
  | g :: r => by simp only [List.map_cons, List.all_cons, flat_ints r]; rfl
section
variable (Φ : Fns) (a : Int) (gs : List Int) (G : Gs)
theorem inW_lst : inW (.d (.int a)) (.d (.lst (gs.map .int))) G = some (decide (a ∈ gs)) := by
  simp only [inW, stOf, sn_d, inD, flat_ints, any_int]; rfl
theorem inW_tup : inW (.d (.int a)) (.d (.tup (gs.map .int))) G = some (decide (a ∈ gs)) := by
  simp only [inW, stOf, sn_d, inD, flat_ints, any_int]; rfl
theorem in_tup : cmpW Φ .isin (.d (.int a)) (.d (.tup (gs.map .int))) G = .ok (.d (.bl (decide (a ∈ gs)))) G := by
  simp only [cmpW, inW_tup]; rfl
theorem notin_tup : cmpW Φ .notin (.d (.int a)) (.d (.tup (gs.map .int))) G = .ok (.d (.bl (decide (¬ a ∈ gs)))) G := by
  simp only [cmpW, inW_tup]; rw [← dec_not]; rfl
theorem in_lst : cmpW Φ .isin (.d (.int a)) (.d (.lst (gs.map .int))) G = .ok (.d (.bl (decide (a ∈ gs)))) G := by
  simp only [cmpW, inW_lst]; rfl
theorem notin_lst : cmpW Φ .notin (.d (.int a)) (.d (.lst (gs.map .int))) G = .ok (.d (.bl (decide (¬ a ∈ gs)))) G := by
  simp only [cmpW, inW_lst]; rw [← dec_not]; rfl
theorem in_nilL : cmpW Φ .isin (.d (.int a)) (.d (.lst [])) G = .ok (.d (.bl false)) G := by
  simp only [cmpW, inW, stOf, sn_d, inD]; rfl
theorem notin_nilL : cmpW Φ .notin (.d (.int a)) (.d (.lst [])) G = .ok (.d (.bl true)) G := by
  simp only [cmpW, inW, stOf, sn_d, inD]; rfl
end
/-! calls -/
section
variable (Φ : Fns) (f : List D → PR) (G : Gs)
theorem out_ok (x : D) : (PR.ok x).out G = .ok (.d x) G := rfl
theorem fcall_d (ds : List D) : fcall f (ds.map .d) G = (f ds).out G := by unfold fcall; rw [allD_d]
theorem fcall0 : fcall f [] G = (f []).out G := rfl
theorem fcall1 (a : D) : fcall f [.d a] G = (f [a]).out G := rfl
theorem fcall2 (a b : D) : fcall f [.d a, .d b] G = (f [a, b]).out G := rfl
theorem fcall3 (a b c : D) : fcall f [.d a, .d b, .d c] G = (f [a, b, c]).out G := rfl
theorem fcall4 (a b c d : D) : fcall f [.d a, .d b, .d c, .d d] G = (f [a, b, c, d]).out G := rfl
theorem fcall5 (a b c d e : D) : fcall f [.d a, .d b, .d c, .d d, .d e] G = (f [a, b, c, d, e]).out G := rfl
theorem fcall6 (a b c d e g : D) : fcall f [.d a, .d b, .d c, .d d, .d e, .d g] G = (f [a, b, c, d, e, g]).out G := rfl
theorem fcall7 (a b c d e g h : D) : fcall f [.d a, .d b, .d c, .d d, .d e, .d g, .d h] G = (f [a, b, c, d, e, g, h]).out G := rfl
theorem len_lst (ds : List D) : lenW Φ (.d (.lst ds)) G = .ok (.d (.int ds.length)) G := by simp [lenW, items, iL]
theorem len_tup (ds : List D) : lenW Φ (.d (.tup ds)) G = .ok (.d (.int ds.length)) G := by simp [lenW, items, iL]
theorem len_scr (ns : List Int) : lenW Φ (.d (.scr ns)) G = .ok (.d (.int ns.length)) G := by simp [lenW, items, iL]
theorem len_cell {i : Nat} : lenW Φ (.r i) G = (match items G (.r i) with
    | some ws => iL ws.length G
    | none => .no) := rfl
theorem blt_len (k : Nat) (x : W) : bltW Φ k .len [x] G = lenW Φ x G := rfl
end
/-! items -/
/-- the item at an index, from the front -/
def gt {α : Type} [Inhabited α] (l : List α) (i : Int) : α := l.getD i.toNat default
theorem gt_get {α : Type} [Inhabited α] {l : List α} {i : Int} (h0 : 0 ≤ i) (h1 : i < l.length) : l[i.toNat]? = some (gt l i) := by
  unfold gt
  rw [List.getD_eq_getElem?_getD]
  have : i.toNat < l.length := by omega
  rw [List.getElem?_eq_getElem this]; rfl
theorem gt_mem {α : Type} [Inhabited α] {l : List α} {i : Int} (h0 : 0 ≤ i) (h1 : i < l.length) : gt l i ∈ l := List.mem_of_getElem? (gt_get h0 h1)
theorem gt_nat {α : Type} [Inhabited α] {l : List α} {k : Nat} {x : α} (h : l[k]? = some x) : gt l (k : Int) = x := by
  unfold gt
  rw [List.getD_eq_getElem?_getD, Int.toNat_natCast, h]; rfl
theorem gt_map {α β : Type} [Inhabited α] [Inhabited β] (f : α → β) {l : List α} {i : Int} (h0 : 0 ≤ i) (h1 : i < l.length) : gt (l.map f) i = f (gt l i) := by
  have h := gt_get h0 h1
  have h2 : i < (l.map f).length := by simpa using h1
  have h3 := gt_get h0 h2
  rw [List.getElem?_map, h] at h3
  simpa using h3.symm
theorem atI_gt {α : Type} [Inhabited α] {l : List α} {i : Int} (h0 : 0 ≤ i) (h1 : i < l.length) : L2.atI l i = some (gt l i) := by
  unfold L2.atI L2.ixN
  rw [if_pos h0, if_pos h1]
  exact gt_get h0 h1
theorem sub_items {x : W} {G : Gs} {ws : List W} {i : Int} (h : items G x = some ws) (h0 : 0 ≤ i) (h1 : i < ws.length) : subW x (.d (.int i)) G = .ok (gt ws i) G := by
  have hs : ∀ s, x ≠ .d (.str s) := fun s q => by subst q; simp [items] at h
  unfold subW
  dsimp only
  split
  · rename_i s; exact (hs _ rfl).elim
  · rw [h, Option.bind_some, atI_gt h0 h1]
section
variable {α : Type} [Inhabited α] (f : α → D) {l : List α} {i : Int} {G : Gs}
theorem sub_lst (h0 : 0 ≤ i) (h1 : i < l.length) : subW (.d (.lst (l.map f))) (.d (.int i)) G = .ok (.d (f (gt l i))) G := by
  rw [sub_items (ws := (l.map f).map .d) rfl h0 (by simpa using h1)]
  rw [List.map_map, gt_map _ h0 h1]; rfl
theorem sub_tup (h0 : 0 ≤ i) (h1 : i < l.length) : subW (.d (.tup (l.map f))) (.d (.int i)) G = .ok (.d (f (gt l i))) G := by
  rw [sub_items (ws := (l.map f).map .d) rfl h0 (by simpa using h1)]
  rw [List.map_map, gt_map _ h0 h1]; rfl
end
theorem sub_ld {l : List D} {i : Int} {G : Gs} (h0 : 0 ≤ i) (h1 : i < l.length) : subW (.d (.lst l)) (.d (.int i)) G = .ok (.d (gt l i)) G := by
  have := sub_lst (f := id) (G := G) h0 h1
  rwa [List.map_id] at this
theorem sub_scr {ns : List Int} {i : Int} {G : Gs} (h0 : 0 ≤ i) (h1 : i < ns.length) : subW (.d (.scr ns)) (.d (.int i)) G = .ok (.d (.int (gt ns i))) G := by
  rw [sub_items (ws := ns.map fun n => .d (.int n)) rfl h0 (by simpa using h1)]
  rw [gt_map _ h0 h1]
section
variable (G : Gs) (a b c d e : D) (r : List D)
theorem sub_l0 : subW (.d (.lst (a :: r))) (.d (.int 0)) G = .ok (.d a) G := sub_ld (by omega) (by simp)
theorem sub_l1 : subW (.d (.lst (a :: b :: r))) (.d (.int 1)) G = .ok (.d b) G := sub_ld (by omega) (by simp; omega)
theorem sub_l2 : subW (.d (.lst (a :: b :: c :: r))) (.d (.int 2)) G = .ok (.d c) G := sub_ld (by omega) (by simp; omega)
theorem sub_l3 : subW (.d (.lst (a :: b :: c :: d :: r))) (.d (.int 3)) G = .ok (.d d) G := sub_ld (by omega) (by simp; omega)
theorem sub_l4 : subW (.d (.lst (a :: b :: c :: d :: e :: r))) (.d (.int 4)) G = .ok (.d e) G := sub_ld (by omega) (by simp; omega)
theorem sub_t0 : subW (.d (.tup (a :: r))) (.d (.int 0)) G = .ok (.d a) G := by
  rw [sub_items (ws := (a :: r).map .d) rfl (by omega) (by simp)]; rfl
theorem sub_t1 : subW (.d (.tup (a :: b :: r))) (.d (.int 1)) G = .ok (.d b) G := by
  rw [sub_items (ws := (a :: b :: r).map .d) rfl (by omega) (by simp; omega)]; rfl
theorem sub_t2 : subW (.d (.tup (a :: b :: c :: r))) (.d (.int 2)) G = .ok (.d c) G := by
  rw [sub_items (ws := (a :: b :: c :: r).map .d) rfl (by omega) (by simp; omega)]; rfl
end
/-- one of a literal list of numbers -/
theorem sub_lits {l : List D} {G : Gs} (ns : List Int) {i : Int} (h : l = ns.map .int) (h0 : 0 ≤ i) (h1 : i < ns.length) : subW (.d (.lst l)) (.d (.int i)) G = .ok (.d (.int (gt ns i))) G := by
  subst h; exact sub_lst .int h0 h1
/-- either of two, by a truth -/
theorem sub_two {a b : Int} {G : Gs} (t : Bool) : subW (.d (.lst [.int a, .int b])) (.d (.int (if t = true then 1 else 0))) G = .ok (.d (.int (if t = true then b else a))) G := by
  cases t
  · exact sub_l0 ..
  · exact sub_l1 ..
theorem gt_all {α : Type} [Inhabited α] {l : List α} {P : α → Prop} {i : Int} (h : ∀ x ∈ l, P x) (h0 : 0 ≤ i) (h1 : i < l.length) : P (gt l i) := h _ (gt_mem h0 h1)
/-! arithmetic -/
theorem mulOk_small {i j : Int} (h1 : -18446744073709551616 < i) (h2 : i < 18446744073709551616) : mulOk i j = true := by
  unfold mulOk
  rw [decide_eq_true (p := -(2 ^ 64) < i ∧ i < 2 ^ 64) ⟨h1, h2⟩]; rfl
theorem mulOk_big {i j : Int} (h1 : -(2 ^ 1000) < i ∧ i < 2 ^ 1000) (h2 : -(2 ^ 1000) < j ∧ j < 2 ^ 1000) : mulOk i j = true := by
  have a1 : i.natAbs.log2 < 1001 := by
    by_cases h : i.natAbs = 0
    · rw [h]; decide
    · exact (Nat.log2_lt h).mpr (by omega)
  have a2 : j.natAbs.log2 < 1001 := by
    by_cases h : j.natAbs = 0
    · rw [h]; decide
    · exact (Nat.log2_lt h).mpr (by omega)
  unfold mulOk
  rw [decide_eq_true (p := i.natAbs.log2 + j.natAbs.log2 < 1000000) (by omega), Bool.or_true]
theorem mulOk_smallR {i j : Int} (h1 : -18446744073709551616 < j) (h2 : j < 18446744073709551616) : mulOk i j = true := by
  unfold mulOk
  rw [decide_eq_true (p := -(2 ^ 64) < j ∧ j < 2 ^ 64) ⟨h1, h2⟩, Bool.or_true]; rfl
section
variable {Φ : Fns} {k : Nat} {i j : Int} {G : Gs}
theorem bin_add : binW Φ k .add (.d (.int i)) (.d (.int j)) G = .ok (.d (.int (i + j))) G := rfl
theorem bin_sub : binW Φ k .sub (.d (.int i)) (.d (.int j)) G = .ok (.d (.int (i - j))) G := rfl
theorem bin_mul (h : mulOk i j = true) : binW Φ k .mul (.d (.int i)) (.d (.int j)) G = .ok (.d (.int (i * j))) G := by
  show (match arith .mul i j with
    | some n => iL n G
    | none => .no) = _
  unfold arith
  dsimp only
  rw [if_pos h]; rfl
theorem bin_mod (h : 0 < j) : binW Φ k .mod (.d (.int i)) (.d (.int j)) G = .ok (.d (.int (i % j))) G := by
  show (match arith .mod i j with
    | some n => iL n G
    | none => .no) = _
  unfold arith
  dsimp only
  rw [if_pos h]; rfl
theorem bin_fdiv (h : 0 < j) (h2 : j < 18446744073709551616) : binW Φ k .fdiv (.d (.int i)) (.d (.int j)) G = .ok (.d (.int (i / j))) G := by
  have h3 : j.natAbs.log2 < 9000 := by
    have : j.natAbs.log2 < 64 := (Nat.log2_lt (by omega)).mpr (by omega)
    omega
  show (match arith .fdiv i j with
    | some n => iL n G
    | none => .no) = _
  unfold arith
  dsimp only
  rw [if_pos ⟨h, h3⟩]; rfl
theorem bin_pow (h : 0 ≤ j) (h2 : j ≤ 1000000) (h3 : -18446744073709551616 < i) (h4 : i < 18446744073709551616) : binW Φ k .pow (.d (.int i)) (.d (.int j)) G = .ok (.d (.int (i ^ j.toNat))) G := by
  show (match arith .pow i j with
    | some n => iL n G
    | none => .no) = _
  unfold arith
  dsimp only
  rw [if_pos ⟨h, h2, by omega⟩]; rfl
theorem blt_int : bltW Φ k .int [.d (.int i)] G = .ok (.d (.int i)) G := rfl
theorem blt_intb (b : Bool) : bltW Φ k .int [.d (.bl b)] G = .ok (.d (.int (if b = true then 1 else 0))) G := rfl
theorem blt_max2 : bltW Φ k .max2 [.d (.int i), .d (.int j)] G = .ok (.d (.int (max i j))) G := by
  show R.ok (W.d (.int (if j > i then j else i))) G = _
  rw [Int.max_def]; congr 3; split <;> split <;> omega
theorem blt_min2 : bltW Φ k .min2 [.d (.int i), .d (.int j)] G = .ok (.d (.int (min i j))) G := by
  show R.ok (W.d (.int (if j < i then j else i))) G = _
  rw [Int.min_def]; congr 3; split <;> split <;> omega
theorem aug_add : augW .add (.d (.int i)) (.d (.int j)) G = .ok (.d (.int (i + j))) G := rfl
theorem aug_sub : augW .sub (.d (.int i)) (.d (.int j)) G = .ok (.d (.int (i - j))) G := rfl
theorem neg_i : (match (W.d (.int i)) with
    | .d (.int i) => iL (-i) G
    | _ => .no) = R.ok (.d (.int (-i))) G := rfl
end
/-! making -/
theorem line_ok {n : Nat} (h : n ≤ 16777216) : lineB n = true := decide_eq_true h
section
variable {G : Gs}
theorem mkL0 {ds : List D} (h : ds.length ≤ 16777216) : mkL 0 (ds.map .d) G = .ok (.d (.lst ds)) G := by
  unfold mkL
  rw [line_ok (by simpa using h), if_pos rfl, fzL_d]
  rfl
theorem mkL1 {ds : List D} (h : ds.length ≤ 16777216) : mkL 1 (ds.map .d) G = .ok (.r G.length) (G ++ [.sh ds]) := by
  unfold mkL
  rw [line_ok (by simpa using h), if_pos rfl, fzL_d]
  rfl
theorem mkT_d {ds : List D} (h : ds.length ≤ 16777216) : mkT (ds.map .d) G = .ok (.d (.tup ds)) G := by
  unfold mkT
  rw [line_ok (by simpa using h), if_pos rfl, fzL_d]
theorem mkL0_0 : mkL 0 [] G = .ok (.d (.lst [])) G := mkL0 (ds := []) (by simp)
theorem mkL1_0 : mkL 1 [] G = .ok (.r G.length) (G ++ [.sh []]) := mkL1 (ds := []) (by simp)
theorem mkL0_1 (a : D) : mkL 0 [.d a] G = .ok (.d (.lst [a])) G := mkL0 (ds := [a]) (by simp)
theorem mkL0_2 (a b : D) : mkL 0 [.d a, .d b] G = .ok (.d (.lst [a, b])) G := mkL0 (ds := [a, b]) (by simp)
theorem mkL0_3 (a b c : D) : mkL 0 [.d a, .d b, .d c] G = .ok (.d (.lst [a, b, c])) G := mkL0 (ds := [a, b, c]) (by simp)
theorem mkL0_4 (a b c d : D) : mkL 0 [.d a, .d b, .d c, .d d] G = .ok (.d (.lst [a, b, c, d])) G := mkL0 (ds := [a, b, c, d]) (by simp)
theorem mkL0_5 (a b c d e : D) : mkL 0 [.d a, .d b, .d c, .d d, .d e] G = .ok (.d (.lst [a, b, c, d, e])) G := mkL0 (ds := [a, b, c, d, e]) (by simp)
theorem mkL0_6 (a b c d e f : D) : mkL 0 [.d a, .d b, .d c, .d d, .d e, .d f] G = .ok (.d (.lst [a, b, c, d, e, f])) G := mkL0 (ds := [a, b, c, d, e, f]) (by simp)
theorem mkL0_7 (a b c d e f g : D) : mkL 0 [.d a, .d b, .d c, .d d, .d e, .d f, .d g] G = .ok (.d (.lst [a, b, c, d, e, f, g])) G := mkL0 (ds := [a, b, c, d, e, f, g]) (by simp)
theorem mkL0_8 (a b c d e f g h : D) : mkL 0 [.d a, .d b, .d c, .d d, .d e, .d f, .d g, .d h] G = .ok (.d (.lst [a, b, c, d, e, f, g, h])) G := mkL0 (ds := [a, b, c, d, e, f, g, h]) (by simp)
theorem mkL0_9 (a b c d e f g h i : D) : mkL 0 [.d a, .d b, .d c, .d d, .d e, .d f, .d g, .d h, .d i] G = .ok (.d (.lst [a, b, c, d, e, f, g, h, i])) G := mkL0 (ds := [a, b, c, d, e, f, g, h, i]) (by simp)
theorem mkL0_10 (a b c d e f g h i j : D) : mkL 0 [.d a, .d b, .d c, .d d, .d e, .d f, .d g, .d h, .d i, .d j] G = .ok (.d (.lst [a, b, c, d, e, f, g, h, i, j])) G := mkL0 (ds := [a, b, c, d, e, f, g, h, i, j]) (by simp)
theorem mkT_0 : mkT [] G = .ok (.d (.tup [])) G := mkT_d (ds := []) (by simp)
theorem mkT_1 (a : D) : mkT [.d a] G = .ok (.d (.tup [a])) G := mkT_d (ds := [a]) (by simp)
theorem mkT_2 (a b : D) : mkT [.d a, .d b] G = .ok (.d (.tup [a, b])) G := mkT_d (ds := [a, b]) (by simp)
theorem mkT_3 (a b c : D) : mkT [.d a, .d b, .d c] G = .ok (.d (.tup [a, b, c])) G := mkT_d (ds := [a, b, c]) (by simp)
theorem mkT_4 (a b c d : D) : mkT [.d a, .d b, .d c, .d d] G = .ok (.d (.tup [a, b, c, d])) G := mkT_d (ds := [a, b, c, d]) (by simp)
variable {Φ : Fns} {k : Nat}
theorem add_ll {a b : List D} (h : a.length + b.length ≤ 16777216) : binW Φ 0 .add (.d (.lst a)) (.d (.lst b)) G = .ok (.d (.lst (a ++ b))) G := by
  show (if lineB ((a.map W.d).length + (b.map W.d).length) then mkL 0 (a.map .d ++ b.map .d) G else .no) = _
  rw [if_pos (line_ok (by simpa using h)), ← List.map_append, mkL0 (by simpa using h)]
theorem mul_ln {a : List D} {j : Int} (h0 : 0 ≤ j) (h1 : j ≤ 1000) (h : a.length ≤ 1000) : binW Φ 0 .mul (.d (.lst a)) (.d (.int j)) G = .ok (.d (.lst (List.replicate j.toNat a).flatten)) G := by
  have e : a.length * j.toNat ≤ 1000 * 1000 := Nat.mul_le_mul h (by omega)
  have e2 : (List.replicate j.toNat (a.map W.d)).flatten = ((List.replicate j.toNat a).flatten).map .d := by rw [List.map_flatten, List.map_replicate]
  show (if -(2 ^ 63) ≤ j ∧ j < 2 ^ 63 ∧ (a.map W.d).length * j.toNat ≤ sizeLine then mkL 0 (List.replicate j.toNat (a.map W.d)).flatten G else .no) = _
  rw [if_pos ⟨by omega, by omega, by simp only [List.length_map, sizeLine]; omega⟩, e2, mkL0]
  simp only [List.length_flatten, List.map_replicate, List.sum_replicate_nat]
  rw [Nat.mul_comm]; omega
theorem walkOf_lst (ds : List D) : walkOf (.d (.lst ds)) G = .ok (ds.map fun x => .one (.d x), []) G := by
  simp only [walkOf, items, cellOf, List.map_map]; rfl
theorem walkOf_tup (ds : List D) : walkOf (.d (.tup ds)) G = .ok (ds.map fun x => .one (.d x), []) G := by
  simp only [walkOf, items, cellOf, List.map_map]; rfl
theorem walkOf_scr (ns : List Int) : walkOf (.d (.scr ns)) G = .ok (ns.map fun x => .one (.d (.int x)), []) G := by
  simp only [walkOf, items, cellOf, List.map_map]; rfl
theorem rangeOf_ok {lo hi : Int} (h0 : -1000000 ≤ lo) (h1 : lo ≤ 1000000) (h2 : -1000000 ≤ hi) (h3 : hi ≤ 1000000) : rangeOf (.d (.int lo)) (.d (.int hi)) G = .ok (rangeIt lo hi, []) G := by
  unfold rangeOf
  dsimp only
  rw [if_pos ⟨by omega, by omega, by omega, by omega, by unfold sizeLine; omega⟩]
theorem enum_map : ∀ (n : Nat) (ds : List D), enumIt n (ds.map .d) = (ds.zipIdx n).map fun p => It.two (.d (.int p.2)) (.d p.1)
  | _, [] => rfl
  | n, x :: r => by
    rw [List.map_cons, enumIt, enum_map (n + 1) r, List.zipIdx_cons, List.map_cons]
theorem enumOf_lst (ds : List D) : enumOf (.d (.lst ds)) G = .ok (ds.zipIdx.map fun p => It.two (.d (.int p.2)) (.d p.1), []) G := by
  simp only [enumOf, items, cellOf, enum_map]
theorem enumOf_tup (ds : List D) : enumOf (.d (.tup ds)) G = .ok (ds.zipIdx.map fun p => It.two (.d (.int p.2)) (.d p.1), []) G := by
  simp only [enumOf, items, cellOf, enum_map]
theorem zip_map : ∀ (xs ys : List D), zipIt (xs.map .d) (ys.map .d) = (xs.zip ys).map fun p => It.two (.d p.1) (.d p.2)
  | [], _ => rfl
  | _ :: _, [] => rfl
  | x :: r, y :: q => by
    rw [List.map_cons, List.map_cons, zipIt, zip_map r q, List.zip_cons_cons, List.map_cons]
theorem zipOf_tt (a b : List D) : zipOf (.d (.tup a)) (.d (.tup b)) G = .ok ((a.zip b).map fun p => It.two (.d p.1) (.d p.2), []) G := by
  simp only [zipOf, items, cellOf, zip_map, List.append_nil]
theorem zipOf_lt (a b : List D) : zipOf (.d (.lst a)) (.d (.tup b)) G = .ok ((a.zip b).map fun p => It.two (.d p.1) (.d p.2), []) G := by
  simp only [zipOf, items, cellOf, zip_map, List.append_nil]
theorem zipOf_tl (a b : List D) : zipOf (.d (.tup a)) (.d (.lst b)) G = .ok ((a.zip b).map fun p => It.two (.d p.1) (.d p.2), []) G := by
  simp only [zipOf, items, cellOf, zip_map, List.append_nil]
theorem zipOf_ll (a b : List D) : zipOf (.d (.lst a)) (.d (.lst b)) G = .ok ((a.zip b).map fun p => It.two (.d p.1) (.d p.2), []) G := by
  simp only [zipOf, items, cellOf, zip_map, List.append_nil]
theorem tuple_lst (ds : List D) (h : ds.length ≤ 16777216) : bltW Φ 0 .tuple [.d (.lst ds)] G = .ok (.d (.tup ds)) G := by
  show (match sitems G (.d (.lst ds)) with
    | some ws => if (0:Nat) = 0 then mkT ws G else if lineB ws.length then .ok (.r G.length) (G ++ [Cell.tp ws]) else .no
    | none => .no) = _
  simp only [sitems, litems, if_true]
  exact mkT_d h
theorem tuple_tup (ds : List D) : bltW Φ k .tuple [.d (.tup ds)] G = .ok (.d (.tup ds)) G := rfl
theorem list_lst0 (ds : List D) (h : ds.length ≤ 16777216) : bltW Φ 0 .list [.d (.lst ds)] G = .ok (.d (.lst ds)) G := by
  show (match items G (.d (.lst ds)) with
    | some ws => mkL 0 ws G
    | none => .no) = _
  simp only [items]; exact mkL0 h
theorem list_lst1 (ds : List D) (h : ds.length ≤ 16777216) : bltW Φ 1 .list [.d (.lst ds)] G = .ok (.r G.length) (G ++ [.sh ds]) := by
  show (match items G (.d (.lst ds)) with
    | some ws => mkL 1 ws G
    | none => .no) = _
  simp only [items]; exact mkL1 h
theorem list_tup0 (ds : List D) (h : ds.length ≤ 16777216) : bltW Φ 0 .list [.d (.tup ds)] G = .ok (.d (.lst ds)) G := by
  show (match items G (.d (.tup ds)) with
    | some ws => mkL 0 ws G
    | none => .no) = _
  simp only [items]; exact mkL0 h
theorem intsW_d : ∀ l : List Int, intsW ((l.map D.int).map W.d) = some l
  | [] => rfl
  | x :: r => by simp only [List.map_cons, intsW, intsW_d r, Option.map_some]
theorem boolsW_d : ∀ l : List Bool, boolsW ((l.map D.bl).map W.d) = some l
  | [] => rfl
  | x :: r => by simp only [List.map_cons, boolsW, boolsW_d r, Option.map_some]
theorem blt_sum (l : List Int) : bltW Φ k .sum [.d (.lst (l.map .int))] G = .ok (.d (.int l.sum)) G := by
  show (match (litems G (.d (.lst (l.map .int)))).bind intsW with
    | some ns => iL ns.sum G
    | none => .no) = _
  simp only [litems, Option.bind_some, intsW_d]; rfl
theorem blt_any (l : List Bool) : bltW Φ k .any [.d (.lst (l.map .bl))] G = .ok (.d (.bl (l.any id))) G := by
  show (match (litems G (.d (.lst (l.map .bl)))).bind boolsW with
    | some ns => bL (ns.any id) G
    | none => .no) = _
  simp only [litems, Option.bind_some, boolsW_d]; rfl
theorem blt_all (l : List Bool) : bltW Φ k .all [.d (.lst (l.map .bl))] G = .ok (.d (.bl (l.all id))) G := by
  show (match (litems G (.d (.lst (l.map .bl)))).bind boolsW with
    | some ns => bL (ns.all id) G
    | none => .no) = _
  simp only [litems, Option.bind_some, boolsW_d]; rfl
theorem blt_min1 {l : List Int} {m : Int} (h : minL l = some m) : bltW Φ k .min1 [.d (.lst (l.map .int))] G = .ok (.d (.int m)) G := by
  show (match ((litems G (.d (.lst (l.map .int)))).bind intsW).bind minL with
    | some ns => iL ns G
    | none => .no) = _
  simp only [litems, Option.bind_some, intsW_d, h]; rfl
/-! slices -/
theorem cut_lst {ds : List D} {lo hi : Option Int} (h : ds.length ≤ 16777216) : cutW 0 (.d (.lst ds)) lo hi G = .ok (.d (.lst (cut ds lo hi))) G := by
  show (match litems G (.d (.lst ds)) with
    | some ws => mkL 0 (cut ws lo hi) G
    | none => .no) = _
  have e : cut (ds.map W.d) lo hi = (cut ds lo hi).map .d := by simp only [cut, List.map_drop, List.map_take, List.length_map]
  simp only [litems, e]
  refine mkL0 ?_
  unfold cut
  simp only [List.length_take, List.length_drop]; omega
theorem cut_tup {ds : List D} {lo hi : Option Int} : cutW k (.d (.tup ds)) lo hi G = .ok (.d (.tup (cut ds lo hi))) G := rfl
theorem cut_mapp {α β : Type} (f : α → β) (l : List α) (lo hi : Option Int) : cut (l.map f) lo hi = (cut l lo hi).map f := by
  simp only [cut, List.map_drop, List.map_take, List.length_map]
end
end Ev

end

-- part Pz
section
set_option Elab.async false
set_option linter.all false
set_option maxRecDepth 4000
namespace Ev
open PySem
section
variable {G : Gs} {i : Nat}
theorem items_r : items G (.r i) = (match G[i]? with
    | some (.sh ds) => some (ds.map .d)
    | some (.dp ws) => some ws
    | some (.fz (.lst ds)) => some (ds.map .d)
    | _ => none) := rfl
theorem litems_r : litems G (.r i) = (match G[i]? with
    | some (.sh ds) => some (ds.map .d)
    | some (.dp ws) => some ws
    | some (.fz (.lst ds)) => some (ds.map .d)
    | _ => none) := rfl
theorem sitems_r : sitems G (.r i) = litems G (.r i) := rfl
theorem sn_r : sn G fzN (.r i) = (match G[i]? with
    | some (.sh ds) => some (.lst ds)
    | some (.dp ws) => (snL (sn G 4) ws).map .lst
    | some (.fz x) => some x
    | some (.tp ws) => (snL (sn G 4) ws).map .tup
    | _ => none) := rfl
theorem fz_r : fz fzN (.r i) G = (match G[i]? with
    | some (.sh ds) => some (.lst ds, G.set i (.fz (.lst ds)))
    | some (.dp ws) => (fzL (fz 4) ws G).bind fun p => some (.lst p.1, p.2.set i (.fz (.lst p.1)))
    | some (.ob c fs) => (fzF (fz 4) fs G).bind fun p => some (.ins c p.1, p.2.set i (.fz (.ins c p.1)))
    | some (.fz x) => some (x, G)
    | some (.tp ws) => (fzL (fz 4) ws G).bind fun p => some (.tup p.1, p.2.set i (.fz (.tup p.1)))
    | _ => none) := rfl
theorem fz_r4 : fz 4 (.r i) G = (match G[i]? with
    | some (.sh ds) => some (.lst ds, G.set i (.fz (.lst ds)))
    | some (.dp ws) => (fzL (fz 3) ws G).bind fun p => some (.lst p.1, p.2.set i (.fz (.lst p.1)))
    | some (.ob c fs) => (fzF (fz 3) fs G).bind fun p => some (.ins c p.1, p.2.set i (.fz (.ins c p.1)))
    | some (.fz x) => some (x, G)
    | some (.tp ws) => (fzL (fz 3) ws G).bind fun p => some (.tup p.1, p.2.set i (.fz (.tup p.1)))
    | _ => none) := rfl
theorem sn_r4 : sn G 4 (.r i) = (match G[i]? with
    | some (.sh ds) => some (.lst ds)
    | some (.dp ws) => (snL (sn G 3) ws).map .lst
    | some (.fz x) => some x
    | some (.tp ws) => (snL (sn G 3) ws).map .tup
    | _ => none) := rfl
theorem fzL_nil (f : W → Gs → Option (D × Gs)) : fzL f [] G = some ([], G) := rfl
theorem fzL_cons (f : W → Gs → Option (D × Gs)) (w : W) (r : List W) : fzL f (w :: r) G = (f w G).bind fun p => (fzL f r p.2).bind fun q => some (p.1 :: q.1, q.2) := rfl
theorem mkL0_def (ws : List W) (h : ws.length ≤ 16777216) : mkL 0 ws G = (match fzL (fz fzN) ws G with
    | some p => .ok (.d (.lst p.1)) p.2
    | none => .no) := by
  unfold mkL; rw [line_ok h, if_pos rfl]; rfl
theorem mkL2_def (ws : List W) (h : ws.length ≤ 16777216) : mkL 2 ws G = .ok (.r G.length) (G ++ [.dp ws]) := by
  unfold mkL; rw [line_ok h, if_pos rfl]; rfl
/-! reading a cell -/
theorem sub_cell {α : Type} [Inhabited α] (f : α → D) {l : List α} {k : Int} (e : items G (.r i) = some ((l.map f).map .d)) (h0 : 0 ≤ k) (h1 : k < l.length) : subW (.r i) (.d (.int k)) G = .ok (.d (f (gt l k))) G := by
  rw [sub_items e h0 (by simpa using h1), List.map_map, gt_map _ h0 h1]; rfl
/-! a cell's methods -/
/-- appending a cell that is frozen by this -/
theorem res_cell : (O.rt (.r i) G).res = (match fz fzN (.r i) G with
    | some p => .ok p.1
    | none => .no) := rfl
theorem len_r {Φ : Fns} : lenW Φ (.r i) G = (match items G (.r i) with
    | some ws => iL ws.length G
    | none => .no) := rfl
end
/-- a cell that holds data alone -/
theorem list_r {Φ : Fns} {G : Gs} {i k : Nat} : bltW Φ k .list [.r i] G = (match items G (.r i) with
    | some ws => mkL k ws G
    | none => .no) := rfl
theorem tuple_r {Φ : Fns} {G : Gs} {i : Nat} : bltW Φ 0 .tuple [.r i] G = (match items G (.r i) with
    | some ws => mkT ws G
    | none => .no) := rfl
theorem tuple1_r {Φ : Fns} {G : Gs} {i : Nat} : bltW Φ 1 .tuple [.r i] G = (match items G (.r i) with
    | some ws => if lineB ws.length = true then .ok (.r G.length) (G ++ [.tp ws]) else .no
    | none => .no) := rfl
theorem truth_b (G : Gs) (b : Bool) : truthW G (.d (.bl b)) = some b := rfl
theorem startS_def (n : Nat) (ws : List W) : startS n ws = ws.map some ++ List.replicate (n - ws.length) none := rfl
theorem watch_nil (G G' : Gs) : watch [] G G' = true := rfl
theorem lvl_fld {T : Tab} (n : Nat) : (lvl T n).fld = T.fld := by cases n <;> rfl
theorem lvl_isc {T : Tab} (n : Nat) : (lvl T n).isc = T.isc := by cases n <;> rfl
theorem lvl_methp {T : Tab} (n : Nat) : (lvl T n).meth = T.meth := by cases n <;> rfl
theorem attr_ins {Φ : Fns} {c f : Nat} {fs : List (Nat × D)} {G : Gs} {y : D} (h : Φ.fld c f = true) (e : fs.lookup f = some y) : attrW Φ (.d (.ins c fs)) f G = .ok (.d y) G := by
  show (if Φ.fld c f then (match fs.lookup f with
    | some y => R.ok (W.d y) G
    | none => .no) else .no) = _
  rw [h, e]; rfl
theorem attr_d {Φ : Fns} {c f : Nat} {fs : List (Nat × D)} {G : Gs} : attrW Φ (.d (.ins c fs)) f G = (if Φ.fld c f = true then (match fs.lookup f with
    | some y => R.ok (.d y) G
    | none => .no) else .no) := rfl
theorem attr_r {Φ : Fns} {i f : Nat} {G : Gs} : attrW Φ (.r i) f G = (match G[i]? with
    | some (.ob c fs) => if Φ.fld c f then (match fs.lookup f with
      | some w => .ok w G
      | none => .no) else .no
    | _ => .no) := rfl
theorem setA_r {Φ : Fns} {i f : Nat} {v : W} {G : Gs} : setAttrW Φ (.r i) f v G = (match G[i]? with
    | some (.ob k fs) => if Φ.fld k f && decide (fs.length < 900) then some (G.set i (.ob k (putF f v fs))) else none
    | _ => none) := rfl
theorem setI_r {i : Nat} {j : Int} {v : W} {G : Gs} : setItemW (.r i) (.d (.int j)) v G = (match G[i]? with
    | some (.sh ds) => (ixN ds.length j).bind fun n => (fz fzN v G).bind fun p => match p.2[i]? with
      | some (.sh es) => some (p.2.set i (.sh (es.set n p.1)))
      | _ => none
    | some (.dp ws) => (ixN ws.length j).map fun n => G.set i (.dp (ws.set n v))
    | _ => none) := rfl
theorem ixN_ok {n : Nat} {j : Int} (h0 : 0 ≤ j) (h1 : j < n) : ixN n j = some j.toNat := by
  unfold ixN L2.ixN; rw [if_pos h0, if_pos h1]
theorem resI_nx {σ : Sl} {G : Gs} : (O.nx σ G).resI = (match fz fzN (.r 0) G with
    | some p => .ok p.1
    | none => .no) := rfl
theorem turn_nx {P : Sl → Gs → Prop} {Q : O → Prop} {σ : Sl} {G : Gs} : Wp (.nx σ G) (Turn (fun _ => true) P Q) ↔ P σ G := by
  show (true = true ∧ P σ G) ↔ _
  simp
theorem turn_rt {P : Sl → Gs → Prop} {Q : O → Prop} {w : W} {G : Gs} {chk : Gs → Bool} : Wp (.rt w G) (Turn chk P Q) ↔ Q (.rt w G) := Iff.rfl
theorem turn_bk {P : Sl → Gs → Prop} {Q : O → Prop} {σ : Sl} {G : Gs} {chk : Gs → Bool} : Wp (.bk σ G) (Turn chk P Q) ↔ Q (.nx σ G) := Iff.rfl
theorem turn_nxw {P : Sl → Gs → Prop} {Q : O → Prop} {σ : Sl} {G : Gs} {chk : Gs → Bool} : Wp (.nx σ G) (Turn chk P Q) ↔ (chk G = true ∧ P σ G) := Iff.rfl
theorem wp_nil {Φ : Fns} {fl : Nat} {σ : Sl} {G : Gs} {Q : O → Prop} : Wp (evSs Φ [] fl σ G) Q ↔ Q (.nx σ G) := Iff.rfl
/-! ## The evaluator's equations, with named continuations -/
section
variable (Φ : Fns) (fl : Nat) (σ : Sl) (G : Gs)
def KS (r : List S) (σ : Sl) (G : Gs) : O := evSs Φ r fl σ G
def KSet (σ : Sl) (i : Nat) (w : W) (G : Gs) : O := .nx (setS σ i w) G
def KUnp (σ : Sl) (ts : List Nat) (w : W) (G : Gs) : O := match (titems w).bind fun ws => bindNs ts ws σ with
    | some σ1 => .nx σ1 G
    | none => .no
def KAug2 (σ : Sl) (i : Nat) (w : W) (G : Gs) : O := .nx (setS σ i w) G
def KAug (σ : Sl) (i : Nat) (o : BO) (x : W) (y : W) (G : Gs) : O := (augW o x y G).thenS σ (KAug2 σ i)
def KAug0 (e : E) (σ : Sl) (i : Nat) (o : BO) (x : Option (Option W)) (G : Gs) : O := match x with
    | some (some x) => (evE Φ e σ G).thenS σ (KAug σ i o x)
    | _ => .no
def KIt3 (σ : Sl) (v x : W) (y : W) (G : Gs) : O := match setItemW x y v G with
    | some G4 => .nx σ G4
    | none => .no
def KIt2 (σ : Sl) (i : E) (v : W) (x : W) (G : Gs) : O := (evE Φ i σ G).thenS σ (KIt3 σ v x)
def KIt1 (σ : Sl) (o i : E) (v : W) (G : Gs) : O := (evE Φ o σ G).thenS σ (KIt2 Φ σ i v)
def KAt2 (σ : Sl) (f : Nat) (v : W) (x : W) (G : Gs) : O := match setAttrW Φ x f v G with
    | some G3 => .nx σ G3
    | none => .no
def KAt1 (σ : Sl) (o : E) (f : Nat) (v : W) (G : Gs) : O := (evE Φ o σ G).thenS σ (KAt2 Φ σ f v)
def KExpr (σ : Sl) (w : W) (G : Gs) : O := .nx σ G
def KRet (w : W) (G : Gs) : O := .rt w G
def KIf (σ : Sl) (a : List S) (G : Gs) : O := evSs Φ a fl σ G
def KFor (σ : Sl) (tg : Tg) (body : List S) (p : List It × List Nat) (G : Gs) : O := forLoop (evSs Φ body G.length) tg (watch p.2 G) p.1 σ G
def KVar (x : Option (Option W)) (G : Gs) : R W := match x with
    | some (some w) => .ok w G
    | _ => .no
def KBin2 (k : Bool) (o : BO) (x y : W) (G : Gs) : R W := binW Φ (if k then 1 else 0) o x y G
def KBin1 (σ : Sl) (k : Bool) (o : BO) (b : E) (x : W) (G : Gs) : R W := (evE Φ b σ G).bind (KBin2 Φ k o x)
def KNeg (x : W) (G : Gs) : R W := match x with
    | .d (.int i) => iL (-i) G
    | _ => .no
def KNot (x : W) (G : Gs) : R W := match x with
    | .d (.bl b) => bL (!b) G
    | _ => .no
def KCmp2 (o : CO) (x y : W) (G : Gs) : R W := cmpW Φ o x y G
def KCmp1 (σ : Sl) (o : CO) (b : E) (x : W) (G : Gs) : R W := (evE Φ b σ G).bind (KCmp2 Φ o x)
def KFal (G : Gs) : R W := .ok (.d (.bl false)) G
def KTru (G : Gs) : R W := .ok (.d (.bl true)) G
def KE (σ : Sl) (e : E) (G : Gs) : R W := evE Φ e σ G
def KCh3 (σ : Sl) (o2 : CO) (c : E) (y : W) (G : Gs) : R W := (evE Φ c σ G).bind (KCmp2 Φ o2 y)
def KCh2 (σ : Sl) (o1 o2 : CO) (c : E) (x y : W) (G : Gs) : R W := cond3 (cmpW Φ o1 x y G) (KCh3 Φ σ o2 c y) KFal
def KCh1 (σ : Sl) (o1 o2 : CO) (b c : E) (x : W) (G : Gs) : R W := (evE Φ b σ G).bind (KCh2 Φ σ o1 o2 c x)
def KC5 (σ : Sl) (o3 : CO) (d : E) (z : W) (G : Gs) : R W := (evE Φ d σ G).bind (KCmp2 Φ o3 z)
def KC4 (σ : Sl) (o2 o3 : CO) (d : E) (y z : W) (G : Gs) : R W := cond3 (cmpW Φ o2 y z G) (KC5 Φ σ o3 d z) KFal
def KC3 (σ : Sl) (o2 o3 : CO) (c d : E) (y : W) (G : Gs) : R W := (evE Φ c σ G).bind (KC4 Φ σ o2 o3 d y)
def KC2 (σ : Sl) (o1 o2 o3 : CO) (c d : E) (x y : W) (G : Gs) : R W := cond3 (cmpW Φ o1 x y G) (KC3 Φ σ o2 o3 c d y) KFal
def KC1 (σ : Sl) (o1 o2 o3 : CO) (b c d : E) (x : W) (G : Gs) : R W := (evE Φ b σ G).bind (KC2 Φ σ o1 o2 o3 c d x)
def KTr2 (b : Option Bool) (G : Gs) : R W := match b with
    | some b => bL b G
    | none => .no
def KTr (x : W) (G : Gs) : R W := KTr2 (truthW G x) G
def KTup (ws : List W) (G : Gs) : R W := mkT ws G
def KLst (k : Nat) (ws : List W) (G : Gs) : R W := mkL k ws G
def KSub2 (x y : W) (G : Gs) : R W := subW x y G
def KSub1 (σ : Sl) (b : E) (x : W) (G : Gs) : R W := (evE Φ b σ G).bind (KSub2 x)
def KSl3 (k : Nat) (x : W) (l h : Option Int) (G : Gs) : R W := cutW k x l h G
def KSl2 (σ : Sl) (k : Nat) (hi : Option E) (x : W) (l : Option Int) (G : Gs) : R W := (evO Φ hi σ G).bind (KSl3 k x l)
def KSl1 (σ : Sl) (k : Nat) (lo hi : Option E) (x : W) (G : Gs) : R W := (evO Φ lo σ G).bind (KSl2 Φ σ k hi x)
def KAttr (f : Nat) (x : W) (G : Gs) : R W := attrW Φ x f G
def KCall (f : Nat) (ws : List W) (G : Gs) : R W := fcall (Φ.call f) ws G
def KMe2 (c m : Nat) (x : W) (ws : List W) (G : Gs) : R W := mcall Φ c m (x :: ws) G
def KMe (σ : Sl) (m : Nat) (es : List E) (x : W) (G : Gs) : R W := match x with
    | .d (.ins c fs) => if (fs.lookup m).isNone && (Φ.meth c m).isSome then (evEs Φ es σ G).bind (KMe2 Φ c m (.d (.ins c fs))) else .no
    | _ => .no
def KNew (c : Nat) (ws : List W) (G : Gs) : R W := fcall (Φ.init c) ws G
def KBlt (k : Nat) (b : BF) (ws : List W) (G : Gs) : R W := bltW Φ k b ws G
def KMt2 (m : BM) (x : W) (ws : List W) (G : Gs) : R W := mthW m x ws G
def KMt (σ : Sl) (m : BM) (es : List E) (x : W) (G : Gs) : R W := if mthTy m G x then (evEs Φ es σ G).bind (KMt2 m x) else .no
def KIs (ts : List Ty) (x : W) (G : Gs) : R W := KTr2 (isTys Φ.isc G x ts) G
def KEs2 (w : W) (ws : List W) (G : Gs) : R (List W) := .ok (w :: ws) G
def KEs1 (σ : Sl) (r : List E) (w : W) (G : Gs) : R (List W) := (evEs Φ r σ G).bind (KEs2 w)
def KRan2 (x y : W) (G : Gs) : R (List It × List Nat) := rangeOf x y G
def KRan1 (σ : Sl) (b : E) (x : W) (G : Gs) : R (List It × List Nat) := (evE Φ b σ G).bind (KRan2 x)
def KEnum (x : W) (G : Gs) : R (List It × List Nat) := enumOf x G
def KZip2 (x y : W) (G : Gs) : R (List It × List Nat) := zipOf x y G
def KZip1 (σ : Sl) (b : E) (x : W) (G : Gs) : R (List It × List Nat) := (evE Φ b σ G).bind (KZip2 x)
def KWalk (x : W) (G : Gs) : R (List It × List Nat) := walkOf x G
def KRev (p : List It × List Nat) (G : Gs) : R (List It × List Nat) := .ok (p.1.reverse, p.2) G
theorem q_nil : evSs Φ [] fl σ G = .nx σ G := rfl
theorem q_cons (s : S) (r : List S) : evSs Φ (s :: r) fl σ G = (evS Φ s fl σ G).andThen (KS Φ fl r) := rfl
theorem q_KS (r : List S) : KS Φ fl r σ G = evSs Φ r fl σ G := rfl
theorem q_set (i : Nat) (e : E) : evS Φ (.set [] i e) fl σ G = (evE Φ e σ G).thenS σ (KSet σ i) := rfl
theorem q_setd (v : Nat) (vs : List Nat) (i : Nat) (e : E) : evS Φ (.set (v :: vs) i e) fl σ G = (evE Φ e (dropAll fl (v :: vs) σ G).1 (dropAll fl (v :: vs) σ G).2).thenS (dropAll fl (v :: vs) σ G).1 (KSet (dropAll fl (v :: vs) σ G).1 i) := rfl
theorem q_KSet (i : Nat) (w : W) : KSet σ i w G = .nx (setS σ i w) G := rfl
theorem q_unp (ts : List Nat) (e : E) : evS Φ (.unp ts e) fl σ G = (evE Φ e σ G).thenS σ (KUnp σ ts) := rfl
theorem q_KUnp (ts : List Nat) (w : W) : KUnp σ ts w G = (match (titems w).bind fun ws => bindNs ts ws σ with
    | some σ1 => .nx σ1 G
    | none => .no) := rfl
theorem q_aug (i : Nat) (o : BO) (e : E) : evS Φ (.aug i o e) fl σ G = KAug0 Φ e σ i o (σ[i]?) G := rfl
theorem q_KAug0 (i : Nat) (o : BO) (e : E) (x : W) : KAug0 Φ e σ i o (some (some x)) G = (evE Φ e σ G).thenS σ (KAug σ i o x) := rfl
theorem q_KAug (i : Nat) (o : BO) (x y : W) : KAug σ i o x y G = (augW o x y G).thenS σ (KAug2 σ i) := rfl
theorem q_KAug2 (i : Nat) (w : W) : KAug2 σ i w G = .nx (setS σ i w) G := rfl
theorem q_item (o i e : E) : evS Φ (.item o i e) fl σ G = (evE Φ e σ G).thenS σ (KIt1 Φ σ o i) := rfl
theorem q_KIt1 (o i : E) (v : W) : KIt1 Φ σ o i v G = (evE Φ o σ G).thenS σ (KIt2 Φ σ i v) := rfl
theorem q_KIt2 (i : E) (v x : W) : KIt2 Φ σ i v x G = (evE Φ i σ G).thenS σ (KIt3 σ v x) := rfl
theorem q_KIt3 (v x y : W) : KIt3 σ v x y G = (match setItemW x y v G with
    | some G4 => .nx σ G4
    | none => .no) := rfl
theorem q_attrS (o : E) (f : Nat) (e : E) : evS Φ (.attrS o f e) fl σ G = (evE Φ e σ G).thenS σ (KAt1 Φ σ o f) := rfl
theorem q_KAt1 (o : E) (f : Nat) (v : W) : KAt1 Φ σ o f v G = (evE Φ o σ G).thenS σ (KAt2 Φ σ f v) := rfl
theorem q_KAt2 (f : Nat) (v x : W) : KAt2 Φ σ f v x G = (match setAttrW Φ x f v G with
    | some G3 => .nx σ G3
    | none => .no) := rfl
theorem q_expr (e : E) : evS Φ (.expr e) fl σ G = (evE Φ e σ G).thenS σ (KExpr σ) := rfl
theorem q_KExpr (w : W) : KExpr σ w G = .nx σ G := rfl
theorem q_ret (e : E) : evS Φ (.ret e) fl σ G = (evE Φ e σ G).thenS σ KRet := rfl
theorem q_KRet (w : W) : KRet w G = .rt w G := rfl
theorem q_retN : evS Φ .retN fl σ G = .rt (.d .non) G := rfl
theorem q_ife (c : E) (a b : List S) : evS Φ (.ife c a b) fl σ G = condS (evE Φ c σ G) σ (KIf Φ fl σ a) (KIf Φ fl σ b) := rfl
theorem q_KIf (a : List S) : KIf Φ fl σ a G = evSs Φ a fl σ G := rfl
theorem q_for (tg : Tg) (it : Itr) (body : List S) : evS Φ (.for tg it body) fl σ G = (evI Φ it σ G).thenS σ (KFor Φ σ tg body) := rfl
theorem q_KFor (tg : Tg) (body : List S) (p : List It × List Nat) : KFor Φ σ tg body p G = forLoop (evSs Φ body G.length) tg (watch p.2 G) p.1 σ G := rfl
theorem q_brk : evS Φ .brk fl σ G = .bk σ G := rfl
theorem q_cnt : evS Φ .cnt fl σ G = .ct σ G := rfl
theorem q_pas : evS Φ .pas fl σ G = .nx σ G := rfl
theorem q_var (i : Nat) : evE Φ (.var i) σ G = KVar σ[i]? G := rfl
theorem q_KVar (w : W) : KVar (some (some w)) G = .ok w G := rfl
theorem q_lit (x : D) : evE Φ (.lit x) σ G = .ok (.d x) G := rfl
theorem q_bin (k : Bool) (o : BO) (a b : E) : evE Φ (.bin k o a b) σ G = (evE Φ a σ G).bind (KBin1 Φ σ k o b) := rfl
theorem q_KBin1 (k : Bool) (o : BO) (b : E) (x : W) : KBin1 Φ σ k o b x G = (evE Φ b σ G).bind (KBin2 Φ k o x) := rfl
theorem q_KBin2f (o : BO) (x y : W) : KBin2 Φ false o x y G = binW Φ 0 o x y G := rfl
theorem q_KBin2t (o : BO) (x y : W) : KBin2 Φ true o x y G = binW Φ 1 o x y G := rfl
theorem q_neg (a : E) : evE Φ (.neg a) σ G = (evE Φ a σ G).bind KNeg := rfl
theorem q_KNeg (i : Int) : KNeg (.d (.int i)) G = .ok (.d (.int (-i))) G := rfl
theorem q_not (a : E) : evE Φ (.not a) σ G = (evE Φ a σ G).bind KNot := rfl
theorem q_KNot (b : Bool) : KNot (.d (.bl b)) G = .ok (.d (.bl (!b))) G := rfl
theorem q_cmp (o : CO) (a b : E) : evE Φ (.cmp o a b) σ G = (evE Φ a σ G).bind (KCmp1 Φ σ o b) := rfl
theorem q_KCmp1 (o : CO) (b : E) (x : W) : KCmp1 Φ σ o b x G = (evE Φ b σ G).bind (KCmp2 Φ o x) := rfl
theorem q_KCmp2 (o : CO) (x y : W) : KCmp2 Φ o x y G = cmpW Φ o x y G := rfl
theorem q_chain (o1 o2 : CO) (a b c : E) : evE Φ (.chain o1 o2 a b c) σ G = (evE Φ a σ G).bind (KCh1 Φ σ o1 o2 b c) := rfl
theorem q_KCh1 (o1 o2 : CO) (b c : E) (x : W) : KCh1 Φ σ o1 o2 b c x G = (evE Φ b σ G).bind (KCh2 Φ σ o1 o2 c x) := rfl
theorem q_KCh2 (o1 o2 : CO) (c : E) (x y : W) : KCh2 Φ σ o1 o2 c x y G = cond3 (cmpW Φ o1 x y G) (KCh3 Φ σ o2 c y) KFal := rfl
theorem q_KCh3 (o2 : CO) (c : E) (y : W) : KCh3 Φ σ o2 c y G = (evE Φ c σ G).bind (KCmp2 Φ o2 y) := rfl
theorem q_KFal : KFal G = .ok (.d (.bl false)) G := rfl
theorem q_KTru : KTru G = .ok (.d (.bl true)) G := rfl
theorem q_chain3 (o1 o2 o3 : CO) (a b c d : E) : evE Φ (.chain3 o1 o2 o3 a b c d) σ G = (evE Φ a σ G).bind (KC1 Φ σ o1 o2 o3 b c d) := rfl
theorem q_KC1 (o1 o2 o3 : CO) (b c d : E) (x : W) : KC1 Φ σ o1 o2 o3 b c d x G = (evE Φ b σ G).bind (KC2 Φ σ o1 o2 o3 c d x) := rfl
theorem q_KC2 (o1 o2 o3 : CO) (c d : E) (x y : W) : KC2 Φ σ o1 o2 o3 c d x y G = cond3 (cmpW Φ o1 x y G) (KC3 Φ σ o2 o3 c d y) KFal := rfl
theorem q_KC3 (o2 o3 : CO) (c d : E) (y : W) : KC3 Φ σ o2 o3 c d y G = (evE Φ c σ G).bind (KC4 Φ σ o2 o3 d y) := rfl
theorem q_KC4 (o2 o3 : CO) (d : E) (y z : W) : KC4 Φ σ o2 o3 d y z G = cond3 (cmpW Φ o2 y z G) (KC5 Φ σ o3 d z) KFal := rfl
theorem q_KC5 (o3 : CO) (d : E) (z : W) : KC5 Φ σ o3 d z G = (evE Φ d σ G).bind (KCmp2 Φ o3 z) := rfl
theorem q_and (a b : E) : evE Φ (.and a b) σ G = cond3 (evE Φ a σ G) (KE Φ σ b) KFal := rfl
theorem q_or (a b : E) : evE Φ (.or a b) σ G = cond3 (evE Φ a σ G) KTru (KE Φ σ b) := rfl
theorem q_KE (b : E) : KE Φ σ b G = evE Φ b σ G := rfl
theorem q_truth (a : E) : evE Φ (.truth a) σ G = (evE Φ a σ G).bind KTr := rfl
theorem q_KTr (x : W) : KTr x G = KTr2 (truthW G x) G := rfl
theorem q_KTr2 (b : Bool) : KTr2 (some b) G = .ok (.d (.bl b)) G := rfl
theorem q_ite (c a b : E) : evE Φ (.ite c a b) σ G = cond3 (evE Φ c σ G) (KE Φ σ a) (KE Φ σ b) := rfl
theorem q_tup (es : List E) : evE Φ (.tup es) σ G = (evEs Φ es σ G).bind KTup := rfl
theorem q_KTup (ws : List W) : KTup ws G = mkT ws G := rfl
theorem q_lst (k : Nat) (es : List E) : evE Φ (.lst k es) σ G = (evEs Φ es σ G).bind (KLst k) := rfl
theorem q_KLst (k : Nat) (ws : List W) : KLst k ws G = mkL k ws G := rfl
theorem q_sub (a b : E) : evE Φ (.sub a b) σ G = (evE Φ a σ G).bind (KSub1 Φ σ b) := rfl
theorem q_KSub1 (b : E) (x : W) : KSub1 Φ σ b x G = (evE Φ b σ G).bind (KSub2 x) := rfl
theorem q_KSub2 (x y : W) : KSub2 x y G = subW x y G := rfl
theorem q_sli (k : Nat) (a : E) (lo hi : Option E) : evE Φ (.sli k a lo hi) σ G = (evE Φ a σ G).bind (KSl1 Φ σ k lo hi) := rfl
theorem q_KSl1 (k : Nat) (lo hi : Option E) (x : W) : KSl1 Φ σ k lo hi x G = (evO Φ lo σ G).bind (KSl2 Φ σ k hi x) := rfl
theorem q_KSl2 (k : Nat) (hi : Option E) (x : W) (l : Option Int) : KSl2 Φ σ k hi x l G = (evO Φ hi σ G).bind (KSl3 k x l) := rfl
theorem q_KSl3 (k : Nat) (x : W) (l h : Option Int) : KSl3 k x l h G = cutW k x l h G := rfl
theorem q_on : evO Φ none σ G = .ok none G := rfl
theorem q_os (e : E) : evO Φ (some e) σ G = (evE Φ e σ G).bind optI := rfl
theorem q_optI (i : Int) : optI (.d (.int i)) G = .ok (some i) G := rfl
theorem q_attr (a : E) (f : Nat) : evE Φ (.attr a f) σ G = (evE Φ a σ G).bind (KAttr Φ f) := rfl
theorem q_KAttr (f : Nat) (x : W) : KAttr Φ f x G = attrW Φ x f G := rfl
theorem q_call (f : Nat) (es : List E) : evE Φ (.call f es) σ G = (evEs Φ es σ G).bind (KCall Φ f) := rfl
theorem q_KCall (f : Nat) (ws : List W) : KCall Φ f ws G = fcall (Φ.call f) ws G := rfl
theorem q_meth (m : Nat) (a : E) (es : List E) : evE Φ (.meth m a es) σ G = (evE Φ a σ G).bind (KMe Φ σ m es) := by
  conv => lhs; unfold evE
  congr 1
  funext x G1
  cases x with
  | r i => rfl
  | d x => cases x <;> rfl
theorem q_KMe (m : Nat) (es : List E) (c : Nat) (fs : List (Nat × D)) : KMe Φ σ m es (.d (.ins c fs)) G = (if (fs.lookup m).isNone && (Φ.meth c m).isSome then (evEs Φ es σ G).bind (KMe2 Φ c m (.d (.ins c fs))) else .no) := rfl
theorem q_KMe2 (c m : Nat) (x : W) (ws : List W) : KMe2 Φ c m x ws G = mcall Φ c m (x :: ws) G := rfl
theorem q_new (c : Nat) (es : List E) : evE Φ (.new c es) σ G = (evEs Φ es σ G).bind (KNew Φ c) := rfl
theorem q_KNew (c : Nat) (ws : List W) : KNew Φ c ws G = fcall (Φ.init c) ws G := rfl
theorem q_blt (k : Nat) (b : BF) (es : List E) : evE Φ (.blt k b es) σ G = (evEs Φ es σ G).bind (KBlt Φ k b) := rfl
theorem q_KBlt (k : Nat) (b : BF) (ws : List W) : KBlt Φ k b ws G = bltW Φ k b ws G := rfl
theorem q_mth (m : BM) (a : E) (es : List E) : evE Φ (.mth m a es) σ G = (evE Φ a σ G).bind (KMt Φ σ m es) := rfl
theorem q_KMt (m : BM) (es : List E) (x : W) : KMt Φ σ m es x G = (if mthTy m G x = true then (evEs Φ es σ G).bind (KMt2 m x) else .no) := rfl
theorem q_KMt2 (m : BM) (x : W) (ws : List W) : KMt2 m x ws G = mthW m x ws G := rfl
theorem q_isin (a : E) (ts : List Ty) : evE Φ (.isin a ts) σ G = (evE Φ a σ G).bind (KIs Φ ts) := rfl
theorem q_KIs (ts : List Ty) (x : W) : KIs Φ ts x G = KTr2 (isTys Φ.isc G x ts) G := rfl
theorem q_es0 : evEs Φ [] σ G = .ok [] G := rfl
theorem q_es1 (e : E) (r : List E) : evEs Φ (e :: r) σ G = (evE Φ e σ G).bind (KEs1 Φ σ r) := rfl
theorem q_KEs1 (r : List E) (w : W) : KEs1 Φ σ r w G = (evEs Φ r σ G).bind (KEs2 w) := rfl
theorem q_KEs2 (w : W) (ws : List W) : KEs2 w ws G = .ok (w :: ws) G := rfl
theorem q_range (a b : E) : evI Φ (.range a b) σ G = (evE Φ a σ G).bind (KRan1 Φ σ b) := rfl
theorem q_KRan1 (b : E) (x : W) : KRan1 Φ σ b x G = (evE Φ b σ G).bind (KRan2 x) := rfl
theorem q_KRan2 (x y : W) : KRan2 x y G = rangeOf x y G := rfl
theorem q_enum (a : E) : evI Φ (.enum a) σ G = (evE Φ a σ G).bind KEnum := rfl
theorem q_KEnum (x : W) : KEnum x G = enumOf x G := rfl
theorem q_zip (a b : E) : evI Φ (.zip a b) σ G = (evE Φ a σ G).bind (KZip1 Φ σ b) := rfl
theorem q_KZip1 (b : E) (x : W) : KZip1 Φ σ b x G = (evE Φ b σ G).bind (KZip2 x) := rfl
theorem q_KZip2 (x y : W) : KZip2 x y G = zipOf x y G := rfl
theorem q_val (a : E) : evI Φ (.val a) σ G = (evE Φ a σ G).bind KWalk := rfl
theorem q_KWalk (x : W) : KWalk x G = walkOf x G := rfl
theorem q_rev (a : Itr) : evI Φ (.rev a) σ G = (evI Φ a σ G).bind KRev := rfl
theorem q_KRev (p : List It × List Nat) : KRev p G = .ok (p.1.reverse, p.2) G := rfl
end
def KTh (f g : Sl → Gs → O) (σ : Sl) (G : Gs) : O := (f σ G).andThen g
theorem q_assoc (x : O) (f g : Sl → Gs → O) : (x.andThen f).andThen g = x.andThen (KTh f g) := by cases x <;> rfl
theorem q_KTh (f g : Sl → Gs → O) (σ : Sl) (G : Gs) : KTh f g σ G = (f σ G).andThen g := rfl
/-! loops over a few given items, turn by turn -/
def KFl2 (body : Sl → Gs → O) (tg : Tg) (chk : Gs → Bool) (r : List It) (o : O) : O := match o with
      | .nx σ2 G2 => if chk G2 then forLoop body tg chk r σ2 G2 else .no
      | .ct σ2 G2 => if chk G2 then forLoop body tg chk r σ2 G2 else .no
      | .bk σ2 G2 => .nx σ2 G2
      | o => o
def KFl (body : Sl → Gs → O) (tg : Tg) (chk : Gs → Bool) (r : List It) (G : Gs) (o : Option Sl) : O := match o with
    | none => .no
    | some σ1 => KFl2 body tg chk r (body σ1 G)
theorem fl_nil (body : Sl → Gs → O) (tg : Tg) (chk : Gs → Bool) (σ : Sl) (G : Gs) : forLoop body tg chk [] σ G = .nx σ G := rfl
theorem fl_cons (body : Sl → Gs → O) (tg : Tg) (chk : Gs → Bool) (x : It) (r : List It) (σ : Sl) (G : Gs) : forLoop body tg chk (x :: r) σ G = KFl body tg chk r G (bindTg G tg x σ) := by
  unfold forLoop
  cases bindTg G tg x σ with
  | none => rfl
  | some σ1 =>
    show _ = KFl2 body tg chk r (body σ1 G)
    dsimp only
    cases body σ1 G <;> rfl
theorem q_KFl (body : Sl → Gs → O) (tg : Tg) (chk : Gs → Bool) (r : List It) (G : Gs) (σ : Sl) : KFl body tg chk r G (some σ) = KFl2 body tg chk r (body σ G) := rfl
theorem q_KFl2b (body : Sl → Gs → O) (tg : Tg) (chk : Gs → Bool) (r : List It) (G : Gs) (σ : Sl) : KFl2 body tg chk r (.bk σ G) = .nx σ G := rfl
theorem q_KFl2r (body : Sl → Gs → O) (tg : Tg) (chk : Gs → Bool) (r : List It) (G : Gs) (w : W) : KFl2 body tg chk r (.rt w G) = .rt w G := rfl
theorem q_KFl2 (body : Sl → Gs → O) (tg : Tg) (G0 : Gs) (r : List It) (G : Gs) (σ : Sl) : KFl2 body tg (watch [] G0) r (.nx σ G) = forLoop body tg (watch [] G0) r σ G := rfl
def KLc3 (cond elt : Sl → Gs → R W) (tg : Tg) (σ : Sl) (chk : Gs → Bool) (r : List It) (acc : List W) (x : R W) : R (List W) := match x with
        | .ok w G2 => if chk G2 then lcLoop cond elt false tg σ chk r (acc ++ [w]) G2 else .no
        | _ => .no
def KLc2 (cond elt : Sl → Gs → R W) (tg : Tg) (σ : Sl) (chk : Gs → Bool) (r : List It) (acc : List W) (G : Gs) (o : Option Sl) : R (List W) := match o with
    | none => .no
    | some σ1 => KLc3 cond elt tg σ chk r acc (elt σ1 G)
theorem lc_nil (cond elt : Sl → Gs → R W) (tg : Tg) (σ : Sl) (chk : Gs → Bool) (acc : List W) (G : Gs) : lcLoop cond elt false tg σ chk [] acc G = .ok acc G := rfl
theorem lc_cons (cond elt : Sl → Gs → R W) (tg : Tg) (σ : Sl) (chk : Gs → Bool) (x : It) (r : List It) (acc : List W) (G : Gs) : lcLoop cond elt false tg σ chk (x :: r) acc G = KLc2 cond elt tg σ chk r acc G (bindTg G tg x σ) := by
  unfold lcLoop
  cases bindTg G tg x σ with
  | none => rfl
  | some σ1 =>
    show _ = KLc3 cond elt tg σ chk r acc (elt σ1 G)
    simp only [bL, Bool.false_eq_true, if_false]
    cases elt σ1 G <;> rfl
theorem q_KLc2 (cond elt : Sl → Gs → R W) (tg : Tg) (σ : Sl) (chk : Gs → Bool) (r : List It) (acc : List W) (G : Gs) (σ1 : Sl) : KLc2 cond elt tg σ chk r acc G (some σ1) = KLc3 cond elt tg σ chk r acc (elt σ1 G) := rfl
theorem q_KLc3 (cond elt : Sl → Gs → R W) (tg : Tg) (σ : Sl) (G0 : Gs) (r : List It) (acc : List W) (w : W) (G : Gs) : KLc3 cond elt tg σ (watch [] G0) r acc (.ok w G) = lcLoop cond elt false tg σ (watch [] G0) r (acc ++ [w]) G := rfl
mutual
theorem same_refl : ∀ d : D, d.same d = true
  | .non => rfl
  | .bl b => by simp [D.same]
  | .int i => by simp [D.same]
  | .str s => by simp [D.same]
  | .tup xs => by simp only [D.same]; exact sameL_reflp xs
  | .lst xs => by simp only [D.same]; exact sameL_reflp xs
  | .ins c fs => by simp only [D.same, decide_true, Bool.true_and]; exact sameF_reflp fs
  | .scr ns => by simp [D.same]
theorem sameL_reflp : ∀ l : List D, sameL l l = true
  | [] => rfl
  | x :: r => by simp only [sameL, same_refl x, sameL_reflp r, Bool.and_self]
theorem sameF_reflp : ∀ l : List (Nat × D), sameF l l = true
  | [] => rfl
  | (n, x) :: r => by simp only [sameF, decide_true, same_refl x, sameF_reflp r, Bool.and_self]
end
theorem sameW_reflp : ∀ l : List W, sameW l l = true
  | [] => rfl
  | .d x :: r => by simp only [sameW, W.same, same_refl x, sameW_reflp r, Bool.and_self]
  | .r i :: r => by simp only [sameW, W.same, decide_true, sameW_reflp r, Bool.and_self]
def KW2 (a b : Option Cell) : Bool := match a, b with
  | some a, some b => a.same b
  | _, _ => false
theorem watch_K (i : Nat) (G G' : Gs) : watch [i] G G' = KW2 G[i]? G'[i]? := by
  show (KW2 G[i]? G'[i]? && true) = _
  rw [Bool.and_true]
theorem q_KW2s (ds : List D) : KW2 (some (.sh ds)) (some (.sh ds)) = true := sameL_reflp ds
theorem q_KW2d (ds : List W) : KW2 (some (.dp ds)) (some (.dp ds)) = true := sameW_reflp ds
theorem q_KW2f (x : D) : KW2 (some (.fz x)) (some (.fz x)) = true := same_refl x
theorem q_KLc3c (cond elt : Sl → Gs → R W) (tg : Tg) (σ : Sl) (i : Nat) (G0 : Gs) (r : List It) (acc : List W) (w : W) (G : Gs) : KLc3 cond elt tg σ (watch [i] G0) r acc (.ok w G) = (if watch [i] G0 G = true then lcLoop cond elt false tg σ (watch [i] G0) r (acc ++ [w]) G else .no) := rfl
theorem q_KFl2c (body : Sl → Gs → O) (tg : Tg) (i : Nat) (G0 : Gs) (r : List It) (G : Gs) (σ : Sl) : KFl2 body tg (watch [i] G0) r (.nx σ G) = (if watch [i] G0 G = true then forLoop body tg (watch [i] G0) r σ G else .no) := rfl
theorem walk_r (i : Nat) (G : Gs) : walkOf (.r i) G = (match items G (.r i) with
    | some ws => .ok (ws.map .one, [i]) G
    | none => .no) := rfl
def KLc0 (Φ : Fns) (k : Nat) (elt : E) (tg : Tg) (σ : Sl) (p : List It × List Nat) (G : Gs) : R W := (lcLoop (evC Φ none) (evE Φ elt) false tg σ (watch p.2 G) p.1 [] G).bind (KLst k)
/-- a comprehension, turn by turn -/
theorem lc_all (Φ : Fns) (k : Nat) (elt : E) (tg : Tg) (it : Itr) (own : List Nat) (σ : Sl) (G : Gs) : evE Φ (.lc k elt tg it own none) σ G = (evI Φ it σ G).bind (KLc0 Φ k elt tg (wipeS σ own)) := rfl
theorem q_KLc0 (Φ : Fns) (k : Nat) (elt : E) (tg : Tg) (σ : Sl) (p : List It × List Nat) (G : Gs) : KLc0 Φ k elt tg σ p G = (lcLoop (evC Φ none) (evE Φ elt) false tg σ (watch p.2 G) p.1 [] G).bind (KLst k) := rfl
theorem nc0 : ((0:Nat):Int) = 0 := rfl
theorem nc1 : ((1:Nat):Int) = 1 := rfl
theorem nc2 : ((2:Nat):Int) = 2 := rfl
theorem nc3 : ((3:Nat):Int) = 3 := rfl
theorem nc4 : ((4:Nat):Int) = 4 := rfl
theorem rng0 : rangeIt 0 0 = [] := rfl
theorem rng1 : rangeIt 0 1 = [.one (.d (.int 0))] := rfl
theorem rng2 : rangeIt 0 2 = [.one (.d (.int 0)), .one (.d (.int 1))] := rfl
theorem rng3 : rangeIt 0 3 = [.one (.d (.int 0)), .one (.d (.int 1)), .one (.d (.int 2))] := rfl
theorem condS_t {σ : Sl} {G : Gs} {t e : Gs → O} : condS (.ok (.d (.bl true)) G) σ t e = t G := rfl
theorem condS_f {σ : Sl} {G : Gs} {t e : Gs → O} : condS (.ok (.d (.bl false)) G) σ t e = e G := rfl
theorem wp_if {b : Bool} {σ : Sl} {G : Gs} {t e : Gs → O} {f : Sl → Gs → O} {Q : O → Prop} (h1 : b = true → Wp ((t G).andThen f) Q) (h2 : b = false → Wp ((e G).andThen f) Q) : Wp ((condS (.ok (.d (.bl b)) G) σ t e).andThen f) Q := by
  cases b
  · exact h2 rfl
  · exact h1 rfl
theorem wp_ifd {p : Prop} [Decidable p] {σ : Sl} {G : Gs} {t e : Gs → O} {f : Sl → Gs → O} {Q : O → Prop} (h1 : p → Wp ((t G).andThen f) Q) (h2 : ¬ p → Wp ((e G).andThen f) Q) : Wp ((condS (.ok (.d (.bl (decide p))) G) σ t e).andThen f) Q :=
  wp_if (fun h => h1 (of_decide_eq_true h)) (fun h => h2 (of_decide_eq_false h))
theorem turn_nx2 {P : Sl → Gs → Prop} {Q : O → Prop} {σ : Sl} {G G0 : Gs} : Wp (.nx σ G) (Turn (watch [] G0) P Q) ↔ P σ G := by
  show (true = true ∧ P σ G) ↔ _
  simp
theorem ite_and2 {p : Prop} [Decidable p] (b : Bool) : (if p then b else false) = (decide p && b) := by split <;> simp [*]
theorem ite_or2 {p : Prop} [Decidable p] (b : Bool) : (if p then true else b) = (decide p || b) := by split <;> simp [*]
theorem sx_pos {n d : Nat} {v : Int} (h : 0 ≤ v) : HT.sIx n d (some v) = min v.toNat n := if_neg (by omega)
theorem cut_lo {α : Type} {l : List α} {i : Int} (h : 0 ≤ i) : cut l (some i) none = l.drop i.toNat := by
  unfold cut
  rw [sx_pos h, HT.sIx_none]
  by_cases h1 : i.toNat ≤ l.length
  · rw [Nat.min_eq_left h1, List.take_of_length_le (by simp)]
  · rw [Nat.min_eq_right (by omega), List.drop_eq_nil_of_le (Nat.le_refl _), List.drop_eq_nil_of_le (by omega)]; simp
theorem cut_hi {α : Type} {l : List α} {j : Int} (h : 0 ≤ j) : cut l none (some j) = l.take j.toNat := by
  unfold cut
  rw [sx_pos h, HT.sIx_none]
  by_cases h1 : j.toNat ≤ l.length
  · rw [Nat.min_eq_left h1]; simp
  · rw [Nat.min_eq_right (by omega), Nat.sub_zero, List.drop_zero, List.take_of_length_le (Nat.le_refl _), List.take_of_length_le (by omega)]
theorem cut_lh {α : Type} {l : List α} {i j : Int} (h : 0 ≤ i) (h2 : 0 ≤ j) : cut l (some i) (some j) = (l.drop i.toNat).take (j.toNat - i.toNat) := by
  unfold cut
  rw [sx_pos h, sx_pos h2]
  by_cases h1 : i.toNat ≤ l.length
  · rw [Nat.min_eq_left h1]
    by_cases h3 : j.toNat ≤ l.length
    · rw [Nat.min_eq_left h3]
    · rw [Nat.min_eq_right (by omega), List.take_of_length_le (by simp), List.take_of_length_le (by simp; omega)]
  · rw [Nat.min_eq_right (by omega : l.length ≤ i.toNat), List.drop_eq_nil_of_le (Nat.le_refl _), List.drop_eq_nil_of_le (by omega)]; simp
/-! sets of tuples -/
theorem set_new {Φ : Fns} {k : Nat} {G : Gs} : bltW Φ k .set [] G = .ok (.r G.length) (G ++ [.st []]) := rfl
theorem in_st2 {Φ : Fns} {a b : Int} {ks : List (List Int)} {r : Gs} : cmpW Φ .isin (.d (.tup [.int a, .int b])) (.r 0) (.st ks :: r) = .ok (.d (.bl (decide ([a, b] ∈ ks)))) (.st ks :: r) := rfl
theorem mty_add {ks : List (List Int)} {r : Gs} : mthTy .add (.st ks :: r) (.r 0) = true := rfl
theorem add_st2 {a b : Int} {ks : List (List Int)} {r : Gs} (h : ks.length + 1 < 64) (h2 : [a, b] ∉ ks) : mthW .add (.r 0) [.d (.tup [.int a, .int b])] (.st ks :: r) = .ok (.d .non) (.st (ks ++ [[a, b]]) :: r) := by
  show (if decide (ks.length + 1 < 64) = true then R.ok (W.d .non) (Cell.st (if decide ([a, b] ∈ ks) = true then ks else ks ++ [[a, b]]) :: r) else .no) = _
  rw [if_pos (decide_eq_true h), if_neg (by simpa using h2)]
theorem take_map {α β : Type} (f : α → β) (l : List α) (k : Nat) : (l.map f).take k = (l.take k).map f := List.map_take.symm
theorem drop_map {α β : Type} (f : α → β) (l : List α) (k : Nat) : (l.map f).drop k = (l.drop k).map f := List.map_drop.symm
section
variable {α β : Type}
theorem zip_enc (xs : List α) (ys : List β) (e1 : α → D) (e2 : β → D) : ((xs.map e1).zip (ys.map e2)).map (fun p => It.two (.d p.1) (.d p.2)) = (xs.zip ys).map fun p => It.two (.d (e1 p.1)) (.d (e2 p.2)) := by
  rw [List.zip_map, List.map_map]; rfl
theorem enum_enc (xs : List α) (e1 : α → D) : ((xs.map e1).zipIdx).map (fun p => It.two (.d (.int p.2)) (.d p.1)) = xs.zipIdx.map fun p => It.two (.d (.int p.2)) (.d (e1 p.1)) := by
  rw [List.zipIdx_map, List.map_map]; rfl
theorem each_enc (xs : List α) (e1 : α → D) : (xs.map e1).map (fun p => It.one (.d p)) = xs.map fun p => It.one (.d (e1 p)) := by
  rw [List.map_map]; rfl
end
/-- data, a name -/
theorem wp_eachD {α : Type} {body : Sl → Gs → O} {i : Nat} {chk : Gs → Bool} {f : Sl → Gs → O} {σ : Sl} {G : Gs} {Q : O → Prop} {e : α → D} (xs : List α) (P : Nat → Sl → Gs → Prop) (h0 : P 0 σ G)
    (hs : ∀ k x σ2 G2, xs[k]? = some x → P k σ2 G2 → ∀ R : O → Prop, (∀ o, Turn chk (P (k + 1)) (fun o => Wp (o.andThen f) Q) o → R o) → Wp (body (setS σ2 i (.d (e x))) G2) R)
    (he : ∀ σ2 G2, P xs.length σ2 G2 → Wp (f σ2 G2) Q) : Wp ((forLoop body (.var i) chk (xs.map fun x => It.one (.d (e x))) σ G).andThen f) Q :=
  wp_each xs P h0 (fun k x σ2 G2 h hp R hR => ⟨_, rfl, hs k x σ2 G2 h hp R hR⟩) he
theorem zi_get {α : Type} {l : List α} {k : Nat} {p : α × Nat} (e : l.zipIdx[k]? = some p) : l[k]? = some p.1 ∧ p.2 = k := by
  rw [List.getElem?_zipIdx] at e
  cases h : l[k]? with
  | none => rw [h] at e; simp at e
  | some a => rw [h] at e; simp at e; subst e; simp
/-- enumerate, two names -/
theorem wp_enumD {α : Type} {body : Sl → Gs → O} {u v : Nat} {chk : Gs → Bool} {f : Sl → Gs → O} {σ : Sl} {G : Gs} {Q : O → Prop} {e : α → D} (xs : List α) (P : Nat → Sl → Gs → Prop) (h0 : P 0 σ G)
    (hs : ∀ k x σ2 G2, xs[k]? = some x → P k σ2 G2 → ∀ R : O → Prop, (∀ o, Turn chk (P (k + 1)) (fun o => Wp (o.andThen f) Q) o → R o) → Wp (body (setS (setS σ2 u (.d (.int k))) v (.d (e x))) G2) R)
    (he : ∀ σ2 G2, P xs.length σ2 G2 → Wp (f σ2 G2) Q) : Wp ((forLoop body (.tup [u, v]) chk (xs.zipIdx.map fun p => It.two (.d (.int p.2)) (.d (e p.1))) σ G).andThen f) Q :=
  wp_each xs.zipIdx P h0 (fun k x σ2 G2 h hp R hR => by
    obtain ⟨x, i⟩ := x
    obtain ⟨h1, h2⟩ := zi_get h
    dsimp only at h1 h2
    subst h2
    exact ⟨_, rfl, hs i x σ2 G2 h1 hp R hR⟩) (by rw [List.length_zipIdx]; exact he)
/-! cells at any place -/
def KApp (c : Option Cell) (i : Nat) (x : D) (G : Gs) : R W := match c with
    | some (.sh ds) => if ds.length < 16777216 then .ok (.d .non) (G.set i (.sh (ds ++ [x]))) else .no
    | some (.dp us) => if us.length < 16777216 then .ok (.d .non) (G.set i (.dp (us ++ [.d x]))) else .no
    | _ => .no
theorem ifline {α : Type} (n : Nat) (a b : α) : (if decide (n < sizeLine) = true then a else b) = if n < 16777216 then a else b := by
  by_cases h : n < 16777216
  · rw [if_pos h]; exact if_pos (decide_eq_true h)
  · rw [if_neg h]; exact if_neg fun q => h (of_decide_eq_true q)
theorem app_K (i : Nat) (x : D) (G : Gs) : mthW .append (.r i) [.d x] G = KApp G[i]? i x G := by
  unfold mthW
  rw [if_neg (by decide)]
  dsimp only
  cases e : G[i]? with
  | none => rfl
  | some c =>
    cases c with
    | sh ds =>
      dsimp only [KApp]
      rw [fz_d]
      dsimp only
      rw [e]
      exact ifline _ _ _
    | dp us => exact ifline _ _ _
    | _ => rfl
theorem q_KApp {i : Nat} {x : D} {G : Gs} {ds : List D} (h : ds.length < 16777216) : KApp (some (.sh ds)) i x G = .ok (.d .non) (G.set i (.sh (ds ++ [x]))) := if_pos h
theorem q_KAppd {i : Nat} {x : D} {G : Gs} {ds : List W} (h : ds.length < 16777216) : KApp (some (.dp ds)) i x G = .ok (.d .non) (G.set i (.dp (ds ++ [.d x]))) := if_pos h
def KAppC (c : Option Cell) (b : Option Cell) (i j : Nat) (G : Gs) : R W := match c, b with
    | some (.sh ds), some (.sh es) => if ds.length < 16777216 ∧ i ≠ j then .ok (.d .non) ((G.set j (.fz (.lst es))).set i (.sh (ds ++ [.lst es]))) else mthW .append (.r i) [.r j] G
    | some (.sh ds), some (.fz x) => if ds.length < 16777216 ∧ i ≠ j then .ok (.d .non) (G.set i (.sh (ds ++ [x]))) else mthW .append (.r i) [.r j] G
    | some (.dp us), _ => if us.length < 16777216 then .ok (.d .non) (G.set i (.dp (us ++ [.r j]))) else mthW .append (.r i) [.r j] G
    | _, _ => mthW .append (.r i) [.r j] G
theorem app_KC (i j : Nat) (G : Gs) : mthW .append (.r i) [.r j] G = KAppC G[i]? G[j]? i j G := by
  cases e1 : G[i]? with
  | none => rfl
  | some c =>
    cases c with
    | sh ds =>
      cases e2 : G[j]? with
      | none => rfl
      | some b =>
        cases b with
        | sh es =>
          show _ = (if ds.length < 16777216 ∧ i ≠ j then _ else _)
          split
          · rename_i h
            unfold mthW
            rw [if_neg (by decide)]
            dsimp only
            rw [e1]
            dsimp only
            rw [fz_r, e2]
            dsimp only
            rw [List.getElem?_set_ne (fun q => h.2 q.symm), e1]
            exact (ifline _ _ _).trans (if_pos h.1)
          · rfl
        | fz x =>
          show _ = (if ds.length < 16777216 ∧ i ≠ j then _ else _)
          split
          · rename_i h
            unfold mthW
            rw [if_neg (by decide)]
            dsimp only
            rw [e1]
            dsimp only
            rw [fz_r, e2]
            dsimp only
            rw [e1]
            exact (ifline _ _ _).trans (if_pos h.1)
          · rfl
        | _ => rfl
    | dp us =>
      show _ = (if us.length < 16777216 then _ else _)
      split
      · rename_i h
        unfold mthW
        rw [if_neg (by decide)]
        dsimp only
        rw [e1]
        exact (ifline _ _ _).trans (if_pos h)
      · rfl
    | _ => rfl
theorem q_KAppC {i j : Nat} {G : Gs} {ds es : List D} (h : ds.length < 16777216) (h2 : i ≠ j) : KAppC (some (.sh ds)) (some (.sh es)) i j G = .ok (.d .non) ((G.set j (.fz (.lst es))).set i (.sh (ds ++ [.lst es]))) := if_pos ⟨h, h2⟩
theorem q_KAppCf {i j : Nat} {G : Gs} {ds : List D} {x : D} (h : ds.length < 16777216) (h2 : i ≠ j) : KAppC (some (.sh ds)) (some (.fz x)) i j G = .ok (.d .non) (G.set i (.sh (ds ++ [x]))) := if_pos ⟨h, h2⟩
theorem q_KAppCd {i j : Nat} {G : Gs} {us : List W} {b : Option Cell} (h : us.length < 16777216) : KAppC (some (.dp us)) b i j G = .ok (.d .non) (G.set i (.dp (us ++ [.r j]))) := if_pos h
def KMty (c : Option Cell) : Bool := match c with
    | some (.sh _) => true
    | some (.dp _) => true
    | some (.fz (.lst _)) => true
    | _ => false
theorem mty_K (i : Nat) (G : Gs) : mthTy .append G (.r i) = KMty G[i]? := by
  unfold mthTy
  rw [if_neg (by decide)]
  unfold isListW
  rw [sitems_r, litems_r]
  cases e : G[i]? with
  | none => rfl
  | some c => cases c with
    | fz x => cases x <;> rfl
    | _ => rfl
theorem mty_Ki (i : Nat) (G : Gs) : mthTy .index G (.r i) = KMty G[i]? := by
  unfold mthTy
  rw [if_neg (by decide)]
  unfold isListW
  rw [sitems_r, litems_r]
  cases e : G[i]? with
  | none => rfl
  | some c => cases c with
    | fz x => cases x <;> rfl
    | _ => rfl
theorem mty_il (ds : List D) (G : Gs) : mthTy .index G (.d (.lst ds)) = true := rfl
theorem q_KMty (ds : List D) : KMty (some (.sh ds)) = true := rfl
theorem q_KMtyd (ds : List W) : KMty (some (.dp ds)) = true := rfl
def KSubC (c : Option Cell) (k : Int) (G : Gs) : R W := match c with
    | some (.sh ds) => (match L2.atI (ds.map W.d) k with
      | some w => .ok w G
      | none => .no)
    | some (.dp ws) => (match L2.atI ws k with
      | some w => .ok w G
      | none => .no)
    | some (.fz (.lst ds)) => (match L2.atI (ds.map W.d) k with
      | some w => .ok w G
      | none => .no)
    | _ => .no
theorem sub_K (i : Nat) (k : Int) (G : Gs) : subW (.r i) (.d (.int k)) G = KSubC G[i]? k G := by
  show (match (items G (.r i)).bind fun ws => L2.atI ws k with
      | some w => R.ok w G
      | none => .no) = _
  rw [items_r]
  cases e : G[i]? with
  | none => rfl
  | some c => cases c with
    | fz x => cases x <;> rfl
    | _ => rfl
theorem q_KSubC {α : Type} [Inhabited α] {f : α → D} {l : List α} {k : Int} {G : Gs} (h0 : 0 ≤ k) (h1 : k < l.length) : KSubC (some (.sh (l.map f))) k G = .ok (.d (f (gt l k))) G := by
  unfold KSubC
  dsimp only
  rw [atI_gt (l := (l.map f).map W.d) h0 (by simpa using h1), List.map_map, gt_map _ h0 h1]; rfl
theorem q_KSubd0 {w : W} {r : List W} {G : Gs} : KSubC (some (.dp (w :: r))) 0 G = .ok w G := by
  unfold KSubC
  dsimp only
  rw [atI_gt (by omega) (by simp)]; rfl
theorem q_KSubd1 {v w : W} {r : List W} {G : Gs} : KSubC (some (.dp (v :: w :: r))) 1 G = .ok w G := by
  unfold KSubC
  dsimp only
  rw [atI_gt (by omega) (by simp; omega)]; rfl
theorem q_KSubd2 {u v w : W} {r : List W} {G : Gs} : KSubC (some (.dp (u :: v :: w :: r))) 2 G = .ok w G := by
  unfold KSubC
  dsimp only
  rw [atI_gt (by omega) (by simp; omega)]; rfl
/-! cells behind others -/
section
variable {α : Type} {J r : List α} {a b c d x : α}
theorem ga0 : (J ++ a :: r)[J.length]? = some a := by simp
theorem ga1 : (J ++ a :: b :: r)[J.length + 1]? = some b := by rw [List.getElem?_append_right (by omega), Nat.add_sub_cancel_left]; rfl
theorem ga2 : (J ++ a :: b :: c :: r)[J.length + 1 + 1]? = some c := by rw [List.getElem?_append_right (by omega), show J.length + 1 + 1 - J.length = 2 by omega]; rfl
theorem ga3 : (J ++ a :: b :: c :: d :: r)[J.length + 1 + 1 + 1]? = some d := by rw [List.getElem?_append_right (by omega), show J.length + 1 + 1 + 1 - J.length = 3 by omega]; rfl
theorem gaG {i : Nat} : (J ++ r)[J.length + i]? = r[i]? := by rw [List.getElem?_append_right (by omega), Nat.add_sub_cancel_left]
theorem saG {i : Nat} : (J ++ r).set (J.length + i) x = J ++ r.set i x := by rw [List.set_append_right _ _ (by omega), Nat.add_sub_cancel_left]
theorem ga2' : (J ++ a :: b :: c :: r)[J.length + 2]? = some c := ga2
theorem ga3' : (J ++ a :: b :: c :: d :: r)[J.length + 3]? = some d := ga3
theorem sa0 : (J ++ a :: r).set J.length x = J ++ x :: r := by simp
theorem sa1 : (J ++ a :: b :: r).set (J.length + 1) x = J ++ a :: x :: r := by rw [List.set_append_right _ _ (by omega), Nat.add_sub_cancel_left]; rfl
theorem sa2 : (J ++ a :: b :: c :: r).set (J.length + 1 + 1) x = J ++ a :: b :: x :: r := by rw [List.set_append_right _ _ (by omega), show J.length + 1 + 1 - J.length = 2 by omega]; rfl
theorem sa3 : (J ++ a :: b :: c :: d :: r).set (J.length + 1 + 1 + 1) x = J ++ a :: b :: c :: x :: r := by rw [List.set_append_right _ _ (by omega), show J.length + 1 + 1 + 1 - J.length = 3 by omega]; rfl
end
section
variable {α : Type} {J r : List α} {a b c d x : α}
theorem sa2' : (J ++ a :: b :: c :: r).set (J.length + 2) x = J ++ a :: b :: x :: r := sa2
theorem sa3' : (J ++ a :: b :: c :: d :: r).set (J.length + 3) x = J ++ a :: b :: c :: x :: r := sa3
end
/-! calls that pass cells -/
def KFc (f : List D → PR) (ws : List W) (G : Gs) (o : Option (List D)) : R W := match o with
    | none => .no
    | some ds => match f ds with
      | .ok x => if nolistB x then .ok (.d x) (killT G) else (match fzL (fz fzN) ws G with
        | some p => (match f p.1 with
          | .ok y => .ok (.d y) p.2
          | _ => .no)
        | none => .no)
      | .exc e => if e.fs.all fun p => nolistB p.2 then .exc e (killT G) else .no
      | .no => .no
def KFc2 (f : List D → PR) (ws : List W) (G : Gs) (o : PR) : R W := match o with
      | .ok x => if nolistB x then .ok (.d x) (killT G) else (match fzL (fz fzN) ws G with
        | some p => (match f p.1 with
          | .ok y => .ok (.d y) p.2
          | _ => .no)
        | none => .no)
      | .exc e => if e.fs.all fun p => nolistB p.2 then .exc e (killT G) else .no
      | .no => .no
theorem fc_r (f : List D → PR) (i : Nat) (r : List W) (G : Gs) : fcall f (.r i :: r) G = KFc f (.r i :: r) G (snL (sn G fzN) (.r i :: r)) := rfl
theorem fc_dr (f : List D → PR) (x : D) (i : Nat) (r : List W) (G : Gs) : fcall f (.d x :: .r i :: r) G = KFc f (.d x :: .r i :: r) G (snL (sn G fzN) (.d x :: .r i :: r)) := rfl
theorem fc_ddr (f : List D → PR) (x y : D) (i : Nat) (r : List W) (G : Gs) : fcall f (.d x :: .d y :: .r i :: r) G = KFc f (.d x :: .d y :: .r i :: r) G (snL (sn G fzN) (.d x :: .d y :: .r i :: r)) := rfl
theorem fc_dddr (f : List D → PR) (x y z : D) (i : Nat) (r : List W) (G : Gs) : fcall f (.d x :: .d y :: .d z :: .r i :: r) G = KFc f (.d x :: .d y :: .d z :: .r i :: r) G (snL (sn G fzN) (.d x :: .d y :: .d z :: .r i :: r)) := rfl
theorem fc_ddddr (f : List D → PR) (x y z u : D) (i : Nat) (r : List W) (G : Gs) : fcall f (.d x :: .d y :: .d z :: .d u :: .r i :: r) G = KFc f (.d x :: .d y :: .d z :: .d u :: .r i :: r) G (snL (sn G fzN) (.d x :: .d y :: .d z :: .d u :: .r i :: r)) := rfl
theorem q_KFc (f : List D → PR) (ws : List W) (G : Gs) (ds : List D) : KFc f ws G (some ds) = KFc2 f ws G (f ds) := rfl
theorem q_KFc2 {f : List D → PR} {ws : List W} {G : Gs} {x : D} (h : nolistB x = true) : KFc2 f ws G (.ok x) = .ok (.d x) (killT G) := by
  exact if_pos h
theorem snL0 (f : W → Option D) : snL f [] = some [] := rfl
theorem snL1 (f : W → Option D) (w : W) (r : List W) : snL f (w :: r) = (f w).bind fun x => (snL f r).bind fun xs => some (x :: xs) := rfl
theorem kt_nil : killT [] = [] := rfl
theorem kt_sh (ds : List D) (r : Gs) : killT (.sh ds :: r) = .sh ds :: killT r := rfl
theorem kt_dp (ds : List W) (r : Gs) : killT (.dp ds :: r) = .dp ds :: killT r := rfl
theorem kt_fz (x : D) (r : Gs) : killT (.fz x :: r) = .fz x :: killT r := rfl
theorem kt_tp (x : List W) (r : Gs) : killT (.tp x :: r) = .gone :: killT r := rfl
theorem kt_gone (r : Gs) : killT (.gone :: r) = .gone :: killT r := rfl
theorem kt_app (a b : Gs) : killT (a ++ b) = killT a ++ killT b := List.map_append
theorem nolist_ints (l : List Int) : nolistB.nl (l.map .int) = true := by
  induction l with
  | nil => rfl
  | cons a r ih => rw [List.map_cons]; unfold nolistB.nl; rw [ih]; rfl
theorem nolist_map {α : Type} (f : α → D) (l : List α) (h : ∀ x ∈ l, nolistB (f x) = true) : nolistB.nl (l.map f) = true := by
  induction l with
  | nil => rfl
  | cons a r ih => rw [List.map_cons]; unfold nolistB.nl; rw [h a List.mem_cons_self, ih fun x hx => h x (List.mem_cons_of_mem _ hx)]; rfl
end Ev

end
open Ev PySem
local macro_rules
  | `(tactic| and_intros) => `(tactic| first
  | assumption
  | omega
  | (simp only [List.length_map, List.length_append, List.length_cons, List.length_nil, List.length_zipIdx, List.length_set, List.length_replicate, List.length_take, List.length_drop, List.length_range, List.length_zip]; omega)
  | (refine mulOk_small ?_ ?_ <;> omega)
  | (refine mulOk_smallR ?_ ?_ <;> omega)
  | decide +kernel
  | with_unfolding_all rfl
  | fail)
local macro_rules
  | `(tactic| simp? [$ls,*]) => `(tactic| simp -implicitDefEqProofs (disch := and_intros) only [q_nil, q_cons, q_KS, q_set, q_setd, q_KSet, q_unp, q_KUnp, q_aug, q_KAug0, q_KAug, q_KAug2, q_item, q_KIt1, q_KIt2, q_KIt3, q_attrS, q_KAt1, q_KAt2, q_expr, q_KExpr, q_ret, q_KRet, q_retN, q_ife, q_KIf, q_for, q_KFor, q_brk, q_cnt, q_pas, q_var, q_KVar, q_lit, q_bin, q_KBin1, q_KBin2f, q_KBin2t, q_neg, q_KNeg, q_not, q_KNot, q_cmp, q_KCmp1, q_KCmp2, q_chain, q_KCh1, q_KCh2, q_KCh3, q_KFal, q_KTru, q_chain3, q_KC1, q_KC2, q_KC3, q_KC4, q_KC5, q_and, q_or, q_KE, q_truth, q_KTr, q_KTr2, q_ite, q_tup, q_KTup, q_lst, q_KLst, q_sub, q_KSub1, q_KSub2, q_sli, q_KSl1, q_KSl2, q_KSl3, q_on, q_os, q_optI, q_attr, q_KAttr, q_call, q_KCall, q_meth, q_KMe, q_KMe2, q_new, q_KNew, q_blt, q_KBlt, q_mth, q_KMt, q_KMt2, q_isin, q_KIs, q_es0, q_es1, q_KEs1, q_KEs2, q_range, q_KRan1, q_KRan2, q_enum, q_KEnum, q_zip, q_KZip1, q_KZip2, q_val, q_KWalk, q_rev, q_KRev, condS_t, condS_f, q_assoc, q_KTh, bind_ok, thenS_ok, andThen_nx, andThen_rt, andThen_ct, andThen_bk, cond3_b, notW_b, drop_nil, res_nx, res_rt,
      bL, iL, ite_tt, ite_ff, ite_okb, ite_oki, ite_and2, ite_or2, dec_not, dec_and, dec_or, cmp_lt, cmp_le, cmp_gt, cmp_ge, cmp_eq, cmp_ne, is_non, is_int, is_ins, is_tup, is_bb, isnot_non, isnot_int, isnot_bb,
      in_tup, notin_tup, in_lst, notin_lst, in_nilL, notin_nilL, out_ok, fcall0, fcall1, fcall2, fcall3, fcall4, fcall5, fcall6, fcall7, len_lst, len_tup, len_scr, len_r, blt_len,
      sub_lst, sub_tup, sub_scr, sub_l0, sub_l1, sub_l2, sub_l3, sub_l4, sub_t0, sub_t1, sub_t2, sub_two, bin_add, bin_sub, bin_mul, bin_mod, bin_fdiv, bin_pow, blt_int, blt_intb, blt_max2, blt_min2, aug_add, aug_sub, neg_i,
      mkL0_0, mkL1_0, mkL0_1, mkL0_2, mkL0_3, mkL0_4, mkL0_5, mkL0_6, mkL0_7, mkL0_8, mkL0_9, mkL0_10, mkT_0, mkT_1, mkT_2, mkT_3, mkT_4, mkL0, mkL1, mkT_d, add_ll, mul_ln, walkOf_lst, walkOf_tup, walkOf_scr, rangeOf_ok, enumOf_lst, enumOf_tup, zipOf_tt, zipOf_lt, zipOf_tl, zipOf_ll,
      tuple_lst, tuple_tup, list_lst0, list_lst1, list_tup0, blt_sum, blt_any, blt_all, cut_lst, cut_tup,
      items_r, litems_r, sitems_r, sn_r, sn_r4, fz_r, fz_r4, fz_d, sn_d, app_K, q_KApp, q_KAppd, app_KC, q_KAppC, q_KAppCf, q_KAppCd, mty_K, mty_Ki, mty_il, q_KMty, q_KMtyd, sub_K, q_KSubC, q_KSubd0, q_KSubd1, q_KSubd2, ga0, ga1, ga2, ga3, sa0, sa1, sa2, sa3, gaG, saG, fc_r, fc_dr, fc_ddr, fc_dddr, fc_ddddr, q_KFc, q_KFc2, snL0, snL1, kt_nil, kt_sh, kt_dp, kt_fz, kt_tp, kt_gone, kt_app, List.length_append, mkL2_def, res_cell, list_r, tuple_r, tuple1_r, line_ok, truth_b, watch_nil, attr_d, attr_r, setA_r, setI_r, ixN_ok, putF, resI_nx,
       bindTg, bindNs, titems, setS, wipeS, List.getElem?_cons_zero, List.getElem?_cons_succ, List.getElem?_nil, List.set_cons_zero, List.set_cons_succ, List.length_cons, List.length_nil, List.length_map, Nat.reduceAdd, Nat.zero_add, List.cons_append, List.nil_append, List.append_assoc, List.map_cons, List.map_nil, Option.bind_some, Option.map_some, List.lookup, Nat.reduceBEq, Nat.reduceEqDiff, if_true, if_false, Bool.and_false, Bool.false_and, Bool.or_false, Bool.or_true, Bool.false_or, Bool.true_or, Int.reduceLT, Int.reduceLE, Bool.and_true, Bool.true_and, Bool.not_true, Bool.not_false,
      Int.reduceToNat, Int.toNat_natCast, Int.reducePow, Int.reduceMul, Int.reduceAdd, Int.reduceSub, Bool.false_eq_true, decide_eq_true_eq, reduceIte, Option.isSome_some, Option.isNone_none, cut_mapp, cut_lo, cut_hi, cut_lh, take_map, drop_map, startS_def, List.replicate_succ, List.replicate_zero, Nat.reduceSub, Nat.sub_self, Nat.reduceLT, Nat.reduceLeDiff, each_enc, enum_enc, zip_enc, and_self, true_and, and_true, not_true_eq_false, not_false_eq_true, decide_true, decide_false, or_false, false_or, or_true, true_or, and_false, false_and, set_new, in_st2, mty_add, add_st2, $ls,*])
local macro_rules
  | `(tactic| simp_all? [$ls,*]) => `(tactic| simp? [fl_nil, fl_cons, q_KFl, q_KFl2, q_KFl2b, q_KFl2r, lc_nil, lc_cons, q_KLc2, q_KLc3, q_KLc3c, q_KFl2c, watch_K, q_KW2s, q_KW2d, q_KW2f, walk_r, lc_all, q_KLc0, nc0, nc1, nc2, nc3, nc4, rng0, rng1, rng2, rng3, $ls,*])
local macro_rules
  | `(tactic| simp_all? only [$ls,*]) => `(tactic| simp? [lc_nil, lc_cons, q_KLc2, q_KLc3, q_KLc3c, watch_K, q_KW2s, q_KW2d, q_KW2f, walk_r, lc_all, q_KLc0, nc0, nc1, nc2, nc3, nc4, $ls,*])

-- part Pw
section
set_option Elab.async false
set_option linter.all false
set_option maxRecDepth 4000
namespace Ev
open PySem
section
variable {α β : Type} {Φ : Fns} {k : Nat} {elt c a b : E} {own : List Nat} {i : Nat} {tg : Tg} {σ : Sl} {G G1 : Gs}
theorem lcV (xs : List α) (e f : α → D) (hs : evE Φ a σ G = .ok (.d (.lst (xs.map e))) G1) (h : ∀ x ∈ xs, evE Φ elt (setS (wipeS σ own) i (.d (e x))) G1 = .ok (.d (f x)) G1) :
    evE Φ (.lc k elt (.var i) (.val a) own none) σ G = mkL k ((xs.map f).map .d) G1 :=
  evE_lc (enc := fun x => .one (.d (e x))) (cs := []) f (by rw [q_val, hs, bind_ok, q_KWalk, walkOf_lst, List.map_map]; rfl) rfl fun x hx => ⟨_, rfl, h x hx⟩
theorem lcVt (xs : List α) (e f : α → D) (hs : evE Φ a σ G = .ok (.d (.tup (xs.map e))) G1) (h : ∀ x ∈ xs, evE Φ elt (setS (wipeS σ own) i (.d (e x))) G1 = .ok (.d (f x)) G1) :
    evE Φ (.lc k elt (.var i) (.val a) own none) σ G = mkL k ((xs.map f).map .d) G1 :=
  evE_lc (enc := fun x => .one (.d (e x))) (cs := []) f (by rw [q_val, hs, bind_ok, q_KWalk, walkOf_tup, List.map_map]; rfl) rfl fun x hx => ⟨_, rfl, h x hx⟩
theorem lcVif (xs : List α) (e f : α → D) (p : α → Bool) (hs : evE Φ a σ G = .ok (.d (.lst (xs.map e))) G1)
    (h : ∀ x ∈ xs, evE Φ c (setS (wipeS σ own) i (.d (e x))) G1 = .ok (.d (.bl (p x))) G1 ∧ (p x = true → evE Φ elt (setS (wipeS σ own) i (.d (e x))) G1 = .ok (.d (f x)) G1)) :
    evE Φ (.lc k elt (.var i) (.val a) own (some c)) σ G = mkL k (((xs.filter p).map f).map .d) G1 :=
  evE_lcif (enc := fun x => .one (.d (e x))) (cs := []) p f (by rw [q_val, hs, bind_ok, q_KWalk, walkOf_lst, List.map_map]; rfl) rfl fun x hx => ⟨_, rfl, h x hx⟩
theorem lcVift (xs : List α) (e f : α → D) (p : α → Bool) (hs : evE Φ a σ G = .ok (.d (.tup (xs.map e))) G1)
    (h : ∀ x ∈ xs, evE Φ c (setS (wipeS σ own) i (.d (e x))) G1 = .ok (.d (.bl (p x))) G1 ∧ (p x = true → evE Φ elt (setS (wipeS σ own) i (.d (e x))) G1 = .ok (.d (f x)) G1)) :
    evE Φ (.lc k elt (.var i) (.val a) own (some c)) σ G = mkL k (((xs.filter p).map f).map .d) G1 :=
  evE_lcif (enc := fun x => .one (.d (e x))) (cs := []) p f (by rw [q_val, hs, bind_ok, q_KWalk, walkOf_tup, List.map_map]; rfl) rfl fun x hx => ⟨_, rfl, h x hx⟩
theorem range_its (n : Nat) : rangeIt 0 n = (List.range n).map fun j => It.one (.d (.int (j : Nat))) := by
  unfold rangeIt
  rw [show ((n : Int) - 0).toNat = n by omega]
  refine List.map_congr_left fun x _ => ?_
  rw [Int.zero_add]
theorem lcR (n : Nat) (f : Nat → D) (hs : evI Φ (.range a b) σ G = .ok (rangeIt 0 n, []) G1) (h : ∀ j, j < n → evE Φ elt (setS (wipeS σ own) i (.d (.int (j : Nat)))) G1 = .ok (.d (f j)) G1) :
    evE Φ (.lc k elt (.var i) (.range a b) own none) σ G = mkL k (((List.range n).map f).map .d) G1 :=
  evE_lc (enc := fun j : Nat => .one (.d (.int j))) (cs := []) f (by rw [hs, range_its]) rfl fun x hx => ⟨_, rfl, h x (List.mem_range.mp hx)⟩
theorem lcRif (n : Nat) (f : Nat → D) (p : Nat → Bool) (hs : evI Φ (.range a b) σ G = .ok (rangeIt 0 n, []) G1)
    (h : ∀ j, j < n → evE Φ c (setS (wipeS σ own) i (.d (.int (j : Nat)))) G1 = .ok (.d (.bl (p j))) G1 ∧ (p j = true → evE Φ elt (setS (wipeS σ own) i (.d (.int (j : Nat)))) G1 = .ok (.d (f j)) G1)) :
    evE Φ (.lc k elt (.var i) (.range a b) own (some c)) σ G = mkL k ((((List.range n).filter p).map f).map .d) G1 :=
  evE_lcif (enc := fun j : Nat => .one (.d (.int j))) (cs := []) p f (by rw [hs, range_its]) rfl fun x hx => ⟨_, rfl, h x (List.mem_range.mp hx)⟩
/-- over a cell of data -/
theorem lcC (j : Nat) (xs : List α) (e f : α → D) (hs : evE Φ a σ G = .ok (.r j) G1) (hg : G1[j]? = some (.sh (xs.map e))) (hw : watch [j] G1 G1 = true) (h : ∀ x ∈ xs, evE Φ elt (setS (wipeS σ own) i (.d (e x))) G1 = .ok (.d (f x)) G1) :
    evE Φ (.lc k elt (.var i) (.val a) own none) σ G = mkL k ((xs.map f).map .d) G1 :=
  evE_lc (enc := fun x => .one (.d (e x))) (cs := [j]) f (by rw [q_val, hs, bind_ok, q_KWalk]; simp only [walkOf, items, hg, cellOf, List.map_map]; rfl) hw fun x hx => ⟨_, rfl, h x hx⟩
theorem lcCif (j : Nat) (xs : List α) (e f : α → D) (p : α → Bool) (hs : evE Φ a σ G = .ok (.r j) G1) (hg : G1[j]? = some (.sh (xs.map e))) (hw : watch [j] G1 G1 = true)
    (h : ∀ x ∈ xs, evE Φ c (setS (wipeS σ own) i (.d (e x))) G1 = .ok (.d (.bl (p x))) G1 ∧ (p x = true → evE Φ elt (setS (wipeS σ own) i (.d (e x))) G1 = .ok (.d (f x)) G1)) :
    evE Φ (.lc k elt (.var i) (.val a) own (some c)) σ G = mkL k (((xs.filter p).map f).map .d) G1 :=
  evE_lcif (enc := fun x => .one (.d (e x))) (cs := [j]) p f (by rw [q_val, hs, bind_ok, q_KWalk]; simp only [walkOf, items, hg, cellOf, List.map_map]; rfl) hw fun x hx => ⟨_, rfl, h x hx⟩
/-- zip -/
theorem lcZ {u v : Nat} (xs : List (α × β)) (e1 : α → D) (e2 : β → D) (f : α × β → D) (hs : evI Φ (.zip a b) σ G = .ok (xs.map fun p => .two (.d (e1 p.1)) (.d (e2 p.2)), []) G1)
    (h : ∀ x ∈ xs, evE Φ elt (setS (setS (wipeS σ own) u (.d (e1 x.1))) v (.d (e2 x.2))) G1 = .ok (.d (f x)) G1) :
    evE Φ (.lc k elt (.tup [u, v]) (.zip a b) own none) σ G = mkL k ((xs.map f).map .d) G1 :=
  evE_lc (enc := fun p => .two (.d (e1 p.1)) (.d (e2 p.2))) (cs := []) f hs rfl fun x hx => ⟨_, rfl, h x hx⟩
theorem lcE {u v : Nat} (xs : List α) (e1 : α → D) (f : α × Nat → D) (hs : evI Φ (.enum a) σ G = .ok (xs.zipIdx.map fun p => .two (.d (.int p.2)) (.d (e1 p.1)), []) G1)
    (h : ∀ x ∈ xs.zipIdx, evE Φ elt (setS (setS (wipeS σ own) u (.d (.int x.2))) v (.d (e1 x.1))) G1 = .ok (.d (f x)) G1) :
    evE Φ (.lc k elt (.tup [u, v]) (.enum a) own none) σ G = mkL k ((xs.zipIdx.map f).map .d) G1 :=
  evE_lc (enc := fun p => .two (.d (.int p.2)) (.d (e1 p.1))) (cs := []) f hs rfl fun x hx => ⟨_, rfl, h x hx⟩
end
/-! types -/
section
variable {ok : Nat → Bool} {G : Gs} {r : List Ty}
theorem ty_list_l (xs : List D) : isTys ok G (.d (.lst xs)) (.list :: r) = some true := rfl
theorem ty_list_t (xs : List D) : isTys ok G (.d (.tup xs)) (.list :: r) = isTys ok G (.d (.tup xs)) r := rfl
theorem ty_tup_t (xs : List D) : isTys ok G (.d (.tup xs)) (.tuple :: r) = some true := rfl
theorem ty_tup_l (xs : List D) : isTys ok G (.d (.lst xs)) (.tuple :: r) = isTys ok G (.d (.lst xs)) r := rfl
theorem ty_list_i (i : Int) : isTys ok G (.d (.int i)) (.list :: r) = isTys ok G (.d (.int i)) r := rfl
theorem ty_tup_i (i : Int) : isTys ok G (.d (.int i)) (.tuple :: r) = isTys ok G (.d (.int i)) r := rfl
theorem ty_int_i (i : Int) : isTys ok G (.d (.int i)) (.int :: r) = some true := rfl
theorem ty_bool_i (i : Int) : isTys ok G (.d (.int i)) (.bool :: r) = isTys ok G (.d (.int i)) r := rfl
theorem ty_int_n : isTys ok G (.d .non) (.int :: r) = isTys ok G (.d .non) r := rfl
theorem ty_tup_n : isTys ok G (.d .non) (.tuple :: r) = isTys ok G (.d .non) r := rfl
theorem ty_nil (x : W) : isTys ok G x [] = some false := rfl
theorem ty_cls (c : Nat) (fs : List (Nat × D)) (h : ok c = true) : isTys ok G (.d (.ins c fs)) (.cls c :: r) = some true := by
  unfold isTys isTy Ty.okB
  simp [h, isTy0, clsTy]
theorem ty_cls_ne (c d : Nat) (fs : List (Nat × D)) (h : ok c = true) (h2 : ok d = true) (h3 : (Ty.cls d == Ty.cls c) = false) : isTys ok G (.d (.ins c fs)) [.cls d] = some false := by
  unfold isTys isTy Ty.okB
  simp [h, h2, isTy0, clsTy, h3, isTys]
theorem ty_cls_t (c : Nat) (xs : List D) (h : ok c = true) : isTys ok G (.d (.tup xs)) [.cls c] = some false := by
  unfold isTys isTy Ty.okB
  simp [h, isTy0, isTys]
end
/-! sorting -/
theorem py_ints (l : List Int) : pys (l.map .int) = some (l.map .int) := by
  induction l with
  | nil => rfl
  | cons a r ih => simp only [List.map_cons, pys, py, ih]; rfl
theorem sortOk_ints (l : List Int) : sortOk (l.map .int) = true := by
  unfold sortOk
  simp only [List.all_map, Bool.and_eq_true, List.all_eq_true, Bool.or_eq_true, Function.comp]
  refine ⟨⟨⟨fun x _ => rfl, fun x _ y _ => rfl⟩, .inr fun x _ => rfl⟩, fun x _ => rfl⟩
theorem map_sort {β : Type} (e : β → D) (le : D → D → Bool) : ∀ (l : List β), (l.map e).mergeSort le = (l.mergeSort fun a b => le (e a) (e b)).map e := by
  intro l
  exact (List.map_mergeSort (r := fun a b => le (e a) (e b)) (s := le) (fun a _ b _ => rfl)).symm
theorem sortD_ints (l : List Int) : sortD (l.map .int) = (l.mergeSort fun a b => decide (a ≤ b)).map .int := by
  unfold sortD
  rw [map_sort]
  congr 2
  funext a b
  have := congrFun (congrFun (PySem.W.dataLe_int (β := Int) id) a) b
  exact this
theorem sorted_lst {Φ : Fns} {ds : List D} {G : Gs} (h1 : sortOk ds = true) (h2 : ds.length ≤ 16777216) : bltW Φ 0 .sorted [.d (.lst ds)] G = .ok (.d (.lst (sortD ds))) G := by
  show sortW 0 (.d (.lst ds)) G = _
  unfold sortW
  simp only [items, fzL_d, h1, line_ok h2, Bool.and_self, if_true]
  exact mkL0 (by unfold sortD; rw [List.length_mergeSort]; exact h2)
theorem sorted_tup {Φ : Fns} {ds : List D} {G : Gs} (h1 : sortOk ds = true) (h2 : ds.length ≤ 16777216) : bltW Φ 0 .sorted [.d (.tup ds)] G = .ok (.d (.lst (sortD ds))) G := by
  show sortW 0 (.d (.tup ds)) G = _
  unfold sortW
  simp only [items, fzL_d, h1, line_ok h2, Bool.and_self, if_true]
  exact mkL0 (by unfold sortD; rw [List.length_mergeSort]; exact h2)
theorem sorted_r {Φ : Fns} {G : Gs} {i : Nat} : bltW Φ 0 .sorted [.r i] G = (match items G (.r i) with
    | some ws => (match fzL (fz fzN) ws G with
      | some p => if (sortOk p.1 && lineB p.1.length) = true then mkL 0 ((sortD p.1).map .d) p.2 else .no
      | none => .no)
    | none => .no) := rfl
theorem sorted_cell {Φ : Fns} {G : Gs} {i : Nat} {ds : List D} (e : G[i]? = some (.sh ds)) (h1 : sortOk ds = true) (h2 : ds.length ≤ 16777216) : bltW Φ 0 .sorted [.r i] G = .ok (.d (.lst (sortD ds))) G := by
  rw [sorted_r]
  simp only [items, e, fzL_d, h1, line_ok h2, Bool.and_self, if_true]
  exact mkL0 (by unfold sortD; rw [List.length_mergeSort]; exact h2)
theorem sort_same_ints {l : List Int} (h : l.Pairwise (· < ·)) : sortD (l.map .int) = l.map .int := by
  rw [sortD_ints, List.mergeSort_of_pairwise]
  exact h.imp fun h => decide_eq_true (Int.le_of_lt h)
/-! triples of numbers -/
abbrev I3 := Int × Int × Int
def eR (r : I3) : D := .tup [.int r.1, .int r.2.1, .int r.2.2]
def eRl (r : I3) : D := .lst [.int r.1, .int r.2.1, .int r.2.2]
def le3 (p q : I3) : Bool := decide (p.1 < q.1 ∨ p.1 = q.1 ∧ (p.2.1 < q.2.1 ∨ p.2.1 = q.2.1 ∧ p.2.2 ≤ q.2.2))
theorem dataLt_3 (x y z x' y' z' : Int) : PySem.W.dataLt (.tuple [.int x, .int y, .int z]) (.tuple [.int x', .int y', .int z']) = decide (x < x' ∨ (x = x' ∧ (y < y' ∨ (y = y' ∧ z < z')))) := by
  have al : ∀ a b : Int, PySem.W.alike (.int a) (.int b) = true := fun _ _ => rfl
  rw [PySem.W.dataLt_tuple, PySem.W.dataLt_cons (al _ _), PySem.W.dataLt_cons (al _ _), PySem.W.dataLt_cons (al _ _)]
  have e : PyProof.Rows.lexLt PyProof.Rows.itemOrd (PySem.W.keyToksAll []) (PySem.W.keyToksAll []) = false := PyProof.Rows.lex_irrefl _
  rw [e, PySem.W.dataLt_int, PySem.W.dataLt_int, PySem.W.dataLt_int]
  simp only [PyData.eqv, beq_iff_eq]
  by_cases h1 : x = x' <;> by_cases h2 : y = y' <;> by_cases h3 : z = z' <;> simp [h1, h2, h3]
theorem py_eR (r : I3) : pyD (eR r) = .tuple [.int r.1, .int r.2.1, .int r.2.2] := rfl
theorem sortD_3 (l : List I3) : sortD (l.map eR) = (l.mergeSort le3).map eR := by
  unfold sortD
  rw [map_sort]
  congr 2
  funext a b
  show (!PySem.W.dataLt (pyD (eR b)) (pyD (eR a))) = _
  rw [py_eR, py_eR, dataLt_3]
  unfold le3
  rw [dec_not]
  congr 1
  apply propext
  omega
theorem sortOk_3 (l : List I3) : sortOk (l.map eR) = true := by
  unfold sortOk
  simp only [List.all_map, Bool.and_eq_true, List.all_eq_true, Bool.or_eq_true, Function.comp]
  refine ⟨⟨⟨fun x _ => rfl, fun x _ y _ => rfl⟩, .inl fun x _ => rfl⟩, fun x _ => rfl⟩
end Ev

end

-- part Pv
section
set_option Elab.async false
set_option linter.all false
set_option maxRecDepth 4000
namespace Ev
open PySem
/-! # Equality of plain data -/
def plain : Nat → D → Bool
  | _, .non => true
  | _, .int _ => true
  | n + 1, .tup xs => xs.all (plain n)
  | n + 1, .lst xs => xs.all (plain n)
  | _, _ => false
mutual
theorem py_plain : ∀ (n : Nat) (d : D), plain n d = true → ∃ p, py d = some p ∧ p.canLay0 = true ∧ p.depth ≤ n
  | n, .non, _ => ⟨.none, rfl, rfl, Nat.zero_le _⟩
  | n, .int i, _ => ⟨.int i, rfl, rfl, Nat.zero_le _⟩
  | n + 1, .tup xs, h => by
    unfold plain at h
    obtain ⟨ps, e, h1, h2⟩ := pys_plain n xs (by simpa using h)
    exact ⟨.tuple ps, by simp [py, e], h1, by unfold PyData.depth; omega⟩
  | n + 1, .lst xs, h => by
    unfold plain at h
    obtain ⟨ps, e, h1, h2⟩ := pys_plain n xs (by simpa using h)
    exact ⟨.list ps, by simp [py, e], h1, by unfold PyData.depth; omega⟩
  | 0, .tup xs, h => by simp [plain] at h
  | 0, .lst xs, h => by simp [plain] at h
  | n, .bl b, h => by cases n <;> simp [plain] at h
  | n, .str b, h => by cases n <;> simp [plain] at h
  | n, .ins b _, h => by cases n <;> simp [plain] at h
  | n, .scr b, h => by cases n <;> simp [plain] at h
theorem pys_plain : ∀ (n : Nat) (ds : List D), (∀ d ∈ ds, plain n d = true) → ∃ ps, pys ds = some ps ∧ PyData.canLayAll0 ps = true ∧ PyData.depthAll ps ≤ n
  | n, [], _ => ⟨[], rfl, rfl, Nat.zero_le _⟩
  | n, d :: r, h => by
    obtain ⟨p, e1, h1, h2⟩ := py_plain n d (h d List.mem_cons_self)
    obtain ⟨ps, e3, h3, h4⟩ := pys_plain n r fun x hx => h x (List.mem_cons_of_mem _ hx)
    exact ⟨p :: ps, by simp [pys, e1, e3], by simp [PyData.canLayAll0, h1, h3], by unfold PyData.depthAll; omega⟩
end
mutual
theorem eqv_plain : ∀ (n : Nat) (a b : D) (p q : PyData), plain n a = true → plain n b = true → py a = some p → py b = some q → (PyData.eqv p q = true ↔ a = b)
  | n, .non, b, p, q, _, hb, ha, h => by
    cases n <;> cases b <;> simp only [plain, py, Bool.false_eq_true] at hb <;> (simp only [py, Option.some.injEq, Option.map_eq_some_iff] at ha h; subst ha; first | (subst h; simp [PyData.eqv]) | (obtain ⟨_, _, rfl⟩ := h; simp [PyData.eqv]))
  | n, .int i, b, p, q, _, hb, ha, h => by
    cases n <;> cases b <;> simp only [plain, py, Bool.false_eq_true] at hb <;> (simp only [py, Option.some.injEq, Option.map_eq_some_iff] at ha h; subst ha; first | (subst h; simp [PyData.eqv]) | (obtain ⟨_, _, rfl⟩ := h; simp [PyData.eqv]))
  | n + 1, .tup xs, b, p, q, h1, hb, ha, h => by
    simp only [py, Option.map_eq_some_iff] at ha
    obtain ⟨ps, e1, rfl⟩ := ha
    unfold plain at h1
    cases b <;> simp only [plain, py, Bool.false_eq_true] at hb <;> (simp only [py, Option.some.injEq, Option.map_eq_some_iff] at h; first | (subst h; simp [PyData.eqv]; done) | (obtain ⟨qs, e2, rfl⟩ := h; first | (simp [PyData.eqv]; done) | (simp only [PyData.eqv, D.tup.injEq]; exact eqvs_plain n xs _ ps qs (by simpa using h1) (by simpa using hb) e1 e2)))
  | n + 1, .lst xs, b, p, q, h1, hb, ha, h => by
    simp only [py, Option.map_eq_some_iff] at ha
    obtain ⟨ps, e1, rfl⟩ := ha
    unfold plain at h1
    cases b <;> simp only [plain, py, Bool.false_eq_true] at hb <;> (simp only [py, Option.some.injEq, Option.map_eq_some_iff] at h; first | (subst h; simp [PyData.eqv]; done) | (obtain ⟨qs, e2, rfl⟩ := h; first | (simp [PyData.eqv]; done) | (simp only [PyData.eqv, D.lst.injEq]; exact eqvs_plain n xs _ ps qs (by simpa using h1) (by simpa using hb) e1 e2)))
  | 0, .tup xs, _, _, _, h, _, _, _ => by simp [plain] at h
  | 0, .lst xs, _, _, _, h, _, _, _ => by simp [plain] at h
  | n, .bl b, _, _, _, h, _, _, _ => by cases n <;> simp [plain] at h
  | n, .str b, _, _, _, h, _, _, _ => by cases n <;> simp [plain] at h
  | n, .ins b _, _, _, _, h, _, _, _ => by cases n <;> simp [plain] at h
  | n, .scr b, _, _, _, h, _, _, _ => by cases n <;> simp [plain] at h
theorem eqvs_plain : ∀ (n : Nat) (a b : List D) (p q : List PyData), (∀ d ∈ a, plain n d = true) → (∀ d ∈ b, plain n d = true) → pys a = some p → pys b = some q → (PyData.eqvAll p q = true ↔ a = b)
  | n, [], [], p, q, _, _, h1, h2 => by simp only [pys, Option.some.injEq] at h1 h2; subst h1; subst h2; simp [PyData.eqvAll]
  | n, [], y :: r, p, q, _, hb, h1, h2 => by
    obtain ⟨p1, e1, -, -⟩ := py_plain n y (hb y List.mem_cons_self)
    simp only [pys, Option.some.injEq, e1, Option.bind_some, Option.map_eq_some_iff] at h1 h2
    obtain ⟨_, _, rfl⟩ := h2
    subst h1; simp [PyData.eqvAll]
  | n, x :: r, [], p, q, ha, _, h1, h2 => by
    obtain ⟨p1, e1, -, -⟩ := py_plain n x (ha x List.mem_cons_self)
    simp only [pys, Option.some.injEq, e1, Option.bind_some, Option.map_eq_some_iff] at h1 h2
    obtain ⟨_, _, rfl⟩ := h1
    subst h2; simp [PyData.eqvAll]
  | n, x :: r, y :: t, p, q, ha, hb, h1, h2 => by
    obtain ⟨p1, e1, -, -⟩ := py_plain n x (ha x List.mem_cons_self)
    obtain ⟨p2, e2, -, -⟩ := py_plain n y (hb y List.mem_cons_self)
    simp only [pys, Option.some.injEq, e1, e2, Option.bind_some, Option.map_eq_some_iff] at h1 h2
    obtain ⟨ps, e3, rfl⟩ := h1
    obtain ⟨qs, e4, rfl⟩ := h2
    have i1 := eqv_plain n x y p1 p2 (ha x List.mem_cons_self) (hb y List.mem_cons_self) e1 e2
    have i2 := eqvs_plain n r t ps qs (fun d hd => ha d (List.mem_cons_of_mem _ hd)) (fun d hd => hb d (List.mem_cons_of_mem _ hd)) e3 e4
    simp only [PyData.eqvAll, Bool.and_eq_true, i1, i2, List.cons.injEq]
end
theorem shaped_of {p : PyData} (h : p.canLay0 = true) (h2 : p.depth ≤ 64) : SeqAt.shaped p = true := by
  unfold SeqAt.shaped
  rw [h, decide_eq_true h2]; rfl
theorem eqD_plain {a b : D} (ha : plain 60 a = true) (hb : plain 60 b = true) : ∃ t, eqD a b = some t ∧ (t = true ↔ a = b) := by
  obtain ⟨p, e1, h1, h2⟩ := py_plain 60 a ha
  obtain ⟨q, e2, h3, h4⟩ := py_plain 60 b hb
  refine ⟨PyData.eqv p q, ?_, eqv_plain 60 a b p q ha hb e1 e2⟩
  unfold eqD
  rw [e1, e2]
  dsimp only
  rw [shaped_of h1 (by omega), shaped_of h3 (by omega)]; rfl
theorem eqD_enc {α : Type} [DecidableEq α] {e : α → D} (inj : ∀ x y, e x = e y → x = y) (h : ∀ x, plain 60 (e x) = true) (a b : α) : eqD (e a) (e b) = some (decide (a = b)) := by
  obtain ⟨t, e1, e2⟩ := eqD_plain (h a) (h b)
  rw [e1]
  congr 1
  by_cases hab : a = b
  · subst hab; simp [e2.mpr rfl]
  · have : t ≠ true := fun q => hab (inj _ _ (e2.mp q))
    simp [hab, this]
theorem eqW_plain {Φ : Fns} {x y : D} {G : Gs} (h : plain 60 x = true) : eqW Φ (.d x) (.d y) G = (match eqD x y with
      | some t => bL t G
      | none => .no) := by
  cases x with
  | ins c fs => simp [plain] at h
  | _ => first | (simp only [eqW, sn_d]; done) | (simp only [eqW, sn_d]; rfl)
theorem cmp_eq_enc {α : Type} [DecidableEq α] {Φ : Fns} {e : α → D} (inj : ∀ x y, e x = e y → x = y) (h : ∀ x, plain 60 (e x) = true) (a b : α) (G : Gs) : cmpW Φ .eq (.d (e a)) (.d (e b)) G = .ok (.d (.bl (decide (a = b)))) G := by
  unfold cmpW
  dsimp only
  rw [eqW_plain (h a), eqD_enc inj h]; rfl
theorem cmp_ne_enc {α : Type} [DecidableEq α] {Φ : Fns} {e : α → D} (inj : ∀ x y, e x = e y → x = y) (h : ∀ x, plain 60 (e x) = true) (a b : α) (G : Gs) : cmpW Φ .ne (.d (e a)) (.d (e b)) G = .ok (.d (.bl (decide (¬ a = b)))) G := by
  have e2 : cmpW Φ .ne (.d (e a)) (.d (e b)) G = notW (eqW Φ (.d (e a)) (.d (e b)) G) := by
    have hp := h a
    unfold cmpW
    cases ea : e a with
    | ins c fs => rw [ea] at hp; simp [plain] at hp
    | _ => rfl
  rw [e2, eqW_plain (h a), eqD_enc inj h, ← dec_not]; rfl
theorem index_enc {α : Type} [DecidableEq α] [Inhabited α] {e : α → D} (inj : ∀ x y, e x = e y → x = y) (h : ∀ x, plain 59 (e x) = true) (l : List α) (v : α) (hv : v ∈ l) (G : Gs) :
    ∃ j : Nat, mthW .index (.d (.lst (l.map e))) [.d (e v)] G = .ok (.d (.int j)) G ∧ j < l.length ∧ gt l (j : Int) = v := by
  obtain ⟨p, e1, h1, h2⟩ := py_plain 59 (e v) (h v)
  obtain ⟨qs, e2, h3, h4⟩ := pys_plain 59 (l.map e) (by simpa using fun x _ => h x)
  have key : ∀ (l : List α) (qs : List PyData), pys (l.map e) = some qs → v ∈ l → ∃ j : Nat, qs.findIdx? (fun z => PyData.eqv z p) = some j ∧ l[j]? = some v := by
    intro l
    induction l with
    | nil => intro _ _ hv; simp at hv
    | cons x r ih =>
      intro qs e0 hv
      obtain ⟨q, e3, -, -⟩ := py_plain 59 (e x) (h x)
      simp only [List.map_cons, pys, e3, Option.bind_some, Option.map_eq_some_iff] at e0
      obtain ⟨qs', e4, rfl⟩ := e0
      have i := eqv_plain 59 (e x) (e v) q p (h x) (h v) e3 e1
      rw [List.findIdx?_cons]
      by_cases hx : x = v
      · subst hx
        rw [i.mpr rfl]
        exact ⟨0, rfl, rfl⟩
      · have : PyData.eqv q p = false := by
          cases hq : PyData.eqv q p with
          | true => exact absurd (inj _ _ (i.mp hq)) hx
          | false => rfl
        rw [this]
        rcases List.mem_cons.mp hv with rfl | hv
        · exact absurd rfl hx
        obtain ⟨j, e5, e6⟩ := ih qs' e4 hv
        exact ⟨j + 1, by rw [e5]; rfl, by simpa using e6⟩
  obtain ⟨j, e3, e4⟩ := key l qs e2 hv
  refine ⟨j, ?_, (List.getElem?_eq_some_iff.mp e4).1, gt_nat e4⟩
  show (match sn G fzN (.d (e v)) with
      | some a => mthW.idx (l.map e) a G
      | none => .no) = _
  rw [sn_d]
  dsimp only
  unfold mthW.idx
  rw [e1, e2]
  dsimp only
  rw [shaped_of h1 (by omega), shaped_of (p := .list qs) h3 (by unfold PyData.depth; omega), e3]
  rfl
theorem plain_ints (n : Nat) (l : List Int) : (l.map D.int).all (plain n) = true := by
  induction l with
  | nil => rfl
  | cons a r ih => rw [List.map_cons, List.all_cons, ih]; cases n <;> rfl
theorem map_inj {α β : Type} {f : α → β} (h : ∀ x y, f x = f y → x = y) : ∀ (a b : List α), a.map f = b.map f → a = b
  | [], [], _ => rfl
  | [], _ :: _, h2 => by simp at h2
  | _ :: _, [], h2 => by simp at h2
  | x :: r, y :: q, h2 => by
    simp only [List.map_cons, List.cons.injEq] at h2
    rw [h x y h2.1, map_inj h r q h2.2]
theorem int_inj : ∀ x y : Int, D.int x = D.int y → x = y := fun x y h => D.int.inj h
theorem take_map_succ {α β : Type} {l : List α} {k : Nat} {v : α} (e : l[k]? = some v) (f : α → β) : (l.take (k + 1)).map f = (l.take k).map f ++ [f v] := by
  rw [List.take_add_one, e]; simp
theorem consE {α : Type} {a b : α} {r : List α} (h : a = b) : a :: r = b :: r := by rw [h]
theorem appE {α : Type} {a b : α} {l r : List α} (h : a = b) : l ++ a :: r = l ++ b :: r := by rw [h]
end Ev

end

-- part T43
section
namespace Rw
open Ev PySem
def fdL : List Fd := [f0, f1, f2, f3, f4, f5, f6, f7, f8, f9, f10, f11, f12, f13, f14, f15, f16, f17, f18, f19] ++ [f20, f21, f22, f23, f24, f25, f26, f27, f28, f29, f30, f31, f32, f33, f34, f35, f36, f37, f38, f39] ++ [f40, f41, f42, f43, f44, f45, f46, f47, f48, f49, f50, f51]
def methL : List ((Nat × Nat) × Nat) := [((0, 0), 20), ((0, 1), 21), ((1, 1), 23), ((2, 0), 25), ((2, 1), 26), ((3, 1), 30), ((0, 17), 51)]
def fldL : List (Nat × Nat) := [(0, 13), (0, 14), (0, 12), (1, 16), (1, 15), (1, 9), (2, 11), (2, 10), (3, 8), (3, 7)]
def T : Tab := ⟨fun i => fdL[i]?, fun _ => none, fun c => [19, 22, 24, 29][c]?, fun c m => methL.lookup (c, m), fun _ => [], fun _ _ => false, fun c f => fldL.contains (c, f), fun c => decide (c < 4)⟩
section
variable {m : Nat}
theorem fl_0_12 : (lvl T m).fld 0 12 = true := by rw [lvl_fld]; rfl
theorem fl_0_13 : (lvl T m).fld 0 13 = true := by rw [lvl_fld]; rfl
theorem fl_0_14 : (lvl T m).fld 0 14 = true := by rw [lvl_fld]; rfl
theorem fl_1_16 : (lvl T m).fld 1 16 = true := by rw [lvl_fld]; rfl
theorem fl_1_15 : (lvl T m).fld 1 15 = true := by rw [lvl_fld]; rfl
theorem fl_1_9 : (lvl T m).fld 1 9 = true := by rw [lvl_fld]; rfl
theorem fl_2_11 : (lvl T m).fld 2 11 = true := by rw [lvl_fld]; rfl
theorem fl_2_10 : (lvl T m).fld 2 10 = true := by rw [lvl_fld]; rfl
theorem fl_3_8 : (lvl T m).fld 3 8 = true := by rw [lvl_fld]; rfl
theorem fl_3_7 : (lvl T m).fld 3 7 = true := by rw [lvl_fld]; rfl
end
end Rw

end

-- part Q1
section
set_option Elab.async false
set_option linter.all false
set_option maxRecDepth 4000
namespace Rw
open Ev PySem
theorem c2 {n : Nat} (hn : 0 < n) (ns : List Int) (k : Nat) (hk : k < 100) : ∃ v, (lvl T n).call 2 [.scr ns, .int k] = .ok v ∧ ∃ z, v = .int z := by
  refine call_ret hn (f := f2) rfl rfl fun m _ R hR => ?_
  simp? [f2]
  refine wp_ifd (fun h => ?_) (fun h => ?_)
  · simp? []
    exact hR _ _ rfl ⟨_, rfl⟩
  · simp? []
    refine wp_each ns (fun k' σ G => ∃ (seed : Int) (o : Option W), σ = [some (.d (.scr ns)), some (.d (.int k)), some (.d (.int seed)), o] ∧ G = [] ∧ 0 ≤ seed ∧ seed < 1000003) ⟨17, none, rfl, rfl, by omega, by omega⟩ ?_ ?_
    · rintro k' x σ G e ⟨seed, o, rfl, rfl, h1, h2⟩ R2 hR2
      refine ⟨_, rfl, ?_⟩
      simp? [f2_284]
      exact hR2 _ ⟨rfl, _, _, rfl, rfl, by omega, by omega⟩
    · rintro σ G ⟨seed, o, rfl, rfl, h1, h2⟩
      simp? []
      exact hR _ _ rfl ⟨_, rfl⟩
theorem gt_app {α : Type} [Inhabited α] {l r : List α} {i : Int} (h0 : 0 ≤ i) (h1 : i < l.length) : gt (l ++ r) i = gt l i := by
  unfold gt
  rw [List.getD_eq_getElem?_getD, List.getD_eq_getElem?_getD, List.getElem?_append_left (by omega)]
theorem gt_end {α : Type} [Inhabited α] {l : List α} {x : α} : gt (l ++ [x]) (l.length : Int) = x := by
  unfold gt
  rw [List.getD_eq_getElem?_getD, Int.toNat_natCast, List.getElem?_concat_length]; rfl
/-- rows of digits -/
def Dig (sizes r : List Int) : Prop := r.length = sizes.length ∧ ∀ i, 0 ≤ i → i < (r.length : Int) → 0 ≤ gt r i ∧ gt r i < gt sizes i
theorem c1 {n : Nat} (hn : 0 < n) (z : Int) (sizes : List Int) (hs : ∀ s ∈ sizes, 0 < s ∧ s ≤ 1000000) (hl : sizes.length ≤ 10000) : ∃ v, (lvl T n).call 1 [.int z, .lst (sizes.map .int)] = .ok v ∧ ∃ r, v = .lst (r.map .int) ∧ Dig sizes r := by
  refine call_ret hn (f := f1) rfl rfl fun m _ R hR => ?_
  have fin : ∀ rest seed : Int, 0 ≤ rest → 0 ≤ seed → seed < 2147483647 → Wp ((forLoop (evSs (lvl T m) f1_293 1) (.var 5) (watch [] [.sh []]) (rangeIt 0 sizes.length) [some (.d (.int z)), some (.d (.lst (sizes.map .int))), some (.r 0), some (.d (.int rest)), some (.d (.int seed)), none, none] [.sh []]).andThen (KS (lvl T m) 0 [.ret (.var 2)])) R := by
    intro rest seed h1 h2 h3
    refine wp_range0 sizes.length rfl (fun k σ G => ∃ (rest seed : Int) (o5 o6 : Option W) (r : List Int), σ = [some (.d (.int z)), some (.d (.lst (sizes.map .int))), some (.r 0), some (.d (.int rest)), some (.d (.int seed)), o5, o6] ∧ G = [.sh (r.map .int)] ∧ r.length = k ∧ 0 ≤ rest ∧ 0 ≤ seed ∧ seed < 2147483647 ∧ ∀ i, 0 ≤ i → i < (r.length : Int) → 0 ≤ gt r i ∧ gt r i < gt sizes i) ⟨rest, seed, none, none, [], rfl, rfl, rfl, h1, h2, h3, by simp; omega⟩ ?_ ?_
    · rintro k σ G hk ⟨rest, seed, o5, o6, r, rfl, rfl, hr, h1, h2, h3, h4⟩ R2 hR2
      have hsz := hs _ (gt_mem (l := sizes) (i := k) (by omega) (by omega))
      have app : ∀ v : Int, 0 ≤ v → v < gt sizes k → ∀ i, 0 ≤ i → i < ((r ++ [v]).length : Int) → 0 ≤ gt (r ++ [v]) i ∧ gt (r ++ [v]) i < gt sizes i := by
        intro v hv1 hv2 i hi1 hi2
        by_cases hi : i < (r.length : Int)
        · rw [gt_app hi1 hi]; exact h4 i hi1 hi
        · have : i = k := by simp at hi2; omega
          subst this
          rw [← hr, gt_end, hr]; exact ⟨hv1, hv2⟩
      simp? [f1_293]
      refine wp_ifd (fun h => ?_) (fun h => ?_)
      · simp? []
        exact hR2 _ ⟨rfl, _, _, _, _, r ++ [rest % gt sizes k], rfl, by simp, by simp [hr], Int.ediv_nonneg h1 (by omega), by omega, by omega, app _ (Int.emod_nonneg _ (by omega)) (Int.emod_lt_of_pos _ hsz.1)⟩
      · simp? []
        refine hR2 _ ⟨rfl, _, _, _, _, r ++ [_], rfl, by rw [List.map_append]; rfl, by simp [hr], h1, by omega, by omega, app _ (Int.emod_nonneg _ (by omega)) (Int.emod_lt_of_pos _ hsz.1)⟩
    · rintro σ G ⟨rest, seed, o5, o6, r, rfl, rfl, hr, h1, h2, h3, h4⟩
      simp? []
      exact hR _ _ rfl ⟨r, rfl, hr, h4⟩
  simp? [f1]
  refine wp_ifd (fun h => ?_) (fun h => ?_)
  · simp? []
    exact fin _ _ (Int.emod_nonneg _ (by omega)) (by omega) (by omega)
  · simp? []
    exact fin _ _ (by omega) (by omega) (by omega)
end Rw

end

-- part Q2
section
set_option Elab.async false
set_option linter.all false
set_option maxRecDepth 4000
namespace Rw
open Ev PySem
structure NetV where
  w : List Int
  r : List I3
  g : List Int
  deriving Inhabited, DecidableEq
structure ParV where
  s : List Int
  v : Int
  d : Int
  deriving Inhabited, DecidableEq
def eI (l : List Int) : D := .lst (l.map .int)
def eT (l : List Int) : D := .tup (l.map .int)
def eN (n : NetV) : D := .lst [.lst (n.w.map .int), .lst (n.r.map eR), .lst (n.g.map .int)]
def mN (n : NetV) : D := .ins 0 [(12, .tup (n.w.map .int)), (13, .tup (n.g.map .int)), (14, .tup (n.r.map eR))]
def eP (p : ParV) : D := .lst [.lst (p.s.map .int), .int p.v, .int p.d]
def mP (p : ParV) : D := .ins 1 [(15, .tup (p.s.map .int)), (9, .int p.v), (16, .int p.d)]
def eO (ns : List NetV) (ps : List ParV) : D := .lst [.lst (ns.map eN), .lst (ps.map eP)]
def mO (ns : List NetV) (ps : List ParV) : D := .ins 2 [(11, .tup (ns.map mN)), (10, .tup (ps.map mP))]
def mT (pl : List (List Int)) (fe : List Int) : D := .ins 3 [(7, .tup (pl.map eT)), (8, .tup (fe.map .int))]
def lt2 (p q : I3) : Prop := p.1 < q.1 ∨ p.1 = q.1 ∧ p.2.1 < q.2.1
structure NetV.Ok (n : NetV) : Prop where
  w1 : 1 ≤ n.w.length
  w8 : n.w.length ≤ 8
  w : ∀ x ∈ n.w, 1 ≤ x ∧ x ≤ 9
  g : ∀ x ∈ n.g, 0 ≤ x ∧ x < n.w.length
  gs : n.g.Pairwise (· < ·)
  r : ∀ x ∈ n.r, (0 ≤ x.1 ∧ x.1 < n.w.length) ∧ (0 ≤ x.2.1 ∧ x.2.1 < n.w.length) ∧ x.1 ≠ x.2.1 ∧ x.1 ∉ n.g ∧ 0 ≤ x.2.2 ∧ x.2.2 ≤ 99
  rs : n.r.Pairwise lt2
structure ParV.Ok (p : ParV) (ns : List NetV) : Prop where
  l : p.s.length = ns.length
  s : ∀ q ∈ p.s.zip ns, 0 ≤ q.1 ∧ q.1 < q.2.w.length
  v : 0 ≤ p.v ∧ p.v ≤ 99
  d : 1 ≤ p.d ∧ p.d ≤ 3
structure OffOk (ns : List NetV) (ps : List ParV) : Prop where
  n1 : 1 ≤ ns.length
  n3 : ns.length ≤ 3
  p8 : ps.length ≤ 8
  n : ∀ n ∈ ns, n.Ok
  p : ∀ p ∈ ps, p.Ok ns
theorem c49 {n : Nat} (hn : 0 < n) (x : Int) : (lvl T n).call 49 [.int x] = .ok (.bl (decide (1 ≤ x ∧ x ≤ 9))) := by
  refine call_eq hn (f := f49) rfl rfl fun m _ R hR => ?_
  simp? [f49]
  exact hR _ rfl
theorem c42 {n : Nat} (hn : 0 < n) (x : Int) (h : 0 ≤ x ∧ x ≤ 99) : (lvl T n).call 42 [.int x] = .ok .non := by
  refine call_eq hn (f := f42) rfl rfl fun m _ R hR => ?_
  simp? [f42]
  exact wp_if (fun e => by simp at e; omega) fun e => by simp? []; exact hR _ rfl
theorem c43 {n : Nat} (hn : 0 < n) (x : Int) (h : 1 ≤ x ∧ x ≤ 3) : (lvl T n).call 43 [.int x] = .ok .non := by
  refine call_eq hn (f := f43) rfl rfl fun m _ R hR => ?_
  simp? [f43]
  exact wp_if (fun e => by simp at e; omega) fun e => by simp? []; exact hR _ rfl
theorem c50 {n : Nat} (hn : 0 < n) (x : I3) (m : Int) (gs : List Int) (h : (0 ≤ x.1 ∧ x.1 < m) ∧ (0 ≤ x.2.1 ∧ x.2.1 < m) ∧ x.1 ≠ x.2.1 ∧ x.1 ∉ gs ∧ 0 ≤ x.2.2 ∧ x.2.2 ≤ 99) : (lvl T n).call 50 [eR x, .int m, .tup (gs.map .int)] = .ok (.bl true) := by
  refine call_eq hn (f := f50) rfl rfl fun m _ R hR => ?_
  obtain ⟨⟨h1, h2⟩, ⟨h3, h4⟩, h5, h6, h7, h8⟩ := h
  simp? [f50, eR, q_KUnp, h1, h2, h3, h4, h5, h6, h7, h8, decide_true, not_false_eq_true, and_self]
  exact hR _ rfl
/-! frozen -/
theorem c45i {n : Nat} (hn : 0 < n) (x : Int) : (lvl T n).call 45 [.int x] = .ok (.int x) := by
  refine call_eq hn (f := f45) rfl rfl fun m _ R hR => ?_
  simp? [f45, ty_list_i, ty_tup_i, ty_nil]
  exact hR _ rfl
theorem c45l {n : Nat} {α : Type} (e g : α → D) (xs : List α) (hl : xs.length ≤ 10000) (hn : 0 < n) (h : ∀ m, m + 1 = n → ∀ x ∈ xs, (lvl T m).call 45 [e x] = .ok (g x)) : (lvl T n).call 45 [.lst (xs.map e)] = .ok (.tup (xs.map g)) := by
  refine call_eq hn (f := f45) rfl rfl fun m hm R hR => ?_
  simp? [f45, ty_list_l]
  rw [lcV xs e g (by (simp? []; try rfl)) (fun x hx => by simp? [h m hm x hx])]
  simp? []
  exact hR _ rfl
theorem c45t {n : Nat} {α : Type} (e g : α → D) (xs : List α) (hl : xs.length ≤ 10000) (hn : 0 < n) (h : ∀ m, m + 1 = n → ∀ x ∈ xs, (lvl T m).call 45 [e x] = .ok (g x)) : (lvl T n).call 45 [.tup (xs.map e)] = .ok (.tup (xs.map g)) := by
  refine call_eq hn (f := f45) rfl rfl fun m hm R hR => ?_
  simp? [f45, ty_list_t, ty_tup_t]
  rw [lcVt xs e g (by (simp? []; try rfl)) (fun x hx => by simp? [h m hm x hx])]
  simp? []
  exact hR _ rfl
theorem c45_il {n : Nat} (hn : 1 < n) (l : List Int) (hl : l.length ≤ 10000) : (lvl T n).call 45 [.lst (l.map .int)] = .ok (.tup (l.map .int)) := c45l _ _ l hl (by omega) fun m hm x _ => c45i (by omega) x
theorem c45_it {n : Nat} (hn : 1 < n) (l : List Int) (hl : l.length ≤ 10000) : (lvl T n).call 45 [.tup (l.map .int)] = .ok (.tup (l.map .int)) := c45t _ _ l hl (by omega) fun m hm x _ => c45i (by omega) x
theorem c45_eRl {n : Nat} (hn : 1 < n) (x : I3) : (lvl T n).call 45 [eRl x] = .ok (eR x) := c45_il hn [x.1, x.2.1, x.2.2] (by simp)
theorem c45_eR {n : Nat} (hn : 1 < n) (x : I3) : (lvl T n).call 45 [eR x] = .ok (eR x) := c45_it hn [x.1, x.2.1, x.2.2] (by simp)
/-! nets -/
theorem c39 {n : Nat} (hn : 1 < n) (l : List Int) (h1 : 1 ≤ l.length) (h8 : l.length ≤ 8) (h : ∀ x ∈ l, 1 ≤ x ∧ x ≤ 9) : (lvl T n).call 39 [.lst (l.map .int)] = .ok (.tup (l.map .int)) := by
  refine call_eq (by omega) (f := f39) rfl rfl fun m hm R hR => ?_
  simp? [f39]
  refine wp_if (fun e => by simp at e; omega) fun e => ?_
  simp? []
  refine wp_enumD l (fun k σ G => ∃ (o2 o3 : Option W), σ = [some (.d (.lst (l.map .int))), some (.d (.tup (l.map .int))), o2, o3] ∧ G = []) ⟨_, _, rfl, rfl⟩ ?_ ?_
  · rintro k x σ G e ⟨o2, o3, rfl, rfl⟩ R2 hR2
    have hx : 1 ≤ x ∧ x ≤ 9 := h x (List.mem_of_getElem? e)
    simp? [f39_95, c49 (n := m) (by omega), hx]
    exact hR2 _ ⟨rfl, _, _, rfl, rfl⟩
  · rintro σ G ⟨o2, o3, rfl, rfl⟩
    simp? []
    exact hR _ rfl
end Rw

end

-- part Q3
section
set_option Elab.async false
set_option linter.all false
set_option maxRecDepth 4000
namespace Rw
open Ev PySem
theorem inc_len : ∀ (l : List Int) (lo hi : Int), l.Pairwise (· < ·) → (∀ x ∈ l, lo ≤ x ∧ x < hi) → lo ≤ hi → (l.length : Int) ≤ hi - lo
  | [], lo, hi, _, _, h => by simp; omega
  | x :: r, lo, hi, hp, hb, h => by
    have hx := hb x List.mem_cons_self
    have := inc_len r (x + 1) hi (List.pairwise_cons.mp hp).2 (fun y hy => ⟨(List.pairwise_cons.mp hp).1 y hy, (hb y (List.mem_cons_of_mem _ hy)).2⟩) (by omega)
    simp only [List.length_cons]; omega
theorem roads_len {r : List I3} {m : Int} (hm : m ≤ 8) (hr : ∀ x ∈ r, (0 ≤ x.1 ∧ x.1 < m) ∧ (0 ≤ x.2.1 ∧ x.2.1 < m) ∧ x.1 ≠ x.2.1) (hs : r.Pairwise lt2) : r.length ≤ 62 := by
  have h := inc_len (r.map fun x => 8 * x.1 + x.2.1) 1 63 ?_ ?_ (by omega)
  · rw [List.length_map] at h; omega
  · rw [List.pairwise_map]
    refine List.Pairwise.imp_of_mem (fun {a b} ha hb hab => ?_) hs
    have h1 := hr a ha
    have h2 := hr b hb
    unfold lt2 at hab
    omega
  · intro y hy
    obtain ⟨x, hx, rfl⟩ := List.mem_map.mp hy
    have := hr x hx
    omega
theorem pw_not_mem_take {α : Type} {R : α → α → Prop} (hirr : ∀ a, ¬ R a a) {l : List α} {k : Nat} {x : α} (hp : l.Pairwise R) (e : l[k]? = some x) : ∀ y ∈ l.take k, R y x := by
  intro y hy
  obtain ⟨i, hi, rfl⟩ := List.mem_iff_getElem.mp hy
  have hk := (List.getElem?_eq_some_iff.mp e).1
  have hx := (List.getElem?_eq_some_iff.mp e).2
  simp only [List.length_take] at hi
  rw [List.getElem_take, ← hx]
  exact List.pairwise_iff_getElem.mp hp i k (by omega) hk (by omega)
theorem c40 {n : Nat} (hn : 0 < n) (g : List Int) (m : Int) (h : ∀ x ∈ g, 0 ≤ x ∧ x < m) (hs : g.Pairwise (· < ·)) (hl : g.length ≤ 1000) : (lvl T n).call 40 [.lst (g.map .int), .int m] = .ok (.tup (g.map .int)) := by
  refine call_eq (by omega) (f := f40) rfl rfl fun m' hm R hR => ?_
  simp? [f40]
  refine wp_enumD g (fun k σ G => ∃ (o2 o3 : Option W), σ = [some (.d (.lst (g.map .int))), some (.d (.int m)), some (.d (.tup (g.map .int))), o2, o3] ∧ G = []) ⟨_, _, rfl, rfl⟩ ?_ ?_
  · rintro i x σ G e1 ⟨o2, o3, rfl, rfl⟩ R2 hR2
    have hx := h x (List.mem_of_getElem? e1)
    have hnm : x ∉ g.take i := fun hm => by
      have := pw_not_mem_take (R := (· < ·)) (fun a => by omega) hs e1 x hm
      omega
    simp? [f40_101, hx, hnm]
    exact hR2 _ ⟨rfl, _, _, rfl, rfl⟩
  · rintro σ G ⟨o2, o3, rfl, rfl⟩
    simp? [sorted_tup (sortOk_ints g) (by simp; omega), sort_same_ints hs]
    exact hR _ rfl
theorem c41 {n : Nat} (hn : 3 < n) (r : List I3) (m : Int) (gs : List Int) (hm : m ≤ 8) (h : ∀ x ∈ r, (0 ≤ x.1 ∧ x.1 < m) ∧ (0 ≤ x.2.1 ∧ x.2.1 < m) ∧ x.1 ≠ x.2.1 ∧ x.1 ∉ gs ∧ 0 ≤ x.2.2 ∧ x.2.2 ≤ 99) (hs : r.Pairwise lt2) : (lvl T n).call 41 [.lst (r.map eRl), .int m, .tup (gs.map .int)] = .ok (.tup (r.map eR)) := by
  have hl : r.length ≤ 62 := roads_len hm (fun x hx => ⟨(h x hx).1, (h x hx).2.1, (h x hx).2.2.1⟩) hs
  refine call_eq (by omega) (f := f41) rfl rfl fun m' hm' R hR => ?_
  simp? [f41, c45l (n := m') eRl eR r (by omega) (by omega) (fun k hk x _ => c45_eRl (by omega) x)]
  refine wp_enumD r (fun k σ G => ∃ (o5 o6 o7 : Option W), σ = [some (.d (.lst (r.map eRl))), some (.d (.int m)), some (.d (.tup (gs.map .int))), some (.d (.tup (r.map eR))), some (.r 0), o5, o6, o7] ∧ G = [.st ((r.take k).map fun x => [x.1, x.2.1])]) ⟨_, _, _, rfl, rfl⟩ ?_ ?_
  · rintro i x σ G e1 ⟨o5, o6, o7, rfl, rfl⟩ R2 hR2
    have hx := h x (List.mem_of_getElem? e1)
    have hi := (List.getElem?_eq_some_iff.mp e1).1
    have hnm : [x.1, x.2.1] ∉ (r.take i).map fun x => [x.1, x.2.1] := fun hm => by
      obtain ⟨y, hy, e⟩ := List.mem_map.mp hm
      have := pw_not_mem_take (R := lt2) (fun a => by unfold lt2; omega) hs e1 y hy
      simp at e
      unfold lt2 at this
      omega
    have c := c50 (n := m') (by omega) x m gs hx
    unfold eR at c
    simp? [f41_112, eR, c, hnm]
    refine hR2 _ ⟨rfl, _, _, _, rfl, ?_⟩
    rw [List.take_add_one, e1]
    simp
  · rintro σ G ⟨o5, o6, o7, rfl, rfl⟩
    have : sortD (r.map eR) = r.map eR := by
      rw [sortD_3, List.mergeSort_of_pairwise]
      refine hs.imp fun {a b} h => ?_
      unfold lt2 at h
      unfold le3
      exact decide_eq_true (by omega)
    simp? [sorted_tup (sortOk_3 r) (by simp; omega), this]
    exact hR _ rfl
theorem c51 {n : Nat} (hn : 0 < n) (v : NetV) (x : Int) : (lvl T n).call 51 [mN v, .int x] = .ok (.bl (decide (x ∈ v.g))) := by
  refine call_eq (by omega) (f := f51) rfl rfl fun m hm R hR => ?_
  simp? [f51, mN, fl_0_13]
  exact hR _ rfl
theorem c20 {n : Nat} (hn : 0 < n) (v : NetV) : (lvl T n).call 20 [mN v] = .ok (.int v.w.length) := by
  refine call_eq (by omega) (f := f20) rfl rfl fun m hm R hR => ?_
  simp? [f20, mN, fl_0_12]
  exact hR _ rfl
theorem c25 {n : Nat} (hn : 0 < n) (ns : List NetV) (ps : List ParV) : (lvl T n).call 25 [mO ns ps] = .ok (.int ps.length) := by
  refine call_eq (by omega) (f := f25) rfl rfl fun m hm R hR => ?_
  simp? [f25, mO, fl_2_10]
  exact hR _ rfl
theorem i0 {n : Nat} (hn : 4 < n) (v : NetV) (h : v.Ok) : (lvl T n).init 0 [.lst (v.w.map .int), .lst (v.r.map eRl), .lst (v.g.map .int)] = .ok (mN v) := by
  have hgl : (v.g.length : Int) ≤ v.w.length - 0 := inc_len v.g 0 v.w.length h.gs h.g (by omega)
  have h8 := h.w8
  refine init_eq (by omega) (f := f19) rfl rfl fun m hm R hR => ?_
  simp? [f19, c39 (n := m) (by omega) v.w h.w1 h.w8 h.w, c40 (n := m) (by omega) v.g v.w.length h.g h.gs (by omega), c41 (n := m) (by omega) v.r v.w.length v.g (by omega) h.r h.rs, fl_0_12, fl_0_13, fl_0_14]
  exact hR _ rfl
theorem i1 {n : Nat} (hn : 1 < n) (p : ParV) (h1 : 0 ≤ p.v ∧ p.v ≤ 99) (h2 : 1 ≤ p.d ∧ p.d ≤ 3) (hl : p.s.length ≤ 1000) : (lvl T n).init 1 [.lst (p.s.map .int), .int p.v, .int p.d] = .ok (mP p) := by
  refine init_eq (by omega) (f := f22) rfl rfl fun m hm R hR => ?_
  simp? [f22, c42 (n := m) (by omega) p.v h1, c43 (n := m) (by omega) p.d h2, fl_1_15, fl_1_16, fl_1_9]
  exact hR _ rfl
end Rw

end

-- part Q4
section
set_option Elab.async false
set_option linter.all false
set_option maxRecDepth 4000
namespace Rw
open Ev PySem
theorem isc_ok {m : Nat} (c : Nat) (h : c < 4) : (lvl T m).isc c = true := by rw [lvl_isc]; exact decide_eq_true h
theorem len_mN {n : Nat} (hn : 0 < n) (v : NetV) (h : v.w.length ≤ 8) (G : Gs) : lenW (lvl T n) (.d (mN v)) G = .ok (.d (.int v.w.length)) G := by
  unfold lenW mN
  show (match mcall (lvl T n) 0 nmLen [.d (mN v)] G with
    | .ok (.d (.int n)) G' => if 0 ≤ n ∧ n < 2 ^ 63 then iL n G' else .no
    | .exc e G' => .exc e G'
    | _ => .no) = _
  have e : mcall (lvl T n) 0 nmLen [.d (mN v)] G = .ok (.d (.int v.w.length)) G := by
    unfold mcall
    rw [lvl_methp]
    show fcall ((lvl T n).call 20) [.d (mN v)] G = _
    rw [fcall1, c20 hn]; rfl
  rw [e]
  dsimp only
  rw [if_pos (by omega)]; rfl
theorem len_mO {n : Nat} (hn : 0 < n) (ns : List NetV) (ps : List ParV) (h : ps.length ≤ 8) (G : Gs) : lenW (lvl T n) (.d (mO ns ps)) G = .ok (.d (.int ps.length)) G := by
  unfold lenW mO
  show (match mcall (lvl T n) 2 nmLen [.d (mO ns ps)] G with
    | .ok (.d (.int n)) G' => if 0 ≤ n ∧ n < 2 ^ 63 then iL n G' else .no
    | .exc e G' => .exc e G'
    | _ => .no) = _
  have e : mcall (lvl T n) 2 nmLen [.d (mO ns ps)] G = .ok (.d (.int ps.length)) G := by
    unfold mcall
    rw [lvl_methp]
    show fcall ((lvl T n).call 25) [.d (mO ns ps)] G = _
    rw [fcall1, c25 hn]; rfl
  rw [e]
  dsimp only
  rw [if_pos (by omega)]; rfl
theorem c44 {n : Nat} (hn : 1 < n) (p : ParV) (ns : List NetV) (h : p.Ok ns) (hns : ∀ v ∈ ns, v.w.length ≤ 8) (hl : ns.length ≤ 8) : (lvl T n).call 44 [mP p, .tup (ns.map mN)] = .ok (.bl true) := by
  have hpl := h.l
  refine call_eq (by omega) (f := f44) rfl rfl fun m hm R hR => ?_
  simp? [f44, mP, fl_1_15, hpl]
  rw [lcZ (p.s.zip ns) .int mN (fun _ => .bl true) (by (simp? [fl_1_15]; try rfl)) (fun x hx => by
    have h1 := h.s x hx
    have h2 : x.2 ∈ ns := (List.of_mem_zip hx).2
    simp? [len_mN (n := m) (by omega) x.2 (hns _ h2), h1])]
  have e : (p.s.zip ns).map (fun _ => D.bl true) = ((p.s.zip ns).map fun _ => true).map .bl := by rw [List.map_map]; rfl
  rw [e]
  simp? []
  have e3 : ((p.s.zip ns).map fun _ => true).all id = true := by simp
  rw [e3]
  exact hR _ rfl
theorem i2 {n : Nat} (hn : 2 < n) (ns : List NetV) (ps : List ParV) (h : OffOk ns ps) : (lvl T n).init 2 [.lst (ns.map mN), .lst (ps.map mP)] = .ok (mO ns ps) := by
  have := h.n1
  have := h.n3
  have := h.p8
  refine init_eq (by omega) (f := f24) rfl rfl fun m hm R hR => ?_
  simp? [f24, fl_2_11, fl_2_10]
  refine wp_if (fun e => by simp at e; omega) fun e => ?_
  simp? [f24, fl_2_11, fl_2_10]
  refine wp_if (fun e => by simp at e; omega) fun e => ?_
  simp? [fl_2_10]
  refine wp_enumD ps (fun k σ G => ∃ (o3 o4 : Option W), σ = [some (.r 0), some (.d (.lst (ns.map mN))), some (.d (.lst (ps.map mP))), o3, o4] ∧ G = [.ob 2 [(11, .d (.tup (ns.map mN))), (10, .d (.tup (ps.map mP)))]]) ⟨_, _, rfl, rfl⟩ ?_ ?_
  · rintro k x σ G e ⟨o3, o4, rfl, rfl⟩ R2 hR2
    have hx := h.p x (List.mem_of_getElem? e)
    simp? [f24_233, fl_2_11, c44 (n := m) (by omega) x ns hx (fun v hv => (h.n v hv).w8) (by omega)]
    exact hR2 _ ⟨rfl, _, _, rfl, rfl⟩
  · rintro σ G ⟨o3, o4, rfl, rfl⟩
    exact hR _ rfl
theorem i3 {n : Nat} (hn : 3 < n) {α β : Type} (e1 : α → D) (e2 : β → D) (pl : List (List Int)) (fe : List Int) (a b : D) (ha : ∀ m, m + 1 = n → (lvl T m).call 45 [a] = .ok (.tup (pl.map eT))) (hb : ∀ m, m + 1 = n → (lvl T m).call 45 [b] = .ok (.tup (fe.map .int))) : (lvl T n).init 3 [a, b] = .ok (mT pl fe) := by
  refine init_eq (by omega) (f := f29) rfl rfl fun m hm R hR => ?_
  simp? [f29, ha m hm, hb m hm, fl_3_7, fl_3_8]
  exact hR _ rfl
end Rw

end

-- part Q5
section
set_option Elab.async false
set_option linter.all false
set_option maxRecDepth 4000
namespace Rw
open Ev PySem
theorem nl_mN (v : NetV) : nolistB (mN v) = true := by
  have h1 := nolist_ints v.w
  have h2 := nolist_ints v.g
  have h3 : nolistB.nl (v.r.map eR) = true := nolist_map eR v.r fun _ _ => rfl
  unfold mN
  simp only [nolistB, nolistB.nf, h1, h2, h3, Bool.and_self]
theorem nl_mP (v : ParV) : nolistB (mP v) = true := by
  have h1 := nolist_ints v.s
  unfold mP
  simp only [nolistB, nolistB.nf, h1, Bool.and_self]
theorem nl_mO (ns : List NetV) (ps : List ParV) : nolistB (mO ns ps) = true := by
  have h1 := nolist_map mN ns fun _ _ => nl_mN _
  have h2 := nolist_map mP ps fun _ _ => nl_mP _
  unfold mO
  simp only [nolistB, nolistB.nf, h1, h2, Bool.and_self]
theorem eR_inj (x y : I3) (h : eR x = eR y) : x = y := by
  obtain ⟨a, b, c⟩ := x
  obtain ⟨a', b', c'⟩ := y
  simpa [eR] using h
theorem eN_inj (x y : NetV) (h : eN x = eN y) : x = y := by
  obtain ⟨a, b, c⟩ := x
  obtain ⟨a', b', c'⟩ := y
  simp only [eN, D.lst.injEq, List.cons.injEq, and_true] at h
  simp only [NetV.mk.injEq]
  exact ⟨map_inj int_inj _ _ h.1, map_inj eR_inj _ _ h.2.1, map_inj int_inj _ _ h.2.2⟩
theorem eP_inj (x y : ParV) (h : eP x = eP y) : x = y := by
  obtain ⟨a, b, c⟩ := x
  obtain ⟨a', b', c'⟩ := y
  simp only [eP, D.lst.injEq, List.cons.injEq, and_true, D.int.injEq] at h
  simp only [ParV.mk.injEq]
  exact ⟨map_inj int_inj _ _ h.1, h.2⟩
theorem plain_eR (n : Nat) (x : I3) : plain (n + 1) (eR x) = true := by cases n <;> rfl
theorem plain_eN (n : Nat) (x : NetV) : plain (n + 3) (eN x) = true := by
  unfold eN
  simp only [Ev.plain, List.all_cons, List.all_nil, plain_ints, Bool.and_true, Bool.true_and]
  rw [List.all_map]
  exact List.all_eq_true.mpr fun _ _ => plain_eR _ _
theorem plain_eP (n : Nat) (x : ParV) : plain (n + 2) (eP x) = true := by
  unfold eP
  simp only [Ev.plain, List.all_cons, List.all_nil, plain_ints, Bool.and_true, Bool.true_and]
theorem c4 {n : Nat} (hn : 6 < n) (ns : List NetV) (ps : List ParV) (h : OffOk ns ps) : (lvl T n).call 4 [eO ns ps] = .ok (mO ns ps) := by
  have := h.n1
  have := h.n3
  have := h.p8
  refine call_eq (by omega) (f := f4) rfl rfl fun m hm R hR => ?_
  simp? [f4, eO]
  refine wp_eachD ns (fun k σ G => ∃ (o2 o6 o8 : Option W) (J : Gs), σ = [some (.d (eO ns ps)), some (.r 0), o2, none, none, none, o6, none, o8] ∧ G = .sh ((ns.take k).map mN) :: J ∧ killT J = J) ⟨_, _, _, [], rfl, rfl, rfl⟩ ?_ ?_
  · rintro k v σ G e ⟨o2, o6, o8, J, rfl, rfl, hJ⟩ R2 hR2
    have hv := h.n v (List.mem_of_getElem? e)
    have hk := (List.getElem?_eq_some_iff.mp e).1
    have h8 := hv.w8
    have hrl := roads_len (by omega) (fun x hx => ⟨(hv.r x hx).1, (hv.r x hx).2.1, (hv.r x hx).2.2.1⟩) hv.rs
    have hgl : (v.g.length : Int) ≤ v.w.length - 0 := inc_len v.g 0 v.w.length hv.gs hv.g (by omega)
    simp? [f4_400, eN]
    rw [lcV v.r eR eRl (by (simp? []; try rfl)) (fun x hx => by simp? [eR]; rfl)]
    have hnl := nl_mN v
    simp? [i0 (n := m) (by omega) v hv, hJ]
    exact hR2 _ ⟨rfl, _, _, _, _, rfl, consE (congrArg Cell.sh (take_map_succ e mN).symm), by simp only [kt_nil, kt_sh, kt_dp, kt_fz, kt_tp, kt_gone, kt_app, hJ]⟩
  · rintro σ G ⟨o2, o6, o8, J, rfl, rfl, hJ⟩
    simp? [eO]
    refine wp_eachD ps (fun k σ G => ∃ (o4 o7 : Option W) (K : Gs), σ = [some (.d (eO ns ps)), some (.r 0), o2, some (.r (J.length + 1)), o4, none, o6, o7, o8] ∧ G = .sh ((ns.take ns.length).map mN) :: (J ++ .sh ((ps.take k).map mP) :: K) ∧ killT K = K) ⟨_, _, [], rfl, rfl, rfl⟩ ?_ ?_
    · rintro k v σ G e ⟨o4, o7, K, rfl, rfl, hK⟩ R2 hR2
      have hv := h.p v (List.mem_of_getElem? e)
      have hl := hv.l
      have hk := (List.getElem?_eq_some_iff.mp e).1
      have hnl := nl_mP v
      simp? [f4_407, eP, i1 (n := m) (by omega) v hv.v hv.d (by omega), hJ, hK]
      exact hR2 _ ⟨rfl, _, _, _, rfl, congrArg _ (appE (congrArg Cell.sh (take_map_succ e mP).symm)), by simp only [kt_nil, kt_sh, kt_dp, kt_fz, kt_tp, kt_gone, kt_app, hK]⟩
    · rintro σ G ⟨o4, o7, K, rfl, rfl, hK⟩
      simp? [eO, List.take_length]
      rw [lcV ns eN mN (by (simp? []; try rfl)) (fun v hv => by
        obtain ⟨j, e1, e2, e3⟩ := index_enc eN_inj (plain_eN 56) ns v hv (Cell.sh (List.map mN ns) :: (J ++ Cell.sh (List.map mP ps) :: K))
        simp? [e1, e3])]
      simp? []
      rw [lcV ps eP mP (by (simp? []; try rfl)) (fun v hv => by
        obtain ⟨j, e1, e2, e3⟩ := index_enc eP_inj (plain_eP 57) ps v hv (Cell.sh (List.map mN ns) :: (J ++ Cell.sh (List.map mP ps) :: (K ++ [Cell.sh (List.map mN ns)])))
        simp? [e1, e3])]
      have hnl := nl_mO ns ps
      simp? [i2 (n := m) (by omega) ns ps h, hJ, hK]
      exact hR _ rfl
end Rw

end

-- part Q5b
section
set_option Elab.async false
set_option linter.all false
set_option maxRecDepth 4000
namespace Rw
open Ev PySem
abbrev Way := Int × List Int
def eW (w : Way) : D := .lst [.int w.1, .lst (w.2.map .int)]
section
variable {G : Gs} {v : NetV} {p : ParV} {ns : List NetV} {ps : List ParV} {w : Way} {x : I3} {m : Nat} {pl : List (List Int)} {fe : List Int}
theorem sub_eN0 : subW (.d (eN v)) (.d (.int 0)) G = .ok (.d (.lst (v.w.map .int))) G := by unfold eN; exact sub_l0 ..
theorem sub_eN1 : subW (.d (eN v)) (.d (.int 1)) G = .ok (.d (.lst (v.r.map eR))) G := by unfold eN; exact sub_l1 ..
theorem sub_eN2 : subW (.d (eN v)) (.d (.int 2)) G = .ok (.d (.lst (v.g.map .int))) G := by unfold eN; exact sub_l2 ..
theorem sub_eP0 : subW (.d (eP p)) (.d (.int 0)) G = .ok (.d (.lst (p.s.map .int))) G := by unfold eP; exact sub_l0 ..
theorem sub_eP1 : subW (.d (eP p)) (.d (.int 1)) G = .ok (.d (.int p.v)) G := by unfold eP; exact sub_l1 ..
theorem sub_eP2 : subW (.d (eP p)) (.d (.int 2)) G = .ok (.d (.int p.d)) G := by unfold eP; exact sub_l2 ..
theorem sub_eO0 : subW (.d (eO ns ps)) (.d (.int 0)) G = .ok (.d (.lst (ns.map eN))) G := by unfold eO; exact sub_l0 ..
theorem sub_eO1 : subW (.d (eO ns ps)) (.d (.int 1)) G = .ok (.d (.lst (ps.map eP))) G := by unfold eO; exact sub_l1 ..
theorem sub_eW0 : subW (.d (eW w)) (.d (.int 0)) G = .ok (.d (.int w.1)) G := by unfold eW; exact sub_l0 ..
theorem sub_eW1 : subW (.d (eW w)) (.d (.int 1)) G = .ok (.d (.lst (w.2.map .int))) G := by unfold eW; exact sub_l1 ..
theorem sub_eR0 : subW (.d (eR x)) (.d (.int 0)) G = .ok (.d (.int x.1)) G := by unfold eR; exact sub_t0 ..
theorem sub_eR1 : subW (.d (eR x)) (.d (.int 1)) G = .ok (.d (.int x.2.1)) G := by unfold eR; exact sub_t1 ..
theorem sub_eR2 : subW (.d (eR x)) (.d (.int 2)) G = .ok (.d (.int x.2.2)) G := by unfold eR; exact sub_t2 ..
theorem at_mN12 : attrW (lvl T m) (.d (mN v)) 12 G = .ok (.d (.tup (v.w.map .int))) G := by unfold mN; exact attr_ins fl_0_12 rfl
theorem at_mN13 : attrW (lvl T m) (.d (mN v)) 13 G = .ok (.d (.tup (v.g.map .int))) G := by unfold mN; exact attr_ins fl_0_13 rfl
theorem at_mN14 : attrW (lvl T m) (.d (mN v)) 14 G = .ok (.d (.tup (v.r.map eR))) G := by unfold mN; exact attr_ins fl_0_14 rfl
theorem at_mP15 : attrW (lvl T m) (.d (mP p)) 15 G = .ok (.d (.tup (p.s.map .int))) G := by unfold mP; exact attr_ins fl_1_15 rfl
theorem at_mP9 : attrW (lvl T m) (.d (mP p)) 9 G = .ok (.d (.int p.v)) G := by unfold mP; exact attr_ins fl_1_9 rfl
theorem at_mP16 : attrW (lvl T m) (.d (mP p)) 16 G = .ok (.d (.int p.d)) G := by unfold mP; exact attr_ins fl_1_16 rfl
theorem at_mO11 : attrW (lvl T m) (.d (mO ns ps)) 11 G = .ok (.d (.tup (ns.map mN))) G := by unfold mO; exact attr_ins fl_2_11 rfl
theorem at_mO10 : attrW (lvl T m) (.d (mO ns ps)) 10 G = .ok (.d (.tup (ps.map mP))) G := by unfold mO; exact attr_ins fl_2_10 rfl
theorem at_mT7 : attrW (lvl T m) (.d (mT pl fe)) 7 G = .ok (.d (.tup (pl.map eT))) G := by unfold mT; exact attr_ins fl_3_7 rfl
theorem at_mT8 : attrW (lvl T m) (.d (mT pl fe)) 8 G = .ok (.d (.tup (fe.map .int))) G := by unfold mT; exact attr_ins fl_3_8 rfl
theorem bind_eR {σ : Sl} {a b c : Nat} : bindTg G (.tup [a, b, c]) (.one (.d (eR x))) σ = some (setS (setS (setS σ a (.d (.int x.1))) b (.d (.int x.2.1))) c (.d (.int x.2.2))) := rfl
theorem len_eT (l : List Int) : lenW (lvl T m) (.d (eT l)) G = .ok (.d (.int l.length)) G := by unfold eT; rw [len_tup, List.length_map]
theorem len_eI (l : List Int) : lenW (lvl T m) (.d (eI l)) G = .ok (.d (.int l.length)) G := by unfold eI; rw [len_lst, List.length_map]
theorem sub_eI {l : List Int} {i : Int} (h0 : 0 ≤ i) (h1 : i < l.length) : subW (.d (eI l)) (.d (.int i)) G = .ok (.d (.int (gt l i))) G := sub_lst .int h0 h1
theorem sub_eT {l : List Int} {i : Int} (h0 : 0 ≤ i) (h1 : i < l.length) : subW (.d (eT l)) (.d (.int i)) G = .ok (.d (.int (gt l i))) G := sub_tup .int h0 h1
end
end Rw

end
open Rw
local macro_rules
  | `(tactic| dsimp? [$ls,*]) => `(tactic| simp? [sub_eN0, sub_eN1, sub_eN2, sub_eP0, sub_eP1, sub_eP2, sub_eO0, sub_eO1, sub_eW0, sub_eW1, sub_eR0, sub_eR1, sub_eR2, at_mN12, at_mN13, at_mN14, at_mP15, at_mP9, at_mP16, at_mO11, at_mO10, at_mT7, at_mT8, len_eT, len_eI, sub_eI, sub_eT, $ls,*])

-- part Q6
section
set_option Elab.async false
set_option linter.all false
set_option maxRecDepth 4000
namespace Rw
open Ev PySem
def wlast (p : List Int) : Int := gt p (p.length - 1)
def okE (w : Way) (r : I3) : Bool := decide (r.1 = wlast w.2 ∧ r.2.1 ∉ w.2)
def ext1 (w : Way) (r : I3) : Way := (w.1 + r.2.2, w.2 ++ [r.2.1])
def ext (v : NetV) (w : Way) : List Way := (v.r.filter (okE w)).map (ext1 w)
def nextWays (v : NetV) (b : List Way) : List Way := b.flatMap (ext v)
def endWays (v : NetV) (b : List Way) : List Way := b.filter fun w => decide (wlast w.2 ∈ v.g)
def waysGo (v : NetV) : Nat → List Way → List Way
  | 0, _ => []
  | t + 1, b => endWays v b ++ waysGo v t (nextWays v b)
def lawWays (v : NetV) (s : Int) : List Way := waysGo v v.w.length [(0, [s])]
theorem deg {v : NetV} (h : v.Ok) (a : Int) : (v.r.filter fun r => decide (r.1 = a)).length ≤ 8 := by
  have h8 := h.w8
  have := inc_len ((v.r.filter fun r => decide (r.1 = a)).map fun r => r.2.1) 0 8 ?_ ?_ (by omega)
  · rw [List.length_map] at this; omega
  · rw [List.pairwise_map]
    refine List.Pairwise.imp_of_mem (fun {x y} hx hy hxy => ?_) (h.rs.filter _)
    have h1 := (List.mem_filter.mp hx).2
    have h2 := (List.mem_filter.mp hy).2
    simp at h1 h2
    unfold lt2 at hxy
    omega
  · intro y hy
    obtain ⟨x, hx, rfl⟩ := List.mem_map.mp hy
    have := h.r x (List.mem_filter.mp hx).1
    omega
theorem filt_len {α : Type} {l : List α} {p q : α → Bool} (h : ∀ x, p x = true → q x = true) : (l.filter p).length ≤ (l.filter q).length := by
  induction l with
  | nil => simp
  | cons a r ih =>
    by_cases ha : p a = true
    · rw [List.filter_cons_of_pos ha, List.filter_cons_of_pos (h a ha)]; simp only [List.length_cons]; omega
    · rw [List.filter_cons_of_neg ha]
      by_cases hb : q a = true
      · rw [List.filter_cons_of_pos hb]; simp only [List.length_cons]; omega
      · rw [List.filter_cons_of_neg hb]; exact ih
theorem ext_len {v : NetV} (h : v.Ok) (w : Way) : (ext v w).length ≤ 8 := by
  unfold ext
  rw [List.length_map]
  refine Nat.le_trans (filt_len (q := fun r => decide (r.1 = wlast w.2)) fun x hx => ?_) (deg h (wlast w.2))
  unfold okE at hx
  simp at hx ⊢
  exact hx.1
theorem next_len {v : NetV} (h : v.Ok) (b : List Way) : (nextWays v b).length ≤ 8 * b.length := by
  induction b with
  | nil => simp [nextWays]
  | cons w r ih =>
    have := ext_len h w
    simp only [nextWays, List.flatMap_cons, List.length_append, List.length_cons] at ih ⊢
    omega
theorem next_at {v : NetV} {b : List Way} {k : Nat} {w : Way} (e : b[k]? = some w) : nextWays v (b.take (k + 1)) = nextWays v (b.take k) ++ ext v w := by
  unfold nextWays
  rw [List.take_add_one, e]; simp
theorem filter_take_succ {α : Type} {l : List α} {k : Nat} {x : α} (e : l[k]? = some x) (p : α → Bool) : (l.take (k + 1)).filter p = (l.take k).filter p ++ (if p x = true then [x] else []) := by
  rw [List.take_add_one, e, List.filter_append]
  by_cases h : p x = true <;> simp [h]
theorem next_snd {v : NetV} {t : Nat} {b : List Way} (h : ∀ w ∈ b, w.2.length = t) : ∀ w ∈ nextWays v b, w.2.length = t + 1 := by
  intro w hw
  obtain ⟨w0, h0, h1⟩ := List.mem_flatMap.mp hw
  obtain ⟨r, _, rfl⟩ := List.mem_map.mp h1
  have := h w0 h0
  simp [ext1, this]
theorem c27 {n : Nat} (hn : 0 < n) (v : NetV) (h : v.Ok) (s : Int) : (lvl T n).call 27 [eN v, .int s] = .ok (.lst ((lawWays v s).map eW)) ∧ (lawWays v s).length ≤ 16777216 := by
  have h8 := h.w8
  suffices hh : ∃ x, (lvl T n).call 27 [eN v, .int s] = .ok x ∧ (x = .lst ((lawWays v s).map eW) ∧ (lawWays v s).length ≤ 16777216) by
    obtain ⟨x, e1, e2, e3⟩ := hh
    exact ⟨e2 ▸ e1, e3⟩
  refine call_ret (by omega) (f := f27) rfl rfl fun m hm R hR => ?_
  dsimp? [f27]
  refine wp_range0 v.w.length rfl (fun k σ G => ∃ (o4 o5 o6 o7 o8 : Option W) (b acc : List Way) (J : Gs), σ = [some (.d (eN v)), some (.d (.int s)), some (.r 0), some (.d (.lst (b.map eW))), o4, o5, o6, o7, o8] ∧ G = .sh (acc.map eW) :: J ∧
      lawWays v s = acc ++ waysGo v (v.w.length - k) b ∧ b.length ≤ 8 ^ k ∧ 7 * acc.length + 1 ≤ 8 ^ k ∧ ∀ w ∈ b, w.2.length = k + 1) ⟨_, _, _, _, _, [(0, [s])], [], [], rfl, rfl, rfl, by simp, by simp, by simp⟩ ?_ ?_
  · rintro k σ G hk ⟨o4, o5, o6, o7, o8, b, acc, J, rfl, rfl, hw, hb, hacc, hbl⟩ R2 hR2
    have hpow : 8 ^ k ≤ 8 ^ 7 := Nat.pow_le_pow_right (by omega) (by omega)
    dsimp? [f27_434]
    refine wp_eachD b (fun i σ G => ∃ (o6 o7 o8 : Option W), σ = [some (.d (eN v)), some (.d (.int s)), some (.r 0), some (.d (.lst (b.map eW))), some (.d (.int k)), some (.r (J.length + 1)), o6, o7, o8] ∧ G = .sh ((acc ++ endWays v (b.take i)).map eW) :: (J ++ [.sh ((nextWays v (b.take i)).map eW)])) ⟨_, _, _, rfl, by simp [endWays, nextWays]⟩ ?_ ?_
    · rintro i w σ G e ⟨o6, o7, o8, rfl, rfl⟩ R3 hR3
      have hwl := hbl w (List.mem_of_getElem? e)
      have hi := (List.getElem?_eq_some_iff.mp e).1
      have hel : (endWays v (b.take i)).length ≤ i := Nat.le_trans (List.length_filter_le _ _) (by simp; omega)
      have hnl := next_len h (b.take i)
      have hnl2 : (b.take i).length = i := by simp; omega
      have inner : ∀ o8 : Option W, Wp ((forLoop (evSs (lvl T m) f27_440 (J.length + 1 + 1)) (.var 8) (watch [] (.sh ((acc ++ endWays v (b.take (i + 1))).map eW) :: (J ++ [.sh ((nextWays v (b.take i)).map eW)]))) (v.r.map fun p => It.one (.d (eR p)))
          [some (.d (eN v)), some (.d (.int s)), some (.r 0), some (.d (.lst (b.map eW))), some (.d (.int k)), some (.r (J.length + 1)), some (.d (eW w)), some (.d (.int (wlast w.2))), o8]
          (.sh ((acc ++ endWays v (b.take (i + 1))).map eW) :: (J ++ [.sh ((nextWays v (b.take i)).map eW)]))).andThen (KS (lvl T m) (J.length + 1 + 1) [])) R3 := by
        intro o8
        refine wp_eachD v.r (fun q σ G => ∃ (o8 : Option W), σ = [some (.d (eN v)), some (.d (.int s)), some (.r 0), some (.d (.lst (b.map eW))), some (.d (.int k)), some (.r (J.length + 1)), some (.d (eW w)), some (.d (.int (wlast w.2))), o8] ∧ G = .sh ((acc ++ endWays v (b.take (i + 1))).map eW) :: (J ++ [.sh ((nextWays v (b.take i) ++ ((v.r.take q).filter (okE w)).map (ext1 w)).map eW)])) ⟨_, rfl, by simp⟩ ?_ ?_
        · rintro q r σ G eq ⟨o8, rfl, rfl⟩ R4 hR4
          have hf : (((v.r.take q).filter (okE w)).map (ext1 w)).length + (if okE w r = true then 1 else 0) ≤ 8 := by
            have h1 := ext_len h w
            unfold ext at h1
            have h2 : ((v.r.take (q + 1)).filter (okE w)).length ≤ (v.r.filter (okE w)).length := (List.Sublist.filter _ (List.take_sublist _ _)).length_le
            rw [filter_take_succ eq] at h2
            rw [List.length_map] at h1 ⊢
            by_cases hr : okE w r = true <;> simp [hr] at h2 ⊢ <;> omega
          rw [List.length_map] at hf
          dsimp? [f27_440]
          refine wp_ifd (fun hc => ?_) (fun hc => ?_)
          · have ho : okE w r = true := by unfold okE; simpa using hc
            rw [ho] at hf
            simp only [if_true] at hf
            dsimp? []
            refine hR4 _ ⟨rfl, _, rfl, ?_⟩
            rw [filter_take_succ eq, ho]
            simp [ext1, eW]
          · have ho : okE w r = false := by unfold okE; simpa using hc
            dsimp? []
            refine hR4 _ ⟨rfl, _, rfl, ?_⟩
            rw [filter_take_succ eq, ho]
            simp
        · rintro σ G ⟨o8, rfl, rfl⟩
          dsimp? []
          refine hR3 _ ⟨rfl, _, _, _, rfl, ?_⟩
          rw [next_at e]
          simp [ext]
      dsimp? [f27_436]
      refine wp_ifd (fun hc => ?_) (fun hc => ?_)
      · dsimp? []
        have e1 : List.map eW (acc ++ endWays v (b.take (i + 1))) = List.map eW (acc ++ endWays v (b.take i)) ++ [eW w] := by
          unfold endWays
          rw [filter_take_succ e, if_pos (by unfold wlast; exact decide_eq_true hc)]
          simp
        have := inner o8
        rw [e1] at this
        exact this
      · dsimp? []
        have e1 : List.map eW (acc ++ endWays v (b.take (i + 1))) = List.map eW (acc ++ endWays v (b.take i)) := by
          unfold endWays
          rw [filter_take_succ e, if_neg (by unfold wlast; simpa using hc)]
          simp
        have := inner o8
        rw [e1] at this
        exact this
    · rintro σ G ⟨o6, o7, o8, rfl, rfl⟩
      have hnl := next_len h b
      have hel : (endWays v b).length ≤ b.length := List.length_filter_le _ _
      dsimp? [List.take_length]
      refine hR2 _ ⟨rfl, _, _, _, _, _, nextWays v b, acc ++ endWays v b, J ++ [_], rfl, rfl, ?_, ?_, ?_, next_snd hbl⟩
      · rw [hw, show v.w.length - k = (v.w.length - (k + 1)) + 1 by omega]
        simp [waysGo]
      · rw [Nat.pow_succ]; omega
      · rw [Nat.pow_succ, List.length_append]; omega
  · rintro σ G ⟨o4, o5, o6, o7, o8, b, acc, J, rfl, rfl, hw, hb, hacc, hbl⟩
    dsimp? []
    refine hR _ _ rfl ⟨?_, ?_⟩
    · rw [hw, Nat.sub_self]; simp [waysGo]
    · rw [hw, Nat.sub_self]; simp [waysGo]
      have hpow : 8 ^ v.w.length ≤ 8 ^ 8 := Nat.pow_le_pow_right (by omega) (by omega)
      omega
end Rw

end

-- part Q7
section
set_option Elab.async false
set_option linter.all false
set_option maxRecDepth 4000
namespace Rw
open Ev PySem
def eOI : Option Int → D
  | none => .non
  | some i => .int i
def eWs (l : List Way) : D := .lst (l.map eW)
def eWss (l : List (List Way)) : D := .lst (l.map eWs)
def eAW (l : List (List (List Way))) : D := .lst (l.map eWss)
def ePl (l : List (List Int)) : D := .lst (l.map eI)
def wcost (t : List Int) (w : Way) : Int := w.1 + (w.2.map fun s => gt t s).sum
/-- places of ways are places -/
def WOk (t : List Int) (w : Way) : Prop := ∀ s ∈ w.2, 0 ≤ s ∧ s < t.length
theorem c28 {n : Nat} (hn : 0 < n) (w : Way) (t : List Int) (h : WOk t w) (hl : w.2.length ≤ 1000) : (lvl T n).call 28 [eW w, eI t] = .ok (.int (wcost t w)) := by
  refine call_eq (by omega) (f := f28) rfl rfl fun m hm R hR => ?_
  dsimp? [f28]
  rw [lcV w.2 .int (fun s => .int (gt t s)) (by (dsimp? []; try rfl)) (fun s hs => by
    have := h s hs
    dsimp? [])]
  have e : w.2.map (fun s => D.int (gt t s)) = (w.2.map fun s => gt t s).map .int := by rw [List.map_map]; rfl
  rw [e]
  dsimp? []
  exact hR _ rfl
def leastOf (t : List Int) (l : List Way) : Option Int := minL (l.map (wcost t))
def eRow (l : List (Option Int)) : D := .lst (l.map eOI)
def leasts (aw : List (List (List Way))) (pl : List (List Int)) : List (List (Option Int)) := (List.range aw.length).map fun (j : Nat) => (gt aw j).map (leastOf (gt pl j))
def steps (ls : List (List (Option Int))) (p : ParV) : List (Option Int) := (List.range ls.length).map fun (j : Nat) => gt (gt ls j) (gt p.s j)
def dueOf (ls : List (List (Option Int))) (p : ParV) : Int := if none ∈ steps ls p then 0 else max 0 (p.v - ((steps ls p).map fun o => o.getD 0).sum)
def dues (ps : List ParV) (aw : List (List (List Way))) (pl : List (List Int)) : List Int := ps.map (dueOf (leasts aw pl))
theorem range_take {k n : Nat} (h : k ≤ n) : (List.range n).take k = List.range k := by
  rw [List.take_range, Nat.min_eq_left h]
theorem any_opt (l : List (Option Int)) : ((l.map eOI).any fun z => eqF z .non) = decide (none ∈ l) := by
  induction l with
  | nil => rfl
  | cons a r ih =>
    rw [List.map_cons, List.any_cons, ih]
    cases a <;> simp [eOI, eqF]
theorem flat_opt (l : List (Option Int)) : (l.map eOI).all flatD = true := by
  induction l with
  | nil => rfl
  | cons a r ih => rw [List.map_cons, List.all_cons, ih]; cases a <;> rfl
theorem in_opt {Φ : Fns} {l : List (Option Int)} {G : Gs} : cmpW Φ .isin (.d .non) (.d (.lst (l.map eOI))) G = .ok (.d (.bl (decide (none ∈ l)))) G := by
  have : inW (.d .non) (.d (.lst (l.map eOI))) G = some (decide (none ∈ l)) := by
    simp only [inW, stOf, sn_d, inD, flat_opt, any_opt]; rfl
  simp only [cmpW, this]; rfl
theorem min_opt {α : Type} {Φ : Fns} {k : Nat} (l : List α) (f : α → Int) (G : Gs) : (if (0:Int) < (l.length:Int) then bltW Φ k .min1 [.d (.lst ((l.map f).map .int))] G else .ok (.d .non) G) = .ok (.d (eOI (minL (l.map f)))) G := by
  cases l with
  | nil => rfl
  | cons a r =>
    rw [if_pos (by simp)]
    exact blt_min1 rfl
/-- an office, its ways, tolls of its places -/
structure AwOk (ns : List NetV) (aw : List (List (List Way))) : Prop where
  l : aw.length = ns.length
  l3 : ns.length ≤ 3
  r : ∀ j : Nat, j < ns.length → (gt aw (j : Int)).length = (gt ns (j : Int)).w.length
  w8 : ∀ j : Nat, j < ns.length → (gt ns (j : Int)).w.length ≤ 8
  b : ∀ r ∈ aw, ∀ l ∈ r, l.length ≤ 16777216
  w : ∀ (j : Nat), j < ns.length → ∀ l ∈ gt aw (j : Int), ∀ w ∈ l, w.2.length ≤ 8 ∧ ∀ s ∈ w.2, 0 ≤ s ∧ s < (gt ns (j : Int)).w.length
structure PlOk (ns : List NetV) (pl : List (List Int)) : Prop where
  l : pl.length = ns.length
  r : ∀ j : Nat, j < ns.length → (gt pl (j : Int)).length = (gt ns (j : Int)).w.length
theorem c7 {n : Nat} (hn : 1 < n) (ns : List NetV) (ps : List ParV) (aw : List (List (List Way))) (pl : List (List Int)) (ho : OffOk ns ps) (ha : AwOk ns aw) (hp : PlOk ns pl) :
    (lvl T n).call 7 [eO ns ps, eAW aw, ePl pl] = .ok (.lst ((dues ps aw pl).map .int)) := by
  have hal := ha.l
  have hl3 := ha.l3
  have hpl := hp.l
  refine call_eq (by omega) (f := f7) rfl rfl fun m hm R hR => ?_
  dsimp? [f7]
  refine wp_range0 ns.length rfl (fun k σ G => ∃ (o4 o6 o7 o8 o10 : Option W) (J : Gs), σ = [some (.d (eO ns ps)), some (.d (eAW aw)), some (.d (ePl pl)), some (.r 0), o4, none, o6, o7, o8, none, o10, none] ∧ G = .sh (((leasts aw pl).take k).map eRow) :: J) ⟨_, _, _, _, _, [], rfl, rfl⟩ ?_ ?_
  · rintro k σ G hk ⟨o4, o6, o7, o8, o10, J, rfl, rfl⟩ R2 hR2
    have hrk := ha.r k hk
    have h8 := ha.w8 k hk
    have hpk := hp.r k hk
    dsimp? [f7_458, eAW, eWss]
    refine wp_eachD (gt aw (k : Int)) (fun i σ G => ∃ (o8 o10 : Option W), σ = [some (.d (eO ns ps)), some (.d (eAW aw)), some (.d (ePl pl)), some (.r 0), some (.d (.int k)), none, o6, some (.r (J.length + 1)), o8, none, o10, none] ∧ G = .sh (((leasts aw pl).take k).map eRow) :: (J ++ [.sh ((((gt aw (k : Int)).map (leastOf (gt pl (k : Int)))).take i).map eOI)])) ⟨_, _, rfl, rfl⟩ ?_ ?_
    · rintro i l σ G e ⟨o8, o10, rfl, rfl⟩ R3 hR3
      have hi := (List.getElem?_eq_some_iff.mp e).1
      have hlm := List.mem_of_getElem? e
      have hlb := ha.b _ (gt_mem (l := aw) (i := k) (by omega) (by omega)) l hlm
      have hw := ha.w k hk l hlm
      dsimp? [f7_460, ePl]
      rw [lcV l eW (fun w => .int (wcost (gt pl (k : Int)) w)) (by (dsimp? [eWs]; try rfl)) (fun w hwl => by
        have h1 := hw w hwl
        dsimp? [c28 (n := m) (by omega) w (gt pl (k : Int)) (fun s hs => by have := h1.2 s hs; omega) (by omega)])]
      have e1 : l.map (fun w => D.int (wcost (gt pl (k : Int)) w)) = (l.map (wcost (gt pl (k : Int)))).map .int := by rw [List.map_map]; rfl
      rw [e1]
      dsimp? [min_opt]
      refine hR3 _ ⟨rfl, _, _, rfl, congrArg _ (appE (congrArg Cell.sh ?_))⟩
      have e2 : ((gt aw (k : Int)).map (leastOf (gt pl (k : Int))))[i]? = some (leastOf (gt pl (k : Int)) l) := by rw [List.getElem?_map, e]; rfl
      rw [take_map_succ e2, List.map_take]; rfl
    · rintro σ G ⟨o8, o10, rfl, rfl⟩
      dsimp? [List.take_length]
      refine hR2 _ ⟨rfl, _, _, _, _, _, _, rfl, consE (congrArg Cell.sh ?_)⟩
      have e2 : (leasts aw pl)[k]? = some ((gt aw (k : Int)).map (leastOf (gt pl (k : Int)))) := by
        unfold leasts
        rw [List.getElem?_map, List.getElem?_range (by omega)]; rfl
      rw [take_map_succ e2]; rfl
  · rintro σ G ⟨o4, o6, o7, o8, o10, J, rfl, rfl⟩
    have hll : (leasts aw pl).length = ns.length := by simp [leasts, hal]
    rw [← hll, List.take_length]
    dsimp? []
    refine wp_eachD ps (fun k σ G => ∃ (o4 o6 o7 o8 o9 o10 : Option W) (K : Gs), σ = [some (.d (eO ns ps)), some (.d (eAW aw)), some (.d (ePl pl)), some (.r 0), o4, some (.r (J.length + 1)), o6, o7, o8, o9, o10, none] ∧ G = .sh ((leasts aw pl).map eRow) :: (J ++ [.sh (((dues ps aw pl).take k).map .int)])) ⟨_, _, _, _, _, _, [], rfl, rfl⟩ ?_ ?_
    · rintro k p σ G e ⟨o4, o6, o7, o8, o9, o10, K, rfl, rfl⟩ R2 hR2
      have hk := (List.getElem?_eq_some_iff.mp e).1
      have hpp := ho.p p (List.mem_of_getElem? e)
      have h8 := ho.p8
      have hpl := hpp.l
      dsimp? [f7_465]
      rw [lcR (leasts aw pl).length (fun j => eOI (gt (gt (leasts aw pl) (j : Int)) (gt p.s (j : Int)))) (by (dsimp? []; try rfl)) (fun j hj => by
        have hz : (gt p.s (j : Int), gt ns (j : Int)) ∈ p.s.zip ns := by
          have h1 := gt_get (l := p.s) (i := j) (by omega) (by omega)
          have h2 := gt_get (l := ns) (i := j) (by omega) (by omega)
          rw [Int.toNat_natCast] at h1 h2
          exact List.mem_of_getElem? (by rw [List.getElem?_zip_eq_some]; exact ⟨h1, h2⟩)
        have hs := hpp.s _ hz
        dsimp only at hs
        have hg : gt (leasts aw pl) (j : Int) = (gt aw (j : Int)).map (leastOf (gt pl (j : Int))) := by
          refine gt_nat ?_
          unfold leasts
          rw [List.getElem?_map, List.getElem?_range (by omega)]; rfl
        have hlen : (gt (leasts aw pl) (j : Int)).length = (gt ns (j : Int)).w.length := by
          rw [hg, List.length_map]; exact ha.r j (by omega)
        dsimp? [eRow])]
      have e1 : (List.range (leasts aw pl).length).map (fun (j : Nat) => eOI (gt (gt (leasts aw pl) (j : Int)) (gt p.s (j : Int)))) = (steps (leasts aw pl) p).map eOI := by
        unfold steps; rw [List.map_map]; rfl
      rw [e1]
      have hsl : (steps (leasts aw pl) p).length = ns.length := by simp [steps, hll]
      have hdl : (dues ps aw pl).length = ps.length := by simp [dues]
      have e3 : (dues ps aw pl)[k]? = some (dueOf (leasts aw pl) p) := by unfold dues; rw [List.getElem?_map, e]; rfl
      by_cases hno : none ∈ steps (leasts aw pl) p
      · dsimp? [in_opt, hno]
        refine hR2 _ ⟨rfl, _, _, _, _, _, _, [], rfl, congrArg _ (appE (congrArg Cell.sh ?_))⟩
        rw [take_map_succ e3]
        unfold dueOf
        rw [if_pos hno]
      · have e2 : (steps (leasts aw pl) p).map eOI = ((steps (leasts aw pl) p).map fun o => o.getD 0).map .int := by
          rw [List.map_map]
          refine List.map_congr_left fun o h => ?_
          cases o with
          | none => exact absurd h hno
          | some i => rfl
        dsimp? [in_opt, hno]
        rw [e2]
        dsimp? []
        refine hR2 _ ⟨rfl, _, _, _, _, _, _, [], rfl, congrArg _ (appE (congrArg Cell.sh ?_))⟩
        rw [take_map_succ e3]
        unfold dueOf
        rw [if_neg hno]
    · rintro σ G ⟨o4, o6, o7, o8, o9, o10, K, rfl, rfl⟩
      dsimp? []
      have : ps.length = (dues ps aw pl).length := by simp [dues]
      rw [this, List.take_length]
      refine hR _ ?_
      rw [res_cell, fz_r, List.getElem?_cons_succ, ga0]
end Rw

end

-- part Q8
section
set_option Elab.async false
set_option linter.all false
set_option maxRecDepth 4000
namespace Rw
open Ev PySem
/-- the first bad one -/
def IsF (n : Nat) (bad : Nat → Prop) : Option Int → Prop
  | none => ∀ k, k < n → ¬ bad k
  | some i => ∃ k : Nat, i = k ∧ k < n ∧ bad k ∧ ∀ j, j < k → ¬ bad j
theorem IsF.uniq {n : Nat} {bad : Nat → Prop} {r s : Option Int} (h1 : IsF n bad r) (h2 : IsF n bad s) : r = s := by
  cases r with
  | none => cases s with
    | none => rfl
    | some i =>
      obtain ⟨k, rfl, hk, hb, _⟩ := h2
      exact absurd hb (h1 k hk)
  | some i =>
    obtain ⟨k, rfl, hk, hb, hj⟩ := h1
    cases s with
    | none => exact absurd hb (h2 k hk)
    | some i2 =>
      obtain ⟨k2, rfl, hk2, hb2, hj2⟩ := h2
      have : k = k2 := by
        rcases Nat.lt_trichotomy k k2 with h | h | h
        · exact absurd hb (hj2 k h)
        · exact h
        · exact absurd hb2 (hj k2 h)
      rw [this]
theorem c31 {n : Nat} (hn : 2 < n) (ns : List NetV) (ps : List ParV) (aw : List (List (List Way))) (pl : List (List Int)) (fe : List Int) (ho : OffOk ns ps) (ha : AwOk ns aw) (hp : PlOk ns pl) (hf : fe.length = ps.length) :
    ∃ x, (lvl T n).call 31 [eO ns ps, eAW aw, ePl pl, .lst (fe.map .int)] = .ok x ∧ ∃ r, x = eOI r ∧ IsF ps.length (fun k => gt (dues ps aw pl) (k : Int) > gt fe (k : Int)) r := by
  have h8 := ho.p8
  have hdl : (dues ps aw pl).length = ps.length := by simp [dues]
  refine call_ret (by omega) (f := f31) rfl rfl fun m hm R hR => ?_
  dsimp? [f31, c7 (n := m) (by omega) ns ps aw pl ho ha hp]
  refine wp_range0 ps.length (by omega) (fun k σ G => ∃ (o5 : Option W), σ = [some (.d (eO ns ps)), some (.d (eAW aw)), some (.d (ePl pl)), some (.d (.lst (fe.map .int))), some (.d (.lst ((dues ps aw pl).map .int))), o5] ∧ G = [] ∧ ∀ j, j < k → ¬ gt (dues ps aw pl) (j : Int) > gt fe (j : Int)) ⟨_, rfl, rfl, by omega⟩ ?_ ?_
  · rintro k σ G hk ⟨o5, rfl, rfl, hj⟩ R2 hR2
    dsimp? [f31_471]
    refine wp_ifd (fun hc => ?_) (fun hc => ?_)
    · dsimp? []
      exact hR2 _ (hR _ _ rfl ⟨some k, rfl, k, rfl, hk, hc, hj⟩)
    · dsimp? []
      refine hR2 _ ⟨rfl, _, rfl, rfl, fun j hjk => ?_⟩
      rcases Nat.lt_succ_iff_lt_or_eq.mp hjk with h | h
      · exact hj j h
      · subst h; exact hc
  · rintro σ G ⟨o5, rfl, rfl, hj⟩
    dsimp? []
    exact hR _ _ rfl ⟨none, rfl, hj⟩
/-! bills -/
def wt (w t : List Int) : Int := ((w.zip t).map fun p => p.1 * p.2).sum
def billOf (ns : List NetV) (ps : List ParV) (pl : List (List Int)) (fe : List Int) (days : Int) : Int := days * ((ns.zip pl).map fun p => wt p.1.w p.2).sum + ((ps.zip fe).map fun p => min days p.1.d * p.2).sum
theorem sum_bound {l : List Int} {B : Int} (h : ∀ x ∈ l, 0 ≤ x ∧ x ≤ B) : 0 ≤ l.sum ∧ l.sum ≤ l.length * B := by
  induction l with
  | nil => simp
  | cons a r ih =>
    have h1 := h a List.mem_cons_self
    have h2 := ih fun x hx => h x (List.mem_cons_of_mem _ hx)
    simp only [List.sum_cons, List.length_cons]
    have : ((r.length + 1 : Nat) : Int) * B = r.length * B + B := by
      rw [Int.natCast_add, Int.add_mul]; simp
    omega
def TB : Int := 10 ^ 26
theorem wt_bound {w t : List Int} (h8 : w.length ≤ 8) (hw : ∀ x ∈ w, 1 ≤ x ∧ x ≤ 9) (ht : ∀ x ∈ t, 0 ≤ x ∧ x ≤ TB) : 0 ≤ wt w t ∧ wt w t ≤ 72 * TB := by
  have h := sum_bound (l := (w.zip t).map fun p => p.1 * p.2) (B := 9 * TB) ?_
  · unfold wt
    have hl : ((w.zip t).map fun p => p.1 * p.2).length ≤ 8 := by simp; omega
    unfold TB at h ⊢
    refine ⟨h.1, Int.le_trans h.2 ?_⟩
    omega
  · intro x hx
    obtain ⟨p, hp, rfl⟩ := List.mem_map.mp hx
    have h1 := hw p.1 (List.of_mem_zip hp).1
    have h2 := ht p.2 (List.of_mem_zip hp).2
    exact ⟨Int.mul_nonneg (by omega) h2.1, Int.mul_le_mul h1.2 h2.2 h2.1 (by omega)⟩
theorem c46 {n : Nat} (hn : 0 < n) (v : NetV) (t : List Int) (h8 : v.w.length ≤ 8) (hw : ∀ x ∈ v.w, 1 ≤ x ∧ x ≤ 9) : (lvl T n).call 46 [mN v, eT t] = .ok (.int (wt v.w t)) := by
  refine call_eq (by omega) (f := f46) rfl rfl fun m hm R hR => ?_
  dsimp? [f46]
  rw [lcZ (v.w.zip t) .int .int (fun p => .int (p.1 * p.2)) (by (dsimp? [eT]; try rfl)) (fun x hx => by
    have h1 := hw x.1 (List.of_mem_zip hx).1
    dsimp? [])]
  have e : (v.w.zip t).map (fun p => D.int (p.1 * p.2)) = ((v.w.zip t).map fun p => p.1 * p.2).map .int := by rw [List.map_map]; rfl
  rw [e]
  dsimp? []
  exact hR _ rfl
theorem c33 {n : Nat} (hn : 1 < n) (ns : List NetV) (ps : List ParV) (pl : List (List Int)) (fe : List Int) (days : Int) (ho : OffOk ns ps) (ht : ∀ t ∈ pl, ∀ x ∈ t, 0 ≤ x ∧ x ≤ TB) (hd : 0 ≤ days ∧ days ≤ 10 ^ 21) :
    (lvl T n).call 33 [mO ns ps, mT pl fe, .int days] = .ok (.int (billOf ns ps pl fe days)) := by
  have h3 := ho.n3
  have h8 := ho.p8
  refine call_eq (by omega) (f := f33) rfl rfl fun m hm R hR => ?_
  dsimp? [f33]
  rw [lcZ (ns.zip pl) mN eT (fun p => .int (wt p.1.w p.2)) (by (dsimp? []; try rfl)) (fun x hx => by
    have h1 := ho.n x.1 (List.of_mem_zip hx).1
    dsimp? [c46 (n := m) (by omega) x.1 x.2 h1.w8 h1.w])]
  have e : (ns.zip pl).map (fun p => D.int (wt p.1.w p.2)) = ((ns.zip pl).map fun p => wt p.1.w p.2).map .int := by rw [List.map_map]; rfl
  rw [e]
  dsimp? []
  rw [lcZ (ps.zip fe) mP .int (fun p => .int (min days p.1.d * p.2)) (by (dsimp? []; try rfl)) (fun x hx => by
    have h1 := (ho.p x.1 (List.of_mem_zip hx).1).d
    dsimp? [])]
  have e2 : (ps.zip fe).map (fun p => D.int (min days p.1.d * p.2)) = ((ps.zip fe).map fun p => min days p.1.d * p.2).map .int := by rw [List.map_map]; rfl
  rw [e2]
  have hb := sum_bound (l := (ns.zip pl).map fun p => wt p.1.w p.2) (B := 72 * TB) (fun x hx => by
    obtain ⟨p, hp, rfl⟩ := List.mem_map.mp hx
    have h1 := ho.n p.1 (List.of_mem_zip hp).1
    exact wt_bound h1.w8 h1.w (ht _ (List.of_mem_zip hp).2))
  have hl : ((ns.zip pl).map fun p => wt p.1.w p.2).length ≤ 3 := by simp; omega
  have hm2 : mulOk days ((ns.zip pl).map fun p => wt p.1.w p.2).sum = true := by
    unfold TB at hb
    exact mulOk_big (by omega) (by omega)
  dsimp? []
  exact hR _ rfl
end Rw

end

-- part Q9
section
set_option Elab.async false
set_option linter.all false
set_option maxRecDepth 4000
namespace Rw
open Ev PySem
theorem zip_take {α β : Type} {a : List α} {b : List β} {k : Nat} {x : α} {y : β} (h1 : a[k]? = some x) (h2 : b[k]? = some y) : (a.zip b)[k]? = some (x, y) := by
  rw [List.getElem?_zip_eq_some]; exact ⟨h1, h2⟩
theorem sum_take {α : Type} {l : List α} {k : Nat} {x : α} (e : l[k]? = some x) (f : α → Int) : ((l.take (k + 1)).map f).sum = ((l.take k).map f).sum + f x := by
  rw [take_map_succ e, List.sum_append]; simp
theorem get_gt {α : Type} [Inhabited α] {l : List α} {k : Nat} (h : k < l.length) : l[k]? = some (gt l (k : Int)) := by
  have := gt_get (l := l) (i := k) (by omega) (by omega)
  rwa [Int.toNat_natCast] at this
theorem c34 {n : Nat} (hn : 0 < n) (ns : List NetV) (ps : List ParV) (pl : List (List Int)) (fe : List Int) (days : Int) (ho : OffOk ns ps) (hp : PlOk ns pl) (hf : fe.length = ps.length) (ht : ∀ t ∈ pl, ∀ x ∈ t, 0 ≤ x ∧ x ≤ TB) (hd : 0 ≤ days ∧ days ≤ 10 ^ 21) :
    (lvl T n).call 34 [eO ns ps, ePl pl, .lst (fe.map .int), .int days] = .ok (.int (billOf ns ps pl fe days)) := by
  have h3 := ho.n3
  have h8 := ho.p8
  have hpl := hp.l
  refine call_eq (by omega) (f := f34) rfl rfl fun m hm R hR => ?_
  dsimp? [f34, ePl]
  refine wp_range0 ns.length (by omega) (fun k σ G => ∃ (o5 o6 : Option W), σ = [some (.d (eO ns ps)), some (.d (ePl pl)), some (.d (.lst (fe.map .int))), some (.d (.int days)), some (.d (.int (days * (((ns.zip pl).take k).map fun p => wt p.1.w p.2).sum))), o5, o6] ∧ G = []) ⟨none, none, by simp [ePl], rfl⟩ ?_ ?_
  · rintro k σ G hk ⟨o5, o6, rfl, rfl⟩ R2 hR2
    have hv := ho.n _ (gt_mem (l := ns) (i := k) (by omega) (by omega))
    have hw8 := hv.w8
    have hr := hp.r k hk
    have htk := ht _ (gt_mem (l := pl) (i := k) (by omega) (by omega))
    dsimp? [f34_477, ePl]
    refine wp_range0 (gt ns (k : Int)).w.length (by omega) (fun i σ G => ∃ (o6 : Option W), σ = [some (.d (eO ns ps)), some (.d (ePl pl)), some (.d (.lst (fe.map .int))), some (.d (.int days)), some (.d (.int (days * (((ns.zip pl).take k).map fun p => wt p.1.w p.2).sum + days * ((((gt ns (k : Int)).w.zip (gt pl (k : Int))).take i).map fun p => p.1 * p.2).sum))), some (.d (.int k)), o6] ∧ G = []) ⟨o6, by simp [ePl], rfl⟩ ?_ ?_
    · rintro i σ G hi ⟨o6, rfl, rfl⟩ R3 hR3
      have hwi := hv.w _ (gt_mem (l := (gt ns (k : Int)).w) (i := i) (by omega) (by omega))
      have hti := htk _ (gt_mem (l := gt pl (k : Int)) (i := i) (by omega) (by omega))
      have hm1 : mulOk days (gt (gt ns (k : Int)).w (i : Int)) = true := mulOk_smallR (by omega) (by omega)
      have hm2 : mulOk (days * gt (gt ns (k : Int)).w (i : Int)) (gt (gt pl (k : Int)) (i : Int)) = true := by
        have b1 : 0 ≤ days * gt (gt ns (k : Int)).w (i : Int) := Int.mul_nonneg hd.1 (by omega)
        have b2 : days * gt (gt ns (k : Int)).w (i : Int) ≤ 10 ^ 21 * 9 := Int.mul_le_mul hd.2 hwi.2 (by omega) (by omega)
        unfold TB at hti
        exact mulOk_big (by omega) (by omega)
      dsimp? [f34_478, ePl]
      refine hR3 _ ⟨rfl, some (.d (.int i)), ?_, rfl⟩
      rw [sum_take (zip_take (get_gt (by omega)) (get_gt (by omega)))]
      rw [Int.mul_add, Int.mul_assoc, Int.add_assoc]; rfl
    · rintro σ G ⟨o6, rfl, rfl⟩
      dsimp? []
      refine hR2 _ ⟨rfl, some (.d (.int k)), o6, ?_, rfl⟩
      rw [sum_take (zip_take (get_gt (by omega)) (get_gt (by omega))), Int.mul_add]
      rw [List.take_of_length_le (l := (gt ns (k : Int)).w.zip (gt pl (k : Int))) (by simp; omega)]; rfl
  · rintro σ G ⟨o5, o6, rfl, rfl⟩
    dsimp? []
    refine wp_range0 ps.length (by omega) (fun k σ G => ∃ (o6 : Option W), σ = [some (.d (eO ns ps)), some (.d (ePl pl)), some (.d (.lst (fe.map .int))), some (.d (.int days)), some (.d (.int (days * (((ns.zip pl).take ns.length).map fun p => wt p.1.w p.2).sum + (((ps.zip fe).take k).map fun p => min days p.1.d * p.2).sum))), o5, o6] ∧ G = []) ⟨o6, by simp, rfl⟩ ?_ ?_
    · rintro k σ G hk ⟨o6, rfl, rfl⟩ R2 hR2
      have hpk := (ho.p _ (gt_mem (l := ps) (i := k) (by omega) (by omega))).d
      dsimp? [f34_480]
      refine hR2 _ ⟨rfl, some (.d (.int k)), ?_, rfl⟩
      rw [sum_take (zip_take (get_gt (by omega)) (get_gt (by omega))), Int.add_assoc]
    · rintro σ G ⟨o6, rfl, rfl⟩
      dsimp? []
      refine hR _ ?_
      rw [res_rt]
      unfold billOf
      rw [List.take_of_length_le (by simp; omega), List.take_of_length_le (by simp; omega)]
/-! the program's judge -/
def relax1 (t : List Int) (l : List (Option Int)) (r : I3) : List (Option Int) := match gt l r.2.1 with
  | none => l
  | some h => match gt l r.1 with
    | none => l.set r.1.toNat (some (gt t r.1 + r.2.2 + h))
    | some y => if gt t r.1 + r.2.2 + h < y then l.set r.1.toNat (some (gt t r.1 + r.2.2 + h)) else l
def relaxAll (t : List Int) (v : NetV) (l : List (Option Int)) : List (Option Int) := v.r.foldl (relax1 t) l
def least0 (v : NetV) (t : List Int) : List (Option Int) := (List.range v.w.length).map fun (k : Nat) => if (k : Int) ∈ v.g then some (gt t k) else none
def leastGo (v : NetV) (t : List Int) : Nat → List (Option Int)
  | 0 => least0 v t
  | k + 1 => relaxAll t v (leastGo v t k)
def leastWays (v : NetV) (t : List Int) : List (Option Int) := leastGo v t v.w.length
theorem relax1_len (t : List Int) (l : List (Option Int)) (r : I3) : (relax1 t l r).length = l.length := by
  unfold relax1
  split
  · rfl
  · split
    · simp
    · split <;> simp
theorem foldl_len (t : List Int) (rs : List I3) : ∀ l : List (Option Int), (rs.foldl (relax1 t) l).length = l.length := by
  induction rs with
  | nil => intro l; rfl
  | cons a r ih => intro l; rw [List.foldl_cons, ih, relax1_len]
theorem least_len (v : NetV) (t : List Int) : ∀ k, (leastGo v t k).length = v.w.length
  | 0 => by simp [leastGo, least0]
  | k + 1 => by rw [leastGo]; unfold relaxAll; rw [foldl_len, least_len v t k]
theorem isnot_opt {Φ : Fns} {o : Option Int} {G : Gs} : cmpW Φ .isnot (.d (eOI o)) (.d .non) G = .ok (.d (.bl (decide (o ≠ none)))) G := by cases o <;> rfl
theorem is_opt {Φ : Fns} {o : Option Int} {G : Gs} : cmpW Φ .is (.d (eOI o)) (.d .non) G = .ok (.d (.bl (decide (o = none)))) G := by cases o <;> rfl
theorem meth_gate {m : Nat} {σ : Sl} {es : List E} {v : NetV} {G : Gs} : KMe (lvl T m) σ 17 es (.d (mN v)) G = (evEs (lvl T m) es σ G).bind (KMe2 (lvl T m) 0 17 (.d (mN v))) := by
  show (if ([(12, D.tup (v.w.map .int)), (13, .tup (v.g.map .int)), (14, .tup (v.r.map eR))].lookup 17).isNone && ((lvl T m).meth 0 17).isSome then _ else _) = _
  rw [lvl_methp]
  exact if_pos rfl
theorem mcall_gate {m : Nat} {ws : List W} {G : Gs} : mcall (lvl T m) 0 17 ws G = fcall ((lvl T m).call 51) ws G := by
  unfold mcall
  rw [lvl_methp]; rfl
theorem set_map {α β : Type} (f : α → β) (l : List α) (i : Nat) (a : α) : (l.map f).set i (f a) = (l.set i a).map f := List.map_set.symm
theorem eOI_some (y : Int) : eOI (some y) = .int y := rfl
theorem setO (l : List (Option Int)) (i : Nat) (x : Int) : (l.map eOI).set i (.int x) = (l.set i (some x)).map eOI := by rw [List.map_set]; rfl
theorem c47 {n : Nat} (hn : 1 < n) (v : NetV) (hv : v.Ok) (t : List Int) (ht : t.length = v.w.length) : (lvl T n).call 47 [mN v, eT t, .tup (v.r.map eR)] = .ok (.tup ((leastWays v t).map eOI)) := by
  have h8 := hv.w8
  refine call_eq (by omega) (f := f47) rfl rfl fun m hm R hR => ?_
  dsimp? [f47]
  rw [lcR v.w.length (fun k => eOI (if (k : Int) ∈ v.g then some (gt t k) else none)) (by (dsimp? [len_mN (n := m) (by omega) v h8]; try rfl)) (fun j hj => by
    dsimp? [meth_gate, q_KMe2, mcall_gate, c51 (n := m) (by omega) v]
    split <;> rfl)]
  have e : (List.range v.w.length).map (fun (k : Nat) => eOI (if (k : Int) ∈ v.g then some (gt t k) else none)) = (least0 v t).map eOI := by unfold least0; rw [List.map_map]; rfl
  rw [e]
  have hl0 := least_len v t 0
  simp only [leastGo] at hl0
  dsimp? [len_mN (n := m) (by omega) v h8]
  refine wp_range0 v.w.length (by omega) (fun k σ G => ∃ (o4 o5 o6 o7 o8 o9 : Option W), σ = [some (.d (mN v)), some (.d (eT t)), some (.d (.tup (v.r.map eR))), some (.r 0), o4, o5, o6, o7, o8, o9] ∧ G = [.sh ((leastGo v t k).map eOI)]) ⟨_, _, _, _, _, _, rfl, rfl⟩ ?_ ?_
  · rintro k σ G hk ⟨o4, o5, o6, o7, o8, o9, rfl, rfl⟩ R2 hR2
    dsimp? [f47_21]
    refine wp_each v.r (fun i σ G => ∃ (o6 o7 o8 o9 : Option W), σ = [some (.d (mN v)), some (.d (eT t)), some (.d (.tup (v.r.map eR))), some (.r 0), some (.d (.int k)), o5, o6, o7, o8, o9] ∧ G = [.sh (((v.r.take i).foldl (relax1 t) (leastGo v t k)).map eOI)]) ⟨_, _, _, _, rfl, rfl⟩ ?_ ?_
    · rintro i r σ G e ⟨o6, o7, o8, o9, rfl, rfl⟩ R3 hR3
      have hr := hv.r r (List.mem_of_getElem? e)
      have hln : ((v.r.take i).foldl (relax1 t) (leastGo v t k)).length = v.w.length := by rw [foldl_len, least_len]
      have hnext : (v.r.take (i + 1)).foldl (relax1 t) (leastGo v t k) = relax1 t ((v.r.take i).foldl (relax1 t) (leastGo v t k)) r := by
        rw [List.take_add_one, e, List.foldl_append]; rfl
      generalize hL : (v.r.take i).foldl (relax1 t) (leastGo v t k) = L at hln hnext
      refine ⟨_, bind_eR, ?_⟩
      dsimp? [f47_22, isnot_opt]
      refine wp_ifd (fun hc => ?_) (fun hc => ?_)
      · obtain ⟨h, eh⟩ := Option.ne_none_iff_exists'.mp hc
        have eh2 : eOI (gt L r.2.1) = .int h := by rw [eh]; rfl
        cases ec : gt L r.1 with
        | none =>
          dsimp? [eh2, is_opt, ec, setO]
          refine hR3 _ ⟨rfl, _, _, _, _, rfl, ?_⟩
          rw [hnext]
          unfold relax1
          rw [eh, ec]
        | some y =>
          dsimp? [eh2, is_opt, ec, eOI_some, reduceCtorEq]
          refine wp_ifd (fun hd => ?_) (fun hd => ?_)
          · dsimp? [setO]
            refine hR3 _ ⟨rfl, _, _, _, _, rfl, ?_⟩
            rw [hnext]
            unfold relax1
            rw [eh, ec]
            dsimp only
            rw [if_pos hd]
          · dsimp? []
            refine hR3 _ ⟨rfl, _, _, _, _, rfl, ?_⟩
            rw [hnext]
            unfold relax1
            rw [eh, ec]
            dsimp only
            rw [if_neg hd]
      · dsimp? []
        refine hR3 _ ⟨rfl, _, _, _, _, rfl, ?_⟩
        rw [hnext]
        unfold relax1
        have : gt L r.2.1 = none := by simpa using hc
        rw [this]
    · rintro σ G ⟨o6, o7, o8, o9, rfl, rfl⟩
      dsimp? []
      refine hR2 _ ⟨rfl, _, _, _, _, _, _, rfl, ?_⟩
      rw [List.take_length]; rfl
  · rintro σ G ⟨o4, o5, o6, o7, o8, o9, rfl, rfl⟩
    have := least_len v t v.w.length
    dsimp? []
    exact hR _ rfl
end Rw

end

-- part Qa
section
set_option Elab.async false
set_option linter.all false
set_option maxRecDepth 4000
namespace Rw
open Ev PySem
def rowsOf (ns : List NetV) (pl : List (List Int)) : List (List (Option Int)) := ns.zipIdx.map fun p => leastWays p.1 (gt pl (p.2 : Int))
def partsOf (rows : List (List (Option Int))) (p : ParV) : List (Option Int) := (rows.zip p.s).map fun q => gt q.1 q.2
def costOf (rows : List (List (Option Int))) (p : ParV) : Option Int := if none ∈ partsOf rows p then none else some (((partsOf rows p).map fun o => o.getD 0).sum)
def eRowT (l : List (Option Int)) : D := .tup (l.map eOI)
theorem c35 {n : Nat} (hn : 2 < n) (ns : List NetV) (ps : List ParV) (pl : List (List Int)) (fe : List Int) (ho : OffOk ns ps) (hp : PlOk ns pl) : (lvl T n).call 35 [mO ns ps, mT pl fe] = .ok (.tup ((ps.map (costOf (rowsOf ns pl))).map eOI)) := by
  have h3 := ho.n3
  have h8 := ho.p8
  have hpl := hp.l
  refine call_eq (by omega) (f := f35) rfl rfl fun m hm R hR => ?_
  dsimp? [f35]
  rw [lcE ns mN (fun p => eRowT (leastWays p.1 (gt pl (p.2 : Int)))) (by (dsimp? []; try rfl)) (fun x hx => by
    obtain ⟨v, j⟩ := x
    have hv := List.mem_zipIdx hx
    simp only [Nat.zero_le, Nat.zero_add, Nat.sub_zero, true_and] at hv
    obtain ⟨hj, hv2⟩ := hv
    have hvo := ho.n v (hv2 ▸ List.getElem_mem _)
    have hr := hp.r j hj
    have hg : gt ns (j : Int) = v := gt_nat (List.getElem?_eq_some_iff.mpr ⟨hj, hv2.symm⟩)
    rw [hg] at hr
    dsimp? [c47 (n := m) (by omega) v hvo (gt pl (j : Int)) hr]
    rfl)]
  have e : ns.zipIdx.map (fun p => eRowT (leastWays p.1 (gt pl (p.2 : Int)))) = (rowsOf ns pl).map eRowT := by unfold rowsOf; rw [List.map_map]; rfl
  rw [e]
  have hrl : (rowsOf ns pl).length = ns.length := by simp [rowsOf]
  dsimp? []
  refine wp_eachD ps (fun k σ G => ∃ (o4 o5 o6 o7 o8 o9 o10 : Option W), σ = [some (.d (mO ns ps)), some (.d (mT pl fe)), some (.d (.lst ((rowsOf ns pl).map eRowT))), some (.r 0), o4, o5, none, none, none, none, none] ∧ G = [.sh (((ps.take k).map (costOf (rowsOf ns pl))).map eOI)]) ⟨none, none, none, none, none, none, none, rfl, rfl⟩ ?_ ?_
  · rintro k p σ G e ⟨o4, o5, o6, o7, o8, o9, o10, rfl, rfl⟩ R2 hR2
    have hk := (List.getElem?_eq_some_iff.mp e).1
    have hpp := ho.p p (List.mem_of_getElem? e)
    have hpl := hpp.l
    have e3 : (ps.map (costOf (rowsOf ns pl)))[k]? = some (costOf (rowsOf ns pl) p) := by rw [List.getElem?_map, e]; rfl
    dsimp? [f35_31]
    rw [lcZ ((rowsOf ns pl).zip p.s) eRowT .int (fun q => eOI (gt q.1 q.2)) (by (dsimp? []; try rfl)) (fun x hx => by
      obtain ⟨i, hi⟩ := List.mem_iff_getElem?.mp hx
      obtain ⟨h1, h2⟩ := (List.getElem?_zip_eq_some).mp hi
      have hin : i < ns.length := by have := (List.getElem?_eq_some_iff.mp h1).1; omega
      have h4 : ns[i]? = some (gt ns (i : Int)) := get_gt hin
      have h5 := hpp.s _ (List.mem_of_getElem? (zip_take h2 h4))
      have h6 : x.1 = leastWays (gt ns (i : Int)) (gt pl (i : Int)) := by
        unfold rowsOf at h1
        rw [List.getElem?_map, List.getElem?_zipIdx, h4] at h1
        simpa using h1.symm
      have h7 : x.1.length = (gt ns (i : Int)).w.length := by rw [h6]; exact least_len _ _ _
      dsimp only at h5
      dsimp? [eRowT])]
    have e1 : ((rowsOf ns pl).zip p.s).map (fun q => eOI (gt q.1 q.2)) = (partsOf (rowsOf ns pl) p).map eOI := by unfold partsOf; rw [List.map_map]; rfl
    rw [e1]
    have hpl2 : (partsOf (rowsOf ns pl) p).length ≤ 10 := by simp [partsOf, hrl]; omega
    dsimp? []
    rw [lcV (partsOf (rowsOf ns pl) p) eOI (fun o => .bl (decide (o = none))) (by (dsimp? []; try rfl)) (fun x hx => by dsimp? [is_opt])]
    have e4 : (partsOf (rowsOf ns pl) p).map (fun o => D.bl (decide (o = none))) = ((partsOf (rowsOf ns pl) p).map fun o => decide (o = none)).map .bl := by rw [List.map_map]; rfl
    rw [e4]
    have e5 : ((partsOf (rowsOf ns pl) p).map fun o => decide (o = none)).any id = decide (none ∈ partsOf (rowsOf ns pl) p) := by
      rw [List.any_map]
      induction partsOf (rowsOf ns pl) p with
      | nil => rfl
      | cons a r ih => rw [List.any_cons, ih]; cases a <;> simp
    by_cases hno : none ∈ partsOf (rowsOf ns pl) p
    · dsimp? [e5, hno]
      refine hR2 _ ⟨rfl, _, _, none, none, none, none, none, rfl, consE (congrArg Cell.sh ?_)⟩
      rw [take_map_succ e, List.map_append]
      unfold costOf
      rw [List.map_singleton, if_pos hno]; rfl
    · have e2 : (partsOf (rowsOf ns pl) p).map eOI = ((partsOf (rowsOf ns pl) p).map fun o => o.getD 0).map .int := by
        rw [List.map_map]
        refine List.map_congr_left fun o h => ?_
        cases o with
        | none => exact absurd h hno
        | some i => rfl
      dsimp? [e5, hno]
      rw [e2]
      dsimp? []
      refine hR2 _ ⟨rfl, _, _, none, none, none, none, none, rfl, consE (congrArg Cell.sh ?_)⟩
      rw [take_map_succ e, List.map_append]
      unfold costOf
      rw [List.map_singleton, if_neg hno]; rfl
  · rintro σ G ⟨o4, o5, o6, o7, o8, o9, o10, rfl, rfl⟩
    rw [List.take_length]
    dsimp? []
    exact hR _ rfl
/-- toll_fault -/
def badT (ns : List NetV) (ps : List ParV) (pl : List (List Int)) (fe : List Int) (k : Nat) : Prop := ∃ c, costOf (rowsOf ns pl) (gt ps (k : Int)) = some c ∧ (gt ps (k : Int)).v > c + gt fe (k : Int)
theorem c9 {n : Nat} (hn : 3 < n) (ns : List NetV) (ps : List ParV) (pl : List (List Int)) (fe : List Int) (ho : OffOk ns ps) (hp : PlOk ns pl) (hf : fe.length = ps.length) :
    ∃ x, (lvl T n).call 9 [mO ns ps, mT pl fe] = .ok x ∧ ∃ r, x = eOI r ∧ IsF ps.length (badT ns ps pl fe) r := by
  have h8 := ho.p8
  refine call_ret (by omega) (f := f9) rfl rfl fun m hm R hR => ?_
  dsimp? [f9, c35 (n := m) (by omega) ns ps pl fe ho hp]
  refine wp_enumD (ps.map (costOf (rowsOf ns pl))) (fun k σ G => ∃ (o2 o3 : Option W), σ = [some (.d (mO ns ps)), some (.d (mT pl fe)), o2, o3] ∧ G = [] ∧ ∀ j, j < k → ¬ badT ns ps pl fe j) ⟨_, _, rfl, rfl, by omega⟩ ?_ ?_
  · rintro k c σ G e ⟨o2, o3, rfl, rfl, hj⟩ R2 hR2
    have hk := (List.getElem?_eq_some_iff.mp e).1
    rw [List.length_map] at hk
    have hc : costOf (rowsOf ns pl) (gt ps (k : Int)) = c := by
      rw [List.getElem?_map, get_gt hk] at e
      simpa using e
    have nxt : ¬ badT ns ps pl fe k → ∀ j, j < k + 1 → ¬ badT ns ps pl fe j := fun h j hjk => by
      rcases Nat.lt_succ_iff_lt_or_eq.mp hjk with h1 | h1
      · exact hj j h1
      · subst h1; exact h
    cases hcc : c with
    | none =>
      dsimp? [f9_36, isnot_opt]
      exact hR2 _ ⟨rfl, _, _, rfl, rfl, nxt fun ⟨c2, h1, _⟩ => by rw [hc, hcc] at h1; simp at h1⟩
    | some c0 =>
      dsimp? [f9_36, isnot_opt, eOI_some, isnot_int]
      refine wp_ifd (fun hd => ?_) (fun hd => ?_)
      · dsimp? []
        exact hR2 _ (hR _ _ rfl ⟨some k, rfl, k, rfl, hk, ⟨c0, hc.trans hcc, hd⟩, hj⟩)
      · dsimp? []
        refine hR2 _ ⟨rfl, _, _, rfl, rfl, nxt fun ⟨c2, h1, h2⟩ => ?_⟩
        rw [hc, hcc] at h1
        cases h1
        exact hd h2
  · rintro σ G ⟨o2, o3, rfl, rfl, hj⟩
    rw [List.length_map] at hj
    dsimp? []
    exact hR _ _ rfl ⟨none, rfl, hj⟩
end Rw

end

-- part Qb
section
set_option Elab.async false
set_option linter.all false
set_option maxRecDepth 4000
namespace Rw
open Ev PySem
theorem c32_opt {n : Nat} (hn : 0 < n) (r s : Option Int) : (lvl T n).call 32 [eOI r, eOI s] = .ok (.bl (decide (r = s))) := by
  refine call_eq (by omega) (f := f32) rfl rfl fun m hm R hR => ?_
  cases s with
  | none =>
    rw [show eOI none = .non from rfl]
    dsimp? [f32, is_opt]
    exact hR _ rfl
  | some j =>
    cases r with
    | none =>
      dsimp? [f32, eOI, ty_tup_i, ty_nil, ty_int_n, reduceCtorEq]
      exact hR _ rfl
    | some i =>
      dsimp? [f32, eOI, ty_tup_i, ty_nil, ty_int_i, ty_bool_i]
      exact hR _ (by rw [res_rt]; simp)
theorem c32_int {n : Nat} (hn : 0 < n) (r s : Int) : (lvl T n).call 32 [.int r, .int s] = .ok (.bl (decide (r = s))) := by
  have := c32_opt hn (some r) (some s)
  simpa [eOI] using this
theorem c32_tup {α : Type} [Inhabited α] {n : Nat} (hn : 0 < n) (e : α → D) (xs : List α) (hl : xs.length ≤ 10000) (h : ∀ m, m + 1 = n → ∀ x ∈ xs, (lvl T m).call 32 [e x, e x] = .ok (.bl true)) : (lvl T n).call 32 [.tup (xs.map e), .tup (xs.map e)] = .ok (.bl true) := by
  refine call_eq (by omega) (f := f32) rfl rfl fun m hm R hR => ?_
  dsimp? [f32, ty_tup_t, is_tup]
  refine wp_range0 xs.length (by omega) (fun k σ G => ∃ (o2 : Option W), σ = [some (.d (.tup (xs.map e))), some (.d (.tup (xs.map e))), o2] ∧ G = []) ⟨none, rfl, rfl⟩ ?_ ?_
  · rintro k σ G hk ⟨o2, rfl, rfl⟩ R2 hR2
    have := h m hm _ (gt_mem (l := xs) (i := k) (by omega) (by omega))
    dsimp? [f32_308, this]
    exact hR2 _ ⟨rfl, _, rfl, rfl⟩
  · rintro σ G ⟨o2, rfl, rfl⟩
    dsimp? []
    exact hR _ rfl
theorem c32_ints {n : Nat} (hn : 1 < n) (l : List Int) (hl : l.length ≤ 10000) : (lvl T n).call 32 [.tup (l.map .int), .tup (l.map .int)] = .ok (.bl true) := c32_tup (by omega) _ l hl fun m hm x _ => by rw [c32_int (by omega)]; simp
theorem c32_rows {n : Nat} (hn : 2 < n) (l : List (List Int)) (hl : l.length ≤ 10000) (hr : ∀ r ∈ l, r.length ≤ 10000) : (lvl T n).call 32 [.tup (l.map eT), .tup (l.map eT)] = .ok (.bl true) := c32_tup (by omega) _ l hl fun m hm x hx => c32_ints (by omega) x (hr x hx)
theorem eT_inj (x y : List Int) (h : eT x = eT y) : x = y := by
  simp only [eT, D.tup.injEq] at h
  exact map_inj int_inj _ _ h
theorem plain_eT (n : Nat) (x : List Int) : Ev.plain (n + 1) (eT x) = true := plain_ints n x
def eTT (l : List (List Int)) : D := .tup (l.map eT)
theorem eTT_inj (x y : List (List Int)) (h : eTT x = eTT y) : x = y := by
  simp only [eTT, D.tup.injEq] at h
  exact map_inj eT_inj _ _ h
theorem plain_eTT (n : Nat) (x : List (List Int)) : Ev.plain (n + 2) (eTT x) = true := by
  show (x.map eT).all (Ev.plain (n + 1)) = true
  rw [List.all_map]
  exact List.all_eq_true.mpr fun _ _ => plain_eT _ _
theorem cmp_eTT {Φ : Fns} {G : Gs} (a b : List (List Int)) : cmpW Φ .eq (.d (.tup (a.map eT))) (.d (.tup (b.map eT))) G = .ok (.d (.bl (decide (a = b)))) G := cmp_eq_enc eTT_inj (plain_eTT 58) a b G
theorem cmp_eT {Φ : Fns} {G : Gs} (a b : List Int) : cmpW Φ .eq (.d (.tup (a.map .int))) (.d (.tup (b.map .int))) G = .ok (.d (.bl (decide (a = b)))) G := cmp_eq_enc eT_inj (plain_eT 59) a b G
theorem c30 {n : Nat} (hn : 0 < n) (pl pl2 : List (List Int)) (fe fe2 : List Int) : (lvl T n).call 30 [mT pl fe, mT pl2 fe2] = .ok (.bl (decide (pl = pl2 ∧ fe = fe2))) := by
  refine call_eq (by omega) (f := f30) rfl rfl fun m hm R hR => ?_
  have e : isTys (lvl T m).isc [] (.d (mT pl2 fe2)) [.cls 3] = some true := ty_cls 3 _ (isc_ok 3 (by omega))
  dsimp? [f30, e, cmp_eTT, cmp_eT]
  exact hR _ rfl
theorem c30O {n : Nat} (hn : 0 < n) (pl : List (List Int)) (fe : List Int) (ns : List NetV) (ps : List ParV) : (lvl T n).call 30 [mT pl fe, mO ns ps] = .ok (.bl false) := by
  refine call_eq (by omega) (f := f30) rfl rfl fun m hm R hR => ?_
  have e : isTys (lvl T m).isc [] (.d (mO ns ps)) [.cls 3] = some false := ty_cls_ne 2 3 _ (isc_ok 2 (by omega)) (isc_ok 3 (by omega)) rfl
  dsimp? [f30, e]
  exact hR _ rfl
theorem c30t {n : Nat} (hn : 0 < n) (pl : List (List Int)) (fe : List Int) (xs : List D) : (lvl T n).call 30 [mT pl fe, .tup xs] = .ok (.bl false) := by
  refine call_eq (by omega) (f := f30) rfl rfl fun m hm R hR => ?_
  have e : isTys (lvl T m).isc [] (.d (.tup xs)) [.cls 3] = some false := ty_cls_t 3 _ (isc_ok 3 (by omega))
  dsimp? [f30, e]
  exact hR _ rfl
theorem eq_mT {m : Nat} {pl : List (List Int)} {fe : List Int} {y : D} {G : Gs} (h : tyKn (lvl T m).isc G (.d y) = true) : cmpW (lvl T m) .eq (.d (mT pl fe)) (.d y) G = ((lvl T m).call 30 [mT pl fe, y]).out G := by
  show (if tyKn (lvl T m).isc G (.d y) = true then mcall (lvl T m) 3 nmEq [.d (mT pl fe), .d y] G else .no) = _
  rw [if_pos h]
  unfold mcall
  rw [lvl_methp]
  exact fcall2 ..
theorem eqT_T {m : Nat} (hm : 0 < m) {pl pl2 : List (List Int)} {fe fe2 : List Int} {G : Gs} : cmpW (lvl T m) .eq (.d (mT pl fe)) (.d (mT pl2 fe2)) G = .ok (.d (.bl (decide (pl = pl2 ∧ fe = fe2)))) G := by
  rw [eq_mT (show tyKn (lvl T m).isc G (.d (mT pl2 fe2)) = true from isc_ok 3 (by omega)), c30 hm]; rfl
theorem eqT_O {m : Nat} (hm : 0 < m) {pl : List (List Int)} {fe : List Int} {G : Gs} {ns : List NetV} {ps : List ParV} : cmpW (lvl T m) .eq (.d (mT pl fe)) (.d (mO ns ps)) G = .ok (.d (.bl false)) G := by
  rw [eq_mT (show tyKn (lvl T m).isc G (.d (mO ns ps)) = true from isc_ok 2 (by omega)), c30O hm]; rfl
theorem eqT_t {m : Nat} (hm : 0 < m) {pl : List (List Int)} {fe : List Int} {G : Gs} {xs : List D} : cmpW (lvl T m) .eq (.d (mT pl fe)) (.d (.tup xs)) G = .ok (.d (.bl false)) G := by
  rw [eq_mT rfl, c30t hm]; rfl
theorem nl_mT (pl : List (List Int)) (fe : List Int) : nolistB (mT pl fe) = true := by
  have h1 := nolist_ints fe
  have h2 := nolist_map eT pl fun x _ => by show nolistB.nl (x.map .int) = true; exact nolist_ints x
  unfold mT
  simp only [nolistB, nolistB.nf, h1, h2, Bool.and_self]
/-- tolls of lists or tuples -/
theorem c45_eI {n : Nat} (hn : 1 < n) (l : List Int) (hl : l.length ≤ 10000) : (lvl T n).call 45 [eI l] = .ok (eT l) := c45_il hn l hl
theorem c45_eT {n : Nat} (hn : 1 < n) (l : List Int) (hl : l.length ≤ 10000) : (lvl T n).call 45 [eT l] = .ok (eT l) := c45_it hn l hl
theorem i3_ll {n : Nat} (hn : 3 < n) (pl : List (List Int)) (fe : List Int) (h1 : pl.length ≤ 10000) (h2 : ∀ r ∈ pl, r.length ≤ 10000) (h3 : fe.length ≤ 10000) : (lvl T n).init 3 [.lst (pl.map eI), .lst (fe.map .int)] = .ok (mT pl fe) :=
  i3 (α := Int) (β := Int) (by omega) .int .int pl fe _ _ (fun m hm => c45l _ _ pl h1 (by omega) fun k hk x hx => c45_eI (by omega) x (h2 x hx)) fun m hm => c45_il (by omega) fe h3
theorem i3_tl {n : Nat} (hn : 3 < n) (pl : List (List Int)) (fe : List Int) (h1 : pl.length ≤ 10000) (h2 : ∀ r ∈ pl, r.length ≤ 10000) (h3 : fe.length ≤ 10000) : (lvl T n).init 3 [.tup (pl.map eT), .lst (fe.map .int)] = .ok (mT pl fe) :=
  i3 (α := Int) (β := Int) (by omega) .int .int pl fe _ _ (fun m hm => c45t _ _ pl h1 (by omega) fun k hk x hx => c45_eT (by omega) x (h2 x hx)) fun m hm => c45_il (by omega) fe h3
theorem i3_lt {n : Nat} (hn : 3 < n) (pl : List (List Int)) (fe : List Int) (h1 : pl.length ≤ 10000) (h2 : ∀ r ∈ pl, r.length ≤ 10000) (h3 : fe.length ≤ 10000) : (lvl T n).init 3 [.lst (pl.map eT), .tup (fe.map .int)] = .ok (mT pl fe) :=
  i3 (α := Int) (β := Int) (by omega) .int .int pl fe _ _ (fun m hm => c45l _ _ pl h1 (by omega) fun k hk x hx => c45_eT (by omega) x (h2 x hx)) fun m hm => c45_it (by omega) fe h3
theorem i3_tlt {n : Nat} (hn : 3 < n) (pl : List (List Int)) (fe : List Int) (h1 : pl.length ≤ 10000) (h2 : ∀ r ∈ pl, r.length ≤ 10000) (h3 : fe.length ≤ 10000) : (lvl T n).init 3 [.tup (pl.map eI), .tup (fe.map .int)] = .ok (mT pl fe) :=
  i3 (α := Int) (β := Int) (by omega) .int .int pl fe _ _ (fun m hm => c45t _ _ pl h1 (by omega) fun k hk x hx => c45_eI (by omega) x (h2 x hx)) fun m hm => c45_it (by omega) fe h3
end Rw

end

-- part Qc
section
set_option Elab.async false
set_option linter.all false
set_option maxRecDepth 4000
namespace Rw
open Ev PySem
/-- what is asked of tolls: the judge and the law agree -/
def Agree (ns : List NetV) (ps : List ParV) (aw : List (List (List Way))) (pl : List (List Int)) (fe : List Int) : Prop := ∀ k : Nat, k < ps.length → (badT ns ps pl fe k ↔ gt (dues ps aw pl) (k : Int) > gt fe (k : Int))
theorem IsF.congr {n : Nat} {b c : Nat → Prop} (h : ∀ k, k < n → (b k ↔ c k)) {r : Option Int} (hr : IsF n b r) : IsF n c r := by
  cases r with
  | none => exact fun k hk hc => hr k hk ((h k hk).mpr hc)
  | some i =>
    obtain ⟨k, rfl, hk, hb, hj⟩ := hr
    exact ⟨k, rfl, hk, (h k hk).mp hb, fun j hjk hc => hj j hjk ((h j (by omega)).mpr hc)⟩
structure TOk (ns : List NetV) (ps : List ParV) (pl : List (List Int)) (fe : List Int) : Prop where
  p : PlOk ns pl
  f : fe.length = ps.length
  b : ∀ t ∈ pl, ∀ x ∈ t, 0 ≤ x ∧ x ≤ TB
theorem few {α : Type} (l : List α) (h1 : 1 ≤ l.length) (h3 : l.length ≤ 3) : (∃ a, l = [a]) ∨ (∃ a b, l = [a, b]) ∨ ∃ a b c, l = [a, b, c] := by
  match l, h1, h3 with
  | [a], _, _ => exact .inl ⟨a, rfl⟩
  | [a, b], _, _ => exact .inr (.inl ⟨a, b, rfl⟩)
  | [a, b, c], _, _ => exact .inr (.inr ⟨a, b, c, rfl⟩)
theorem c8 {n : Nat} (hn : 6 < n) (ns : List NetV) (ps : List ParV) (aw : List (List (List Way))) (pl : List (List Int)) (fe : List Int) (ds : List Int) (ho : OffOk ns ps) (ha : AwOk ns aw) (ht : TOk ns ps pl fe) (hg : Agree ns ps aw pl fe) (hds : ∀ d ∈ ds, 0 ≤ d ∧ d ≤ 10 ^ 21) :
    (lvl T n).call 8 [mO ns ps, eO ns ps, eAW aw, ePl pl, .lst (fe.map .int), .lst (ds.map .int)] = .ok (mT pl fe) := by
  have h8 := ho.p8
  have hfl := ht.f
  have hpl := ht.p.l
  have h1 := ho.n1
  have h3 := ho.n3
  have hrow : ∀ t ∈ pl, t.length ≤ 8 ∧ 1 ≤ t.length := fun t hm => by
    obtain ⟨j, hj⟩ := List.mem_iff_getElem?.mp hm
    have hjl := (List.getElem?_eq_some_iff.mp hj).1
    have := ht.p.r j (by omega)
    rw [gt_nat hj] at this
    have hv := ho.n _ (gt_mem (l := ns) (i := j) (by omega) (by omega))
    have := hv.w1
    have := hv.w8
    omega
  refine call_eq (by omega) (f := f8) rfl rfl fun m hm R hR => ?_
  obtain ⟨x1, e1, r1, rfl, hr1⟩ := c9 (n := m) (by omega) ns ps pl fe ho ht.p hfl
  obtain ⟨x2, e2, r2, rfl, hr2⟩ := c31 (n := m) (by omega) ns ps aw pl fe ho ha ht.p hfl
  have hrr : r1 = r2 := IsF.uniq (IsF.congr hg hr1) hr2
  subst hrr
  have hnl := nl_mT pl fe
  have hi3 := i3_ll (n := m) (by omega) pl fe (by omega) (fun r hr => by have := hrow r hr; omega) (by omega)
  have h33a : ∀ d ∈ ds, (lvl T m).call 33 [mO ns ps, mT pl fe, .int d] = .ok (.int (billOf ns ps pl fe d)) := fun d hd => c33 (by omega) ns ps pl fe d ho ht.b (hds d hd)
  have h34a : ∀ d ∈ ds, (lvl T m).call 34 [eO ns ps, ePl pl, .lst (fe.map .int), .int d] = .ok (.int (billOf ns ps pl fe d)) := fun d hd => c34 (by omega) ns ps pl fe d ho ht.p hfl ht.b (hds d hd)
  have hrows := c32_rows (n := m) (by omega) pl (by omega) (fun r hr => by have := hrow r hr; omega)
  have h32o := c32_opt (n := m) (by omega)
  have h32f := c32_ints (n := m) (by omega) fe (by omega)
  have h32i := c32_int (n := m) (by omega)
  obtain ⟨pl0, hpl0⟩ : ∃ q, q = pl := ⟨_, rfl⟩
  have h33 : ∀ d ∈ ds, (lvl T m).call 33 [mO ns ps, mT pl0 fe, .int d] = .ok (.int (billOf ns ps pl0 fe d)) := hpl0 ▸ h33a
  have h34 : ∀ d ∈ ds, (lvl T m).call 34 [eO ns ps, ePl pl0, .lst (fe.map .int), .int d] = .ok (.int (billOf ns ps pl0 fe d)) := hpl0 ▸ h34a
  have e3 : (lvl T m).call 9 [mO ns ps, mT pl0 fe] = .ok (eOI r1) := hpl0 ▸ e1
  rcases few pl (by omega) (by omega) with ⟨a, rfl⟩ | ⟨a, b, rfl⟩ | ⟨a, b, c, rfl⟩
  all_goals
    simp only [eI, eT, ePl, List.map_cons, List.map_nil] at hi3 e2 hrows
    simp only [List.mem_cons, List.not_mem_nil, or_false, forall_eq_or_imp, forall_eq] at hrow
    simp_all? [f8, f8_513, ePl, eI, hi3, e1, e2, h32o, at_mT7, at_mT8, eT, hrows, h32f]
    refine wp_eachD ds (fun k σ G => ∃ (s6 s9 s10 s11 : Option W) (G0 : Gs), σ = [some (.d (mO ns ps)), some (.d (eO ns ps)), some (.d (eAW aw)), some (.d (ePl pl0)), some (.d (.lst (fe.map .int))), some (.d (.lst (ds.map .int))), s6, some (.d (mT pl0 fe)), some (.d (eOI r1)), s9, s10, s11] ∧ G = G0) ?_ ?_ ?_
    · subst hpl0; exact ⟨_, _, _, _, _, rfl, rfl⟩
    · rintro k d σ G e ⟨s6, s9, s10, s11, G0, rfl, rfl⟩ R2 hR2
      have hd := List.mem_of_getElem? e
      simp_all? [f8_520, h33 d hd, h34 d hd, h32i]
      exact hR2 _ ⟨rfl, _, _, _, _, _, rfl, rfl⟩
    · rintro σ G ⟨s6, s9, s10, s11, G0, rfl, rfl⟩
      simp_all? [e3, h32o]
      exact hR _ (by subst hpl0; rfl)
end Rw

end

-- part Qd
section
set_option Elab.async false
set_option linter.all false
set_option maxRecDepth 4000
namespace Rw
open Ev PySem
def eTR (l : List I3) : D := .tup (l.map eR)
theorem eTR_inj (x y : List I3) (h : eTR x = eTR y) : x = y := by
  simp only [eTR, D.tup.injEq] at h
  exact map_inj eR_inj _ _ h
theorem plain_eTR (n : Nat) (x : List I3) : Ev.plain (n + 2) (eTR x) = true := by
  show (x.map eR).all (Ev.plain (n + 1)) = true
  rw [List.all_map]
  exact List.all_eq_true.mpr fun _ _ => plain_eR _ _
theorem ne_eTR {Φ : Fns} {G : Gs} (a b : List I3) : cmpW Φ .ne (.d (.tup (a.map eR))) (.d (.tup (b.map eR))) G = .ok (.d (.bl (decide (¬ a = b)))) G := cmp_ne_enc eTR_inj (plain_eTR 58) a b G
theorem ne_eT {Φ : Fns} {G : Gs} (a b : List Int) : cmpW Φ .ne (.d (.tup (a.map .int))) (.d (.tup (b.map .int))) G = .ok (.d (.bl (decide (¬ a = b)))) G := cmp_ne_enc eT_inj (plain_eT 59) a b G
theorem c13 {n : Nat} (hn : 0 < n) (ns : List NetV) (ps : List ParV) (ho : OffOk ns ps) : (lvl T n).call 13 [mO ns ps, eO ns ps] = .ok (.bl true) := by
  have h8 := ho.p8
  have h3 := ho.n3
  refine call_eq (by omega) (f := f13) rfl rfl fun m hm R hR => ?_
  dsimp? [f13]
  refine wp_range0 ns.length (by omega) (fun k σ G => ∃ (o2 o4 : Option W), σ = [some (.d (mO ns ps)), some (.d (eO ns ps)), o2, none, o4, none, none] ∧ G = []) ⟨none, none, rfl, rfl⟩ ?_ ?_
  · rintro k σ G hk ⟨o2, o4, rfl, rfl⟩ R2 hR2
    have hv := ho.n _ (gt_mem (l := ns) (i := k) (by omega) (by omega))
    have hw8 := hv.w8
    have hrl := roads_len (by omega) (fun x hx => ⟨(hv.r x hx).1, (hv.r x hx).2.1, (hv.r x hx).2.2.1⟩) hv.rs
    have hgl : ((gt ns (k : Int)).g.length : Int) ≤ (gt ns (k : Int)).w.length - 0 := inc_len _ 0 _ hv.gs hv.g (by omega)
    dsimp? [f13_420, ne_eT]
    rw [lcV (gt ns (k : Int)).r eR eR (by (dsimp? []; try rfl)) (fun x hx => by dsimp? []; rfl)]
    dsimp? [ne_eTR]
    exact hR2 _ ⟨rfl, _, _, rfl, rfl⟩
  · rintro σ G ⟨o2, o4, rfl, rfl⟩
    dsimp? []
    refine wp_range0 ps.length (by omega) (fun k σ G => ∃ (o3 o5 : Option W), σ = [some (.d (mO ns ps)), some (.d (eO ns ps)), o2, o3, o4, o5, none] ∧ G = []) ⟨_, _, rfl, rfl⟩ ?_ ?_
    · rintro k σ G hk ⟨o3, o5, rfl, rfl⟩ R2 hR2
      have hpl := (ho.p _ (gt_mem (l := ps) (i := k) (by omega) (by omega))).l
      dsimp? [f13_426, ne_eT]
      exact hR2 _ ⟨rfl, _, _, rfl, rfl⟩
    · rintro σ G ⟨o3, o5, rfl, rfl⟩
      dsimp? []
      exact hR _ rfl
def startsAt (ps : List ParV) (j : Nat) : List Int := ps.map fun p => gt p.s (j : Int)
def waysRow (v : NetV) (st : List Int) : List (List Way) := (List.range v.w.length).map fun (k : Nat) => if (k : Int) ∈ st then lawWays v k else []
def allWays (ns : List NetV) (ps : List ParV) : List (List (List Way)) := (List.range ns.length).map fun (j : Nat) => waysRow (gt ns (j : Int)) (startsAt ps j)
theorem c5 {n : Nat} (hn : 1 < n) (ns : List NetV) (ps : List ParV) (ho : OffOk ns ps) : (lvl T n).call 5 [eO ns ps] = .ok (eAW (allWays ns ps)) := by
  have h8 := ho.p8
  have h3 := ho.n3
  refine call_eq (by omega) (f := f5) rfl rfl fun m hm R hR => ?_
  dsimp? [f5]
  refine wp_range0 ns.length (by omega) (fun k σ G => ∃ (o2 o3 o4 o5 : Option W) (J : Gs), σ = [some (.d (eO ns ps)), some (.r 0), o2, o3, o4, o5, none] ∧ G = .sh (((allWays ns ps).take k).map eWss) :: J ∧ killT J = J) ⟨none, none, none, none, [], rfl, rfl, rfl⟩ ?_ ?_
  · rintro k σ G hk ⟨o2, o3, o4, o5, J, rfl, rfl, hJ⟩ R2 hR2
    have hv := ho.n _ (gt_mem (l := ns) (i := k) (by omega) (by omega))
    have hw8 := hv.w8
    have hal : (allWays ns ps).length = ns.length := by simp [allWays]
    have e2 : (allWays ns ps)[k]? = some (waysRow (gt ns (k : Int)) (startsAt ps k)) := by
      unfold allWays
      rw [List.getElem?_map, List.getElem?_range hk]; rfl
    dsimp? [f5_447]
    rw [lcV ps eP (fun p => .int (gt p.s (k : Int))) (by (dsimp? []; try rfl)) (fun p hp => by
      have hpl := (ho.p p hp).l
      dsimp? [])]
    have e : ps.map (fun p => D.int (gt p.s (k : Int))) = (startsAt ps k).map .int := by unfold startsAt; rw [List.map_map]; rfl
    rw [e]
    have hsl : (startsAt ps k).length ≤ 8 := by unfold startsAt; simp; omega
    dsimp? []
    refine wp_range0 (gt ns (k : Int)).w.length (by omega) (fun i σ G => ∃ (o5 : Option W), σ = [some (.d (eO ns ps)), some (.r 0), some (.d (.int k)), some (.d (.lst ((startsAt ps k).map .int))), some (.r (J.length + 1)), o5, none] ∧ G = .sh (((allWays ns ps).take k).map eWss) :: (J ++ [.sh (((waysRow (gt ns (k : Int)) (startsAt ps k)).take i).map eWs)])) ⟨_, rfl, rfl⟩ ?_ ?_
    · rintro i σ G hi ⟨o5, rfl, rfl⟩ R3 hR3
      have hwl : (waysRow (gt ns (k : Int)) (startsAt ps k)).length = (gt ns (k : Int)).w.length := by simp [waysRow]
      have e3 : (waysRow (gt ns (k : Int)) (startsAt ps k))[i]? = some (if (i : Int) ∈ startsAt ps k then lawWays (gt ns (k : Int)) i else []) := by
        unfold waysRow
        rw [List.getElem?_map, List.getElem?_range hi]; rfl
      by_cases hin : (i : Int) ∈ startsAt ps k
      · rw [if_pos hin] at e3
        dsimp? [f5_450, hin, (c27 (n := m) (by omega) (gt ns (k : Int)) hv i).1]
        refine hR3 _ ⟨rfl, _, rfl, congrArg _ (appE (congrArg Cell.sh ?_))⟩
        rw [take_map_succ e3]; rfl
      · rw [if_neg hin] at e3
        dsimp? [f5_450, hin]
        refine hR3 _ ⟨rfl, _, rfl, congrArg _ (appE (congrArg Cell.sh ?_))⟩
        rw [take_map_succ e3]; rfl
    · rintro σ G ⟨o5, rfl, rfl⟩
      dsimp? []
      refine hR2 _ ⟨rfl, _, _, _, _, _, rfl, consE (congrArg Cell.sh ?_), by simp only [kt_nil, kt_sh, kt_dp, kt_fz, kt_tp, kt_gone, kt_app, hJ]⟩
      rw [take_map_succ e2, List.take_of_length_le (l := waysRow (gt ns (k : Int)) (startsAt ps k)) (by simp [waysRow])]; rfl
  · rintro σ G ⟨o2, o3, o4, o5, J, rfl, rfl, hJ⟩
    rw [List.take_of_length_le (by simp [allWays])]
    dsimp? []
    exact hR _ rfl
end Rw

end

-- part Qe
section
set_option Elab.async false
set_option linter.all false
set_option maxRecDepth 4000
namespace Rw
open Ev PySem
theorem eI_inj (x y : List Int) (h : eI x = eI y) : x = y := by
  simp only [eI, D.lst.injEq] at h
  exact map_inj int_inj _ _ h
theorem plain_eI (n : Nat) (x : List Int) : Ev.plain (n + 1) (eI x) = true := plain_ints n x
theorem ne_eI {Φ : Fns} {G : Gs} (a b : List Int) : cmpW Φ .ne (.d (eI a)) (.d (eI b)) G = .ok (.d (.bl (decide (¬ a = b)))) G := cmp_ne_enc eI_inj (plain_eI 59) a b G
/-- other tolls of a good size -/
def Oth (pl rows : List (List Int)) : Prop := rows ≠ pl ∧ rows.length ≤ 10 ∧ ∀ r ∈ rows, r.length ≤ 20
theorem oth_of {pl rows : List (List Int)} (j : Nat) (h : rows[j]? ≠ pl[j]?) (h2 : rows.length ≤ 10) (h3 : ∀ r ∈ rows, r.length ≤ 20) : Oth pl rows := ⟨fun q => h (by rw [q]), h2, h3⟩
theorem cut_eI {l : List Int} {lo hi : Option Int} {G : Gs} (h : l.length ≤ 10000) : cutW 0 (.d (eI l)) lo hi G = .ok (.d (eI (cut l lo hi))) G := by
  unfold eI; rw [cut_lst (by simpa using (by omega : l.length ≤ 16777216)), cut_mapp]
theorem add_eI {Φ : Fns} {a b : List Int} {G : Gs} (h : a.length ≤ 10000) (h2 : b.length ≤ 10000) : binW Φ 0 .add (.d (eI a)) (.d (eI b)) G = .ok (.d (eI (a ++ b))) G := by
  unfold eI; rw [add_ll (by simp; omega), List.map_append]
theorem lst1_eI {x : Int} : D.lst [.int x] = eI [x] := rfl
theorem lst2_eI {x y : Int} : D.lst [.int x, .int y] = eI [x, y] := rfl
theorem cut_ePl {l : List (List Int)} {lo hi : Option Int} {G : Gs} (h : l.length ≤ 10000) : cutW 0 (.d (ePl l)) lo hi G = .ok (.d (ePl (cut l lo hi))) G := by
  unfold ePl; rw [cut_lst (by simpa using (by omega : l.length ≤ 16777216)), cut_mapp]
theorem add_ePl {Φ : Fns} {a b : List (List Int)} {G : Gs} (h : a.length ≤ 10000) (h2 : b.length ≤ 10000) : binW Φ 0 .add (.d (ePl a)) (.d (ePl b)) G = .ok (.d (ePl (a ++ b))) G := by
  unfold ePl; rw [add_ll (by simp; omega), List.map_append]
theorem lst1_ePl {x : List Int} : D.lst [eI x] = ePl [x] := rfl
theorem lst2_ePl {x y : List Int} : D.lst [eI x, eI y] = ePl [x, y] := rfl
theorem sub_ePl {l : List (List Int)} {i : Int} {G : Gs} (h0 : 0 ≤ i) (h1 : i < l.length) : subW (.d (ePl l)) (.d (.int i)) G = .ok (.d (eI (gt l i))) G := sub_lst eI h0 h1
theorem len_ePl {m : Nat} {G : Gs} (l : List (List Int)) : lenW (lvl T m) (.d (ePl l)) G = .ok (.d (.int l.length)) G := by unfold ePl; rw [len_lst, List.length_map]
theorem c48 {n : Nat} (hn : 0 < n) (pl : List (List Int)) (h3 : pl.length ≤ 3) (hr : ∀ r ∈ pl, 1 ≤ r.length ∧ r.length ≤ 8) : ∃ x, (lvl T n).call 48 [ePl pl] = .ok x ∧ ∃ l : List (List (List Int)), x = .lst (l.map ePl) ∧ l.length ≤ 100 ∧ ∀ rows ∈ l, Oth pl rows := by
  refine call_ret hn (f := f48) rfl rfl fun m hm R hR => ?_
  dsimp? [f48, len_ePl]
  refine wp_range0 pl.length (by omega) (fun k σ G => ∃ (o2 o3 o4 o5 : Option W) (l : List (List (List Int))), σ = [some (.d (ePl pl)), some (.r 0), o2, o3, o4, o5] ∧ G = [.sh (l.map ePl)] ∧ l.length ≤ 20 * k ∧ ∀ rows ∈ l, Oth pl rows) ⟨none, none, none, none, [], rfl, rfl, by simp, by simp⟩ ?_ ?_
  · rintro k σ G hk ⟨o2, o3, o4, o5, l, rfl, rfl, hl, hg⟩ R2 hR2
    have hrk := hr _ (gt_mem (l := pl) (i := k) (by omega) (by omega))
    have ek1 : pl[k]? = some (gt pl (k : Int)) := get_gt hk
    -- rows around k
    have mid : ∀ mids : List (List Int), mids.length ≤ 2 → (∀ r ∈ mids, r.length ≤ 20) → ∀ q : Nat, q ≤ 3 → (pl.take q ++ (mids ++ pl.drop (k + 1))).length ≤ 10 ∧ ∀ r ∈ pl.take q ++ (mids ++ pl.drop (k + 1)), r.length ≤ 20 := by
      intro mids h1 h2 q hq
      refine ⟨by simp; omega, fun r hrr => ?_⟩
      rcases List.mem_append.mp hrr with h | h
      · have := hr r (List.mem_of_mem_take h); omega
      · rcases List.mem_append.mp h with h | h
        · exact h2 r h
        · have := hr r (List.mem_of_mem_drop h); omega
    dsimp? [f48_528, sub_ePl]
    refine wp_range ((gt pl (k : Int)).length - 1) (lo := 1) (by omega) (fun i σ G => ∃ (o4 : Option W) (l : List (List (List Int))), σ = [some (.d (ePl pl)), some (.r 0), some (.d (.int k)), some (.d (eI (gt pl (k : Int)))), o4, o5] ∧ G = [.sh (l.map ePl)] ∧ l.length ≤ 20 * k + i ∧ ∀ rows ∈ l, Oth pl rows) ⟨_, l, rfl, rfl, by omega, hg⟩ ?_ ?_
    · rintro i σ G hi ⟨o4, l, rfl, rfl, hl, hg⟩ R3 hR3
      dsimp? [f48_530, ne_eI, sub_ePl]
      refine wp_ifd (fun hc => ?_) (fun hc => ?_)
      · dsimp? [cut_eI, add_eI, lst1_eI, lst2_eI, cut_ePl, add_ePl, lst1_ePl, lst2_ePl]
        have t1 : (1 + (i : Int) - 1).toNat = i := by omega
        have t2 : ((k : Int) + 1).toNat = k + 1 := by omega
        have t3 : (1 + (i : Int) + 1).toNat = i + 2 := by omega
        refine hR3 _ ⟨rfl, some (.d (.int (1 + i))), l ++ [_], rfl, by rw [List.map_append]; rfl, by simp; omega, fun rows hrows => ?_⟩
        rcases List.mem_append.mp hrows with h | h
        · exact hg rows h
        rw [List.mem_singleton] at h
        subst h
        rw [t1, t2, t3]
        have hm := mid [(gt pl (k : Int)).take i ++ gt (gt pl (k : Int)) (1 + i) :: gt (gt pl (k : Int)) (1 + i - 1) :: (gt pl (k : Int)).drop (i + 2)] (by simp) (by simp; omega) k (by omega)
        refine oth_of k ?_ hm.1 hm.2
        rw [ek1, List.getElem?_append_right (by simp; omega)]
        simp only [List.length_take, Nat.min_eq_left (Nat.le_of_lt hk), Nat.sub_self, List.getElem?_cons_zero, ne_eq, Option.some.injEq]
        intro q
        have q2 : ((gt pl (k : Int)).take i ++ gt (gt pl (k : Int)) (1 + i) :: gt (gt pl (k : Int)) (1 + i - 1) :: (gt pl (k : Int)).drop (i + 2))[i]? = (gt pl (k : Int))[i]? := by rw [q]
        rw [List.getElem?_append_right (by simp; omega)] at q2
        simp only [List.length_take] at q2
        rw [Nat.min_eq_left (by omega), Nat.sub_self, List.getElem?_cons_zero, get_gt (by omega)] at q2
        simp only [Option.some.injEq] at q2
        apply hc
        rw [q2]
        congr 1; omega
      · dsimp? []
        exact hR3 _ ⟨rfl, some (.d (.int (1 + i))), l, rfl, rfl, by omega, hg⟩
    · rintro σ G ⟨o4, l, rfl, rfl, hl, hg⟩
      dsimp? [ne_eI, sub_ePl]
      refine wp_ifd (fun h0 => ?_) (fun h0 => ?_)
      · have hrp := hr _ (gt_mem (l := pl) (i := (k : Int) - 1) (by omega) (by omega))
        have ek0 : pl[k - 1]? = some (gt pl ((k : Int) - 1)) := by
          have := get_gt (l := pl) (k := k - 1) (by omega)
          rwa [show ((k - 1 : Nat) : Int) = (k : Int) - 1 by omega] at this
        have t1 : ((k : Int) - 1).toNat = k - 1 := by omega
        have t2 : ((k : Int) + 1).toNat = k + 1 := by omega
        have last : ∀ (l : List (List (List Int))) , l.length ≤ 20 * k + 10 → (∀ rows ∈ l, Oth pl rows) → Wp ((condS (.ok (.d (.bl (decide (¬ gt pl ((k : Int) - 1) = gt pl (k : Int))))) [.sh (l.map ePl)]) [some (.d (ePl pl)), some (.r 0), some (.d (.int k)), some (.d (eI (gt pl (k : Int)))), o4, some (.d (eI (gt pl ((k : Int) - 1))))]
            (KIf (lvl T m) 1 [some (.d (ePl pl)), some (.r 0), some (.d (.int k)), some (.d (eI (gt pl (k : Int)))), o4, some (.d (eI (gt pl ((k : Int) - 1))))] [S.expr (E.mth BM.append (E.var 1) [E.bin false BO.add (E.bin false BO.add (E.sli 0 (E.var 0) none (some (E.bin false BO.sub (E.var 2) (E.lit (D.int 1))))) (E.lst 0 [E.var 3, E.var 5])) (E.sli 0 (E.var 0) (some (E.bin false BO.add (E.var 2) (E.lit (D.int 1)))) none)])])
            (KIf (lvl T m) 1 [some (.d (ePl pl)), some (.r 0), some (.d (.int k)), some (.d (eI (gt pl (k : Int)))), o4, some (.d (eI (gt pl ((k : Int) - 1))))] [])).andThen (KTh (KS (lvl T m) 1 []) (KS (lvl T m) 1 []))) R2 := by
          intro l hl hg
          refine wp_ifd (fun hc => ?_) (fun hc => ?_)
          · dsimp? [cut_eI, add_eI, lst1_eI, lst2_eI, cut_ePl, add_ePl, lst1_ePl, lst2_ePl]
            refine hR2 _ ⟨rfl, _, _, _, _, l ++ [_], rfl, by rw [List.map_append]; rfl, by simp; omega, fun rows hrows => ?_⟩
            rcases List.mem_append.mp hrows with h | h
            · exact hg rows h
            rw [List.mem_singleton] at h
            subst h
            rw [t1, t2]
            have hm := mid [gt pl (k : Int), gt pl ((k : Int) - 1)] (by simp) (by simp; omega) (k - 1) (by omega)
            refine oth_of (k - 1) ?_ hm.1 hm.2
            rw [ek0, List.getElem?_append_right (by simp; omega)]
            simp only [List.length_take, Nat.min_eq_left (show k - 1 ≤ pl.length by omega), Nat.sub_self, List.getElem?_cons_zero, ne_eq, Option.some.injEq]
            exact fun q => hc q.symm
          · dsimp? []
            exact hR2 _ ⟨rfl, _, _, _, _, l, rfl, rfl, by omega, hg⟩
        dsimp? [ne_eI, sub_ePl, len_eI]
        refine wp_ifd (fun h1 => ?_) (fun h1 => ?_)
        · dsimp? [cut_eI, add_eI, lst1_eI, lst2_eI, cut_ePl, add_ePl, lst1_ePl, lst2_ePl, ne_eI]
          have hlast := last (l ++ [pl.take ((k : Int) - 1).toNat ++ (gt pl ((k : Int) - 1)).take ((gt pl ((k : Int) - 1)).length - 1 : Int).toNat :: (gt (gt pl ((k : Int) - 1)) ((gt pl ((k : Int) - 1)).length - 1) :: gt pl (k : Int)) :: pl.drop ((k : Int) + 1).toNat]) (by simp; omega) (fun rows hrows => by
            rcases List.mem_append.mp hrows with h | h
            · exact hg rows h
            rw [List.mem_singleton] at h
            subst h
            rw [t1, t2]
            have hm := mid [(gt pl ((k : Int) - 1)).take ((gt pl ((k : Int) - 1)).length - 1 : Int).toNat, gt (gt pl ((k : Int) - 1)) ((gt pl ((k : Int) - 1)).length - 1) :: gt pl (k : Int)] (by simp) (by simp; omega) (k - 1) (by omega)
            refine oth_of (k - 1) ?_ hm.1 hm.2
            rw [ek0, List.getElem?_append_right (by simp; omega)]
            simp only [List.length_take, Nat.min_eq_left (show k - 1 ≤ pl.length by omega), Nat.sub_self, List.getElem?_cons_zero, ne_eq, Option.some.injEq]
            intro q
            have := congrArg List.length q
            rw [List.length_take] at this
            omega)
          rw [List.map_append] at hlast
          exact hlast
        · dsimp? [ne_eI]
          exact last l (by omega) hg
      · dsimp? []
        exact hR2 _ ⟨rfl, _, _, _, _, l, rfl, rfl, by omega, hg⟩
  · rintro σ G ⟨o2, o3, o4, o5, l, rfl, rfl, hl, hg⟩
    dsimp? []
    exact hR _ _ rfl ⟨l, rfl, by omega, hg⟩
end Rw

end

-- part Qf
section
set_option Elab.async false
set_option linter.all false
set_option maxRecDepth 4000
namespace Rw
open Ev PySem
theorem list_eI {Φ : Fns} {G : Gs} {l : List Int} (h : l.length ≤ 10000) : bltW Φ 0 .list [.d (eI l)] G = .ok (.d (eI l)) G := list_lst0 _ (by simp; omega)
theorem tuple_eI {Φ : Fns} {G : Gs} {l : List Int} (h : l.length ≤ 10000) : bltW Φ 0 .tuple [.d (eI l)] G = .ok (.d (eT l)) G := tuple_lst _ (by simp; omega)
theorem list_eI1 {Φ : Fns} {G : Gs} {l : List Int} (h : l.length ≤ 10000) : bltW Φ 1 .list [.d (eI l)] G = .ok (.r G.length) (G ++ [.sh (l.map .int)]) := list_lst1 _ (by simp; omega)
theorem eqT_ne {m : Nat} (hm : 0 < m) {pl pl2 : List (List Int)} {fe fe2 : List Int} (h : ¬ (pl = pl2 ∧ fe = fe2)) {G : Gs} : cmpW (lvl T m) .eq (.d (mT pl fe)) (.d (mT pl2 fe2)) G = .ok (.d (.bl false)) G := by
  rw [eqT_T hm, decide_eq_false h]
theorem eqT_eq {m : Nat} (hm : 0 < m) {pl : List (List Int)} {fe : List Int} {G : Gs} : cmpW (lvl T m) .eq (.d (mT pl fe)) (.d (mT pl fe)) G = .ok (.d (.bl true)) G := by
  rw [eqT_T hm]; simp
theorem c37 {n : Nat} (hn : 4 < n) (pl : List (List Int)) (fe : List Int) (h3 : pl.length ≤ 3) (hr : ∀ r ∈ pl, 1 ≤ r.length ∧ r.length ≤ 8) (h8 : fe.length ≤ 8) : (lvl T n).call 37 [mT pl fe, ePl pl, .lst (fe.map .int)] = .ok (.bl true) := by
  refine call_eq (by omega) (f := f37) rfl rfl fun m hm R hR => ?_
  obtain ⟨x, e1, l, rfl, hll, hl⟩ := c48 (n := m) (by omega) pl h3 hr
  dsimp? [f37, e1]
  refine wp_eachD l (fun k σ G => ∃ (o3 o5 : Option W), σ = [some (.d (mT pl fe)), some (.d (ePl pl)), some (.d (.lst (fe.map .int))), o3, none, o5, none, none] ∧ G = []) ⟨none, none, rfl, rfl⟩ ?_ ?_
  · rintro k rows σ G e ⟨o3, o5, rfl, rfl⟩ R2 hR2
    obtain ⟨g1, g2, g3⟩ := hl rows (List.mem_of_getElem? e)
    dsimp? [f37_541]
    rw [lcV rows eI eI (by (dsimp? [ePl]; try rfl)) (fun x hx => by
      have := g3 x hx
      dsimp? [list_eI])]
    have ne1 : ¬ (pl = rows ∧ fe = fe) := fun q => g1 q.1.symm
    have ne2 : ¬ (rows = pl ∧ fe = fe) := fun q => g1 q.1
    dsimp? [i3_ll (n := m) (by omega) rows fe (by omega) (fun r hr => by have := g3 r hr; omega) (by omega), eqT_ne (m := m) (by omega) ne1, eqT_ne (m := m) (by omega) ne2, beq_self_eq_true]
    exact hR2 _ ⟨rfl, _, _, rfl, rfl⟩
  · rintro σ G ⟨o3, o5, rfl, rfl⟩
    dsimp? []
    by_cases hf0 : fe.length = 0
    · have : fe = [] := List.eq_nil_of_length_eq_zero hf0
      subst this
      dsimp? []
      have : rangeIt 1 ((0 : Nat) : Int) = [] := rfl
      rw [this]
      simp_all? []
      exact hR _ rfl
    refine wp_range (fe.length - 1) (lo := 1) (by omega) (fun k σ G => ∃ (o4 o6 : Option W), σ = [some (.d (mT pl fe)), some (.d (ePl pl)), some (.d (.lst (fe.map .int))), o3, o4, o5, o6, none] ∧ G = []) ⟨none, none, rfl, rfl⟩ ?_ ?_
    · rintro i σ G hi ⟨o4, o6, rfl, rfl⟩ R2 hR2
      dsimp? [f37_545]
      refine wp_ifd (fun hc => ?_) (fun hc => ?_)
      · dsimp? []
        rw [lcV pl eI eI (by (dsimp? [ePl]; try rfl)) (fun x hx => by
          have := hr x hx
          dsimp? [list_eI])]
        have t1 : (1 + (i : Int) - 1).toNat = i := by omega
        have t3 : (1 + (i : Int) + 1).toNat = i + 2 := by omega
        have e5 : (List.map D.int (fe.take i) ++ D.int (gt fe (1 + i)) :: D.int (gt fe (1 + i - 1)) :: List.map D.int (fe.drop (i + 2))) = List.map D.int (fe.take i ++ gt fe (1 + i) :: gt fe (1 + i - 1) :: fe.drop (i + 2)) := by simp
        have hne : fe ≠ fe.take i ++ gt fe (1 + i) :: gt fe (1 + i - 1) :: fe.drop (i + 2) := by
          intro q
          have q2 : (fe.take i ++ gt fe (1 + i) :: gt fe (1 + i - 1) :: fe.drop (i + 2))[i]? = fe[i]? := by rw [← q]
          rw [List.getElem?_append_right (by simp; omega)] at q2
          simp only [List.length_take] at q2
          rw [Nat.min_eq_left (by omega), Nat.sub_self, List.getElem?_cons_zero, get_gt (by omega)] at q2
          simp only [Option.some.injEq] at q2
          apply hc
          rw [q2]
          congr 1; omega
        have ne1 : ¬ (pl = pl ∧ fe = fe.take i ++ gt fe (1 + i) :: gt fe (1 + i - 1) :: fe.drop (i + 2)) := fun q => hne q.2
        have ne2 : ¬ (pl = pl ∧ fe.take i ++ gt fe (1 + i) :: gt fe (1 + i - 1) :: fe.drop (i + 2) = fe) := fun q => hne q.2.symm
        dsimp? [t1, t3, e5]
        dsimp? [i3_ll (n := m) (by omega) pl (fe.take i ++ gt fe (1 + i) :: gt fe (1 + i - 1) :: fe.drop (i + 2)) (by omega) (fun r hr2 => by have := hr r hr2; omega) (by simp; omega), eqT_ne (m := m) (by omega) ne1, eqT_ne (m := m) (by omega) ne2, beq_self_eq_true]
        exact hR2 _ ⟨rfl, _, _, rfl, rfl⟩
      · dsimp? []
        exact hR2 _ ⟨rfl, _, _, rfl, rfl⟩
    · rintro σ G ⟨o4, o6, rfl, rfl⟩
      dsimp? []
      exact hR _ rfl
end Rw

end

-- part Qg
section
set_option Elab.async false
set_option linter.all false
set_option maxRecDepth 4000
namespace Rw
open Ev PySem
theorem c36 {n : Nat} (hn : 6 < n) (pl : List (List Int)) (fe : List Int) (h1 : 1 ≤ pl.length) (h3 : pl.length ≤ 3) (hr : ∀ r ∈ pl, 1 ≤ r.length ∧ r.length ≤ 8) (h8 : fe.length ≤ 8) : (lvl T n).call 36 [mT pl fe, ePl pl, .lst (fe.map .int)] = .ok (.bl true) := by
  refine call_eq (by omega) (f := f36) rfl rfl fun m hm R hR => ?_
  have hrl : ∀ r ∈ pl, r.length ≤ 10000 := fun r h => by have := hr r h; omega
  have a1 := i3_tlt (n := m) (by omega) pl fe (by omega) hrl (by omega)
  have a2 := i3_tl (n := m) (by omega) pl fe (by omega) hrl (by omega)
  have a3 := i3_lt (n := m) (by omega) pl fe (by omega) hrl (by omega)
  have hrows := c32_rows (n := m) (by omega) pl (by omega) hrl
  have h32f := c32_ints (n := m) (by omega) fe (by omega)
  have hnl := nl_mT pl fe
  rcases few pl h1 h3 with ⟨a, rfl⟩ | ⟨a, b, rfl⟩ | ⟨a, b, c, rfl⟩
  all_goals
    simp only [eI, eT, List.map_cons, List.map_nil] at a1 a2 a3 hrows
    simp only [List.mem_cons, List.not_mem_nil, or_false, forall_eq_or_imp, forall_eq] at hr
    simp_all? [f36, f36_554, f36_559, ePl, eI, a1, a2, a3, at_mT7, at_mT8, eT, hrows, h32f, eqT_eq (m := m) (by omega), beq_self_eq_true]
    exact hR _ rfl
end Rw

end

-- part Qh
section
set_option Elab.async false
set_option linter.all false
set_option maxRecDepth 4000
namespace Rw
open Ev PySem
theorem set_int (l : List Int) (i : Nat) (x : Int) : (l.map D.int).set i (.int x) = (l.set i x).map .int := by rw [List.map_set]
theorem set_ne {l : List Int} {i : Int} {d : Int} (h0 : 0 ≤ i) (h1 : i < l.length) (hd : d ≠ 0) : l.set i.toNat (gt l i + d) ≠ l := by
  intro q
  have e := gt_get h0 h1
  have q2 : (l.set i.toNat (gt l i + d))[i.toNat]? = l[i.toNat]? := by rw [q]
  rw [List.getElem?_set_self (by omega), e] at q2
  simp only [Option.some.injEq] at q2
  omega
theorem c12 {n : Nat} (hn : 7 < n) (ns : List NetV) (ps : List ParV) (pl : List (List Int)) (fe : List Int) (pk : List Int) (h1 : 1 ≤ pl.length) (h3 : pl.length ≤ 3) (hr : ∀ r ∈ pl, 1 ≤ r.length ∧ r.length ≤ 8) (h8 : fe.length ≤ 8) (hpk : 3 ≤ pk.length) (hpos : ∀ x ∈ pk, 0 ≤ x) : (lvl T n).call 12 [mT pl fe, mO ns ps, ePl pl, .lst (fe.map .int), .lst (pk.map .int)] = .ok (.bl true) := by
  refine call_eq (by omega) (f := f12) rfl rfl fun m hm R hR => ?_
  have hrl : ∀ r ∈ pl, r.length ≤ 10000 := fun r h => by have := hr r h; omega
  have a36 := c36 (n := m) (by omega) pl fe h1 h3 hr h8
  have a37 := c37 (n := m) (by omega) pl fe h3 hr h8
  have p0 := hpos _ (gt_mem (l := pk) (i := 0) (by omega) (by omega))
  have p1 := hpos _ (gt_mem (l := pk) (i := 1) (by omega) (by omega))
  have p2 := hpos _ (gt_mem (l := pk) (i := 2) (by omega) (by omega))
  have oth : ∀ pl2 : List (List Int), pl2.length ≤ 4 → (∀ r ∈ pl2, r.length ≤ 8) → ∀ fe2 : List Int, fe2.length ≤ 9 → (lvl T m).init 3 [ePl pl2, .lst (fe2.map .int)] = .ok (mT pl2 fe2) := fun pl2 g1 g2 fe2 g3 => i3_ll (by omega) pl2 fe2 (by omega) (fun r h => by have := g2 r h; omega) (by omega)
  have o3 := oth pl (by omega) (fun r h => (hr r h).2) (fe ++ [0]) (by simp; omega)
  have n3 : ¬ (pl = pl ∧ fe ++ [0] = fe) := fun q => by have := congrArg List.length q.2; simp at this
  obtain ⟨q, hq⟩ : ∃ q, q = gt pk 2 % (fe.length : Int) := ⟨_, rfl⟩
  have hq1 : 0 < (fe.length : Int) → 0 ≤ q ∧ q < fe.length := fun h => hq ▸ ⟨Int.emod_nonneg _ (by omega), Int.emod_lt_of_pos _ h⟩
  have o4 := oth pl (by omega) (fun r h => (hr r h).2) (fe.set q.toNat (gt fe q + 1)) (by simp; omega)
  have n4 : 0 < (fe.length : Int) → fe.set q.toNat (gt fe q + 1) ≠ fe := fun h => set_ne (hq1 h).1 (hq1 h).2 (by omega)
  rcases few pl h1 h3 with ⟨a, rfl⟩ | ⟨a, b, rfl⟩ | ⟨a, b, c, rfl⟩
  · have hat : gt pk 0 % 1 = 0 := by omega
    simp only [List.mem_cons, List.not_mem_nil, or_false, forall_eq_or_imp, forall_eq] at hr
    obtain ⟨sp, hsp⟩ : ∃ q, q = gt pk 1 % (a.length : Int) := ⟨_, rfl⟩
    have hsp1 : 0 ≤ sp ∧ sp < a.length := hsp ▸ ⟨Int.emod_nonneg _ (by omega), Int.emod_lt_of_pos _ (by omega)⟩
    have nr : a.set sp.toNat (gt a sp + 1) ≠ a := set_ne hsp1.1 hsp1.2 (by omega)
    have o1 := oth [a.set sp.toNat (gt a sp + 1)] (by simp) (by simp; omega) fe (by omega)
    have n1 : ¬ ([a] = [a.set sp.toNat (gt a sp + 1)] ∧ fe = fe) := fun q => by
      have := q.1; simp only [List.cons.injEq, and_true, true_and] at this; exact nr this.symm
    have n1' : ¬ ([a.set sp.toNat (gt a sp + 1)] = [a] ∧ fe = fe) := fun q => by
      have := q.1; simp only [List.cons.injEq, and_true, true_and] at this; exact nr this
    have o2 := oth ([a] ++ [[0]]) (by simp) (by simp; omega) fe (by omega)
    have n2 : ¬ ([a] = [a, [0]] ∧ fe = fe) := fun q => by have := congrArg List.length q.1; simp at this
    simp only [ePl, eI, List.map_cons, List.map_nil, List.map_append, List.cons_append, List.nil_append] at o1 o2 o3 o4 a36 a37
    simp_all? [f12, at_mT7, at_mT8, ePl, eI, a36, a37, eqT_O (m := m) (by omega), eqT_t (m := m) (by omega), beq_self_eq_true, hat, ← hsp, set_int, o1, eqT_ne (m := m) (by omega) n1, eqT_ne (m := m) (by omega) n1', o2, eqT_ne (m := m) (by omega) n2, o3, eqT_ne (m := m) (by omega) n3]
    refine wp_ifd (fun hq0 => ?_) (fun hq0 => ?_)
    · have hqq := hq1 hq0
      have n4' := n4 hq0
      have n5 : ¬ ([a] = [a] ∧ fe = fe.set q.toNat (gt fe q + 1)) := fun z => n4' z.2.symm
      have n6 : ¬ ([a] = [a] ∧ fe.set q.toNat (gt fe q + 1) = fe) := fun z => n4' z.2
      have n7 : ¬ ([a] = [a.set sp.toNat (gt a sp + 1)] ∧ fe.set q.toNat (gt fe q + 1) = fe) := fun z => n4' z.2
      simp_all? [← hq, set_int, o4, ePl, eI, eqT_ne (m := m) (by omega) n5, eqT_ne (m := m) (by omega) n6, eqT_ne (m := m) (by omega) n7, beq_self_eq_true]
      exact hR _ rfl
    · simp_all? []
      exact hR _ rfl
  · rcases (show gt pk 0 % 2 = 0 ∨ gt pk 0 % 2 = 1 by omega) with hat | hat
    · simp only [List.mem_cons, List.not_mem_nil, or_false, forall_eq_or_imp, forall_eq] at hr
      obtain ⟨sp, hsp⟩ : ∃ q, q = gt pk 1 % (a.length : Int) := ⟨_, rfl⟩
      have hsp1 : 0 ≤ sp ∧ sp < a.length := hsp ▸ ⟨Int.emod_nonneg _ (by omega), Int.emod_lt_of_pos _ (by omega)⟩
      have nr : a.set sp.toNat (gt a sp + 1) ≠ a := set_ne hsp1.1 hsp1.2 (by omega)
      have o1 := oth [a.set sp.toNat (gt a sp + 1), b] (by simp) (by simp; omega) fe (by omega)
      have n1 : ¬ ([a, b] = [a.set sp.toNat (gt a sp + 1), b] ∧ fe = fe) := fun q => by
        have := q.1; simp only [List.cons.injEq, and_true, true_and] at this; exact nr this.symm
      have n1' : ¬ ([a.set sp.toNat (gt a sp + 1), b] = [a, b] ∧ fe = fe) := fun q => by
        have := q.1; simp only [List.cons.injEq, and_true, true_and] at this; exact nr this
      have o2 := oth ([a, b] ++ [[0]]) (by simp) (by simp; omega) fe (by omega)
      have n2 : ¬ ([a, b] = [a, b, [0]] ∧ fe = fe) := fun q => by have := congrArg List.length q.1; simp at this
      simp only [ePl, eI, List.map_cons, List.map_nil, List.map_append, List.cons_append, List.nil_append] at o1 o2 o3 o4 a36 a37
      simp_all? [f12, at_mT7, at_mT8, ePl, eI, a36, a37, eqT_O (m := m) (by omega), eqT_t (m := m) (by omega), beq_self_eq_true, hat, ← hsp, set_int, o1, eqT_ne (m := m) (by omega) n1, eqT_ne (m := m) (by omega) n1', o2, eqT_ne (m := m) (by omega) n2, o3, eqT_ne (m := m) (by omega) n3]
      refine wp_ifd (fun hq0 => ?_) (fun hq0 => ?_)
      · have hqq := hq1 hq0
        have n4' := n4 hq0
        have n5 : ¬ ([a, b] = [a, b] ∧ fe = fe.set q.toNat (gt fe q + 1)) := fun z => n4' z.2.symm
        have n6 : ¬ ([a, b] = [a, b] ∧ fe.set q.toNat (gt fe q + 1) = fe) := fun z => n4' z.2
        have n7 : ¬ ([a, b] = [a.set sp.toNat (gt a sp + 1), b] ∧ fe.set q.toNat (gt fe q + 1) = fe) := fun z => n4' z.2
        simp_all? [← hq, set_int, o4, ePl, eI, eqT_ne (m := m) (by omega) n5, eqT_ne (m := m) (by omega) n6, eqT_ne (m := m) (by omega) n7, beq_self_eq_true]
        exact hR _ rfl
      · simp_all? []
        exact hR _ rfl
    · simp only [List.mem_cons, List.not_mem_nil, or_false, forall_eq_or_imp, forall_eq] at hr
      obtain ⟨sp, hsp⟩ : ∃ q, q = gt pk 1 % (b.length : Int) := ⟨_, rfl⟩
      have hsp1 : 0 ≤ sp ∧ sp < b.length := hsp ▸ ⟨Int.emod_nonneg _ (by omega), Int.emod_lt_of_pos _ (by omega)⟩
      have nr : b.set sp.toNat (gt b sp + 1) ≠ b := set_ne hsp1.1 hsp1.2 (by omega)
      have o1 := oth [a, b.set sp.toNat (gt b sp + 1)] (by simp) (by simp; omega) fe (by omega)
      have n1 : ¬ ([a, b] = [a, b.set sp.toNat (gt b sp + 1)] ∧ fe = fe) := fun q => by
        have := q.1; simp only [List.cons.injEq, and_true, true_and] at this; exact nr this.symm
      have n1' : ¬ ([a, b.set sp.toNat (gt b sp + 1)] = [a, b] ∧ fe = fe) := fun q => by
        have := q.1; simp only [List.cons.injEq, and_true, true_and] at this; exact nr this
      have o2 := oth ([a, b] ++ [[0]]) (by simp) (by simp; omega) fe (by omega)
      have n2 : ¬ ([a, b] = [a, b, [0]] ∧ fe = fe) := fun q => by have := congrArg List.length q.1; simp at this
      simp only [ePl, eI, List.map_cons, List.map_nil, List.map_append, List.cons_append, List.nil_append] at o1 o2 o3 o4 a36 a37
      simp_all? [f12, at_mT7, at_mT8, ePl, eI, a36, a37, eqT_O (m := m) (by omega), eqT_t (m := m) (by omega), beq_self_eq_true, hat, ← hsp, set_int, o1, eqT_ne (m := m) (by omega) n1, eqT_ne (m := m) (by omega) n1', o2, eqT_ne (m := m) (by omega) n2, o3, eqT_ne (m := m) (by omega) n3]
      refine wp_ifd (fun hq0 => ?_) (fun hq0 => ?_)
      · have hqq := hq1 hq0
        have n4' := n4 hq0
        have n5 : ¬ ([a, b] = [a, b] ∧ fe = fe.set q.toNat (gt fe q + 1)) := fun z => n4' z.2.symm
        have n6 : ¬ ([a, b] = [a, b] ∧ fe.set q.toNat (gt fe q + 1) = fe) := fun z => n4' z.2
        have n7 : ¬ ([a, b] = [a, b.set sp.toNat (gt b sp + 1)] ∧ fe.set q.toNat (gt fe q + 1) = fe) := fun z => n4' z.2
        simp_all? [← hq, set_int, o4, ePl, eI, eqT_ne (m := m) (by omega) n5, eqT_ne (m := m) (by omega) n6, eqT_ne (m := m) (by omega) n7, beq_self_eq_true]
        exact hR _ rfl
      · simp_all? []
        exact hR _ rfl
  · rcases (show gt pk 0 % 3 = 0 ∨ gt pk 0 % 3 = 1 ∨ gt pk 0 % 3 = 2 by omega) with hat | hat | hat
    · simp only [List.mem_cons, List.not_mem_nil, or_false, forall_eq_or_imp, forall_eq] at hr
      obtain ⟨sp, hsp⟩ : ∃ q, q = gt pk 1 % (a.length : Int) := ⟨_, rfl⟩
      have hsp1 : 0 ≤ sp ∧ sp < a.length := hsp ▸ ⟨Int.emod_nonneg _ (by omega), Int.emod_lt_of_pos _ (by omega)⟩
      have nr : a.set sp.toNat (gt a sp + 1) ≠ a := set_ne hsp1.1 hsp1.2 (by omega)
      have o1 := oth [a.set sp.toNat (gt a sp + 1), b, c] (by simp) (by simp; omega) fe (by omega)
      have n1 : ¬ ([a, b, c] = [a.set sp.toNat (gt a sp + 1), b, c] ∧ fe = fe) := fun q => by
        have := q.1; simp only [List.cons.injEq, and_true, true_and] at this; exact nr this.symm
      have n1' : ¬ ([a.set sp.toNat (gt a sp + 1), b, c] = [a, b, c] ∧ fe = fe) := fun q => by
        have := q.1; simp only [List.cons.injEq, and_true, true_and] at this; exact nr this
      have o2 : True := trivial
      have n2 : True := trivial
      simp only [ePl, eI, List.map_cons, List.map_nil, List.map_append, List.cons_append, List.nil_append] at o1 o2 o3 o4 a36 a37
      simp_all? [f12, at_mT7, at_mT8, ePl, eI, a36, a37, eqT_O (m := m) (by omega), eqT_t (m := m) (by omega), beq_self_eq_true, hat, ← hsp, set_int, o1, eqT_ne (m := m) (by omega) n1, eqT_ne (m := m) (by omega) n1', o2, o3, eqT_ne (m := m) (by omega) n3]
      refine wp_ifd (fun hq0 => ?_) (fun hq0 => ?_)
      · have hqq := hq1 hq0
        have n4' := n4 hq0
        have n5 : ¬ ([a, b, c] = [a, b, c] ∧ fe = fe.set q.toNat (gt fe q + 1)) := fun z => n4' z.2.symm
        have n6 : ¬ ([a, b, c] = [a, b, c] ∧ fe.set q.toNat (gt fe q + 1) = fe) := fun z => n4' z.2
        have n7 : ¬ ([a, b, c] = [a.set sp.toNat (gt a sp + 1), b, c] ∧ fe.set q.toNat (gt fe q + 1) = fe) := fun z => n4' z.2
        simp_all? [← hq, set_int, o4, ePl, eI, eqT_ne (m := m) (by omega) n5, eqT_ne (m := m) (by omega) n6, eqT_ne (m := m) (by omega) n7, beq_self_eq_true]
        exact hR _ rfl
      · simp_all? []
        exact hR _ rfl
    · simp only [List.mem_cons, List.not_mem_nil, or_false, forall_eq_or_imp, forall_eq] at hr
      obtain ⟨sp, hsp⟩ : ∃ q, q = gt pk 1 % (b.length : Int) := ⟨_, rfl⟩
      have hsp1 : 0 ≤ sp ∧ sp < b.length := hsp ▸ ⟨Int.emod_nonneg _ (by omega), Int.emod_lt_of_pos _ (by omega)⟩
      have nr : b.set sp.toNat (gt b sp + 1) ≠ b := set_ne hsp1.1 hsp1.2 (by omega)
      have o1 := oth [a, b.set sp.toNat (gt b sp + 1), c] (by simp) (by simp; omega) fe (by omega)
      have n1 : ¬ ([a, b, c] = [a, b.set sp.toNat (gt b sp + 1), c] ∧ fe = fe) := fun q => by
        have := q.1; simp only [List.cons.injEq, and_true, true_and] at this; exact nr this.symm
      have n1' : ¬ ([a, b.set sp.toNat (gt b sp + 1), c] = [a, b, c] ∧ fe = fe) := fun q => by
        have := q.1; simp only [List.cons.injEq, and_true, true_and] at this; exact nr this
      have o2 : True := trivial
      have n2 : True := trivial
      simp only [ePl, eI, List.map_cons, List.map_nil, List.map_append, List.cons_append, List.nil_append] at o1 o2 o3 o4 a36 a37
      simp_all? [f12, at_mT7, at_mT8, ePl, eI, a36, a37, eqT_O (m := m) (by omega), eqT_t (m := m) (by omega), beq_self_eq_true, hat, ← hsp, set_int, o1, eqT_ne (m := m) (by omega) n1, eqT_ne (m := m) (by omega) n1', o2, o3, eqT_ne (m := m) (by omega) n3]
      refine wp_ifd (fun hq0 => ?_) (fun hq0 => ?_)
      · have hqq := hq1 hq0
        have n4' := n4 hq0
        have n5 : ¬ ([a, b, c] = [a, b, c] ∧ fe = fe.set q.toNat (gt fe q + 1)) := fun z => n4' z.2.symm
        have n6 : ¬ ([a, b, c] = [a, b, c] ∧ fe.set q.toNat (gt fe q + 1) = fe) := fun z => n4' z.2
        have n7 : ¬ ([a, b, c] = [a, b.set sp.toNat (gt b sp + 1), c] ∧ fe.set q.toNat (gt fe q + 1) = fe) := fun z => n4' z.2
        simp_all? [← hq, set_int, o4, ePl, eI, eqT_ne (m := m) (by omega) n5, eqT_ne (m := m) (by omega) n6, eqT_ne (m := m) (by omega) n7, beq_self_eq_true]
        exact hR _ rfl
      · simp_all? []
        exact hR _ rfl
    · simp only [List.mem_cons, List.not_mem_nil, or_false, forall_eq_or_imp, forall_eq] at hr
      obtain ⟨sp, hsp⟩ : ∃ q, q = gt pk 1 % (c.length : Int) := ⟨_, rfl⟩
      have hsp1 : 0 ≤ sp ∧ sp < c.length := hsp ▸ ⟨Int.emod_nonneg _ (by omega), Int.emod_lt_of_pos _ (by omega)⟩
      have nr : c.set sp.toNat (gt c sp + 1) ≠ c := set_ne hsp1.1 hsp1.2 (by omega)
      have o1 := oth [a, b, c.set sp.toNat (gt c sp + 1)] (by simp) (by simp; omega) fe (by omega)
      have n1 : ¬ ([a, b, c] = [a, b, c.set sp.toNat (gt c sp + 1)] ∧ fe = fe) := fun q => by
        have := q.1; simp only [List.cons.injEq, and_true, true_and] at this; exact nr this.symm
      have n1' : ¬ ([a, b, c.set sp.toNat (gt c sp + 1)] = [a, b, c] ∧ fe = fe) := fun q => by
        have := q.1; simp only [List.cons.injEq, and_true, true_and] at this; exact nr this
      have o2 : True := trivial
      have n2 : True := trivial
      simp only [ePl, eI, List.map_cons, List.map_nil, List.map_append, List.cons_append, List.nil_append] at o1 o2 o3 o4 a36 a37
      simp_all? [f12, at_mT7, at_mT8, ePl, eI, a36, a37, eqT_O (m := m) (by omega), eqT_t (m := m) (by omega), beq_self_eq_true, hat, ← hsp, set_int, o1, eqT_ne (m := m) (by omega) n1, eqT_ne (m := m) (by omega) n1', o2, o3, eqT_ne (m := m) (by omega) n3]
      refine wp_ifd (fun hq0 => ?_) (fun hq0 => ?_)
      · have hqq := hq1 hq0
        have n4' := n4 hq0
        have n5 : ¬ ([a, b, c] = [a, b, c] ∧ fe = fe.set q.toNat (gt fe q + 1)) := fun z => n4' z.2.symm
        have n6 : ¬ ([a, b, c] = [a, b, c] ∧ fe.set q.toNat (gt fe q + 1) = fe) := fun z => n4' z.2
        have n7 : ¬ ([a, b, c] = [a, b, c.set sp.toNat (gt c sp + 1)] ∧ fe.set q.toNat (gt fe q + 1) = fe) := fun z => n4' z.2
        simp_all? [← hq, set_int, o4, ePl, eI, eqT_ne (m := m) (by omega) n5, eqT_ne (m := m) (by omega) n6, eqT_ne (m := m) (by omega) n7, beq_self_eq_true]
        exact hR _ rfl
      · simp_all? []
        exact hR _ rfl
end Rw

end

-- part Qi
section
set_option Elab.async false
set_option linter.all false
set_option maxRecDepth 4000
namespace Rw
open Ev PySem
theorem gt_set {α : Type} [Inhabited α] {l : List α} {i j : Nat} {x : α} (hi : i < l.length) (hj : j < l.length) : gt (l.set i x) (j : Int) = if i = j then x else gt l (j : Int) := by
  refine gt_nat ?_
  by_cases h : i = j
  · subst h; rw [List.getElem?_set_self hi, if_pos rfl]
  · rw [List.getElem?_set_ne h, if_neg h, get_gt hj]
theorem plok_set {ns : List NetV} {pl : List (List Int)} (h : PlOk ns pl) (i : Nat) (hi : i < pl.length) (row : List Int) (hl : row.length = (gt pl (i : Int)).length) : PlOk ns (pl.set i row) := by
  have h1 := h.l
  refine ⟨by rw [List.length_set]; exact h1, fun j hj => ?_⟩
  rw [gt_set hi (by omega)]
  have := h.r j hj
  split
  · rename_i e; subst e; omega
  · exact this
theorem b_set {pl : List (List Int)} (h : ∀ t ∈ pl, ∀ x ∈ t, 0 ≤ x ∧ x ≤ TB) (i : Nat) (row : List Int) (hr : ∀ x ∈ row, 0 ≤ x ∧ x ≤ TB) : ∀ t ∈ pl.set i row, ∀ x ∈ t, 0 ≤ x ∧ x ≤ TB := by
  intro t ht
  rcases List.mem_or_eq_of_mem_set ht with h1 | rfl
  · exact h t h1
  · exact hr
theorem row_set {t : List Int} (h : ∀ x ∈ t, 0 ≤ x ∧ x ≤ TB) (i : Nat) (y : Int) (hy : 0 ≤ y ∧ y ≤ TB) : ∀ x ∈ t.set i y, 0 ≤ x ∧ x ≤ TB := by
  intro x hx
  rcases List.mem_or_eq_of_mem_set hx with h1 | rfl
  · exact h x h1
  · exact hy
theorem minL_mem {l : List Int} (h : l ≠ []) : ∃ z, minL l = some z ∧ z ∈ l := by
  match l, h with
  | a :: r, _ =>
    refine ⟨_, rfl, ?_⟩
    have : ∀ (r : List Int) (a : Int), r.foldl min a ∈ a :: r := by
      intro r
      induction r with
      | nil => intro a; simp
      | cons b r ih =>
        intro a
        rw [List.foldl_cons]
        rcases List.mem_cons.mp (ih (min a b)) with h | h
        · rw [h]
          rw [Int.min_def]
          split <;> simp
        · simp [h]
    exact this r a
theorem c10 {n : Nat} (hn : 4 < n) (ns : List NetV) (ps : List ParV) (aw : List (List (List Way))) (pl : List (List Int)) (k : Nat) (pick : Int) (ho : OffOk ns ps) (ha : AwOk ns aw) (hp : PlOk ns pl) (hb : ∀ t ∈ pl, ∀ x ∈ t, 0 ≤ x ∧ x ≤ TB)
    (hk : k < ps.length) (hpk : 0 ≤ pick) (hne : ∀ j : Nat, j < ns.length → gt (gt aw (j : Int)) (gt (gt ps (k : Int)).s (j : Int)) ≠ []) :
    ∃ x, (lvl T n).call 10 [eO ns ps, eAW aw, ePl pl, .int k, .int pick] = .ok x ∧ ∃ pl2, x = ePl pl2 ∧ PlOk ns pl2 ∧ ∀ t ∈ pl2, ∀ x ∈ t, 0 ≤ x ∧ x ≤ TB := by
  refine call_ret (by omega) (f := f10) rfl rfl fun m hm R hR => ?_
  have h1 := ho.n1
  have h3 := ho.n3
  have h8 := ho.p8
  have hal := ha.l
  have hpl := hp.l
  have hpp := ho.p _ (gt_mem (l := ps) (i := k) (by omega) (by omega))
  have hps := hpp.l
  obtain ⟨pl0, hpl0⟩ : ∃ q, q = pl := ⟨_, rfl⟩
  have hrow : ∀ t ∈ pl, t.length ≤ 8 ∧ 1 ≤ t.length := fun t hm => by
    obtain ⟨j, hj⟩ := List.mem_iff_getElem?.mp hm
    have hjl := (List.getElem?_eq_some_iff.mp hj).1
    have := hp.r j (by omega)
    rw [gt_nat hj] at this
    have hv := ho.n _ (gt_mem (l := ns) (i := j) (by omega) (by omega))
    have := hv.w1
    have := hv.w8
    omega
  rcases few pl (by omega) (by omega) with ⟨a, rfl⟩ | ⟨a, b, rfl⟩ | ⟨a, b, c, rfl⟩
  · simp only [List.mem_cons, List.not_mem_nil, or_false, forall_eq_or_imp, forall_eq] at hrow
    simp_all? only [f10, ePl, eI]
    refine wp_range0 1 rfl (fun j σ G => ∃ (o6 o7 o8 o9 o10 o11 o12 : Option W), σ = [some (.d (eO ns ps)), some (.d (eAW aw)), some (.d (ePl pl0)), some (.d (.int k)), some (.d (.int pick)), some (.r 1), o6, o7, o8, o9, o10, o11, o12, none] ∧ G = [.sh (a.map .int), .dp [.r 0]]) ?_ ?_ ?_
    · subst hpl0; exact ⟨_, _, _, _, _, _, _, rfl, rfl⟩
    · rintro j σ G hj ⟨o6, o7, o8, o9, o10, o11, o12, rfl, rfl⟩ R2 hR2
      have hpl0l : pl0.length = ns.length := by rw [hpl0, hpl]
      obtain ⟨q, hq, hqat⟩ : ∃ q : Nat, q < ns.length ∧ ((j : Int) + pick) % (pl0.length : Int) = q := by
        have e1 := Int.emod_nonneg ((j : Int) + pick) (b := (pl0.length : Int)) (by omega)
        have e2 := Int.emod_lt_of_pos ((j : Int) + pick) (b := (pl0.length : Int)) (by omega)
        exact ⟨(((j : Int) + pick) % (pl0.length : Int)).toNat, by omega, by omega⟩
      have hst := hpp.s _ (List.mem_of_getElem? (zip_take (get_gt (l := (gt ps (k : Int)).s) (k := q) (by omega)) (get_gt (l := ns) hq)))
      dsimp only at hst
      have hrq := ha.r q hq
      have hwq := ha.w q hq
      have hfne := hne q hq
      have hfm : gt (gt aw (q : Int)) (gt (gt ps (k : Int)).s (q : Int)) ∈ gt aw (q : Int) := gt_mem (by omega) (by omega)
      have hfl := ha.b _ (gt_mem (l := aw) (i := q) (by omega) (by omega)) _ hfm
      have hw := hwq _ hfm
      generalize hfound : gt (gt aw (q : Int)) (gt (gt ps (k : Int)).s (q : Int)) = found at hfne hfl hw
      have htl : (gt pl0 (q : Int)).length = (gt ns (q : Int)).w.length := by rw [hpl0]; exact hp.r q hq
      have wok : ∀ w ∈ found, WOk (gt pl0 (q : Int)) w := fun w hwm s hs => by have := (hw w hwm).2 s hs; omega
      dsimp? [f10_496, len_ePl, hqat, eAW, eWss, hfound, eWs]
      rw [lcV found eW (fun w => .int (wcost (gt pl0 (q : Int)) w)) (by (dsimp? []; try rfl)) (fun w hwm => by
        dsimp? [sub_ePl, c28 (n := m) (by omega) w (gt pl0 (q : Int)) (wok w hwm) (by have := (hw w hwm).1; omega)])]
      have e1 : found.map (fun w => D.int (wcost (gt pl0 (q : Int)) w)) = (found.map (wcost (gt pl0 (q : Int)))).map .int := by rw [List.map_map]; rfl
      rw [e1]
      obtain ⟨z, hz, hzm⟩ := minL_mem (l := found.map (wcost (gt pl0 (q : Int)))) (by simpa using hfne)
      obtain ⟨ix, hix, hixl, _⟩ := index_enc int_inj (fun x => rfl) (found.map (wcost (gt pl0 (q : Int)))) z hzm [.sh (a.map .int), .dp [.r 0]]
      rw [List.length_map] at hixl
      have hwm : gt found (ix : Int) ∈ found := gt_mem (by omega) (by omega)
      have hwk := wok _ hwm
      have hwl := (hw _ hwm).1
      dsimp? []
      rw [lcVif (gt found (ix : Int)).2 .int .int (fun s => decide (0 < gt (gt pl0 (q : Int)) s)) (by (dsimp? [blt_min1 hz, hix]; try rfl)) (fun s hs => by
        have := hwk s hs
        constructor
        · dsimp? [sub_ePl]
        · intro _; dsimp? [])]
      have hspl : ((gt found (ix : Int)).2.filter (fun s => decide (0 < gt (gt pl0 (q : Int)) s))).length ≤ 8 := Nat.le_trans (List.length_filter_le _ _) hwl
      generalize hspots : (gt found (ix : Int)).2.filter (fun s => decide (0 < gt (gt pl0 (q : Int)) s)) = spots at hspl
      dsimp? []
      refine wp_ifd (fun hs0 => ?_) (fun hs0 => ?_)
      · have hi1 := Int.emod_nonneg pick (b := (spots.length : Int)) (by omega)
        have hi2 := Int.emod_lt_of_pos pick hs0
        have hsm : gt spots (pick % (spots.length : Int)) ∈ spots := gt_mem hi1 hi2
        generalize hsp : gt spots (pick % (spots.length : Int)) = sp at hsm
        rw [← hspots] at hsm
        have hsp1 := hwk sp (List.mem_filter.mp hsm).1
        have hsp2 : 0 < gt (gt pl0 (q : Int)) sp := by simpa using (List.mem_filter.mp hsm).2
        have hmod := hs0
        rcases (show q = 0 by simp only [List.length_cons, List.length_nil] at hpl; omega) with rfl
        · subst hpl0
          have hsp3 : sp < a.length := hsp1.2
          have hsp4 : 0 < gt a sp := hsp2
          simp_all? [hsp]
          refine hR2 _ ?_
          show Wp ((O.nx _ _).andThen _) R
          simp_all? [set_int]
          have hbr := hb a (by simp)
          have hbs := hbr _ (gt_mem (l := a) (i := sp) hsp1.1 hsp3)
          exact hR _ _ rfl ⟨[a.set sp.toNat (gt a sp - 1)], rfl, plok_set hp 0 (by simp) (a.set sp.toNat (gt a sp - 1)) (by rw [List.length_set]; rfl), b_set hb 0 _ (row_set hbr _ _ (by omega))⟩
      · dsimp? []
        exact hR2 _ ⟨rfl, _, _, _, _, _, _, _, rfl, rfl⟩
    · rintro σ G ⟨o6, o7, o8, o9, o10, o11, o12, rfl, rfl⟩
      simp_all? []
      exact hR _ _ rfl ⟨[a], rfl, hp, hb⟩
  · simp only [List.mem_cons, List.not_mem_nil, or_false, forall_eq_or_imp, forall_eq] at hrow
    simp_all? only [f10, ePl, eI]
    refine wp_range0 2 rfl (fun j σ G => ∃ (o6 o7 o8 o9 o10 o11 o12 : Option W), σ = [some (.d (eO ns ps)), some (.d (eAW aw)), some (.d (ePl pl0)), some (.d (.int k)), some (.d (.int pick)), some (.r 2), o6, o7, o8, o9, o10, o11, o12, none] ∧ G = [.sh (a.map .int), .sh (b.map .int), .dp [.r 0, .r 1]]) ?_ ?_ ?_
    · subst hpl0; exact ⟨_, _, _, _, _, _, _, rfl, rfl⟩
    · rintro j σ G hj ⟨o6, o7, o8, o9, o10, o11, o12, rfl, rfl⟩ R2 hR2
      have hpl0l : pl0.length = ns.length := by rw [hpl0, hpl]
      obtain ⟨q, hq, hqat⟩ : ∃ q : Nat, q < ns.length ∧ ((j : Int) + pick) % (pl0.length : Int) = q := by
        have e1 := Int.emod_nonneg ((j : Int) + pick) (b := (pl0.length : Int)) (by omega)
        have e2 := Int.emod_lt_of_pos ((j : Int) + pick) (b := (pl0.length : Int)) (by omega)
        exact ⟨(((j : Int) + pick) % (pl0.length : Int)).toNat, by omega, by omega⟩
      have hst := hpp.s _ (List.mem_of_getElem? (zip_take (get_gt (l := (gt ps (k : Int)).s) (k := q) (by omega)) (get_gt (l := ns) hq)))
      dsimp only at hst
      have hrq := ha.r q hq
      have hwq := ha.w q hq
      have hfne := hne q hq
      have hfm : gt (gt aw (q : Int)) (gt (gt ps (k : Int)).s (q : Int)) ∈ gt aw (q : Int) := gt_mem (by omega) (by omega)
      have hfl := ha.b _ (gt_mem (l := aw) (i := q) (by omega) (by omega)) _ hfm
      have hw := hwq _ hfm
      generalize hfound : gt (gt aw (q : Int)) (gt (gt ps (k : Int)).s (q : Int)) = found at hfne hfl hw
      have htl : (gt pl0 (q : Int)).length = (gt ns (q : Int)).w.length := by rw [hpl0]; exact hp.r q hq
      have wok : ∀ w ∈ found, WOk (gt pl0 (q : Int)) w := fun w hwm s hs => by have := (hw w hwm).2 s hs; omega
      dsimp? [f10_496, len_ePl, hqat, eAW, eWss, hfound, eWs]
      rw [lcV found eW (fun w => .int (wcost (gt pl0 (q : Int)) w)) (by (dsimp? []; try rfl)) (fun w hwm => by
        dsimp? [sub_ePl, c28 (n := m) (by omega) w (gt pl0 (q : Int)) (wok w hwm) (by have := (hw w hwm).1; omega)])]
      have e1 : found.map (fun w => D.int (wcost (gt pl0 (q : Int)) w)) = (found.map (wcost (gt pl0 (q : Int)))).map .int := by rw [List.map_map]; rfl
      rw [e1]
      obtain ⟨z, hz, hzm⟩ := minL_mem (l := found.map (wcost (gt pl0 (q : Int)))) (by simpa using hfne)
      obtain ⟨ix, hix, hixl, _⟩ := index_enc int_inj (fun x => rfl) (found.map (wcost (gt pl0 (q : Int)))) z hzm [.sh (a.map .int), .sh (b.map .int), .dp [.r 0, .r 1]]
      rw [List.length_map] at hixl
      have hwm : gt found (ix : Int) ∈ found := gt_mem (by omega) (by omega)
      have hwk := wok _ hwm
      have hwl := (hw _ hwm).1
      dsimp? []
      rw [lcVif (gt found (ix : Int)).2 .int .int (fun s => decide (0 < gt (gt pl0 (q : Int)) s)) (by (dsimp? [blt_min1 hz, hix]; try rfl)) (fun s hs => by
        have := hwk s hs
        constructor
        · dsimp? [sub_ePl]
        · intro _; dsimp? [])]
      have hspl : ((gt found (ix : Int)).2.filter (fun s => decide (0 < gt (gt pl0 (q : Int)) s))).length ≤ 8 := Nat.le_trans (List.length_filter_le _ _) hwl
      generalize hspots : (gt found (ix : Int)).2.filter (fun s => decide (0 < gt (gt pl0 (q : Int)) s)) = spots at hspl
      dsimp? []
      refine wp_ifd (fun hs0 => ?_) (fun hs0 => ?_)
      · have hi1 := Int.emod_nonneg pick (b := (spots.length : Int)) (by omega)
        have hi2 := Int.emod_lt_of_pos pick hs0
        have hsm : gt spots (pick % (spots.length : Int)) ∈ spots := gt_mem hi1 hi2
        generalize hsp : gt spots (pick % (spots.length : Int)) = sp at hsm
        rw [← hspots] at hsm
        have hsp1 := hwk sp (List.mem_filter.mp hsm).1
        have hsp2 : 0 < gt (gt pl0 (q : Int)) sp := by simpa using (List.mem_filter.mp hsm).2
        have hmod := hs0
        rcases (show q = 0 ∨ q = 1 by simp only [List.length_cons, List.length_nil] at hpl; omega) with rfl | rfl
        · subst hpl0
          have hsp3 : sp < a.length := hsp1.2
          have hsp4 : 0 < gt a sp := hsp2
          simp_all? [hsp]
          refine hR2 _ ?_
          show Wp ((O.nx _ _).andThen _) R
          simp_all? [set_int]
          have hbr := hb a (by simp)
          have hbs := hbr _ (gt_mem (l := a) (i := sp) hsp1.1 hsp3)
          exact hR _ _ rfl ⟨[a.set sp.toNat (gt a sp - 1), b], rfl, plok_set hp 0 (by simp) (a.set sp.toNat (gt a sp - 1)) (by rw [List.length_set]; rfl), b_set hb 0 _ (row_set hbr _ _ (by omega))⟩
        · subst hpl0
          have hsp3 : sp < b.length := hsp1.2
          have hsp4 : 0 < gt b sp := hsp2
          simp_all? [hsp]
          refine hR2 _ ?_
          show Wp ((O.nx _ _).andThen _) R
          simp_all? [set_int]
          have hbr := hb b (by simp)
          have hbs := hbr _ (gt_mem (l := b) (i := sp) hsp1.1 hsp3)
          exact hR _ _ rfl ⟨[a, b.set sp.toNat (gt b sp - 1)], rfl, plok_set hp 1 (by simp) (b.set sp.toNat (gt b sp - 1)) (by rw [List.length_set]; rfl), b_set hb 1 _ (row_set hbr _ _ (by omega))⟩
      · dsimp? []
        exact hR2 _ ⟨rfl, _, _, _, _, _, _, _, rfl, rfl⟩
    · rintro σ G ⟨o6, o7, o8, o9, o10, o11, o12, rfl, rfl⟩
      simp_all? []
      exact hR _ _ rfl ⟨[a, b], rfl, hp, hb⟩
  · simp only [List.mem_cons, List.not_mem_nil, or_false, forall_eq_or_imp, forall_eq] at hrow
    simp_all? only [f10, ePl, eI]
    refine wp_range0 3 rfl (fun j σ G => ∃ (o6 o7 o8 o9 o10 o11 o12 : Option W), σ = [some (.d (eO ns ps)), some (.d (eAW aw)), some (.d (ePl pl0)), some (.d (.int k)), some (.d (.int pick)), some (.r 3), o6, o7, o8, o9, o10, o11, o12, none] ∧ G = [.sh (a.map .int), .sh (b.map .int), .sh (c.map .int), .dp [.r 0, .r 1, .r 2]]) ?_ ?_ ?_
    · subst hpl0; exact ⟨_, _, _, _, _, _, _, rfl, rfl⟩
    · rintro j σ G hj ⟨o6, o7, o8, o9, o10, o11, o12, rfl, rfl⟩ R2 hR2
      have hpl0l : pl0.length = ns.length := by rw [hpl0, hpl]
      obtain ⟨q, hq, hqat⟩ : ∃ q : Nat, q < ns.length ∧ ((j : Int) + pick) % (pl0.length : Int) = q := by
        have e1 := Int.emod_nonneg ((j : Int) + pick) (b := (pl0.length : Int)) (by omega)
        have e2 := Int.emod_lt_of_pos ((j : Int) + pick) (b := (pl0.length : Int)) (by omega)
        exact ⟨(((j : Int) + pick) % (pl0.length : Int)).toNat, by omega, by omega⟩
      have hst := hpp.s _ (List.mem_of_getElem? (zip_take (get_gt (l := (gt ps (k : Int)).s) (k := q) (by omega)) (get_gt (l := ns) hq)))
      dsimp only at hst
      have hrq := ha.r q hq
      have hwq := ha.w q hq
      have hfne := hne q hq
      have hfm : gt (gt aw (q : Int)) (gt (gt ps (k : Int)).s (q : Int)) ∈ gt aw (q : Int) := gt_mem (by omega) (by omega)
      have hfl := ha.b _ (gt_mem (l := aw) (i := q) (by omega) (by omega)) _ hfm
      have hw := hwq _ hfm
      generalize hfound : gt (gt aw (q : Int)) (gt (gt ps (k : Int)).s (q : Int)) = found at hfne hfl hw
      have htl : (gt pl0 (q : Int)).length = (gt ns (q : Int)).w.length := by rw [hpl0]; exact hp.r q hq
      have wok : ∀ w ∈ found, WOk (gt pl0 (q : Int)) w := fun w hwm s hs => by have := (hw w hwm).2 s hs; omega
      dsimp? [f10_496, len_ePl, hqat, eAW, eWss, hfound, eWs]
      rw [lcV found eW (fun w => .int (wcost (gt pl0 (q : Int)) w)) (by (dsimp? []; try rfl)) (fun w hwm => by
        dsimp? [sub_ePl, c28 (n := m) (by omega) w (gt pl0 (q : Int)) (wok w hwm) (by have := (hw w hwm).1; omega)])]
      have e1 : found.map (fun w => D.int (wcost (gt pl0 (q : Int)) w)) = (found.map (wcost (gt pl0 (q : Int)))).map .int := by rw [List.map_map]; rfl
      rw [e1]
      obtain ⟨z, hz, hzm⟩ := minL_mem (l := found.map (wcost (gt pl0 (q : Int)))) (by simpa using hfne)
      obtain ⟨ix, hix, hixl, _⟩ := index_enc int_inj (fun x => rfl) (found.map (wcost (gt pl0 (q : Int)))) z hzm [.sh (a.map .int), .sh (b.map .int), .sh (c.map .int), .dp [.r 0, .r 1, .r 2]]
      rw [List.length_map] at hixl
      have hwm : gt found (ix : Int) ∈ found := gt_mem (by omega) (by omega)
      have hwk := wok _ hwm
      have hwl := (hw _ hwm).1
      dsimp? []
      rw [lcVif (gt found (ix : Int)).2 .int .int (fun s => decide (0 < gt (gt pl0 (q : Int)) s)) (by (dsimp? [blt_min1 hz, hix]; try rfl)) (fun s hs => by
        have := hwk s hs
        constructor
        · dsimp? [sub_ePl]
        · intro _; dsimp? [])]
      have hspl : ((gt found (ix : Int)).2.filter (fun s => decide (0 < gt (gt pl0 (q : Int)) s))).length ≤ 8 := Nat.le_trans (List.length_filter_le _ _) hwl
      generalize hspots : (gt found (ix : Int)).2.filter (fun s => decide (0 < gt (gt pl0 (q : Int)) s)) = spots at hspl
      dsimp? []
      refine wp_ifd (fun hs0 => ?_) (fun hs0 => ?_)
      · have hi1 := Int.emod_nonneg pick (b := (spots.length : Int)) (by omega)
        have hi2 := Int.emod_lt_of_pos pick hs0
        have hsm : gt spots (pick % (spots.length : Int)) ∈ spots := gt_mem hi1 hi2
        generalize hsp : gt spots (pick % (spots.length : Int)) = sp at hsm
        rw [← hspots] at hsm
        have hsp1 := hwk sp (List.mem_filter.mp hsm).1
        have hsp2 : 0 < gt (gt pl0 (q : Int)) sp := by simpa using (List.mem_filter.mp hsm).2
        have hmod := hs0
        rcases (show q = 0 ∨ q = 1 ∨ q = 2 by simp only [List.length_cons, List.length_nil] at hpl; omega) with rfl | rfl | rfl
        · subst hpl0
          have hsp3 : sp < a.length := hsp1.2
          have hsp4 : 0 < gt a sp := hsp2
          simp_all? [hsp]
          refine hR2 _ ?_
          show Wp ((O.nx _ _).andThen _) R
          simp_all? [set_int]
          have hbr := hb a (by simp)
          have hbs := hbr _ (gt_mem (l := a) (i := sp) hsp1.1 hsp3)
          exact hR _ _ rfl ⟨[a.set sp.toNat (gt a sp - 1), b, c], rfl, plok_set hp 0 (by simp) (a.set sp.toNat (gt a sp - 1)) (by rw [List.length_set]; rfl), b_set hb 0 _ (row_set hbr _ _ (by omega))⟩
        · subst hpl0
          have hsp3 : sp < b.length := hsp1.2
          have hsp4 : 0 < gt b sp := hsp2
          simp_all? [hsp]
          refine hR2 _ ?_
          show Wp ((O.nx _ _).andThen _) R
          simp_all? [set_int]
          have hbr := hb b (by simp)
          have hbs := hbr _ (gt_mem (l := b) (i := sp) hsp1.1 hsp3)
          exact hR _ _ rfl ⟨[a, b.set sp.toNat (gt b sp - 1), c], rfl, plok_set hp 1 (by simp) (b.set sp.toNat (gt b sp - 1)) (by rw [List.length_set]; rfl), b_set hb 1 _ (row_set hbr _ _ (by omega))⟩
        · subst hpl0
          have hsp3 : sp < c.length := hsp1.2
          have hsp4 : 0 < gt c sp := hsp2
          simp_all? [hsp]
          refine hR2 _ ?_
          show Wp ((O.nx _ _).andThen _) R
          simp_all? [set_int]
          have hbr := hb c (by simp)
          have hbs := hbr _ (gt_mem (l := c) (i := sp) hsp1.1 hsp3)
          exact hR _ _ rfl ⟨[a, b, c.set sp.toNat (gt c sp - 1)], rfl, plok_set hp 2 (by simp) (c.set sp.toNat (gt c sp - 1)) (by rw [List.length_set]; rfl), b_set hb 2 _ (row_set hbr _ _ (by omega))⟩
      · dsimp? []
        exact hR2 _ ⟨rfl, _, _, _, _, _, _, _, rfl, rfl⟩
    · rintro σ G ⟨o6, o7, o8, o9, o10, o11, o12, rfl, rfl⟩
      simp_all? []
      exact hR _ _ rfl ⟨[a, b, c], rfl, hp, hb⟩
end Rw

end

-- part Qj
section
set_option Elab.async false
set_option linter.all false
set_option maxRecDepth 4000
namespace Rw
open Ev PySem
theorem i2t {n : Nat} (hn : 2 < n) (ns : List NetV) (ps : List ParV) (h : OffOk ns ps) : (lvl T n).init 2 [.tup (ns.map mN), .tup (ps.map mP)] = .ok (mO ns ps) := by
  have := h.n1
  have := h.n3
  have := h.p8
  refine init_eq (by omega) (f := f24) rfl rfl fun m hm R hR => ?_
  simp? [f24, fl_2_11, fl_2_10]
  refine wp_if (fun e => by simp at e; omega) fun e => ?_
  simp? [f24, fl_2_11, fl_2_10]
  refine wp_if (fun e => by simp at e; omega) fun e => ?_
  simp? [fl_2_10]
  refine wp_enumD ps (fun k σ G => ∃ (o3 o4 : Option W), σ = [some (.r 0), some (.d (.tup (ns.map mN))), some (.d (.tup (ps.map mP))), o3, o4] ∧ G = [.ob 2 [(11, .d (.tup (ns.map mN))), (10, .d (.tup (ps.map mP)))]]) ⟨_, _, rfl, rfl⟩ ?_ ?_
  · rintro k x σ G e ⟨o3, o4, rfl, rfl⟩ R2 hR2
    have hx := h.p x (List.mem_of_getElem? e)
    simp? [f24_233, fl_2_11, c44 (n := m) (by omega) x ns hx (fun v hv => (h.n v hv).w8) (by omega)]
    exact hR2 _ ⟨rfl, _, _, rfl, rfl⟩
  · rintro σ G ⟨o3, o4, rfl, rfl⟩
    exact hR _ rfl
def needyP (p : ParV) : ParV := ⟨p.s, 99, 4 - p.d⟩
def wideN (v : NetV) : NetV := ⟨v.w.map (10 - ·), v.r, v.g⟩
theorem wide_ok {v : NetV} (h : v.Ok) : (wideN v).Ok := by
  have hl : (wideN v).w.length = v.w.length := by simp [wideN]
  refine ⟨by rw [hl]; exact h.w1, by rw [hl]; exact h.w8, fun x hx => ?_, by rw [hl]; exact h.g, h.gs, by rw [hl]; exact h.r, h.rs⟩
  obtain ⟨y, hy, rfl⟩ := List.mem_map.mp hx
  have := h.w y hy
  omega
theorem needy_off {ns : List NetV} {ps : List ParV} (h : OffOk ns ps) : OffOk ns (ps.map needyP) := by
  refine ⟨h.n1, h.n3, by rw [List.length_map]; exact h.p8, h.n, fun p hp => ?_⟩
  obtain ⟨q, hq, rfl⟩ := List.mem_map.mp hp
  have := h.p q hq
  have hd := this.d
  exact ⟨this.l, this.s, ⟨(by show (0:Int) ≤ 99; omega), (by show (99:Int) ≤ 99; omega)⟩, by show 1 ≤ 4 - q.d ∧ 4 - q.d ≤ 3; omega⟩
theorem wide_off {ns : List NetV} {ps : List ParV} (h : OffOk ns ps) : OffOk (ns.map wideN) ps := by
  refine ⟨by rw [List.length_map]; exact h.n1, by rw [List.length_map]; exact h.n3, h.p8, fun v hv => ?_, fun p hp => ?_⟩
  · obtain ⟨q, hq, rfl⟩ := List.mem_map.mp hv
    exact wide_ok (h.n q hq)
  · have := h.p p hp
    refine ⟨by rw [List.length_map]; exact this.l, fun q hq => ?_, this.v, this.d⟩
    rw [List.zip_map_right] at hq
    obtain ⟨z, hz, rfl⟩ := List.mem_map.mp hq
    have := this.s z hz
    simp only [Prod.map, id, wideN, List.length_map]
    exact this
theorem c11 {n : Nat} (hn : 7 < n) (ns : List NetV) (ps : List ParV) (aw : List (List (List Way))) (pl : List (List Int)) (fe : List Int) (ds : List Int) (ho : OffOk ns ps) (ha : AwOk ns aw) (ha2 : AwOk (ns.map wideN) aw) (ht : TOk ns ps pl fe) (hp2 : PlOk (ns.map wideN) pl)
    (hg1 : Agree ns (ps.map needyP) aw pl fe) (hg2 : Agree (ns.map wideN) ps aw pl fe) (hz : ∀ k, k < ps.length → ¬ badT ns ps pl fe k) (hds : ∀ d ∈ ds, 0 ≤ d ∧ d ≤ 10 ^ 21) :
    (lvl T n).call 11 [mO ns ps, eO ns ps, eAW aw, mT pl fe, ePl pl, .lst (fe.map .int), .lst (ds.map .int)] = .ok (.bl true) := by
  have h8 := ho.p8
  have h3 := ho.n3
  have h1 := ho.n1
  refine call_eq (by omega) (f := f11) rfl rfl fun m hm R hR => ?_
  have on := needy_off ho
  have ow := wide_off ho
  have hf := ht.f
  have b0 : ∀ d ∈ ds, (lvl T m).call 33 [mO ns ps, mT pl fe, .int d] = .ok (.int (billOf ns ps pl fe d)) := fun d hd => c33 (by omega) ns ps pl fe d ho ht.b (hds d hd)
  have b1 : ∀ d ∈ ds, (lvl T m).call 33 [mO ns (ps.map needyP), mT pl fe, .int d] = .ok (.int (billOf ns (ps.map needyP) pl fe d)) := fun d hd => c33 (by omega) _ _ pl fe d on ht.b (hds d hd)
  have b2 : ∀ d ∈ ds, (lvl T m).call 33 [mO (ns.map wideN) ps, mT pl fe, .int d] = .ok (.int (billOf (ns.map wideN) ps pl fe d)) := fun d hd => c33 (by omega) _ _ pl fe d ow ht.b (hds d hd)
  have l0 : ∀ d ∈ ds, (lvl T m).call 34 [eO ns ps, ePl pl, .lst (fe.map .int), .int d] = .ok (.int (billOf ns ps pl fe d)) := fun d hd => c34 (by omega) ns ps pl fe d ho ht.p hf ht.b (hds d hd)
  have l1 : ∀ d ∈ ds, (lvl T m).call 34 [eO ns (ps.map needyP), ePl pl, .lst (fe.map .int), .int d] = .ok (.int (billOf ns (ps.map needyP) pl fe d)) := fun d hd => c34 (by omega) _ _ pl fe d on ht.p (by simpa using hf) ht.b (hds d hd)
  have l2 : ∀ d ∈ ds, (lvl T m).call 34 [eO (ns.map wideN) ps, ePl pl, .lst (fe.map .int), .int d] = .ok (.int (billOf (ns.map wideN) ps pl fe d)) := fun d hd => c34 (by omega) _ _ pl fe d ow hp2 hf ht.b (hds d hd)
  obtain ⟨x0, t0, r0, rfl, hr0⟩ := c9 (n := m) (by omega) ns ps pl fe ho ht.p hf
  obtain ⟨x1, t1, r1, rfl, hr1⟩ := c9 (n := m) (by omega) ns (ps.map needyP) pl fe on ht.p (by simpa using hf)
  obtain ⟨x2, t2, r2, rfl, hr2⟩ := c9 (n := m) (by omega) (ns.map wideN) ps pl fe ow hp2 hf
  obtain ⟨y1, f1, s1, rfl, hs1⟩ := c31 (n := m) (by omega) ns (ps.map needyP) aw pl fe on ha ht.p (by simpa using hf)
  obtain ⟨y2, f2, s2, rfl, hs2⟩ := c31 (n := m) (by omega) (ns.map wideN) ps aw pl fe ow ha2 hp2 hf
  have q1 : r1 = s1 := IsF.uniq (IsF.congr hg1 hr1) hs1
  have q2 : r2 = s2 := IsF.uniq (IsF.congr hg2 hr2) hs2
  subst q1
  subst q2
  have q0 : r0 = none := by
    cases r0 with
    | none => rfl
    | some i => obtain ⟨k, rfl, hk, hb, _⟩ := hr0; exact absurd hb (hz k hk)
  subst q0
  dsimp? [f11]
  rw [lcV ps eP (fun p => eP (needyP p)) (by (dsimp? []; try rfl)) (fun p hp => by
    dsimp? []; rfl)]
  have e1 : ps.map (fun p => eP (needyP p)) = (ps.map needyP).map eP := by rw [List.map_map]; rfl
  rw [e1]
  have e2 : D.lst [.lst (ns.map eN), .lst ((ps.map needyP).map eP)] = eO ns (ps.map needyP) := rfl
  dsimp? [e2]
  rw [lcV ns eN (fun v => eN (wideN v)) (by (dsimp? []; try rfl)) (fun v hv => by
    have hw8 := (ho.n v hv).w8
    dsimp? []
    rw [lcV v.w .int (fun x => .int (10 - x)) (by (dsimp? []; try rfl)) (fun x hx => by dsimp? [])]
    have e3 : v.w.map (fun x => D.int (10 - x)) = (v.w.map (10 - ·)).map .int := by rw [List.map_map]; rfl
    rw [e3]
    dsimp? []
    rfl)]
  have e3 : ns.map (fun v => eN (wideN v)) = (ns.map wideN).map eN := by rw [List.map_map]; rfl
  rw [e3]
  have e4 : D.lst [.lst ((ns.map wideN).map eN), .lst (ps.map eP)] = eO (ns.map wideN) ps := rfl
  dsimp? [e4, c4 (n := m) (by omega) ns (ps.map needyP) on, c4 (n := m) (by omega) (ns.map wideN) ps ow, i2t (n := m) (by omega) ns (ps.map needyP) on, i2t (n := m) (by omega) (ns.map wideN) ps ow]
  refine wp_range0 2 rfl (fun k σ G => ∃ (o10 o11 o12 : Option W), σ = [some (.d (mO ns ps)), some (.d (eO ns ps)), some (.d (eAW aw)), some (.d (mT pl fe)), some (.d (ePl pl)), some (.d (.lst (fe.map .int))), some (.d (.lst (ds.map .int))), some (.d (eO ns (ps.map needyP))), some (.d (eO (ns.map wideN) ps)), some (.d (.lst [mO ns (ps.map needyP), mO (ns.map wideN) ps])), o10, o11, o12, none, none, none] ∧ G = []) ⟨_, _, _, rfl, rfl⟩ ?_ ?_
  · rintro k σ G hk ⟨o10, o11, o12, rfl, rfl⟩ R2 hR2
    have h32o := c32_opt (n := m) (by omega)
    have h32i := c32_int (n := m) (by omega)
    rcases (show k = 0 ∨ k = 1 by omega) with rfl | rfl
    · dsimp? [f11_591, nc0, t1, f1, h32o]
      refine wp_eachD ds (fun q σ G => ∃ (o12 : Option W), σ = [some (.d (mO ns ps)), some (.d (eO ns ps)), some (.d (eAW aw)), some (.d (mT pl fe)), some (.d (ePl pl)), some (.d (.lst (fe.map .int))), some (.d (.lst (ds.map .int))), some (.d (eO ns (ps.map needyP))), some (.d (eO (ns.map wideN) ps)), some (.d (.lst [mO ns (ps.map needyP), mO (ns.map wideN) ps])), some (.d (.int 0)), some (.d (eO ns (ps.map needyP))), o12, none, none, none] ∧ G = []) ⟨_, rfl, rfl⟩ ?_ ?_
      · rintro q d σ G e ⟨o12, rfl, rfl⟩ R3 hR3
        have hd := List.mem_of_getElem? e
        dsimp? [f11_595, b0 d hd, b1 d hd, l0 d hd, l1 d hd, h32i]
        exact hR3 _ ⟨rfl, _, rfl, rfl⟩
      · rintro σ G ⟨o12, rfl, rfl⟩
        dsimp? []
        exact hR2 _ ⟨rfl, _, _, _, rfl, rfl⟩
    · dsimp? [f11_591, nc1, t2, f2, h32o]
      refine wp_eachD ds (fun q σ G => ∃ (o12 : Option W), σ = [some (.d (mO ns ps)), some (.d (eO ns ps)), some (.d (eAW aw)), some (.d (mT pl fe)), some (.d (ePl pl)), some (.d (.lst (fe.map .int))), some (.d (.lst (ds.map .int))), some (.d (eO ns (ps.map needyP))), some (.d (eO (ns.map wideN) ps)), some (.d (.lst [mO ns (ps.map needyP), mO (ns.map wideN) ps])), some (.d (.int 1)), some (.d (eO (ns.map wideN) ps)), o12, none, none, none] ∧ G = []) ⟨_, rfl, rfl⟩ ?_ ?_
      · rintro q d σ G e ⟨o12, rfl, rfl⟩ R3 hR3
        have hd := List.mem_of_getElem? e
        dsimp? [f11_595, b0 d hd, b2 d hd, l0 d hd, l2 d hd, h32i]
        exact hR3 _ ⟨rfl, _, rfl, rfl⟩
      · rintro σ G ⟨o12, rfl, rfl⟩
        dsimp? []
        exact hR2 _ ⟨rfl, _, _, _, rfl, rfl⟩
  · rintro σ G ⟨o10, o11, o12, rfl, rfl⟩
    dsimp? [t0, is_opt]
    exact hR _ rfl
end Rw

end

-- part Qk
section
set_option Elab.async false
set_option linter.all false
set_option maxRecDepth 4000
namespace Rw
open Ev PySem
section
variable {G : Gs} {i : Int} {a b c d e f g h j k : Int} (h0 : 0 ≤ i)
include h0
theorem sub_L2 (h1 : i < 2) : subW (.d (.lst [.int a, .int b])) (.d (.int i)) G = .ok (.d (.int (gt [a, b] i))) G := sub_lits [a, b] rfl h0 h1
theorem sub_L6 (h1 : i < 6) : subW (.d (.lst [.int a, .int b, .int c, .int d, .int e, .int f])) (.d (.int i)) G = .ok (.d (.int (gt [a, b, c, d, e, f] i))) G := sub_lits [a, b, c, d, e, f] rfl h0 h1
theorem sub_L8 (h1 : i < 8) : subW (.d (.lst [.int a, .int b, .int c, .int d, .int e, .int f, .int g, .int h])) (.d (.int i)) G = .ok (.d (.int (gt [a, b, c, d, e, f, g, h] i))) G := sub_lits [a, b, c, d, e, f, g, h] rfl h0 h1
theorem sub_L9 (h1 : i < 9) : subW (.d (.lst [.int a, .int b, .int c, .int d, .int e, .int f, .int g, .int h, .int j])) (.d (.int i)) G = .ok (.d (.int (gt [a, b, c, d, e, f, g, h, j] i))) G := sub_lits [a, b, c, d, e, f, g, h, j] rfl h0 h1
theorem sub_L10 (h1 : i < 10) : subW (.d (.lst [.int a, .int b, .int c, .int d, .int e, .int f, .int g, .int h, .int j, .int k])) (.d (.int i)) G = .ok (.d (.int (gt [a, b, c, d, e, f, g, h, j, k] i))) G := sub_lits [a, b, c, d, e, f, g, h, j, k] rfl h0 h1
end
theorem sub_twoP {p : Prop} [Decidable p] {a b : Int} {G : Gs} : subW (.d (.lst [.int a, .int b])) (.d (.int (if p then 1 else 0))) G = .ok (.d (.int (if p then b else a))) G := by
  split
  · exact sub_l1 ..
  · exact sub_l0 ..
theorem gt_cut {α : Type} [Inhabited α] {l : List α} {a n : Nat} {i : Int} (h0 : 0 ≤ i) (h1 : i < n) (h2 : a + i < l.length) : gt ((l.drop a).take n) i = gt l (a + i) := by
  have e1 : l[a + i.toNat]? = some (gt l (a + i)) := by
    have := gt_get (l := l) (i := a + i) (by omega) (by omega)
    rwa [show ((a : Int) + i).toNat = a + i.toNat by omega] at this
  have e2 : ((l.drop a).take n)[i.toNat]? = some (gt l (a + i)) := by
    rw [List.getElem?_take, if_pos (by omega), List.getElem?_drop, e1]
  have := gt_nat (l := (l.drop a).take n) (k := i.toNat) e2
  rwa [show ((i.toNat : Nat) : Int) = i by omega] at this
theorem cut_len {α : Type} {l : List α} {a n : Nat} (h : a + n ≤ l.length) : ((l.drop a).take n).length = n := by
  rw [List.length_take, List.length_drop]; omega
def netSizes (m : Nat) : List Int := [8, 8] ++ (List.replicate m [9, 6, 100]).flatten ++ (List.replicate (m * m) [100, 5]).flatten ++ [8]
theorem rep_ints (m : Nat) (l : List Int) : (List.replicate m (l.map D.int)).flatten = ((List.replicate m l).flatten).map .int := by
  rw [List.map_flatten, List.map_replicate]
theorem c14 {n : Nat} (hn : 0 < n) (m : Nat) (hm : m ≤ 8) : (lvl T n).call 14 [.int m] = .ok (.lst ((netSizes m).map .int)) := by
  refine call_eq (by omega) (f := f14) rfl rfl fun m' hm' R hR => ?_
  have hmm : m * m ≤ 64 := Nat.mul_le_mul hm hm
  have hmz : (m : Int) * m ≤ 64 := by exact_mod_cast hmm
  have hmz0 : 0 ≤ (m : Int) * m := Int.mul_nonneg (by omega) (by omega)
  have e1 := rep_ints m [9, 6, 100]
  have e2 := rep_ints (m * m) [100, 5]
  simp only [List.map_cons, List.map_nil] at e1 e2
  have e3 : ((m : Int) * m).toNat = m * m := by rw [← Int.natCast_mul, Int.toNat_natCast]
  have l1 : ((List.replicate m [(9:Int), 6, 100]).flatten).length = 3 * m := by simp; omega
  have l2 : ((List.replicate (m * m) [(100:Int), 5]).flatten).length = 2 * (m * m) := by simp; omega
  dsimp? [f14, e1, e3, e2, l1, l2]
  refine hR _ ?_
  simp [O.res, fz_d, netSizes]
theorem sizes_at : ∀ m : Fin 9, (netSizes m).length = 3 + 3 * m.1 + 2 * (m.1 * m.1) ∧ gt (netSizes m) 0 = 8 ∧ gt (netSizes m) 1 = 8 ∧ gt (netSizes m) (2 + 3 * m.1 + 2 * (m.1 * m.1) : Nat) = 8 ∧ (∀ k : Fin 8, k.1 < m.1 → gt (netSizes m) (2 + 3 * k.1 : Nat) = 9 ∧ gt (netSizes m) (3 + 3 * k.1 : Nat) = 6 ∧ gt (netSizes m) (4 + 3 * k.1 : Nat) = 100) ∧ (∀ q : Fin 64, q.1 < m.1 * m.1 → gt (netSizes m) (2 + 3 * m.1 + 2 * q.1 : Nat) = 100 ∧ gt (netSizes m) (3 + 3 * m.1 + 2 * q.1 : Nat) = 5) := by decide +kernel
theorem sizes_ok (m : Nat) (hm : m ≤ 8) : ∀ s ∈ netSizes m, 0 < s ∧ s ≤ 1000000 := by
  have : ∀ m : Fin 9, ∀ s ∈ netSizes m, 0 < s ∧ s ≤ 1000000 := by decide +kernel
  exact this ⟨m, by omega⟩
end Rw

end
open Rw
local macro_rules
  | `(tactic| dsimp? only [$ls,*]) => `(tactic| dsimp? [sub_twoP, sub_L2, sub_L6, sub_L8, sub_L9, sub_L10, $ls,*])

-- part Ql
section
set_option Elab.async false
set_option linter.all false
set_option maxRecDepth 4000
namespace Rw
open Ev PySem
/-- what the law's nets are ahead of mending: the facts of Ok -/
theorem inc_app {l : List Int} {x : Int} (h : l.Pairwise (· < ·)) (h2 : ∀ y ∈ l, y < x) : (l ++ [x]).Pairwise (· < ·) := by
  rw [List.pairwise_append]
  exact ⟨h, List.pairwise_singleton _ _, fun a ha b hb => by rw [List.mem_singleton] at hb; subst hb; exact h2 a ha⟩
theorem inc3_app {l : List I3} {x : I3} (h : l.Pairwise lt2) (h2 : ∀ y ∈ l, lt2 y x) : (l ++ [x]).Pairwise lt2 := by
  rw [List.pairwise_append]
  exact ⟨h, List.pairwise_singleton _ _, fun a ha b hb => by rw [List.mem_singleton] at hb; subst hb; exact h2 a ha⟩
theorem mem_app {α : Type} {l : List α} {x : α} {P : α → Prop} (h : ∀ y ∈ l, P y) (h2 : P x) : ∀ y ∈ l ++ [x], P y := by
  intro y hy
  rcases List.mem_append.mp hy with h1 | h1
  · exact h y h1
  · rw [List.mem_singleton] at h1; subst h1; exact h2
theorem in_cell {Φ : Fns} {a : Int} {gs : List Int} {w : Cell} {r : Gs} : cmpW Φ .notin (.d (.int a)) (.r 1) (w :: .sh (gs.map .int) :: r) = .ok (.d (.bl (decide (¬ a ∈ gs)))) (w :: .sh (gs.map .int) :: r) := by
  have : inW (.d (.int a)) (.r 1) (w :: .sh (gs.map .int) :: r) = some (decide (a ∈ gs)) := inW_lst a gs []
  simp only [cmpW, this]; rw [← dec_not]; rfl
theorem truth_bb (b : Bool) (G : Gs) : KTr (.d (.bl b)) G = .ok (.d (.bl b)) G := rfl
theorem c15 {n : Nat} (hn : 0 < n) (M : Nat) (hm1 : 1 ≤ M) (hm : M ≤ 8) (r : List Int) (hr : Dig (netSizes M) r) : ∃ x, (lvl T n).call 15 [.lst (r.map .int), .int M] = .ok x ∧ ∃ v : NetV, x = eN v ∧ v.Ok := by
  refine call_ret hn (f := f15) rfl rfl fun m _ R hR => ?_
  obtain ⟨s0, s1, s2, s3, s4, s5⟩ := sizes_at ⟨M, by omega⟩
  dsimp only at s0 s1 s2 s3 s4 s5
  obtain ⟨hl, hd⟩ := hr
  have hmm : M * M ≤ 64 := Nat.mul_le_mul hm hm
  have hlen : r.length = 3 + 3 * M + 2 * (M * M) := by omega
  have d0 := hd 0 (by omega) (by omega)
  have d1 := hd 1 (by omega) (by omega)
  have d2 := hd ((2 + 3 * M + 2 * (M * M) : Nat) : Int) (by omega) (by omega)
  rw [s1] at d0
  rw [s2] at d1
  rw [s3] at d2
  have d3 : ∀ k : Nat, k < M → (0 ≤ gt r ((2 + 3 * k : Nat) : Int) ∧ gt r ((2 + 3 * k : Nat) : Int) < 9) ∧ (0 ≤ gt r ((3 + 3 * k : Nat) : Int) ∧ gt r ((3 + 3 * k : Nat) : Int) < 6) ∧ (0 ≤ gt r ((4 + 3 * k : Nat) : Int) ∧ gt r ((4 + 3 * k : Nat) : Int) < 100) := fun k hk => by
    have h := s4 ⟨k, by omega⟩ hk
    dsimp only at h
    have a1 := hd ((2 + 3 * k : Nat) : Int) (by omega) (by omega)
    have a2 := hd ((3 + 3 * k : Nat) : Int) (by omega) (by omega)
    have a3 := hd ((4 + 3 * k : Nat) : Int) (by omega) (by omega)
    rw [h.1] at a1
    rw [h.2.1] at a2
    rw [h.2.2] at a3
    exact ⟨a1, a2, a3⟩
  have d4 : ∀ q : Nat, q < M * M → (0 ≤ gt r ((2 + 3 * M + 2 * q : Nat) : Int) ∧ gt r ((2 + 3 * M + 2 * q : Nat) : Int) < 100) ∧ (0 ≤ gt r ((3 + 3 * M + 2 * q : Nat) : Int) ∧ gt r ((3 + 3 * M + 2 * q : Nat) : Int) < 5) := fun q hq => by
    have h := s5 ⟨q, by omega⟩ hq
    dsimp only at h
    have a1 := hd ((2 + 3 * M + 2 * q : Nat) : Int) (by omega) (by omega)
    have a2 := hd ((3 + 3 * M + 2 * q : Nat) : Int) (by omega) (by omega)
    rw [h.1] at a1
    rw [h.2] at a2
    exact ⟨a1, a2⟩
  have hli : (r.length : Int) - 1 = ((2 + 3 * M + 2 * (M * M) : Nat) : Int) := by omega
  generalize hlast : gt r ((2 + 3 * M + 2 * (M * M) : Nat) : Int) = last at d2
  have hcb := gt_all (l := [0, 1, 0, 1, 0, 2, 0, last]) (P := fun x => 0 ≤ x ∧ x ≤ 8) (i := gt r 0) (by simp; omega) (by omega) (by simp; omega)
  obtain ⟨cnt, hcnt⟩ : ∃ c : Nat, max 1 ((M : Int) - gt [0, 1, 0, 1, 0, 2, 0, last] (gt r 0)) = c := ⟨(max 1 ((M : Int) - gt [0, 1, 0, 1, 0, 2, 0, last] (gt r 0))).toNat, by omega⟩
  have hc1 : 1 ≤ cnt ∧ cnt ≤ M := by omega
  dsimp? only [f15, hli, hlast, hcnt]
  refine wp_range0 cnt rfl (fun k σ G => ∃ (fan line : Bool) (outer : Int) (o9 o13 o14 : Option W) (ws gs : List Int), σ = [some (.d (.lst (r.map .int))), some (.d (.int M)), some (.d (.int last)), some (.d (.int cnt)), some (.d (.bl fan)), some (.d (.bl line)), some (.d (.int outer)), some (.r 0), some (.r 1), o9, none, none, none, o13, o14, none, none, none] ∧ G = [.sh (ws.map .int), .sh (gs.map .int)] ∧
    ws.length = k ∧ (∀ x ∈ ws, 1 ≤ x ∧ x ≤ 9) ∧ gs.length ≤ k ∧ (∀ x ∈ gs, 0 ≤ x ∧ x < k) ∧ gs.Pairwise (· < ·)) ⟨_, _, _, none, none, none, [], [], rfl, rfl, rfl, by simp, by simp, by simp, by simp⟩ ?_ ?_
  · rintro k σ G hk ⟨fan, line, outer, o9, o13, o14, ws, gs, rfl, rfl, hw1, hw2, hg0, hg1, hg2⟩ R2 hR2
    obtain ⟨b1, b2, b3⟩ := d3 k (by omega)
    have t1 : (2 + 3 * (k : Int)).toNat = 2 + 3 * k := by omega
    have t2 : (5 + 3 * (k : Int)).toNat - (2 + 3 * k) = 3 := by omega
    have c0 := gt_cut (l := r) (a := 2 + 3 * k) (n := 3) (i := 0) (by omega) (by omega) (by omega)
    have c1 := gt_cut (l := r) (a := 2 + 3 * k) (n := 3) (i := 1) (by omega) (by omega) (by omega)
    have c2 := gt_cut (l := r) (a := 2 + 3 * k) (n := 3) (i := 2) (by omega) (by omega) (by omega)
    rw [show ((2 + 3 * k : Nat) : Int) + 0 = ((2 + 3 * k : Nat) : Int) by omega] at c0
    rw [show ((2 + 3 * k : Nat) : Int) + 1 = ((3 + 3 * k : Nat) : Int) by omega] at c1
    rw [show ((2 + 3 * k : Nat) : Int) + 2 = ((4 + 3 * k : Nat) : Int) by omega] at c2
    have cl := cut_len (l := r) (a := 2 + 3 * k) (n := 3) (by omega)
    rw [← c0] at b1
    rw [← c1] at b2
    rw [← c2] at b3
    have hwb := gt_all (l := [1, 1, 1, 2, 1, 2, 3, 1, 2]) (P := fun x : Int => 1 ≤ x ∧ x ≤ 9) (i := gt ((r.drop (2 + 3 * k)).take 3) 0) (by simp) (by omega) (by simp; omega)
    generalize hpart : (r.drop (2 + 3 * k)).take 3 = part at b1 b2 b3 cl hwb
    have g0 : ∀ x y : Int, gt [x, y] 0 = x := fun _ _ => rfl
    have g1 : ∀ x y : Int, gt [x, y] 1 = y := fun _ _ => rfl
    have hwid : ∀ (p q s : Prop) [Decidable p] [Decidable q] [Decidable s], 1 ≤ gt [gt [gt [1, 1, 1, 2, 1, 2, 3, 1, 2] (gt part 0), 1 + gt part 0] (if p then 1 else 0), gt [9, 1 + gt part 0 / 8] (if q then 1 else 0)] (if s then 1 else 0) ∧ gt [gt [gt [1, 1, 1, 2, 1, 2, 3, 1, 2] (gt part 0), 1 + gt part 0] (if p then 1 else 0), gt [9, 1 + gt part 0 / 8] (if q then 1 else 0)] (if s then 1 else 0) ≤ 9 := by
      intro p q s _ _ _
      by_cases hp : p <;> by_cases hq : q <;> by_cases hs : s <;> simp only [hp, hq, hs, if_true, if_false, g0, g1] <;> omega
    dsimp? only [f15_323, t1, t2, hpart]
    refine wp_if (fun hcc => ?_) (fun hcc => ?_)
    · dsimp? only []
      refine hR2 _ ⟨rfl, fan, line, outer, _, _, _, ws ++ [_], gs ++ [(k : Int)], rfl, by rw [List.map_append, List.map_append]; rfl, by simp [hw1], mem_app hw2 (hwid _ _ _), by simp; omega, mem_app (fun x hx => by have := hg1 x hx; omega) (by omega), inc_app hg2 fun y hy => (hg1 y hy).2⟩
    · dsimp? only []
      refine hR2 _ ⟨rfl, fan, line, outer, _, _, _, ws ++ [_], gs, rfl, by rw [List.map_append]; rfl, by simp [hw1], mem_app hw2 (hwid _ _ _), by omega, fun x hx => by have := hg1 x hx; omega, hg2⟩
  · rintro σ G ⟨fan, line, outer, o9, o13, o14, ws, gs, rfl, rfl, hw1, hw2, hg0, hg1, hg2⟩
    dsimp? only []
    have hval : ∀ x : I3, x = x := fun _ => rfl
    refine wp_range0 cnt rfl (fun a σ G => ∃ (o12 o13 o15 o16 o17 : Option W) (rs : List I3), σ = [some (.d (.lst (r.map .int))), some (.d (.int M)), some (.d (.int last)), some (.d (.int cnt)), some (.d (.bl fan)), some (.d (.bl line)), some (.d (.int outer)), some (.r 0), some (.r 1), o9, some (.r 2), some (.d (.int (2 + 3 * M))), o12, o13, o14, o15, o16, o17] ∧ G = [.sh (ws.map .int), .sh (gs.map .int), .sh (rs.map eR)] ∧
      rs.length ≤ 8 * a ∧ (∀ x ∈ rs, x.1 < a ∧ (0 ≤ x.1 ∧ x.1 < cnt) ∧ (0 ≤ x.2.1 ∧ x.2.1 < cnt) ∧ x.1 ≠ x.2.1 ∧ x.1 ∉ gs ∧ 0 ≤ x.2.2 ∧ x.2.2 ≤ 99) ∧ rs.Pairwise lt2) ⟨_, _, _, _, _, [], rfl, rfl, by simp, by simp, by simp⟩ ?_ ?_
    · rintro a σ G ha ⟨o12, o13, o15, o16, o17, rs, rfl, rfl, hr0, hr1, hr2⟩ R2 hR2
      dsimp? only [f15_331]
      refine wp_range0 cnt rfl (fun b σ G => ∃ (o13 o15 o16 o17 : Option W) (rs : List I3), σ = [some (.d (.lst (r.map .int))), some (.d (.int M)), some (.d (.int last)), some (.d (.int cnt)), some (.d (.bl fan)), some (.d (.bl line)), some (.d (.int outer)), some (.r 0), some (.r 1), o9, some (.r 2), some (.d (.int (2 + 3 * M))), some (.d (.int a)), o13, o14, o15, o16, o17] ∧ G = [.sh (ws.map .int), .sh (gs.map .int), .sh (rs.map eR)] ∧
        rs.length ≤ 8 * a + b ∧ (∀ x ∈ rs, (x.1 < a ∨ x.1 = a ∧ x.2.1 < b) ∧ (0 ≤ x.1 ∧ x.1 < cnt) ∧ (0 ≤ x.2.1 ∧ x.2.1 < cnt) ∧ x.1 ≠ x.2.1 ∧ x.1 ∉ gs ∧ 0 ≤ x.2.2 ∧ x.2.2 ≤ 99) ∧ rs.Pairwise lt2) ⟨_, _, _, _, rs, rfl, rfl, by omega, fun x hx => ⟨.inl (hr1 x hx).1, (hr1 x hx).2⟩, hr2⟩ ?_ ?_
      · rintro b σ G hb ⟨o13, o15, o16, o17, rs, rfl, rfl, hr0, hr1, hr2⟩ R3 hR3
        obtain ⟨q, hq, hqM⟩ : ∃ q : Nat, (a : Int) * M + b = q ∧ q < M * M := by
          refine ⟨a * M + b, by simp, ?_⟩
          have : a * M + b < (a + 1) * M := by rw [Nat.add_mul]; omega
          exact Nat.lt_of_lt_of_le this (Nat.mul_le_mul_right M (by omega))
        obtain ⟨b1, b2⟩ := d4 q hqM
        have t1 : (2 + 3 * (M : Int) + 2 * (q : Int)).toNat = 2 + 3 * M + 2 * q := by omega
        have t2 : (2 + 3 * (M : Int) + 2 * (q : Int) + 2).toNat - (2 + 3 * M + 2 * q) = 2 := by omega
        have c0 := gt_cut (l := r) (a := 2 + 3 * M + 2 * q) (n := 2) (i := 0) (by omega) (by omega) (by omega)
        have c1 := gt_cut (l := r) (a := 2 + 3 * M + 2 * q) (n := 2) (i := 1) (by omega) (by omega) (by omega)
        rw [show ((2 + 3 * M + 2 * q : Nat) : Int) + 0 = ((2 + 3 * M + 2 * q : Nat) : Int) by omega] at c0
        rw [show ((2 + 3 * M + 2 * q : Nat) : Int) + 1 = ((3 + 3 * M + 2 * q : Nat) : Int) by omega] at c1
        have cl := cut_len (l := r) (a := 2 + 3 * M + 2 * q) (n := 2) (by omega)
        rw [← c0] at b1
        rw [← c1] at b2
        generalize hpart : (r.drop (2 + 3 * M + 2 * q)).take 2 = part at b1 b2 cl
        have hcost := gt_all (l := [gt part 0, gt part 0 % 4, gt part 0 % 13, gt part 0 / 3, gt part 0 % 13, gt part 0 / 5, 2 * (gt part 0 % 13), 0]) (P := fun x : Int => 0 ≤ x ∧ x ≤ 99) (i := gt r 1) (by simp; omega) (by omega) (by simp; omega)
        dsimp? only [f15_332, hq, t1, t2, hpart, truth_bb]
        have okx : (a : Int) ≠ (b : Int) → (a : Int) ∉ gs → ∀ c : Int, 0 ≤ c ∧ c ≤ 99 → ∃ rs2 : List I3, rs2 = rs ++ [((a : Int), (b : Int), c)] ∧ rs2.length ≤ 8 * a + (b + 1) ∧ (∀ x ∈ rs2, (x.1 < a ∨ x.1 = a ∧ x.2.1 < (b + 1 : Nat)) ∧ (0 ≤ x.1 ∧ x.1 < cnt) ∧ (0 ≤ x.2.1 ∧ x.2.1 < cnt) ∧ x.1 ≠ x.2.1 ∧ x.1 ∉ gs ∧ 0 ≤ x.2.2 ∧ x.2.2 ≤ 99) ∧ rs2.Pairwise lt2 := by
          intro h1 h2 c hc
          refine ⟨_, rfl, by simp; omega, mem_app (fun x hx => ?_) ?_, inc3_app hr2 fun y hy => ?_⟩
          · have := hr1 x hx
            exact ⟨by omega, this.2⟩
          · exact ⟨.inr ⟨rfl, by show (b : Int) < ((b + 1 : Nat) : Int); omega⟩, by dsimp only; omega, by dsimp only; omega, by dsimp only; omega, h2, hc⟩
          · have := (hr1 y hy).1
            unfold lt2
            exact this
        refine wp_if (fun _ => ?_) (fun _ => ?_) <;> (dsimp? only [truth_bb]; refine wp_if (fun _ => ?_) (fun _ => ?_)) <;> (dsimp? only [truth_bb, in_cell]; refine wp_if (fun hc => ?_) (fun _ => ?_))
        · simp only [Bool.and_eq_true, decide_eq_true_eq] at hc
          obtain ⟨rs2, e2, l1, l2, l3⟩ := okx hc.1 hc.2.1 _ hcost
          dsimp? only []
          exact hR3 _ ⟨rfl, _, _, _, _, rs2, rfl, by rw [e2, List.map_append]; rfl, l1, l2, l3⟩
        · dsimp? only []
          refine hR3 _ ⟨rfl, _, _, _, _, rs, rfl, rfl, by omega, fun x hx => ?_, hr2⟩
          have := hr1 x hx
          exact ⟨by omega, this.2⟩
        · simp only [Bool.and_eq_true, decide_eq_true_eq] at hc
          obtain ⟨rs2, e2, l1, l2, l3⟩ := okx hc.1 hc.2.1 _ hcost
          dsimp? only []
          exact hR3 _ ⟨rfl, _, _, _, _, rs2, rfl, by rw [e2, List.map_append]; rfl, l1, l2, l3⟩
        · dsimp? only []
          refine hR3 _ ⟨rfl, _, _, _, _, rs, rfl, rfl, by omega, fun x hx => ?_, hr2⟩
          have := hr1 x hx
          exact ⟨by omega, this.2⟩
        · simp only [Bool.and_eq_true, decide_eq_true_eq] at hc
          obtain ⟨rs2, e2, l1, l2, l3⟩ := okx hc.1 hc.2.1 _ hcost
          dsimp? only []
          exact hR3 _ ⟨rfl, _, _, _, _, rs2, rfl, by rw [e2, List.map_append]; rfl, l1, l2, l3⟩
        · dsimp? only []
          refine hR3 _ ⟨rfl, _, _, _, _, rs, rfl, rfl, by omega, fun x hx => ?_, hr2⟩
          have := hr1 x hx
          exact ⟨by omega, this.2⟩
        · simp only [Bool.and_eq_true, decide_eq_true_eq] at hc
          obtain ⟨rs2, e2, l1, l2, l3⟩ := okx hc.1 hc.2.1 _ hcost
          dsimp? only []
          exact hR3 _ ⟨rfl, _, _, _, _, rs2, rfl, by rw [e2, List.map_append]; rfl, l1, l2, l3⟩
        · dsimp? only []
          refine hR3 _ ⟨rfl, _, _, _, _, rs, rfl, rfl, by omega, fun x hx => ?_, hr2⟩
          have := hr1 x hx
          exact ⟨by omega, this.2⟩
      · rintro σ G ⟨o13, o15, o16, o17, rs, rfl, rfl, hr0, hr1, hr2⟩
        dsimp? only []
        refine hR2 _ ⟨rfl, _, _, _, _, _, rs, rfl, rfl, by omega, fun x hx => ?_, hr2⟩
        have := hr1 x hx
        exact ⟨by omega, this.2⟩
    · rintro σ G ⟨o12, o13, o15, o16, o17, rs, rfl, rfl, hr0, hr1, hr2⟩
      dsimp? only [mkL0_def, fzL_cons, fzL_nil]
      refine hR _ _ rfl ⟨⟨ws, rs, gs⟩, rfl, ⟨by show 1 ≤ ws.length; omega, by show ws.length ≤ 8; omega, hw2, fun x hx => ?_, hg2, fun x hx => ?_, hr2⟩⟩
      · have := hg1 x hx
        dsimp only; omega
      · have := (hr1 x hx).2
        dsimp only
        rw [hw1]; exact this
end Rw

end

-- part Qm
section
set_option Elab.async false
set_option linter.all false
set_option maxRecDepth 4000
namespace Rw
open Ev PySem
theorem set_bl (l : List Bool) (i : Nat) (x : Bool) : (l.map D.bl).set i (.bl x) = (l.set i x).map .bl := by rw [List.map_set]
theorem c38 {n : Nat} (hn : 0 < n) (w : List Int) (rs : List I3) (gs : List Int) (hw : w.length ≤ 8) (hr : ∀ x ∈ rs, (0 ≤ x.1 ∧ x.1 < w.length) ∧ (0 ≤ x.2.1 ∧ x.2.1 < w.length)) : ∃ x, (lvl T n).call 38 [.lst [.lst (w.map .int), .lst (rs.map eR), .lst (gs.map .int)], .lst []] = .ok x ∧ ∃ bs : List Bool, x = .lst (bs.map .bl) ∧ bs.length = w.length ∧ ∀ k : Nat, k < w.length → (k : Int) ∈ gs → gt bs (k : Int) = true := by
  refine call_ret hn (f := f38) rfl rfl fun m _ R hR => ?_
  obtain ⟨net, hnet⟩ : ∃ d, d = D.lst [.lst (w.map .int), .lst (rs.map eR), .lst (gs.map .int)] := ⟨_, rfl⟩
  have n0 : ∀ G, subW (.d net) (.d (.int 0)) G = .ok (.d (.lst (w.map .int))) G := fun G => by rw [hnet]; exact sub_l0 ..
  have n1 : ∀ G, subW (.d net) (.d (.int 1)) G = .ok (.d (.lst (rs.map eR))) G := fun G => by rw [hnet]; exact sub_l1 ..
  have n2 : ∀ G, subW (.d net) (.d (.int 2)) G = .ok (.d (.lst (gs.map .int))) G := fun G => by rw [hnet]; exact sub_l2 ..
  rw [← hnet]
  dsimp? only [f38, n0, n1, n2]
  rw [lcR w.length (fun k => .bl (decide ((k : Int) ∈ gs))) (by (dsimp? [n0]; try rfl)) (fun j hj => by
    dsimp? only [n2])]
  have e : (List.range w.length).map (fun (k : Nat) => D.bl (decide ((k : Int) ∈ gs))) = ((List.range w.length).map fun (k : Nat) => decide ((k : Int) ∈ gs)).map .bl := by rw [List.map_map]; rfl
  rw [e]
  dsimp? only [n0, n1, n2]
  refine wp_range0 w.length rfl (fun k σ G => ∃ (o3 o4 o5 : Option W) (bs : List Bool), σ = [some (.d net), some (.d (.lst [])), some (.r 0), o3, o4, o5] ∧ G = [.sh (bs.map .bl)] ∧ bs.length = w.length ∧ ∀ k : Nat, k < w.length → (k : Int) ∈ gs → gt bs (k : Int) = true) ⟨_, _, _, _, rfl, rfl, by simp, fun k hk hg => ?_⟩ ?_ ?_
  · refine gt_nat ?_
    rw [List.getElem?_map, List.getElem?_range hk]
    simp [hg]
  · rintro k σ G hk ⟨o3, o4, o5, bs, rfl, rfl, hb1, hb2⟩ R2 hR2
    dsimp? only [f38_345, n1]
    refine wp_eachD rs (fun k2 σ G => ∃ (o4 o5 : Option W) (bs : List Bool), σ = [some (.d net), some (.d (.lst [])), some (.r 0), some (.d (.int k)), o4, o5] ∧ G = [.sh (bs.map .bl)] ∧ bs.length = w.length ∧ ∀ k : Nat, k < w.length → (k : Int) ∈ gs → gt bs (k : Int) = true) ⟨_, _, bs, rfl, rfl, hb1, hb2⟩ ?_ ?_
    · rintro q x σ G e ⟨o4, o5, bs, rfl, rfl, hb1, hb2⟩ R3 hR3
      have hx := hr x (List.mem_of_getElem? e)
      dsimp? only [f38_346, truth_bb]
      refine wp_if (fun hc => ?_) (fun hc => ?_)
      · dsimp? only [set_bl]
        refine hR3 _ ⟨rfl, _, _, bs.set x.1.toNat true, rfl, rfl, by rw [List.length_set]; exact hb1, fun k hk hg => ?_⟩
        rw [gt_set (by omega) (by omega)]
        split
        · rfl
        · exact hb2 k hk hg
      · dsimp? only []
        exact hR3 _ ⟨rfl, _, _, bs, rfl, rfl, hb1, hb2⟩
    · rintro σ G ⟨o4, o5, bs, rfl, rfl, hb1, hb2⟩
      dsimp? only []
      exact hR2 _ ⟨rfl, _, _, _, bs, rfl, rfl, hb1, hb2⟩
  · rintro σ G ⟨o3, o4, o5, bs, rfl, rfl, hb1, hb2⟩
    dsimp? only []
    exact hR _ _ rfl ⟨bs, rfl, hb1, hb2⟩
theorem lcIt {α : Type} {Φ : Fns} {k i : Nat} {elt a c : E} {own : List Nat} {σ : Sl} {G G1 : Gs} (j : Nat) (xs : List α) (e f : α → D) (p : α → Bool) (hs : evE Φ a σ G = .ok (.r j) G1) (hg : items G1 (.r j) = some ((xs.map e).map .d)) (hw : watch [j] G1 G1 = true)
    (h : ∀ x ∈ xs, evE Φ c (setS (wipeS σ own) i (.d (e x))) G1 = .ok (.d (.bl (p x))) G1 ∧ (p x = true → evE Φ elt (setS (wipeS σ own) i (.d (e x))) G1 = .ok (.d (f x)) G1)) :
    evE Φ (.lc k elt (.var i) (.val a) own (some c)) σ G = mkL k (((xs.filter p).map f).map .d) G1 :=
  evE_lcif (enc := fun x => .one (.d (e x))) (cs := [j]) p f (by rw [q_val, hs, bind_ok, q_KWalk, walk_r, hg]; simp only [Ev.cellOf, List.map_map]; rfl) hw fun x hx => ⟨_, rfl, h x hx⟩
theorem q_KSubCf {α : Type} [Inhabited α] {f : α → D} {l : List α} {k : Int} {G : Gs} (h0 : 0 ≤ k) (h1 : k < l.length) : KSubC (some (.fz (.lst (l.map f)))) k G = .ok (.d (f (gt l k))) G := q_KSubC (f := f) h0 h1
theorem q_KMtyf (ds : List D) : KMty (some (.fz (.lst ds))) = true := rfl
/-- roads on the way -/
structure RsOk (N : Int) (gs : List Int) (rs : List I3) : Prop where
  r : ∀ x ∈ rs, (0 ≤ x.1 ∧ x.1 < N) ∧ (0 ≤ x.2.1 ∧ x.2.1 < N) ∧ x.1 ≠ x.2.1 ∧ x.1 ∉ gs ∧ 0 ≤ x.2.2 ∧ x.2.2 ≤ 99
  d : rs.Pairwise fun x y => ¬ (x.1 = y.1 ∧ x.2.1 = y.2.1)
theorem rs_filter {N : Int} {gs : List Int} {rs : List I3} (h : RsOk N gs rs) (p : I3 → Bool) : RsOk N gs (rs.filter p) := ⟨fun x hx => h.r x (List.mem_filter.mp hx).1, h.d.filter p⟩
theorem le3_trans (a b c : I3) (h1 : le3 a b = true) (h2 : le3 b c = true) : le3 a c = true := by
  unfold le3 at *
  simp only [decide_eq_true_eq] at *
  omega
theorem le3_total (a b : I3) : (le3 a b || le3 b a) = true := by
  unfold le3
  rw [dec_or, decide_eq_true_eq]
  omega
theorem rs_sorted {N : Int} {gs : List Int} {rs : List I3} (h : RsOk N gs rs) : (∀ x ∈ rs.mergeSort le3, (0 ≤ x.1 ∧ x.1 < N) ∧ (0 ≤ x.2.1 ∧ x.2.1 < N) ∧ x.1 ≠ x.2.1 ∧ x.1 ∉ gs ∧ 0 ≤ x.2.2 ∧ x.2.2 ≤ 99) ∧ (rs.mergeSort le3).Pairwise lt2 := by
  have hp := List.mergeSort_perm rs le3
  refine ⟨fun x hx => h.r x (hp.mem_iff.mp hx), ?_⟩
  have h1 := List.pairwise_mergeSort (le := le3) le3_trans le3_total rs
  have h2 : (rs.mergeSort le3).Pairwise fun x y => ¬ (x.1 = y.1 ∧ x.2.1 = y.2.1) := (hp.pairwise_iff (fun {x y} h q => h ⟨q.1.symm, q.2.symm⟩)).mpr h.d
  refine (h1.and h2).imp fun {x y} hxy => ?_
  obtain ⟨a, b⟩ := hxy
  unfold le3 at a
  simp only [decide_eq_true_eq] at a
  unfold lt2
  omega
end Rw

end

-- part Qn
section
set_option Elab.async false
set_option linter.all false
set_option maxRecDepth 4000
namespace Rw
open Ev PySem
theorem ok_rs {v : NetV} (h : v.Ok) : RsOk v.w.length v.g v.r := ⟨h.r, h.rs.imp fun {x y} hxy => by unfold lt2 at hxy; omega⟩
theorem nl_bl (l : List Bool) : nolistB (.lst (l.map .bl)) = false := rfl
theorem q_KFc2l {f : List D → PR} {ws : List W} {G : Gs} {xs : List D} : KFc2 f ws G (.ok (.lst xs)) = (match fzL (fz fzN) ws G with
        | some p => (match f p.1 with
          | .ok y => .ok (.d y) p.2
          | _ => .no)
        | none => .no) := rfl
theorem sorted_items {Φ : Fns} {G : Gs} {i : Nat} {ds : List D} (e : items G (.r i) = some (ds.map .d)) (h1 : sortOk ds = true) (h2 : ds.length ≤ 16777216) : bltW Φ 0 .sorted [.r i] G = .ok (.d (.lst (sortD ds))) G := by
  rw [sorted_r, e]
  simp only [fzL_d, h1, line_ok h2, Bool.and_self, if_true]
  exact mkL0 (by unfold sortD; rw [List.length_mergeSort]; exact h2)
theorem c16 {n : Nat} (hn : 1 < n) (v : NetV) (h : v.Ok) : ∃ x, (lvl T n).call 16 [eN v] = .ok x ∧ ∃ v2 : NetV, x = eN v2 ∧ v2.Ok := by
  refine call_ret (by omega) (f := f16) rfl rfl fun m hm R hR => ?_
  have h1 := h.w1
  have h8 := h.w8
  have hrl := roads_len (by omega) (fun x hx => ⟨(h.r x hx).1, (h.r x hx).2.1, (h.r x hx).2.2.1⟩) h.rs
  have hgl : (v.g.length : Int) ≤ v.w.length - 0 := inc_len v.g 0 v.w.length h.gs h.g (by omega)
  -- from the free places on
  have main : ∀ (gs : List Int) (rs0 : List I3) (J : Gs) (o4 : Option W), gs ≠ [] → gs.length ≤ 8 → (∀ x ∈ gs, 0 ≤ x ∧ x < v.w.length) → gs.Pairwise (· < ·) → RsOk v.w.length gs rs0 → rs0.length ≤ 62 → killT J = J →
      Wp (evSs (lvl T m) [.set [] 3 (.call 38 [(.lst 0 [(.sub (.var 0) (.lit (.int 0))), (.var 2), (.var 1)]), (.lst 0 [])]), .for (.var 4) (.range (.lit (.int 0)) (.blt 0 .len [(.sub (.var 0) (.lit (.int 0)))])) f16_357, .ret (.lst 0 [(.blt 0 .list [(.sub (.var 0) (.lit (.int 0)))]), (.blt 0 .sorted [(.var 2)]), (.blt 0 .sorted [(.var 1)])])] 0
        [some (.d (eN v)), some (.r 0), some (.r (J.length + 1)), none, o4, none] (.sh (gs.map .int) :: (J ++ [.sh (rs0.map eR)]))) R := by
    intro gs rs0 J o4 g1 g2 g3 g4 hrs hrsl hJ
    have gpos : 0 < gs.length := List.length_pos_iff.mpr g1
    obtain ⟨x, e1, bs, rfl, hbl, hbs⟩ := c38 (n := m) (by omega) v.w rs0 gs h8 (fun x hx => ⟨(hrs.r x hx).1, (hrs.r x hx).2.1⟩)
    dsimp? only [mkL0_def, fzL_cons, fzL_nil, e1, q_KFc2l]
    refine wp_range0 v.w.length rfl (fun k σ G => ∃ (o4 : Option W) (J : Gs) (c : Cell) (rs : List I3), σ = [some (.d (eN v)), some (.r 0), some (.r (J.length + 1)), some (.d (.lst (bs.map .bl))), o4, none] ∧ G = .fz (.lst (gs.map .int)) :: (J ++ [c]) ∧ (c = .sh (rs.map eR) ∨ c = .fz (.lst (rs.map eR))) ∧ RsOk v.w.length gs rs ∧ rs.length ≤ 62 + k) ⟨_, J, _, rs0, rfl, rfl, .inr rfl, hrs, by omega⟩ ?_ ?_
    · rintro k σ G hk ⟨o4, J, c, rs, rfl, rfl, hc, hrs, hrl⟩ R2 hR2
      have hlg := g3 _ (gt_mem (l := gs) (i := (gs.length : Int) - 1) (by omega) (by omega))
      have hlm : gt gs ((gs.length : Int) - 1) ∈ gs := gt_mem (by omega) (by omega)
      dsimp? only [f16_357, truth_bb, q_KSubCf]
      refine wp_if (fun hb => ?_) (fun hb => ?_)
      · have hkg : (k : Int) ∉ gs := fun hin => by have := hbs k hk hin; simp [this] at hb
        have hkl : (k : Int) ≠ gt gs ((gs.length : Int) - 1) := fun q => hkg (q ▸ hlm)
        dsimp? only []
        rw [lcIt (J.length + 1) rs eR eR (fun x => decide (x.1 ≠ (k : Int) ∨ x.2.1 ≠ gt gs ((gs.length : Int) - 1))) (by (dsimp? []; try rfl)) (by rcases hc with rfl | rfl <;> dsimp? only []) (by rcases hc with rfl | rfl <;> dsimp? only [watch_K, q_KW2s, q_KW2f]) (fun x hx => by
          constructor
          · dsimp? only [len_r, q_KSubCf]
          · intro _; dsimp? only [])]
        have hfl := List.length_filter_le (fun x => decide (x.1 ≠ (k : Int) ∨ x.2.1 ≠ gt gs ((gs.length : Int) - 1))) rs
        have hrs2 := rs_filter hrs (fun x => decide (x.1 ≠ (k : Int) ∨ x.2.1 ≠ gt gs ((gs.length : Int) - 1)))
        have hnew : ∀ x ∈ rs.filter (fun x => decide (x.1 ≠ (k : Int) ∨ x.2.1 ≠ gt gs ((gs.length : Int) - 1))), ¬ (x.1 = (k : Int) ∧ x.2.1 = gt gs ((gs.length : Int) - 1)) := fun x hx q => by
          have := (List.mem_filter.mp hx).2
          simp only [decide_eq_true_eq] at this
          omega
        generalize rs.filter (fun x => decide (x.1 ≠ (k : Int) ∨ x.2.1 ≠ gt gs ((gs.length : Int) - 1))) = rs2 at hfl hrs2 hnew
        dsimp? only [q_KSubCf]
        refine hR2 _ ⟨rfl, _, J ++ [c], _, rs2 ++ [((k : Int), gt gs ((gs.length : Int) - 1), 0)], by rw [List.length_append]; rfl, by rw [List.append_assoc]; rfl, .inl (by rw [List.map_append]; rfl), ⟨mem_app hrs2.r ⟨by dsimp only; omega, hlg, hkl, hkg, Int.le_refl 0, (by show (0:Int) ≤ 99; omega)⟩, ?_⟩, by simp; omega⟩
        rw [List.pairwise_append]
        refine ⟨hrs2.d, List.pairwise_singleton _ _, fun a ha b hb => ?_⟩
        rw [List.mem_singleton] at hb
        subst hb
        exact hnew a ha
      · dsimp? only []
        exact hR2 _ ⟨rfl, _, J, c, rs, rfl, rfl, hc, hrs, by omega⟩
    · rintro σ G ⟨o4, J, c, rs, rfl, rfl, hc, hrs, hrl⟩
      obtain ⟨q1, q2⟩ := rs_sorted hrs
      dsimp? only []
      rw [sorted_items (ds := rs.map eR) (by rcases hc with rfl | rfl <;> dsimp? only []) (sortOk_3 rs) (by simp; omega)]
      dsimp? only []
      rw [sorted_items (ds := gs.map .int) (by dsimp? only []) (sortOk_ints gs) (by simp; omega), sort_same_ints g4, sortD_3]
      dsimp? only []
      exact hR _ _ rfl ⟨⟨v.w, rs.mergeSort le3, gs⟩, rfl, ⟨h1, h8, h.w, g3, g4, q1, q2⟩⟩
  dsimp? only [f16]
  refine wp_ifd (fun h0 => ?_) (fun h0 => ?_)
  · have hg0 : v.g = [] := List.eq_nil_of_length_eq_zero (by omega)
    dsimp? only [hg0]
    rw [lcCif 1 v.r eR eR (fun x => decide (¬ x.1 = (v.w.length : Int) - 1)) (by (dsimp? []; try rfl)) (by rfl) (by dsimp? only [watch_K, q_KW2s]) (fun x hx => ⟨by dsimp? only [], fun _ => by dsimp? only []⟩)]
    have hfl := List.length_filter_le (fun x => decide (¬ x.1 = (v.w.length : Int) - 1)) v.r
    rw [mkL1 (by rw [List.length_map]; omega)]
    have hm := main [(v.w.length : Int) - 1] (v.r.filter fun x => decide (¬ x.1 = (v.w.length : Int) - 1)) [.sh (v.r.map eR)] none (by simp) (by simp) (by simp; omega) (by simp) ⟨fun x hx => ?_, (ok_rs h).d.filter _⟩ (by omega) rfl
    · exact hm
    · have := h.r x (List.mem_filter.mp hx).1
      have h2 := (List.mem_filter.mp hx).2
      simp only [decide_eq_true_eq] at h2
      refine ⟨this.1, this.2.1, this.2.2.1, by simpa using h2, this.2.2.2.2⟩
  · have hm := main v.g v.r [] none (fun q => h0 (by rw [q]; rfl)) (by omega) h.g h.gs (ok_rs h) (by omega) rfl
    exact hm
end Rw

end

-- part Qo
section
set_option Elab.async false
set_option linter.all false
set_option maxRecDepth 4000
namespace Rw
open Ev PySem
def parSizes (m c : Nat) : List Int := [(m : Int) + 2, 4, 9, 6] ++ (List.replicate m ([100, 6] ++ (List.replicate c [9, 3]).flatten)).flatten
theorem c17 {n : Nat} (hn : 0 < n) (m c : Nat) (hm : m ≤ 8) (hc : c ≤ 3) : (lvl T n).call 17 [.int m, .int c] = .ok (.lst ((parSizes m c).map .int)) := by
  refine call_eq (by omega) (f := f17) rfl rfl fun m' hm' R hR => ?_
  have e1 := rep_ints c [9, 3]
  have e2 := rep_ints m ([100, 6] ++ (List.replicate c [9, 3]).flatten)
  have l1 : ((List.replicate c [(9:Int), 3]).flatten).length = 2 * c := by simp; omega
  have l0 : ([(100:Int), 6] ++ (List.replicate c [9, 3]).flatten).length = 2 + 2 * c := by rw [List.length_append, l1]; rfl
  have l2 : ((List.replicate m ([(100:Int), 6] ++ (List.replicate c [9, 3]).flatten)).flatten).length = m * (2 + 2 * c) := by
    simp only [List.length_flatten, List.map_replicate, List.sum_replicate_nat, l0]
  have l3 : m * (2 + 2 * c) ≤ 8 * 8 := Nat.mul_le_mul hm (by omega)
  simp only [List.map_cons, List.map_nil, List.map_append, List.cons_append, List.nil_append] at e1 e2 l2
  dsimp? [f17, e1, e2, l1, l2]
  refine hR _ ?_
  simp [O.res, fz_d, parSizes]
theorem par_at : ∀ m : Fin 9, ∀ c : Fin 4, (parSizes m c).length = 4 + m.1 * (2 + 2 * c.1) ∧ gt (parSizes m c) 0 = (m.1 : Int) + 2 ∧ gt (parSizes m c) 1 = 4 ∧ gt (parSizes m c) 2 = 9 ∧ gt (parSizes m c) 3 = 6 ∧ ∀ k : Fin 8, k.1 < m.1 → gt (parSizes m c) (4 + (2 + 2 * c.1) * k.1 : Nat) = 100 ∧ gt (parSizes m c) (4 + (2 + 2 * c.1) * k.1 + 1 : Nat) = 6 ∧ ∀ j : Fin 3, j.1 < c.1 → gt (parSizes m c) (4 + (2 + 2 * c.1) * k.1 + (2 + 2 * j.1) : Nat) = 9 ∧ gt (parSizes m c) (4 + (2 + 2 * c.1) * k.1 + (3 + 2 * j.1) : Nat) = 3 := by decide +kernel
theorem par_ok (m c : Nat) (hm : m ≤ 8) (hc : c ≤ 3) : ∀ s ∈ parSizes m c, 0 < s ∧ s ≤ 1000000 := by
  have : ∀ m : Fin 9, ∀ c : Fin 4, ∀ s ∈ parSizes m c, 0 < s ∧ s ≤ 1000000 := by decide +kernel
  exact this ⟨m, by omega⟩ ⟨c, by omega⟩
/-- a part of a parcel's row -/
structure PartOk (c : Nat) (part : List Int) : Prop where
  l : part.length = 2 + 2 * c
  p0 : 0 ≤ gt part 0 ∧ gt part 0 < 100
  p1 : 0 ≤ gt part 1 ∧ gt part 1 < 6
  pj : ∀ j : Nat, j < c → 0 ≤ gt part (2 + 2 * j) ∧ gt part (2 + 2 * j) < 9
theorem part_ok {m c : Nat} (hm : m ≤ 8) (hc : c ≤ 3) {r : List Int} (hr : Dig (parSizes m c) r) (k : Nat) (hk : k < m) : PartOk c ((r.drop (4 + (2 + 2 * c) * k)).take (2 + 2 * c)) := by
  obtain ⟨p0, p1, p2, p3, p4, p5⟩ := par_at ⟨m, by omega⟩ ⟨c, by omega⟩
  obtain ⟨q1, q2, q3⟩ := p5 ⟨k, by omega⟩ hk
  dsimp only at p0 q1 q2 q3
  obtain ⟨hl, hd⟩ := hr
  have hle : 4 + (2 + 2 * c) * k + (2 + 2 * c) ≤ r.length := by
    have h1 : (2 + 2 * c) * (k + 1) ≤ (2 + 2 * c) * m := Nat.mul_le_mul_left _ hk
    have h2 : m * (2 + 2 * c) = (2 + 2 * c) * m := Nat.mul_comm _ _
    rw [Nat.mul_add, Nat.mul_one] at h1
    omega
  have key : ∀ i : Nat, i < 2 + 2 * c → gt ((r.drop (4 + (2 + 2 * c) * k)).take (2 + 2 * c)) (i : Int) = gt r ((4 + (2 + 2 * c) * k + i : Nat) : Int) ∧ 0 ≤ gt r ((4 + (2 + 2 * c) * k + i : Nat) : Int) ∧ gt r ((4 + (2 + 2 * c) * k + i : Nat) : Int) < gt (parSizes m c) ((4 + (2 + 2 * c) * k + i : Nat) : Int) := fun i hi => by
    have a1 := gt_cut (l := r) (a := 4 + (2 + 2 * c) * k) (n := 2 + 2 * c) (i := (i : Int)) (by omega) (by omega) (by omega)
    have a2 := hd ((4 + (2 + 2 * c) * k + i : Nat) : Int) (by omega) (by omega)
    exact ⟨by rw [a1]; congr 1, a2⟩
  refine ⟨cut_len hle, ?_, ?_, fun j hj => ?_⟩
  · obtain ⟨a, b, d⟩ := key 0 (by omega)
    rw [Nat.add_zero] at a b d
    rw [q1] at d
    rw [show (0 : Int) = ((0 : Nat) : Int) from rfl, a]
    exact ⟨b, d⟩
  · obtain ⟨a, b, d⟩ := key 1 (by omega)
    rw [q2] at d
    rw [show (1 : Int) = ((1 : Nat) : Int) from rfl, a]
    exact ⟨b, d⟩
  · obtain ⟨a, b, d⟩ := key (2 + 2 * j) (by omega)
    rw [(q3 ⟨j, by omega⟩ hj).1] at d
    rw [show (2 + 2 * (j : Int)) = ((2 + 2 * j : Nat) : Int) by omega, a]
    exact ⟨b, d⟩
end Rw

end

-- part Qp
section
set_option Elab.async false
set_option linter.all false
set_option maxRecDepth 4000
namespace Rw
open Ev PySem
def StOk (ns : List NetV) (st : List Int) : Prop := ∀ i : Nat, i < st.length → 0 ≤ gt st (i : Int) ∧ gt st (i : Int) < (gt ns (i : Int)).w.length
theorem st_app {ns : List NetV} {st : List Int} {x : Int} (h : StOk ns st) (hx : 0 ≤ x ∧ x < (gt ns (st.length : Int)).w.length) : StOk ns (st ++ [x]) := by
  intro i hi
  simp only [List.length_append, List.length_cons, List.length_nil] at hi
  by_cases h1 : i < st.length
  · rw [gt_app (by omega) (by omega)]; exact h i h1
  · have : i = st.length := by omega
    subst this
    rw [gt_end]; exact hx
theorem par_of {ns : List NetV} {st : List Int} {v d : Int} (hl : st.length = ns.length) (h : StOk ns st) (hv : 0 ≤ v ∧ v ≤ 99) (hd : 1 ≤ d ∧ d ≤ 3) : (ParV.mk st v d).Ok ns := by
  refine ⟨hl, fun q hq => ?_, hv, hd⟩
  obtain ⟨i, hi⟩ := List.mem_iff_getElem?.mp hq
  obtain ⟨h1, h2⟩ := (List.getElem?_zip_eq_some).mp hi
  have := h i (List.getElem?_eq_some_iff.mp h1).1
  rwa [gt_nat h1, gt_nat h2] at this
theorem of_par {ns : List NetV} {p : ParV} (h : p.Ok ns) : StOk ns p.s := by
  intro i hi
  have hl := h.l
  have := h.s _ (List.mem_of_getElem? (zip_take (get_gt hi) (get_gt (l := ns) (k := i) (by omega))))
  exact this
theorem c18 {n : Nat} (hn : 0 < n) (m : Nat) (ns : List NetV) (r : List Int) (hm1 : 1 ≤ m) (hm : m ≤ 8) (hc1 : 1 ≤ ns.length) (hc : ns.length ≤ 3) (hns : ∀ v ∈ ns, 1 ≤ v.w.length ∧ v.w.length ≤ 8) (hr : Dig (parSizes m ns.length) r) :
    ∃ x, (lvl T n).call 18 [.lst (r.map .int), .int m, .lst (ns.map eN)] = .ok x ∧ ∃ ps : List ParV, x = .lst (ps.map eP) ∧ ps.length ≤ m ∧ ∀ p ∈ ps, p.Ok ns := by
  refine call_ret hn (f := f18) rfl rfl fun m' _ R hR => ?_
  obtain ⟨p0, p1, p2, p3, p4, -⟩ := par_at ⟨m, by omega⟩ ⟨ns.length, by omega⟩
  dsimp only at p0 p1 p2 p3 p4
  have hl := hr.1
  have hrl : r.length ≤ 1000 := by
    have : m * (2 + 2 * ns.length) ≤ 8 * 8 := Nat.mul_le_mul hm (by omega)
    omega
  have d0 := hr.2 0 (by omega) (by omega)
  have d1 := hr.2 1 (by omega) (by omega)
  have d2 := hr.2 2 (by omega) (by omega)
  have d3 := hr.2 3 (by omega) (by omega)
  rw [p1] at d0
  rw [p2] at d1
  rw [p3] at d2
  rw [p4] at d3
  have hpb := gt_all (l := [0, 0, 1, 1, 2, 0, 3, 0, 1, 2]) (P := fun x : Int => 0 ≤ x ∧ x ≤ 3) (i := gt r 0 % 10) (by simp) (by omega) (by simp; omega)
  have cntE : ∀ z : Int, 0 ≤ z ∧ z ≤ m → ∃ c : Nat, z = c ∧ c ≤ m := fun z hz => ⟨z.toNat, by omega, by omega⟩
  have e1 := Int.emod_nonneg (gt [0, 0, 1, 1, 2, 0, 3, 0, 1, 2] (gt r 0 % 10)) (b := (m : Int) + 1) (by omega)
  have e2 := Int.emod_lt_of_pos (gt [0, 0, 1, 1, 2, 0, 3, 0, 1, 2] (gt r 0 % 10)) (b := (m : Int) + 1) (by omega)
  have e3 := Int.emod_nonneg (gt r 2) (b := (m : Int) + 1) (by omega)
  have e4 := Int.emod_lt_of_pos (gt r 2) (b := (m : Int) + 1) (by omega)
  -- behind the number of parcels
  have main : ∀ cnt : Nat, cnt ≤ m → Wp ((forLoop (evSs (lvl T m') f18_369 1) (.var 5) (watch [] [.sh []]) (rangeIt 0 cnt) [some (.d (.lst (r.map .int))), some (.d (.int m)), some (.d (.lst (ns.map eN))), some (.d (.int cnt)), some (.r 0), none, none, none, none, none, none, none] [.sh []]).andThen (KS (lvl T m') 0 [.ret (.var 4)])) R := by
    intro cnt hcnt
    refine wp_range0 cnt rfl (fun k σ G => ∃ (o5 o6 o7 o8 o9 o10 o11 : Option W) (J : Gs) (ps : List ParV), σ = [some (.d (.lst (r.map .int))), some (.d (.int m)), some (.d (.lst (ns.map eN))), some (.d (.int cnt)), some (.r 0), o5, o6, o7, o8, o9, o10, o11] ∧ G = .sh (ps.map eP) :: J ∧ ps.length = k ∧ ∀ p ∈ ps, p.Ok ns) ⟨_, _, _, _, _, _, _, [], [], rfl, rfl, rfl, by simp⟩ ?_ ?_
    · rintro k σ G hk ⟨o5, o6, o7, o8, o9, o10, o11, J, ps, rfl, rfl, hpl, hps⟩ R2 hR2
      obtain ⟨q, hq⟩ : ∃ q : Nat, q = (2 + 2 * ns.length) * k := ⟨_, rfl⟩
      have hq1 : (2 + 2 * (ns.length : Int)) * (k : Int) = q := by rw [hq]; simp
      have hq2 : (2 + 2 * (ns.length : Int)) * ((k : Int) + 1) = q + (2 + 2 * ns.length) := by rw [Int.mul_add, hq1]; omega
      have hpart := part_ok hm hc hr k (by omega)
      rw [← hq] at hpart
      have t1 : (4 + (q : Int)).toNat = 4 + q := by omega
      have t2 : (4 + ((q : Int) + (2 + 2 * (ns.length : Int)))).toNat - (4 + q) = 2 + 2 * ns.length := by omega
      generalize hpe : (r.drop (4 + q)).take (2 + 2 * ns.length) = part at hpart
      obtain ⟨pl, b0, b1, bj⟩ := hpart
      dsimp? only [f18_369, hq1, hq2, t1, t2, hpe]
      refine wp_range0 ns.length rfl (fun j σ G => ∃ (o8 o11 : Option W) (st : List Int), σ = [some (.d (.lst (r.map .int))), some (.d (.int m)), some (.d (.lst (ns.map eN))), some (.d (.int cnt)), some (.r 0), some (.d (.int k)), some (.d (.lst (part.map .int))), some (.r (J.length + 1)), o8, o9, o10, o11] ∧ G = .sh (ps.map eP) :: (J ++ [.sh (st.map .int)]) ∧ st.length = j ∧ StOk ns st) ⟨_, _, [], rfl, rfl, rfl, fun i hi => by simp at hi⟩ ?_ ?_
      · rintro j σ G hj ⟨o8, o11, st, rfl, rfl, hsl, hst⟩ R3 hR3
        have hv := hns _ (gt_mem (l := ns) (i := j) (by omega) (by omega))
        have hbj := bj j hj
        have m1 : ∀ z : Int, 0 ≤ z % ((gt ns (j : Int)).w.length : Int) ∧ z % ((gt ns (j : Int)).w.length : Int) < (gt ns (j : Int)).w.length := fun z => ⟨Int.emod_nonneg _ (by omega), Int.emod_lt_of_pos _ (by omega)⟩
        dsimp? only [f18_372]
        refine wp_if (fun hcc => ?_) (fun hcc => ?_)
        · simp only [Bool.and_eq_true, decide_eq_true_eq] at hcc
          have hprev := hps _ (gt_mem (l := ps) (i := (k : Int) - 1) (by omega) (by omega))
          have hpo := of_par hprev j (by have := hprev.l; omega)
          have hprl := hprev.l
          dsimp? only []
          exact hR3 _ ⟨rfl, _, _, st ++ [_], rfl, by rw [List.map_append]; rfl, by simp [hsl], st_app hst (by rw [hsl]; exact hpo)⟩
        · dsimp? only []
          exact hR3 _ ⟨rfl, _, _, st ++ [_], rfl, by rw [List.map_append]; rfl, by simp [hsl], st_app hst (by rw [hsl]; exact m1 _)⟩
      · rintro σ G ⟨o8, o11, st, rfl, rfl, hsl, hst⟩
        have hw1 := gt_all (l := [1, 2, 1, 2, 1, 3]) (P := fun x : Int => 1 ≤ x ∧ x ≤ 3) (i := gt part 1) (by simp) (by omega) (by simp; omega)
        have hz1 := gt_all (l := [gt part 0, gt part 0, 50 + gt part 0 / 2, 20 + gt part 0 / 4, 30 + gt part 0 % 7, 99 - gt part 0 / 9]) (P := fun x : Int => 0 ≤ x ∧ x ≤ 99) (i := gt r 3) (by simp; omega) (by omega) (by simp; omega)
        dsimp? only [mkL0_def, fzL_cons, fzL_nil]
        have hwb : (1:Int) ≤ gt ([gt ([1, 2, 1, 2, 1, 3] : List Int) (gt part 1), 1 + if gt part 1 = 5 then 1 else 0] : List Int) (if 1 < gt r 1 then 1 else 0) ∧ gt ([gt ([1, 2, 1, 2, 1, 3] : List Int) (gt part 1), 1 + if gt part 1 = 5 then 1 else 0] : List Int) (if 1 < gt r 1 then 1 else 0) ≤ (3:Int) := by
          have g0 : ∀ x y : Int, gt [x, y] 0 = x := fun _ _ => rfl
          have g1 : ∀ x y : Int, gt [x, y] 1 = y := fun _ _ => rfl
          by_cases h1 : 1 < gt r 1 <;> by_cases h2 : gt part 1 = 5 <;> simp only [h1, h2, if_true, if_false, g0, g1] at hw1 ⊢ <;> omega
        generalize gt ([gt ([1, 2, 1, 2, 1, 3] : List Int) (gt part 1), 1 + if gt part 1 = 5 then 1 else 0] : List Int) (if 1 < gt r 1 then 1 else 0) = wd at hwb ⊢
        generalize gt [gt part 0, gt part 0, 50 + gt part 0 / 2, 20 + gt part 0 / 4, 30 + gt part 0 % 7, 99 - gt part 0 / 9] (gt r 3) = pz at hz1 ⊢
        have hnew : (ParV.mk st pz wd).Ok ns := par_of hsl hst hz1 hwb
        have e9 : List.map eP ps ++ [D.lst [D.lst (List.map D.int st), D.int pz, D.int wd]] = (ps ++ [ParV.mk st pz wd]).map eP := by rw [List.map_append]; rfl
        have hps2 : ∀ p ∈ ps ++ [ParV.mk st pz wd], p.Ok ns := mem_app hps hnew
        have hpl2 : (ps ++ [ParV.mk st pz wd]).length = k + 1 := by simp [hpl]
        rw [e9]
        generalize ps ++ [ParV.mk st pz wd] = ps2 at hps2 hpl2 ⊢
        refine wp_ifd (fun hcc => ?_) (fun hcc => ?_)
        · have hmem : gt ps2 ((k : Int) - 2) ∈ ps2 := gt_mem (by omega) (by omega)
          have hsz := (hps2 _ hmem).l
          dsimp? only []
          refine hR2 _ ⟨rfl, _, _, _, _, _, _, _, _, ps2.set k (gt ps2 ((k : Int) - 2)), rfl, consE (congrArg Cell.sh ?_), by rw [List.length_set]; exact hpl2, fun p hp => ?_⟩
          · rw [← set_map]; rfl
          · rcases List.mem_or_eq_of_mem_set hp with h | h
            · exact hps2 p h
            · rw [h]; exact hps2 _ hmem
        · dsimp? only []
          exact hR2 _ ⟨rfl, _, _, _, _, _, _, _, _, ps2, rfl, rfl, hpl2, hps2⟩
    · rintro σ G ⟨o5, o6, o7, o8, o9, o10, o11, J, ps, rfl, rfl, hpl, hps⟩
      dsimp? only []
      exact hR _ _ rfl ⟨ps, rfl, by omega, hps⟩
  dsimp? only [f18]
  refine wp_ifd (fun h0 => ?_) (fun h0 => ?_)
  · obtain ⟨cnt, hcnt, hle⟩ := cntE (gt r 2 % ((m : Int) + 1)) (by omega)
    dsimp? only [hcnt]
    exact main cnt hle
  · obtain ⟨cnt, hcnt, hle⟩ := cntE ((m : Int) - gt [0, 0, 1, 1, 2, 0, 3, 0, 1, 2] (gt r 0 % 10) % ((m : Int) + 1)) (by omega)
    dsimp? only [hcnt]
    exact main cnt hle
end Rw

end

-- part Qq
section
set_option Elab.async false
set_option linter.all false
set_option maxRecDepth 4000
namespace Rw
open Ev PySem
theorem c2z {n : Nat} (hn : 0 < n) (ns : List Int) (z : Int) (h0 : 0 ≤ z) (h1 : z < 100) : ∃ v : Int, (lvl T n).call 2 [.scr ns, .int z] = .ok (.int v) := by
  obtain ⟨v, e, w, rfl⟩ := c2 hn ns z.toNat (by omega)
  rw [show ((z.toNat : Nat) : Int) = z by omega] at e
  exact ⟨w, e⟩
theorem dig_tail {s : Int} {sizes r : List Int} (h : Dig (s :: sizes) r) : Dig sizes (r.drop 1) ∧ 0 ≤ gt r 0 ∧ gt r 0 < s := by
  obtain ⟨hl, hd⟩ := h
  simp only [List.length_cons] at hl
  refine ⟨⟨by rw [List.length_drop]; omega, fun i h0 h1 => ?_⟩, ?_⟩
  · rw [List.length_drop] at h1
    have := hd (1 + i) (by omega) (by omega)
    have e1 : gt (r.drop 1) i = gt r (1 + i) := by
      have := gt_cut (l := r) (a := 1) (n := r.length) (i := i) h0 (by omega) (by omega)
      rw [List.take_of_length_le (by simp)] at this
      exact this
    have e2 : gt (s :: sizes) (1 + i) = gt sizes i := by
      have h3 : (s :: sizes)[(1 + i).toNat]? = sizes[i.toNat]? := by
        rw [show (1 + i).toNat = i.toNat + 1 by omega]; rfl
      unfold gt
      rw [List.getD_eq_getElem?_getD, List.getD_eq_getElem?_getD, h3]
    rw [e1, ← e2]
    exact this
  · have := hd 0 (by omega) (by omega)
    exact this
theorem setN {ns : List NetV} {i : Nat} {x : NetV} : (ns.map eN).set i (eN x) = (ns.set i x).map eN := by rw [List.map_set]
def nineN (v : NetV) : NetV := ⟨v.w.map fun _ => 9, v.r, v.g⟩
theorem nine_ok {v : NetV} (h : v.Ok) : (nineN v).Ok := by
  have hl : (nineN v).w.length = v.w.length := by simp [nineN]
  refine ⟨by rw [hl]; exact h.w1, by rw [hl]; exact h.w8, fun x hx => ?_, by rw [hl]; exact h.g, h.gs, by rw [hl]; exact h.r, h.rs⟩
  obtain ⟨y, hy, rfl⟩ := List.mem_map.mp hx
  omega
theorem mem_set {α : Type} {l : List α} {P : α → Prop} (h : ∀ x ∈ l, P x) (i : Nat) {y : α} (hy : P y) : ∀ x ∈ l.set i y, P x := by
  intro x hx
  rcases List.mem_or_eq_of_mem_set hx with h1 | rfl
  · exact h x h1
  · exact hy
theorem wp_step {x y : O} {f : Sl → Gs → O} {Q : O → Prop} (h : x = y) (hw : Wp (y.andThen f) Q) : Wp (x.andThen f) Q := by rw [h]; exact hw
theorem c3 {n : Nat} (hn : 4 < n) (sc : List Int) (C P M : Nat) (hC1 : 1 ≤ C) (hC : C ≤ 3) (hP1 : 1 ≤ P) (hP : P ≤ 8) (hM1 : 1 ≤ M) (hM : M ≤ 8) : ∃ x, (lvl T n).call 3 [.scr sc, .int 1, .int C, .int P, .int M] = .ok x ∧ ∃ ns ps, x = eO ns ps ∧ OffOk ns ps := by
  refine call_ret (by omega) (f := f3) rfl rfl fun m hm R hR => ?_
  have hnl : (netSizes P).length ≤ 1000 := by
    have := (sizes_at ⟨P, by omega⟩).1
    dsimp only at this
    have : P * P ≤ 8 * 8 := Nat.mul_le_mul hP hP
    omega
  dsimp? only [f3]
  refine wp_range0 C rfl (fun k σ G => ∃ (o6 o7 o8 : Option W) (ns : List NetV), σ = [some (.d (.scr sc)), some (.d (.int 1)), some (.d (.int C)), some (.d (.int P)), some (.d (.int M)), some (.r 0), o6, o7, o8, none, none] ∧ G = [.sh (ns.map eN)] ∧ ns.length = k ∧ ∀ v ∈ ns, v.Ok) ⟨_, _, _, [], rfl, rfl, rfl, by simp⟩ ?_ ?_
  · rintro k σ G hk ⟨o6, o7, o8, ns, rfl, rfl, hl, hok⟩ R2 hR2
    obtain ⟨z, ez⟩ := c2z (n := m) (by omega) sc (1 + k) (by omega) (by omega)
    obtain ⟨x, e1, r, rfl, hr⟩ := c1 (n := m) (by omega) z (8 :: netSizes P) (fun s hs => by
      rcases List.mem_cons.mp hs with rfl | h
      · exact ⟨by decide, by decide⟩
      · exact sizes_ok P hP s h) (by simp; omega)
    rw [List.map_cons] at e1
    obtain ⟨hr1, hr2⟩ := dig_tail hr
    obtain ⟨y, e2, v, rfl, hv⟩ := c15 (n := m) (by omega) P hP1 hP (r.drop 1) hr1
    obtain ⟨y2, e3, v2, rfl, hv2⟩ := c16 (n := m) (by omega) v hv
    have hrl := hr.1
    simp only [List.length_cons] at hrl
    dsimp? only [f3_385, ez, c14 (n := m) (by omega) P hP, e1, e2]
    refine wp_if (fun hb => ?_) (fun hb => ?_)
    · dsimp? only [e3]
      exact hR2 _ ⟨rfl, _, _, _, ns ++ [v2], rfl, by rw [List.map_append]; rfl, by simp [hl], mem_app hok hv2⟩
    · dsimp? only []
      exact hR2 _ ⟨rfl, _, _, _, ns ++ [v], rfl, by rw [List.map_append]; rfl, by simp [hl], mem_app hok hv⟩
  · rintro σ G ⟨o6, o7, o8, ns, rfl, rfl, hl, hok⟩
    obtain ⟨z, ez⟩ := c2z (n := m) (by omega) sc (1 + C) (by omega) (by omega)
    obtain ⟨x, e1, r, rfl, hr⟩ := c1 (n := m) (by omega) z (parSizes M C) (par_ok M C hM hC) (by
      have := (par_at ⟨M, by omega⟩ ⟨C, by omega⟩).1
      dsimp only at this
      have : M * (2 + 2 * C) ≤ 8 * 8 := Nat.mul_le_mul hM (by omega)
      omega)
    have hpa := (par_at ⟨M, by omega⟩ ⟨C, by omega⟩).1
    have hpa2 := (par_at ⟨M, by omega⟩ ⟨C, by omega⟩).2.2.2.1
    dsimp only at hpa hpa2
    have hrl := hr.1
    have hr2 := hr.2 2 (by omega) (by omega)
    rw [hpa2] at hr2
    -- the end
    have fin : ∀ (ns : List NetV) (o8 o9 o10 : Option W), ns.length = C → (∀ v ∈ ns, v.Ok) → Wp (evSs (lvl T m) [.ret (.lst 0 [(.var 5), (.call 18 [(.var 7), (.var 4), (.var 5)])])] 0 [some (.d (.scr sc)), some (.d (.int 1)), some (.d (.int C)), some (.d (.int P)), some (.d (.int M)), some (.r 0), o6, some (.d (.lst (r.map .int))), o8, o9, o10] [.sh (ns.map eN)]) R := by
      intro ns o8 o9 o10 hl hok
      subst hl
      obtain ⟨y, e2, ps, rfl, hpl, hps⟩ := c18 (n := m) (by omega) M ns r hM1 hM hC1 hC (fun v hv => ⟨(hok v hv).w1, (hok v hv).w8⟩) hr
      dsimp? only [e2, q_KFc2l, mkL0_def, fzL_cons, fzL_nil]
      exact hR _ _ rfl ⟨ns, ps, rfl, hC1, hC, by omega, hok, hps⟩
    have second : ∀ (ns : List NetV) (o8 : Option W), ns.length = C → (∀ v ∈ ns, v.Ok) → Wp (evSs (lvl T m) [.ife (.and (.chain .lt .lt (.lit (.int 0)) (.sub (.var 7) (.lit (.int 2))) (.lit (.int 5))) (.cmp .gt (.var 2) (.lit (.int 1)))) [.set [] 9 (.sub (.var 5) (.bin false .mod (.blt 0 .int [(.sub (.var 7) (.lit (.int 2)))]) (.lit (.int 2)))), .item (.var 5) (.bin false .mod (.blt 0 .int [(.sub (.var 7) (.lit (.int 2)))]) (.lit (.int 2))) (.lst 0 [(.lc 0 (.lit (.int 9)) (.var 10) (.val (.sub (.var 9) (.lit (.int 0)))) [10] none), (.sub (.var 9) (.lit (.int 1))), (.sub (.var 9) (.lit (.int 2)))])] [], .ret (.lst 0 [(.var 5), (.call 18 [(.var 7), (.var 4), (.var 5)])])] 0 [some (.d (.scr sc)), some (.d (.int 1)), some (.d (.int C)), some (.d (.int P)), some (.d (.int M)), some (.r 0), o6, some (.d (.lst (r.map .int))), o8, none, none] [.sh (ns.map eN)]) R := by
      intro ns o8 hl hok
      dsimp? only []
      refine wp_if (fun hb => ?_) (fun hb => ?_)
      · simp only [decide_eq_true_eq] at hb
        have hmem : gt ns (gt r 2 % 2) ∈ ns := gt_mem (by omega) (by omega)
        have hvo := hok _ hmem
        have hw8 := hvo.w8
        dsimp? only []
        rw [lcV (gt ns (gt r 2 % 2)).w .int (fun _ => .int 9) (by (dsimp? []; try rfl)) (fun x hx => by dsimp? only [])]
        have e5 : (gt ns (gt r 2 % 2)).w.map (fun _ => D.int 9) = ((nineN (gt ns (gt r 2 % 2))).w).map .int := by unfold nineN; rw [List.map_map]; rfl
        rw [e5]
        have hnl9 : (nineN (gt ns (gt r 2 % 2))).w.length ≤ 8 := (nine_ok hvo).w8
        have e6 : D.lst [.lst ((nineN (gt ns (gt r 2 % 2))).w.map .int), .lst ((gt ns (gt r 2 % 2)).r.map eR), .lst ((gt ns (gt r 2 % 2)).g.map .int)] = eN (nineN (gt ns (gt r 2 % 2))) := rfl
        have hl2 : (ns.set (gt r 2 % 2).toNat (nineN (gt ns (gt r 2 % 2)))).length = C := by rw [List.length_set]; exact hl
        have hok2 := mem_set hok (gt r 2 % 2).toNat (nine_ok hvo)
        obtain ⟨y, e2, ps, rfl, hpl, hps⟩ := c18 (n := m) (by omega) M (ns.set (gt r 2 % 2).toNat (nineN (gt ns (gt r 2 % 2)))) r hM1 hM (by omega) (by omega) (fun v hv => ⟨(hok2 v hv).w1, (hok2 v hv).w8⟩) (by rw [hl2]; exact hr)
        dsimp? only [e6, setN, e2, q_KFc2l, fzL_cons, fzL_nil]
        dsimp? only [mkL0_def, fzL_cons, fzL_nil]
        exact hR _ _ rfl ⟨_, ps, rfl, by omega, by omega, by omega, hok2, hps⟩
      · exact fin ns o8 none none hl hok
    dsimp? only [ez, c17 (n := m) (by omega) M C hM hC, e1]
    refine wp_if (fun hb => ?_) (fun hb => ?_)
    · simp only [decide_eq_true_eq] at hb
      have hmem : gt ns 0 ∈ ns := gt_mem (by omega) (by omega)
      have h2 := second (ns.set 1 (gt ns 0)) o8 (by rw [List.length_set]; exact hl) (mem_set hok 1 (hok _ hmem))
      refine wp_step (y := O.nx [some (.d (.scr sc)), some (.d (.int 1)), some (.d (.int C)), some (.d (.int P)), some (.d (.int M)), some (.r 0), o6, some (.d (.lst (r.map .int))), o8, none, none] [.sh ((ns.set 1 (gt ns 0)).map eN)]) (by dsimp? only [setN]) h2
    · exact second ns o8 hl hok
end Rw

end

-- part Qr
section
set_option Elab.async false
set_option linter.all false
set_option maxRecDepth 4000
namespace Rw
open Ev PySem
def tollSizes : List Int := (List.replicate 24 [100, 6]).flatten
theorem toll_at : tollSizes.length = 48 ∧ (∀ q : Fin 24, gt tollSizes (2 * q.1 : Nat) = 100 ∧ gt tollSizes (2 * q.1 + 1 : Nat) = 6) ∧ ∀ s ∈ tollSizes, 0 < s ∧ s ≤ 1000000 := by decide +kernel
theorem mulT {Φ : Fns} {G : Gs} : binW Φ 0 .mul (.d (.lst [.int 100, .int 6])) (.d (.int 24)) G = .ok (.d (.lst (tollSizes.map .int))) G := by
  rw [mul_ln (by decide) (by decide) (by decide)]; rfl
theorem c6 {n : Nat} (hn : 1 < n) (ns : List NetV) (ps : List ParV) (ho : OffOk ns ps) (z mode big : Int) (hm0 : 0 ≤ mode) (hm8 : mode < 8) (hb0 : 0 ≤ big) (hb1 : big < 10 ^ 24) : ∃ x, (lvl T n).call 6 [eO ns ps, .int z, .int mode, .int big] = .ok x ∧ ∃ pl, x = ePl pl ∧ PlOk ns pl ∧ ∀ t ∈ pl, ∀ x ∈ t, 0 ≤ x ∧ x ≤ TB := by
  refine call_ret (by omega) (f := f6) rfl rfl fun m hm R hR => ?_
  have h3 := ho.n3
  obtain ⟨l0, l1, l2⟩ := toll_at
  obtain ⟨x, e1, r, rfl, hr⟩ := c1 (n := m) (by omega) z tollSizes l2 (by omega)
  have hrl := hr.1
  have hpow : (10 : Int) ^ 24 = 1000000000000000000000000 := by decide +kernel
  rw [hpow] at hb1
  dsimp? only [f6, ↓mulT, e1]
  refine wp_range0 ns.length rfl (fun k σ G => ∃ (o6 o7 o8 o9 o10 : Option W) (J : Gs) (pl : List (List Int)), σ = [some (.d (eO ns ps)), some (.d (.int z)), some (.d (.int mode)), some (.d (.int big)), some (.d (.lst (r.map .int))), some (.r 0), o6, o7, o8, o9, o10] ∧ G = .sh (pl.map eI) :: J ∧ pl.length = k ∧ (∀ j : Nat, j < k → (gt pl (j : Int)).length = (gt ns (j : Int)).w.length) ∧ ∀ t ∈ pl, ∀ x ∈ t, 0 ≤ x ∧ x ≤ TB) ⟨_, _, _, _, _, [], [], rfl, rfl, rfl, by omega, by simp⟩ ?_ ?_
  · rintro k σ G hk ⟨o6, o7, o8, o9, o10, J, pl, rfl, rfl, hl, hlj, hb⟩ R2 hR2
    have hv := ho.n _ (gt_mem (l := ns) (i := k) (by omega) (by omega))
    have hw8 := hv.w8
    dsimp? only [f6_486]
    refine wp_range0 (gt ns (k : Int)).w.length rfl (fun i σ G => ∃ (o8 o9 o10 : Option W) (t : List Int), σ = [some (.d (eO ns ps)), some (.d (.int z)), some (.d (.int mode)), some (.d (.int big)), some (.d (.lst (r.map .int))), some (.r 0), some (.d (.int k)), some (.r (J.length + 1)), o8, o9, o10] ∧ G = .sh (pl.map eI) :: (J ++ [.sh (t.map .int)]) ∧ t.length = i ∧ ∀ x ∈ t, 0 ≤ x ∧ x ≤ TB) ⟨_, _, _, [], rfl, rfl, rfl, by simp⟩ ?_ ?_
    · rintro i σ G hi ⟨o8, o9, o10, t, rfl, rfl, htl, htb⟩ R3 hR3
      have t1 : (16 * (k : Int) + 2 * (i : Int)).toNat = 16 * k + 2 * i := by omega
      have t2 : (16 * (k : Int) + 2 * (i : Int) + 2).toNat - (16 * k + 2 * i) = 2 := by omega
      have c0 := gt_cut (l := r) (a := 16 * k + 2 * i) (n := 2) (i := 0) (by omega) (by omega) (by omega)
      have c1 := gt_cut (l := r) (a := 16 * k + 2 * i) (n := 2) (i := 1) (by omega) (by omega) (by omega)
      have a0 := hr.2 ((2 * (8 * k + i) : Nat) : Int) (by omega) (by omega)
      have a1 := hr.2 ((2 * (8 * k + i) + 1 : Nat) : Int) (by omega) (by omega)
      rw [(l1 ⟨8 * k + i, by omega⟩).1] at a0
      rw [(l1 ⟨8 * k + i, by omega⟩).2] at a1
      rw [show ((16 * k + 2 * i : Nat) : Int) + 0 = ((2 * (8 * k + i) : Nat) : Int) by omega] at c0
      rw [show ((16 * k + 2 * i : Nat) : Int) + 1 = ((2 * (8 * k + i) + 1 : Nat) : Int) by omega] at c1
      rw [← c0] at a0
      rw [← c1] at a1
      have cl := cut_len (l := r) (a := 16 * k + 2 * i) (n := 2) (by omega)
      generalize hpe : (r.drop (16 * k + 2 * i)).take 2 = part at a0 a1 cl
      have hval : ∀ (f1 f3 : Int), (f1 = 0 ∨ f1 = 1) → (f3 = 0 ∨ f3 = 1) → (0 : Int) ≤ gt ([gt part 0, gt part 0 / 12, gt part 0 % 10 * f3, gt part 0 / 4 * f1, gt part 0 / 20 + big * f1, gt part 0 % 3, gt part 0 / 25, 0] : List Int) mode ∧ gt ([gt part 0, gt part 0 / 12, gt part 0 % 10 * f3, gt part 0 / 4 * f1, gt part 0 / 20 + big * f1, gt part 0 % 3, gt part 0 / 25, 0] : List Int) mode ≤ TB := by
        intro f1 f3 h1 h3
        have hTB : TB = 100000000000000000000000000 := by unfold TB; decide +kernel
        rw [hTB]
        refine gt_all (P := fun x : Int => 0 ≤ x ∧ x ≤ 100000000000000000000000000) ?_ hm0 (by simp; omega)
        rcases h1 with rfl | rfl <;> rcases h3 with rfl | rfl <;> simp <;> omega
      dsimp? only [f6_488, t1, t2, hpe]
      have hv2 := hval (if gt part 1 = 0 then 1 else 0) (if gt part 1 < 3 then 1 else 0) (by split <;> simp) (by split <;> simp)
      exact hR3 _ ⟨rfl, _, _, _, t ++ [_], rfl, by rw [List.map_append]; rfl, by simp [htl], mem_app htb hv2⟩
    · rintro σ G ⟨o8, o9, o10, t, rfl, rfl, htl, htb⟩
      dsimp? only []
      refine hR2 _ ⟨rfl, _, _, _, _, _, _, pl ++ [t], rfl, by rw [List.map_append]; rfl, by simp [hl], fun j hj => ?_, mem_app hb htb⟩
      by_cases h1 : j < pl.length
      · rw [gt_app (by omega) (by omega)]; exact hlj j (by omega)
      · have : j = pl.length := by omega
        subst this
        rw [gt_end, htl, hl]
  · rintro σ G ⟨o6, o7, o8, o9, o10, J, pl, rfl, rfl, hl, hlj, hb⟩
    dsimp? only []
    exact hR _ _ rfl ⟨pl, rfl, ⟨hl, hlj⟩, hb⟩
end Rw

end

-- part Ma
section
set_option Elab.async false
set_option linter.all false
set_option maxRecDepth 4000
namespace Rw
open Ev PySem
/-! # The plain law of k43: least ways are least costs of listed ways -/
inductive Pth (v : NetV) : List Int → Int → Prop
  | one (a : Int) : Pth v [a] 0
  | snoc {p : List Int} {c : Int} (r : I3) : Pth v p c → r ∈ v.r → r.1 = wlast p → Pth v (p ++ [r.2.1]) (c + r.2.2)
inductive Wy (v : NetV) : List Int → Int → Prop
  | gate (a : Int) : a ∈ v.g → Wy v [a] 0
  | step (r : I3) (p : List Int) (c : Int) : r ∈ v.r → Wy v (r.2.1 :: p) c → Wy v (r.1 :: r.2.1 :: p) (r.2.2 + c)
theorem wlast_snoc (p : List Int) (x : Int) : wlast (p ++ [x]) = x := by
  unfold wlast
  rw [show ((p ++ [x]).length : Int) - 1 = (p.length : Int) by simp]
  exact gt_end
theorem wlast_one (a : Int) : wlast [a] = a := rfl
theorem pth_ne {v : NetV} {p : List Int} {c : Int} (h : Pth v p c) : p ≠ [] := by
  cases h <;> simp
theorem pth_wy {v : NetV} {p : List Int} {c : Int} (h : Pth v p c) : ∀ (q : List Int) (d : Int), Wy v (wlast p :: q) d → Wy v (p ++ q) (c + d) := by
  induction h with
  | one a => intro q d hw; rw [wlast_one] at hw; rw [Int.zero_add]; exact hw
  | snoc r hp hr e ih =>
    intro q d hw
    rw [wlast_snoc] at hw
    have := Wy.step r q d hr hw
    rw [e] at this
    have := ih _ _ this
    rw [List.append_assoc]
    rw [show ∀ a b c : Int, a + b + c = a + (b + c) from fun a b c => by omega]
    exact this
theorem wy_pth {v : NetV} {l : List Int} {d : Int} (h : Wy v l d) : ∀ (a : Int) (q : List Int), l = a :: q → ∀ (p : List Int) (c : Int), Pth v p c → wlast p = a → Pth v (p ++ q) (c + d) ∧ wlast (p ++ q) ∈ v.g := by
  induction h with
  | gate a ha =>
    intro b q e p c hp hl
    simp only [List.cons.injEq] at e
    obtain ⟨rfl, rfl⟩ := e
    rw [List.append_nil, Int.add_zero]
    exact ⟨hp, hl ▸ ha⟩
  | step r p' c' hr hw ih =>
    intro b q e p c hp hl
    simp only [List.cons.injEq] at e
    obtain ⟨rfl, rfl⟩ := e
    have h2 := ih r.2.1 p' rfl (p ++ [r.2.1]) (c + r.2.2) (Pth.snoc r hp hr hl.symm) (wlast_snoc _ _)
    rw [List.append_assoc] at h2
    rw [show c + (r.2.2 + c') = c + r.2.2 + c' by omega]
    exact h2
/-- ways that the law begins -/
def begun (v : NetV) (s : Int) : Nat → List Way
  | 0 => [(0, [s])]
  | k + 1 => nextWays v (begun v s k)
theorem mem_go (v : NetV) (s : Int) (w : Way) : ∀ (T k : Nat), w ∈ waysGo v T (begun v s k) ↔ ∃ i, i < T ∧ w ∈ begun v s (k + i) ∧ wlast w.2 ∈ v.g
  | 0, k => by simp [waysGo]
  | T + 1, k => by
    have ih := mem_go v s w T (k + 1)
    unfold waysGo
    rw [List.mem_append]
    have e : nextWays v (begun v s k) = begun v s (k + 1) := rfl
    rw [e, ih]
    constructor
    · rintro (h | ⟨i, hi, h1, h2⟩)
      · have := List.mem_filter.mp h
        exact ⟨0, by omega, this.1, by simpa using this.2⟩
      · exact ⟨i + 1, by omega, by rw [show k + (i + 1) = k + 1 + i by omega]; exact h1, h2⟩
    · rintro ⟨i, hi, h1, h2⟩
      cases i with
      | zero => exact .inl (List.mem_filter.mpr ⟨h1, by simpa using h2⟩)
      | succ i => exact .inr ⟨i, by omega, by rw [show k + 1 + i = k + (i + 1) by omega]; exact h1, h2⟩
theorem mem_begun (v : NetV) (s : Int) : ∀ (k : Nat) (w : Way), w ∈ begun v s k ↔ Pth v w.2 w.1 ∧ w.2.head? = some s ∧ w.2.Nodup ∧ w.2.length = k + 1
  | 0, w => by
    unfold begun
    rw [List.mem_singleton]
    constructor
    · rintro rfl
      exact ⟨Pth.one s, rfl, by simp, rfl⟩
    · rintro ⟨h1, h2, h3, h4⟩
      obtain ⟨c, p⟩ := w
      dsimp only at h1 h2 h3 h4
      cases h1 with
      | one a => simp at h2; rw [h2]
      | snoc r hp hr e =>
        have := pth_ne hp
        have := List.length_pos_iff.mpr this
        simp only [List.length_append, List.length_cons, List.length_nil] at h4; omega
  | k + 1, w => by
    show w ∈ nextWays v (begun v s k) ↔ _
    unfold nextWays
    rw [List.mem_flatMap]
    constructor
    · rintro ⟨w0, h0, h1⟩
      obtain ⟨r, hr, rfl⟩ := List.mem_map.mp h1
      have hr2 := List.mem_filter.mp hr
      obtain ⟨a1, a2, a3, a4⟩ := (mem_begun v s k w0).mp h0
      have ho := hr2.2
      unfold okE at ho
      rw [decide_eq_true_eq] at ho
      have hne := pth_ne a1
      refine ⟨Pth.snoc r a1 hr2.1 ho.1, ?_, ?_, by simp [ext1, a4]⟩
      · show (w0.2 ++ [r.2.1]).head? = some s
        cases hw : w0.2 with
        | nil => exact absurd hw hne
        | cons x q => rw [hw] at a2; simpa using a2
      · show (w0.2 ++ [r.2.1]).Nodup
        rw [List.nodup_append]
        exact ⟨a3, by simp, fun x hx y hy => by rw [List.mem_singleton] at hy; subst hy; exact fun q => ho.2 (q ▸ hx)⟩
    · rintro ⟨h1, h2, h3, h4⟩
      obtain ⟨c, p⟩ := w
      dsimp only at h1 h2 h3 h4
      cases h1 with
      | one a => simp at h4
      | @snoc p0 c0 r hp hr e =>
        have hne := pth_ne hp
        rw [List.nodup_append] at h3
        refine ⟨(c0, p0), (mem_begun v s k (c0, p0)).mpr ⟨hp, ?_, h3.1, by simpa using h4⟩, List.mem_map.mpr ⟨r, List.mem_filter.mpr ⟨hr, ?_⟩, rfl⟩⟩
        · cases p0 with
          | nil => exact absurd rfl hne
          | cons x q => simpa using h2
        · unfold okE
          exact decide_eq_true ⟨e, fun q => h3.2.2 _ q r.2.1 (by simp) rfl⟩
theorem nodup_len {l : List Int} {n : Nat} (h : l.Nodup) (hb : ∀ x ∈ l, 0 ≤ x ∧ x < n) : l.length ≤ n := by
  have hp := List.mergeSort_perm l (fun a b => decide (a ≤ b))
  have h1 := List.pairwise_mergeSort (le := fun a b : Int => decide (a ≤ b)) (fun a b c h1 h2 => by simp only [decide_eq_true_eq] at *; omega) (fun a b => by rw [dec_or, decide_eq_true_eq]; omega) l
  have h2 : (l.mergeSort fun a b => decide (a ≤ b)).Pairwise fun x y => x ≠ y := (hp.pairwise_iff (fun {x y} h q => h q.symm)).mpr h
  have h3 : (l.mergeSort fun a b => decide (a ≤ b)).Pairwise (· < ·) := (h1.and h2).imp fun {x y} hxy => by
    have := hxy.1
    simp only [decide_eq_true_eq] at this
    have := hxy.2
    omega
  have h4 := inc_len _ 0 n h3 (fun x hx => hb x (hp.mem_iff.mp hx)) (by omega)
  rw [List.length_mergeSort] at h4
  omega
theorem mem_app0 {α : Type} {l : List α} {x : α} {P : α → Prop} (h : ∀ y ∈ l, P y) (h2 : P x) : ∀ y ∈ l ++ [x], P y := by
  intro y hy
  rcases List.mem_append.mp hy with h1 | h1
  · exact h y h1
  · rw [List.mem_singleton] at h1; subst h1; exact h2
theorem pth_in {v : NetV} (hv : v.Ok) {p : List Int} {c : Int} (h : Pth v p c) : ∀ s, p.head? = some s → 0 ≤ s ∧ s < v.w.length → ∀ x ∈ p, 0 ≤ x ∧ x < v.w.length := by
  induction h with
  | one a => intro s e hs x hx; simp at e hx; subst e; subst hx; exact hs
  | snoc r hp hr e ih =>
    intro s e hs
    have hne := pth_ne hp
    refine mem_app0 (ih s ?_ hs) (hv.r r hr).2.1
    rename_i p0 c0 _
    cases p0 with
    | nil => exact absurd rfl hne
    | cons x q => simpa using e
/-- the law's ways are the ways without a place twice -/
theorem mem_ways {v : NetV} (hv : v.Ok) {s : Int} (hs : 0 ≤ s ∧ s < v.w.length) (w : Way) : w ∈ lawWays v s ↔ Wy v w.2 w.1 ∧ w.2.head? = some s ∧ w.2.Nodup := by
  have e : lawWays v s = waysGo v v.w.length (begun v s 0) := rfl
  rw [e, mem_go]
  constructor
  · rintro ⟨i, hi, h1, h2⟩
    rw [Nat.zero_add] at h1
    obtain ⟨a1, a2, a3, a4⟩ := (mem_begun v s i w).mp h1
    have := pth_wy a1 [] 0 (Wy.gate _ h2)
    rw [List.append_nil, Int.add_zero] at this
    exact ⟨this, a2, a3⟩
  · rintro ⟨h1, h2, h3⟩
    cases hw : w.2 with
    | nil => rw [hw] at h2; simp at h2
    | cons a q =>
      rw [hw] at h2
      simp only [List.head?_cons, Option.some.injEq] at h2
      subst h2
      obtain ⟨b1, b2⟩ := wy_pth h1 a q hw [a] 0 (Pth.one a) rfl
      rw [Int.zero_add] at b1
      have e2 : [a] ++ q = w.2 := by rw [hw]; rfl
      rw [e2] at b1 b2
      have hin := pth_in hv b1 a (by rw [hw]; rfl) hs
      have hlen := nodup_len h3 hin
      have hpos : 0 < w.2.length := by rw [hw]; simp
      rw [← hw]
      refine ⟨w.2.length - 1, by omega, (mem_begun v a _ w).mpr ⟨b1, by rw [hw]; rfl, h3, by omega⟩, b2⟩
end Rw

end

-- part Mb
section
set_option Elab.async false
set_option linter.all false
set_option maxRecDepth 4000
namespace Rw
open Ev PySem
def tsum (t p : List Int) : Int := (p.map fun s => gt t s).sum
theorem wy_ne {v : NetV} {p : List Int} {c : Int} (h : Wy v p c) : p ≠ [] := by cases h <;> simp
theorem wy_nn {v : NetV} (hv : v.Ok) {t : List Int} (ht : ∀ s, 0 ≤ gt t s) {p : List Int} {c : Int} (h : Wy v p c) : 0 ≤ c + tsum t p := by
  induction h with
  | gate a ha => simp only [tsum, List.map_cons, List.map_nil, List.sum_cons, List.sum_nil]; have := ht a; omega
  | step r p c hr hw ih =>
    have h1 := (hv.r r hr).2.2.2.2.1
    have h2 := ht r.1
    simp only [tsum, List.map_cons, List.sum_cons] at ih ⊢
    omega
/-- from a place of a way on -/
theorem wy_from {v : NetV} (hv : v.Ok) {t : List Int} (ht : ∀ s, 0 ≤ gt t s) {p : List Int} {c : Int} (h : Wy v p c) : ∀ a ∈ p, ∃ q d, Wy v (a :: q) d ∧ List.Sublist (a :: q) p ∧ d + tsum t (a :: q) ≤ c + tsum t p := by
  induction h with
  | gate b hb =>
    intro a ha
    rw [List.mem_singleton] at ha
    subst ha
    exact ⟨[], 0, Wy.gate a hb, List.Sublist.refl _, Int.le_refl _⟩
  | step r p c hr hw ih =>
    intro a ha
    rcases List.mem_cons.mp ha with rfl | h1
    · exact ⟨_, _, Wy.step r p c hr hw, List.Sublist.refl _, Int.le_refl _⟩
    · obtain ⟨q, d, a1, a2, a3⟩ := ih a h1
      refine ⟨q, d, a1, a2.trans (List.sublist_cons_self _ _), Int.le_trans a3 ?_⟩
      have h3 := (hv.r r hr).2.2.2.2.1
      have h4 := ht r.1
      simp only [tsum, List.map_cons, List.sum_cons]
      omega
/-- a way from a, no place twice, that costs at most x -/
def Sp (v : NetV) (t : List Int) (a x : Int) : Prop := ∃ q d, Wy v (a :: q) d ∧ (a :: q).Nodup ∧ d + tsum t (a :: q) ≤ x
theorem sp_step {v : NetV} (hv : v.Ok) {t : List Int} (ht : ∀ s, 0 ≤ gt t s) {r : I3} (hr : r ∈ v.r) {h : Int} (hs : Sp v t r.2.1 h) : Sp v t r.1 (gt t r.1 + r.2.2 + h) := by
  obtain ⟨q, d, h1, h2, h3⟩ := hs
  have h4 := (hv.r r hr).2.2.2.2.1
  have h5 := ht r.1
  by_cases hin : r.1 ∈ r.2.1 :: q
  · obtain ⟨q2, d2, b1, b2, b3⟩ := wy_from hv ht h1 r.1 hin
    exact ⟨q2, d2, b1, b2.nodup h2, by omega⟩
  · refine ⟨r.2.1 :: q, r.2.2 + d, Wy.step r q d hr h1, List.nodup_cons.mpr ⟨hin, h2⟩, ?_⟩
    simp only [tsum, List.map_cons, List.sum_cons] at h3 ⊢
    omega
theorem gt_setO {l : List (Option Int)} {i a : Int} {x : Option Int} (hi : 0 ≤ i ∧ i < l.length) (ha : 0 ≤ a ∧ a < l.length) : gt (l.set i.toNat x) a = if a = i then x else gt l a := by
  by_cases h : a = i
  · subst h
    rw [if_pos rfl]
    have : (l.set a.toNat x)[a.toNat]? = some x := by rw [List.getElem?_set_self (by omega)]
    have := gt_nat this
    rwa [show ((a.toNat : Nat) : Int) = a by omega] at this
  · rw [if_neg h]
    have e : (l.set i.toNat x)[a.toNat]? = l[a.toNat]? := by rw [List.getElem?_set_ne (by omega)]
    rw [gt_get ha.1 ha.2] at e
    have := gt_nat e
    rwa [show ((a.toNat : Nat) : Int) = a by omega] at this
/-- every number told is the cost of a way -/
def Snd (v : NetV) (t : List Int) (l : List (Option Int)) : Prop := l.length = v.w.length ∧ ∀ a x, 0 ≤ a → a < (l.length : Int) → gt l a = some x → Sp v t a x
theorem snd_relax {v : NetV} (hv : v.Ok) {t : List Int} (ht : ∀ s, 0 ≤ gt t s) {l : List (Option Int)} (h : Snd v t l) {r : I3} (hr : r ∈ v.r) : Snd v t (relax1 t l r) := by
  obtain ⟨h1, h2⟩ := h
  have hb := hv.r r hr
  have put : ∀ h, gt l r.2.1 = some h → Snd v t (l.set r.1.toNat (some (gt t r.1 + r.2.2 + h))) := by
    intro h e
    refine ⟨by rw [List.length_set]; exact h1, fun a x ha0 ha1 e2 => ?_⟩
    rw [List.length_set] at ha1
    rw [gt_setO (by omega) ⟨ha0, ha1⟩] at e2
    split at e2
    · rename_i e3
      subst e3
      cases e2
      exact sp_step hv ht hr (h2 _ _ hb.2.1.1 (by omega) e)
    · exact h2 a x ha0 ha1 e2
  unfold relax1
  cases e : gt l r.2.1 with
  | none => exact ⟨h1, h2⟩
  | some h =>
    dsimp only
    cases e2 : gt l r.1 with
    | none => exact put h e
    | some y =>
      dsimp only
      split
      · exact put h e
      · exact ⟨h1, h2⟩
theorem snd_fold {v : NetV} (hv : v.Ok) {t : List Int} (ht : ∀ s, 0 ≤ gt t s) : ∀ (rs : List I3) (l : List (Option Int)), (∀ r ∈ rs, r ∈ v.r) → Snd v t l → Snd v t (rs.foldl (relax1 t) l)
  | [], l, _, h => h
  | r :: rs, l, hr, h => snd_fold hv ht rs _ (fun x hx => hr x (List.mem_cons_of_mem _ hx)) (snd_relax hv ht h (hr r List.mem_cons_self))
theorem gt_least0 {v : NetV} {t : List Int} {a : Int} (h0 : 0 ≤ a) (h1 : a < v.w.length) : gt (least0 v t) a = if a ∈ v.g then some (gt t a) else none := by
  have e : (least0 v t)[a.toNat]? = some (if a ∈ v.g then some (gt t a) else none) := by
    unfold least0
    rw [List.getElem?_map, List.getElem?_range (by omega), Option.map_some, show ((a.toNat : Nat) : Int) = a by omega]
  have := gt_nat e
  rwa [show ((a.toNat : Nat) : Int) = a by omega] at this
theorem snd_go {v : NetV} (hv : v.Ok) {t : List Int} (ht : ∀ s, 0 ≤ gt t s) : ∀ k, Snd v t (leastGo v t k)
  | 0 => by
    refine ⟨least_len v t 0, fun a x h0 h1 e => ?_⟩
    rw [least_len] at h1
    have e2 : gt (least0 v t) a = some x := e
    rw [gt_least0 h0 h1] at e2
    split at e2
    · rename_i hg
      cases e2
      exact ⟨[], 0, Wy.gate a hg, by simp, by simp [tsum]⟩
    · cases e2
  | k + 1 => snd_fold hv ht v.r _ (fun r h => h) (snd_go hv ht k)
/-! at most -/
def Le (o : Option Int) (x : Int) : Prop := ∃ y, o = some y ∧ y ≤ x
theorem le_relax {t : List Int} {l : List (Option Int)} {r : I3} (hr : 0 ≤ r.1 ∧ r.1 < l.length) {a x : Int} (ha : 0 ≤ a ∧ a < l.length) (h : Le (gt l a) x) : Le (gt (relax1 t l r) a) x := by
  obtain ⟨y, e, hy⟩ := h
  unfold relax1
  cases e1 : gt l r.2.1 with
  | none => exact ⟨y, e, hy⟩
  | some h =>
    dsimp only
    cases e2 : gt l r.1 with
    | none =>
      dsimp only
      rw [gt_setO hr ha]
      split
      · rename_i e3; subst e3; rw [e] at e2; cases e2
      · exact ⟨y, e, hy⟩
    | some z =>
      dsimp only
      split
      · rename_i hlt
        rw [gt_setO hr ha]
        split
        · rename_i e3
          subst e3
          rw [e] at e2
          cases e2
          exact ⟨_, rfl, by omega⟩
        · exact ⟨y, e, hy⟩
      · exact ⟨y, e, hy⟩
theorem le_at {t : List Int} {l : List (Option Int)} {r : I3} (hr : 0 ≤ r.1 ∧ r.1 < l.length) {h : Int} (hh : Le (gt l r.2.1) h) : Le (gt (relax1 t l r) r.1) (gt t r.1 + r.2.2 + h) := by
  obtain ⟨y, e, hy⟩ := hh
  unfold relax1
  rw [e]
  dsimp only
  cases e2 : gt l r.1 with
  | none =>
    dsimp only
    rw [gt_setO hr hr, if_pos rfl]
    exact ⟨_, rfl, by omega⟩
  | some z =>
    dsimp only
    split
    · rw [gt_setO hr hr, if_pos rfl]
      exact ⟨_, rfl, by omega⟩
    · exact ⟨z, e2, by omega⟩
theorem le_fold {v : NetV} (hv : v.Ok) {t : List Int} {a x : Int} (ha : 0 ≤ a ∧ a < v.w.length) : ∀ (rs : List I3) (l : List (Option Int)), (∀ r ∈ rs, r ∈ v.r) → l.length = v.w.length → Le (gt l a) x → Le (gt (rs.foldl (relax1 t) l) a) x
  | [], l, _, _, h => h
  | r :: rs, l, hr, hl, h => le_fold hv ha rs _ (fun x hx => hr x (List.mem_cons_of_mem _ hx)) (by rw [relax1_len, hl]) (le_relax (by rw [hl]; exact (hv.r r (hr r List.mem_cons_self)).1) (by rw [hl]; exact ha) h)
theorem le_pass {v : NetV} (hv : v.Ok) {t : List Int} {r : I3} {h : Int} : ∀ (rs : List I3) (l : List (Option Int)), (∀ r ∈ rs, r ∈ v.r) → l.length = v.w.length → r ∈ rs → Le (gt l r.2.1) h → Le (gt (rs.foldl (relax1 t) l) r.1) (gt t r.1 + r.2.2 + h)
  | r0 :: rs, l, hr, hl, hm, hh => by
    have hr0 := hv.r r0 (hr r0 List.mem_cons_self)
    have hsub : ∀ x ∈ rs, x ∈ v.r := fun x hx => hr x (List.mem_cons_of_mem _ hx)
    have hb := hv.r r (hr r hm)
    rw [List.foldl_cons]
    rcases List.mem_cons.mp hm with rfl | h1
    · exact le_fold hv hb.1 rs _ hsub (by rw [relax1_len, hl]) (le_at (by rw [hl]; exact hb.1) hh)
    · exact le_pass hv rs _ hsub (by rw [relax1_len, hl]) h1 (le_relax (by rw [hl]; exact hr0.1) (by rw [hl]; exact hb.2.1) hh)
theorem le_mono {v : NetV} (hv : v.Ok) {t : List Int} {a x : Int} (ha : 0 ≤ a ∧ a < v.w.length) {k : Nat} (h : Le (gt (leastGo v t k) a) x) : ∀ j, Le (gt (leastGo v t (k + j)) a) x
  | 0 => h
  | j + 1 => le_fold hv ha v.r _ (fun _ h => h) (least_len v t (k + j)) (le_mono hv ha h j)
theorem le_way {v : NetV} (hv : v.Ok) {t : List Int} {p : List Int} {c : Int} (h : Wy v p c) : ∀ a q, p = a :: q → ∀ k, q.length ≤ k → (0 ≤ a ∧ a < v.w.length) ∧ Le (gt (leastGo v t k) a) (c + tsum t p) := by
  induction h with
  | gate b hb =>
    intro a q e k hk
    simp only [List.cons.injEq] at e
    obtain ⟨rfl, rfl⟩ := e
    have hab := hv.g b hb
    refine ⟨hab, ?_⟩
    have h0 : Le (gt (leastGo v t 0) b) (0 + tsum t [b]) := by
      show Le (gt (least0 v t) b) _
      rw [gt_least0 hab.1 hab.2, if_pos hb]
      exact ⟨_, rfl, by simp [tsum]⟩
    have := le_mono hv hab h0 k
    rwa [Nat.zero_add] at this
  | step r p c hr hw ih =>
    intro a q e k hk
    simp only [List.cons.injEq] at e
    obtain ⟨rfl, rfl⟩ := e
    have hb := hv.r r hr
    refine ⟨hb.1, ?_⟩
    cases k with
    | zero => simp at hk
    | succ k =>
      have h1 := (ih r.2.1 p rfl k (by simp at hk; omega)).2
      have h2 := le_pass hv (t := t) v.r (leastGo v t k) (fun _ h => h) (least_len v t k) hr h1
      obtain ⟨y, e1, e2⟩ := h2
      refine ⟨y, e1, ?_⟩
      simp only [tsum, List.map_cons, List.sum_cons] at e2 ⊢
      omega
/-- the program's least ways are the least costs of the law's ways -/
theorem foldl_mnp : ∀ (l : List Int) (a : Int), (∀ x ∈ a :: l, l.foldl min a ≤ x) ∧ l.foldl min a ∈ a :: l
  | [], a => by simp
  | b :: r, a => by
    obtain ⟨h1, h2⟩ := foldl_mnp r (min a b)
    rw [List.foldl_cons]
    refine ⟨fun x hx => ?_, ?_⟩
    · have h3 := h1 (min a b) List.mem_cons_self
      rcases List.mem_cons.mp hx with rfl | hx
      · omega
      · rcases List.mem_cons.mp hx with rfl | hx
        · omega
        · exact h1 x (List.mem_cons_of_mem _ hx)
    · rcases List.mem_cons.mp h2 with h | h
      · rw [h, Int.min_def]; split <;> simp
      · simp [h]
theorem least_eq {v : NetV} (hv : v.Ok) {t : List Int} (ht : ∀ s, 0 ≤ gt t s) {a : Int} (ha : 0 ≤ a ∧ a < v.w.length) : gt (leastWays v t) a = leastOf t (lawWays v a) := by
  have s1 : ∀ x, gt (leastWays v t) a = some x → ∃ w ∈ lawWays v a, wcost t w ≤ x := by
    intro x e
    have := (snd_go hv ht v.w.length).2 a x ha.1 (by rw [least_len]; exact ha.2) e
    obtain ⟨q, d, h1, h2, h3⟩ := this
    exact ⟨(d, a :: q), (mem_ways hv ha _).mpr ⟨h1, rfl, h2⟩, h3⟩
  have s2 : ∀ w ∈ lawWays v a, Le (gt (leastWays v t) a) (wcost t w) := by
    intro w hw
    obtain ⟨h1, h2, h3⟩ := (mem_ways hv ha w).mp hw
    obtain ⟨c, p⟩ := w
    dsimp only at h1 h2 h3
    cases p with
    | nil => simp at h2
    | cons b q =>
      simp only [List.head?_cons, Option.some.injEq] at h2
      subst h2
      have hlen : (b :: q).length ≤ v.w.length := by
        obtain ⟨b1, b2⟩ := wy_pth h1 b q rfl [b] 0 (Pth.one b) rfl
        exact nodup_len h3 (pth_in hv b1 b rfl ha)
      simp only [List.length_cons] at hlen
      exact (le_way hv h1 b q rfl v.w.length (by omega)).2
  unfold leastOf
  cases e : lawWays v a with
  | nil =>
    rw [e] at s1
    cases e2 : gt (leastWays v t) a with
    | none => rfl
    | some x => obtain ⟨w, hw, _⟩ := s1 x e2; simp at hw
  | cons w r =>
    rw [e] at s1 s2
    obtain ⟨y, e2, _⟩ := s2 w List.mem_cons_self
    rw [e2, List.map_cons]
    show some y = some ((r.map (wcost t)).foldl min (wcost t w))
    obtain ⟨m1, m2⟩ := foldl_mnp (r.map (wcost t)) (wcost t w)
    rw [← List.map_cons] at m1 m2
    obtain ⟨w1, hw1, e3⟩ := List.mem_map.mp m2
    obtain ⟨y2, e4, h4⟩ := s2 w1 hw1
    rw [e2] at e4
    cases e4
    obtain ⟨w2, hw2, h5⟩ := s1 y e2
    have h6 := m1 _ (List.mem_map.mpr ⟨w2, hw2, rfl⟩)
    congr 1
    omega
end Rw

end

-- part Mc
section
set_option Elab.async false
set_option linter.all false
set_option maxRecDepth 4000
namespace Rw
open Ev PySem
theorem all_len (ns : List NetV) (ps : List ParV) : (allWays ns ps).length = ns.length := by simp [allWays]
theorem all_at {ns : List NetV} {ps : List ParV} {j : Nat} (h : j < ns.length) : gt (allWays ns ps) (j : Int) = waysRow (gt ns (j : Int)) (startsAt ps j) := by
  refine gt_nat ?_
  unfold allWays
  rw [List.getElem?_map, List.getElem?_range h]; rfl
theorem row_at {v : NetV} {st : List Int} {k : Nat} (h : k < v.w.length) : gt (waysRow v st) (k : Int) = if (k : Int) ∈ st then lawWays v k else [] := by
  refine gt_nat ?_
  unfold waysRow
  rw [List.getElem?_map, List.getElem?_range h]; rfl
theorem row_len (v : NetV) (st : List Int) : (waysRow v st).length = v.w.length := by simp [waysRow]
theorem aw_ok {ns : List NetV} {ps : List ParV} (ho : OffOk ns ps) : AwOk ns (allWays ns ps) := by
  refine ⟨all_len ns ps, ho.n3, fun j hj => by rw [all_at hj, row_len], fun j hj => (ho.n _ (gt_mem (by omega) (by omega))).w8, fun r hr l hl => ?_, fun j hj l hl w hw => ?_⟩
  · obtain ⟨j, hj, rfl⟩ := List.mem_map.mp hr
    rw [List.mem_range] at hj
    obtain ⟨k, hk, rfl⟩ := List.mem_map.mp hl
    have hv := ho.n _ (gt_mem (l := ns) (i := j) (by omega) (by omega))
    split
    · exact (c27 (n := 1) (by omega) _ hv k).2
    · simp
  · rw [all_at hj] at hl
    obtain ⟨k, hk, rfl⟩ := List.mem_map.mp hl
    rw [List.mem_range] at hk
    have hv := ho.n _ (gt_mem (l := ns) (i := j) (by omega) (by omega))
    have h8 := hv.w8
    split at hw
    · obtain ⟨h1, h2, h3⟩ := (mem_ways hv ⟨by omega, by omega⟩ w).mp hw
      cases hw2 : w.2 with
      | nil => simp
      | cons b q =>
        rw [hw2] at h2
        simp only [List.head?_cons, Option.some.injEq] at h2
        rw [h2] at hw2
        obtain ⟨b1, b2⟩ := wy_pth h1 _ q hw2 [(k : Int)] 0 (Pth.one _) rfl
        rw [Int.zero_add] at b1
        have hin := pth_in hv b1 k rfl ⟨by omega, by omega⟩
        have e : [(k : Int)] ++ q = w.2 := by rw [hw2]; rfl
        rw [e] at hin
        have hlen := nodup_len h3 hin
        rw [h2, ← hw2]
        exact ⟨by omega, hin⟩
    · simp at hw
theorem gt_nn {t : List Int} (h : ∀ x ∈ t, 0 ≤ x) (s : Int) : 0 ≤ gt t s := by
  unfold gt
  rw [List.getD_eq_getElem?_getD]
  cases e : t[s.toNat]? with
  | none => exact Int.le_refl 0
  | some x => exact h x (List.mem_of_getElem? e)
theorem step_at {ns : List NetV} {ps : List ParV} {pl : List (List Int)} (ho : OffOk ns ps) (hp : PlOk ns pl) {p : ParV} (hpp : p ∈ ps) {j : Nat} (hj : j < ns.length) : gt (gt (leasts (allWays ns ps) pl) (j : Int)) (gt p.s (j : Int)) = leastOf (gt pl (j : Int)) (lawWays (gt ns (j : Int)) (gt p.s (j : Int))) := by
  have hok := ho.p p hpp
  have hl := hok.l
  have hs := hok.s _ (List.mem_of_getElem? (zip_take (get_gt (l := p.s) (k := j) (by omega)) (get_gt hj)))
  dsimp only at hs
  have e1 : gt (leasts (allWays ns ps) pl) (j : Int) = (gt (allWays ns ps) (j : Int)).map (leastOf (gt pl (j : Int))) := by
    refine gt_nat ?_
    unfold leasts
    rw [List.getElem?_map, List.getElem?_range (by rw [all_len]; exact hj)]; rfl
  rw [e1, all_at hj, gt_map _ hs.1 (by rw [row_len]; exact hs.2)]
  obtain ⟨k, hk⟩ : ∃ k : Nat, gt p.s (j : Int) = k := ⟨(gt p.s (j : Int)).toNat, by omega⟩
  rw [hk] at hs ⊢
  rw [row_at (by omega), if_pos]
  unfold startsAt
  rw [← hk]
  exact List.mem_map.mpr ⟨p, hpp, rfl⟩
theorem parts_eq {ns : List NetV} {ps : List ParV} {pl : List (List Int)} (ho : OffOk ns ps) (hp : PlOk ns pl) (hb : ∀ t ∈ pl, ∀ x ∈ t, 0 ≤ x) {p : ParV} (hpp : p ∈ ps) : partsOf (rowsOf ns pl) p = steps (leasts (allWays ns ps) pl) p := by
  have hok := ho.p p hpp
  have hl := hok.l
  have l1 : (leasts (allWays ns ps) pl).length = ns.length := by simp [leasts, all_len]
  refine List.ext_getElem? fun j => ?_
  unfold steps partsOf
  rw [List.getElem?_map, List.getElem?_map, l1]
  by_cases hj : j < ns.length
  · have e1 : (rowsOf ns pl)[j]? = some (leastWays (gt ns (j : Int)) (gt pl (j : Int))) := by
      unfold rowsOf
      rw [List.getElem?_map, List.getElem?_zipIdx, get_gt hj]
      simp
    rw [List.getElem?_range hj, zip_take e1 (get_gt (l := p.s) (k := j) (by omega))]
    simp only [Option.map_some, Option.some.injEq]
    have hs := hok.s _ (List.mem_of_getElem? (zip_take (get_gt (l := p.s) (k := j) (by omega)) (get_gt hj)))
    dsimp only at hs
    rw [step_at ho hp hpp hj]
    have hv := ho.n _ (gt_mem (l := ns) (i := j) (by omega) (by omega))
    exact least_eq hv (gt_nn (hb _ (gt_mem (l := pl) (i := j) (by omega) (by have := hp.l; omega)))) hs
  · have e1 : ((rowsOf ns pl).zip p.s)[j]? = none := by
      rw [List.getElem?_eq_none]
      simp [rowsOf]; omega
    have e2 : (List.range ns.length)[j]? = none := by
      rw [List.getElem?_eq_none]; simp; omega
    rw [e1, e2]; rfl
/-- the program's judge and the law agree -/
theorem agree {ns : List NetV} {ps : List ParV} {pl : List (List Int)} {fe : List Int} (ho : OffOk ns ps) (hp : PlOk ns pl) (hb : ∀ t ∈ pl, ∀ x ∈ t, 0 ≤ x) (hf : ∀ x ∈ fe, 0 ≤ x) : Agree ns ps (allWays ns ps) pl fe := by
  intro k hk
  have hm : gt ps (k : Int) ∈ ps := gt_mem (by omega) (by omega)
  have e := parts_eq ho hp hb hm
  have hd : gt (dues ps (allWays ns ps) pl) (k : Int) = dueOf (leasts (allWays ns ps) pl) (gt ps (k : Int)) := by
    unfold dues
    exact gt_map _ (by omega) (by omega)
  have h0 := gt_nn hf (k : Int)
  rw [hd]
  unfold badT costOf dueOf
  rw [e]
  by_cases hno : none ∈ steps (leasts (allWays ns ps) pl) (gt ps (k : Int))
  · rw [if_pos hno, if_pos hno]
    constructor
    · rintro ⟨c, h1, _⟩; cases h1
    · intro h; omega
  · rw [if_neg hno, if_neg hno]
    constructor
    · rintro ⟨c, h1, h2⟩
      cases h1
      omega
    · intro h
      exact ⟨_, rfl, by omega⟩
end Rw

end

-- part Md
section
set_option Elab.async false
set_option linter.all false
set_option maxRecDepth 100000
namespace Rw
open Ev PySem
theorem sub_L7 {G : Gs} {i a b c d e f g : Int} (h0 : 0 ≤ i) (h1 : i < 7) : subW (.d (.lst [.int a, .int b, .int c, .int d, .int e, .int f, .int g])) (.d (.int i)) G = .ok (.d (.int (gt [a, b, c, d, e, f, g] i))) G := sub_lits [a, b, c, d, e, f, g] rfl h0 h1
theorem sizesAt {i : Int} (h0 : 0 ≤ i) (h1 : i < 8) : ∃ P M : Nat, (∀ G, subW (.d (.lst [.lst [.int 5, .int 6], .lst [.int 8, .int 8], .lst [.int 4, .int 6], .lst [.int 5, .int 5], .lst [.int 6, .int 7], .lst [.int 4, .int 4], .lst [.int 5, .int 8], .lst [.int 3, .int 6]])) (.d (.int i)) G = .ok (.d (.lst [.int P, .int M])) G) ∧ 1 ≤ P ∧ P ≤ 8 ∧ 1 ≤ M ∧ M ≤ 8 := by
  rcases (show i = 0 ∨ i = 1 ∨ i = 2 ∨ i = 3 ∨ i = 4 ∨ i = 5 ∨ i = 6 ∨ i = 7 by omega) with rfl | rfl | rfl | rfl | rfl | rfl | rfl | rfl
  · exact ⟨5, 6, fun G => rfl, by omega⟩
  · exact ⟨8, 8, fun G => rfl, by omega⟩
  · exact ⟨4, 6, fun G => rfl, by omega⟩
  · exact ⟨5, 5, fun G => rfl, by omega⟩
  · exact ⟨6, 7, fun G => rfl, by omega⟩
  · exact ⟨4, 4, fun G => rfl, by omega⟩
  · exact ⟨5, 8, fun G => rfl, by omega⟩
  · exact ⟨3, 6, fun G => rfl, by omega⟩
def pickA : List Int := (List.replicate 8 [100, 7]).flatten
def pickB : List Int := List.replicate 6 840
def pickSizes : List Int := pickA ++ pickB
theorem pick_at : pickSizes.length = 22 ∧ (∀ q : Fin 8, gt pickSizes (2 * q.1 : Nat) = 100 ∧ gt pickSizes (2 * q.1 + 1 : Nat) = 7) ∧ ∀ s ∈ pickSizes, 0 < s ∧ s ≤ 1000000 := by decide +kernel
theorem mulP {Φ : Fns} {G : Gs} : binW Φ 0 .mul (.d (.lst [.int 100, .int 7])) (.d (.int 8)) G = .ok (.d (.lst (pickA.map .int))) G := by
  rw [mul_ln (by decide) (by decide) (by decide)]; rfl
theorem mulQ {Φ : Fns} {G : Gs} : binW Φ 0 .mul (.d (.lst [.int 840])) (.d (.int 6)) G = .ok (.d (.lst (pickB.map .int))) G := by
  rw [mul_ln (by decide) (by decide) (by decide)]; rfl
theorem addPQ {Φ : Fns} {G : Gs} : binW Φ 0 .add (.d (.lst (pickA.map .int))) (.d (.lst (pickB.map .int))) G = .ok (.d (.lst (pickSizes.map .int))) G := by
  rw [add_ll (by decide), ← List.map_append]; rfl
theorem in_l2 {Φ : Fns} {G : Gs} {k a b : Int} : cmpW Φ .isin (.d (.int k)) (.d (.lst [.int a, .int b])) G = .ok (.d (.bl (decide (k ∈ [a, b])))) G := in_lst Φ k [a, b] G
theorem min_l2 {Φ : Fns} {G : Gs} {k : Nat} {a b : Int} : bltW Φ k .min1 [.d (.lst [.int a, .int b])] G = .ok (.d (.int (min a b))) G := blt_min1 (l := [a, b]) rfl
theorem go_wide (v : NetV) : ∀ (T : Nat) (b : List Way), waysGo (wideN v) T b = waysGo v T b
  | 0, _ => rfl
  | T + 1, b => by
    show endWays v b ++ waysGo (wideN v) T (nextWays v b) = endWays v b ++ waysGo v T (nextWays v b)
    rw [go_wide v T]
theorem ways_wide (v : NetV) (s : Int) : lawWays (wideN v) s = lawWays v s := by
  unfold lawWays
  rw [go_wide]
  congr 1
  simp [wideN]
theorem all_wide (ns : List NetV) (ps : List ParV) : allWays (ns.map wideN) ps = allWays ns ps := by
  unfold allWays
  rw [List.length_map]
  refine List.map_congr_left fun j hj => ?_
  rw [List.mem_range] at hj
  rw [gt_map _ (by omega) (by omega)]
  unfold waysRow
  rw [show (wideN (gt ns (j : Int))).w.length = (gt ns (j : Int)).w.length by simp [wideN]]
  refine List.map_congr_left fun k _ => ?_
  rw [ways_wide]
theorem all_needy (ns : List NetV) (ps : List ParV) : allWays ns (ps.map needyP) = allWays ns ps := by
  unfold allWays
  refine List.map_congr_left fun j hj => ?_
  have : startsAt (ps.map needyP) j = startsAt ps j := by unfold startsAt; rw [List.map_map]; rfl
  rw [this]
theorem pl_wide {ns : List NetV} {pl : List (List Int)} (h : PlOk ns pl) : PlOk (ns.map wideN) pl := by
  refine ⟨by rw [List.length_map]; exact h.l, fun j hj => ?_⟩
  rw [List.length_map] at hj
  rw [h.r j hj, gt_map _ (by omega) (by omega)]
  simp [wideN]
theorem due_nn (ls : List (List (Option Int))) (p : ParV) : 0 ≤ dueOf ls p := by
  unfold dueOf
  split <;> omega
/-- a parcel that pays has ways in every net -/
theorem paid_ways {ns : List NetV} {ps : List ParV} {pl : List (List Int)} (ho : OffOk ns ps) (hp : PlOk ns pl) {k : Nat} (hk : k < ps.length) (h : 0 < gt (dues ps (allWays ns ps) pl) (k : Int)) : ∀ j : Nat, j < ns.length → gt (gt (allWays ns ps) (j : Int)) (gt (gt ps (k : Int)).s (j : Int)) ≠ [] := by
  intro j hj q
  have hm : gt ps (k : Int) ∈ ps := gt_mem (by omega) (by omega)
  have hd : gt (dues ps (allWays ns ps) pl) (k : Int) = dueOf (leasts (allWays ns ps) pl) (gt ps (k : Int)) := by
    unfold dues
    exact gt_map _ (by omega) (by omega)
  have hok := ho.p _ hm
  have hl := hok.l
  have hs := hok.s _ (List.mem_of_getElem? (zip_take (get_gt (l := (gt ps (k : Int)).s) (k := j) (by omega)) (get_gt hj)))
  dsimp only at hs
  have e1 : gt (leasts (allWays ns ps) pl) (j : Int) = (gt (allWays ns ps) (j : Int)).map (leastOf (gt pl (j : Int))) := by
    refine gt_nat ?_
    unfold leasts
    rw [List.getElem?_map, List.getElem?_range (by rw [all_len]; exact hj)]; rfl
  have e2 : gt (gt (leasts (allWays ns ps) pl) (j : Int)) (gt (gt ps (k : Int)).s (j : Int)) = none := by
    rw [e1, gt_map _ hs.1 (by rw [all_at hj, row_len]; exact hs.2), q]; rfl
  have hin : none ∈ steps (leasts (allWays ns ps) pl) (gt ps (k : Int)) := by
    unfold steps
    exact List.mem_map.mpr ⟨j, List.mem_range.mpr (by simp [leasts, all_len]; exact hj), e2⟩
  rw [hd] at h
  unfold dueOf at h
  rw [if_pos hin] at h
  omega
/-- the first of those that pay too little -/
theorem isF_ones {n : Nat} {d l : List Int} {a b : Nat} (ha : a < n) (hb : b < n) (h : ∀ k : Nat, k < n → (gt d (k : Int) > gt l (k : Int) ↔ k = a ∨ k = b)) : IsF n (fun k => gt d (k : Int) > gt l (k : Int)) (some (min (a : Int) b)) := by
  refine ⟨min a b, by omega, by omega, (h _ (by omega)).mpr (by omega), fun j hj hc => ?_⟩
  have := (h j (by omega)).mp hc
  omega
theorem is_mT {Φ : Fns} {G : Gs} {pl : List (List Int)} {fe : List Int} : cmpW Φ .is (.d (mT pl fe)) (.d .non) G = .ok (.d (.bl false)) G := rfl
theorem ne_optI {Φ : Fns} {G : Gs} {a b : Int} : cmpW Φ .ne (.d (eOI (some a))) (.d (.int b)) G = .ok (.d (.bl (decide (¬ a = b)))) G := cmp_ne Φ a b G
theorem c0 {n : Nat} (hn : 10 < n) (sc : List Int) : (lvl T n).call 0 [.scr sc] = .ok (.bl true) := by
  refine call_eq (by omega) (f := f0) rfl rfl fun m hm R hR => ?_
  obtain ⟨z0, ez0⟩ := c2z (n := m) (by omega) sc 0 (by omega) (by omega)
  obtain ⟨z5, ez5⟩ := c2z (n := m) (by omega) sc 5 (by omega) (by omega)
  obtain ⟨z6, ez6⟩ := c2z (n := m) (by omega) sc 6 (by omega) (by omega)
  obtain ⟨z7, ez7⟩ := c2z (n := m) (by omega) sc 7 (by omega) (by omega)
  obtain ⟨z8, ez8⟩ := c2z (n := m) (by omega) sc 8 (by omega) (by omega)
  obtain ⟨x1, e1, r, rfl, hr⟩ := c1 (n := m) (by omega) z0 [8, 8, 8, 25, 4] (by decide) (by decide)
  simp only [List.map_cons, List.map_nil] at e1
  have hrl := hr.1
  simp only [List.length_cons, List.length_nil] at hrl
  have r0 := hr.2 0 (by omega) (by omega)
  have r1 := hr.2 1 (by omega) (by omega)
  have r2 := hr.2 2 (by omega) (by omega)
  have r3 := hr.2 3 (by omega) (by omega)
  have r4 := hr.2 4 (by omega) (by omega)
  rw [show gt ([8, 8, 8, 25, 4] : List Int) 0 = 8 from rfl] at r0
  rw [show gt ([8, 8, 8, 25, 4] : List Int) 1 = 8 from rfl] at r1
  rw [show gt ([8, 8, 8, 25, 4] : List Int) 2 = 8 from rfl] at r2
  rw [show gt ([8, 8, 8, 25, 4] : List Int) 3 = 25 from rfl] at r3
  rw [show gt ([8, 8, 8, 25, 4] : List Int) 4 = 4 from rfl] at r4
  obtain ⟨P, M, esz, hP1, hP, hM1, hM⟩ := sizesAt r1.1 r1.2
  have hC := gt_all (l := ([2, 3, 1, 2, 3, 2, 1, 3] : List Int)) (P := fun x : Int => 1 ≤ x ∧ x ≤ 3) (i := gt r 0) (by simp) r0.1 (by simp; omega)
  obtain ⟨C, hCe⟩ : ∃ C : Nat, gt ([2, 3, 1, 2, 3, 2, 1, 3] : List Int) (gt r 0) = C := ⟨(gt ([2, 3, 1, 2, 3, 2, 1, 3] : List Int) (gt r 0)).toNat, by omega⟩
  rw [hCe] at hC
  obtain ⟨x3, e3, ns, ps, rfl, ho⟩ := c3 (n := m) (by omega) sc C P M (by omega) (by omega) hP1 hP hM1 hM
  have p24 : (10 : Int) ^ 24 = 1000000000000000000000000 := by decide +kernel
  have p20 : (10 : Int) ^ 20 = 100000000000000000000 := by decide +kernel
  have b0 := Int.emod_nonneg z6 (b := 1000000000000000000000000) (by omega)
  have b1 := Int.emod_lt_of_pos z6 (b := 1000000000000000000000000) (by omega)
  obtain ⟨bg, hbg⟩ : ∃ b, z6 % 1000000000000000000000000 = b := ⟨_, rfl⟩
  obtain ⟨dd, hdd⟩ : ∃ b, z8 % 100000000000000000000 = b := ⟨_, rfl⟩
  rw [hbg] at b0 b1
  obtain ⟨x6, e6, pl, rfl, hpl, hpb⟩ := c6 (n := m) (by omega) ns ps ho z5 (gt r 2) bg r2.1 r2.2 b0 (by rw [p24]; exact b1)
  obtain ⟨l0, l1, l2⟩ := pick_at
  obtain ⟨x7, e7, pk, rfl, hpk⟩ := c1 (n := m) (by omega) z7 pickSizes l2 (by omega)
  have hpkl := hpk.1
  rw [l0] at hpkl
  have hpk0 : ∀ x ∈ pk, 0 ≤ x := fun x hx => by
    obtain ⟨i, hi⟩ := List.mem_iff_getElem?.mp hx
    have := hpk.2 i (by omega) (by have := (List.getElem?_eq_some_iff.mp hi).1; omega)
    rw [gt_nat hi] at this
    exact this.1
  have d0 := Int.emod_nonneg z8 (b := 100000000000000000000) (by omega)
  have d1 := Int.emod_lt_of_pos z8 (b := 100000000000000000000) (by omega)
  rw [hdd] at d0 d1
  have hds : ∀ d ∈ [gt r 3, gt r 4, 25 + dd], 0 ≤ d ∧ d ≤ 10 ^ 21 := by
    have p21 : (10 : Int) ^ 21 = 1000000000000000000000 := by decide +kernel
    rw [p21]
    simp; omega
  have haw := aw_ok ho
  have e4 := c4 (n := m) (by omega) ns ps ho
  have e5 := c5 (n := m) (by omega) ns ps ho
  have edu := c7 (n := m) (by omega) ns ps (allWays ns ps) pl ho haw hpl
  have hpn : ∀ t ∈ pl, ∀ x ∈ t, 0 ≤ x := fun t ht x hx => (hpb t ht x hx).1
  have hdl : (dues ps (allWays ns ps) pl).length = ps.length := by simp [dues]
  have hdn : ∀ x ∈ dues ps (allWays ns ps) pl, 0 ≤ x := fun x hx => by
    obtain ⟨p, _, rfl⟩ := List.mem_map.mp hx
    exact due_nn _ _
  have asked : ∀ (pl2 : List (List Int)) (fe : List Int), PlOk ns pl2 → (∀ t ∈ pl2, ∀ x ∈ t, 0 ≤ x ∧ x ≤ TB) → fe.length = ps.length → (∀ x ∈ fe, 0 ≤ x) → (lvl T m).call 8 [mO ns ps, eO ns ps, eAW (allWays ns ps), ePl pl2, .lst (fe.map .int), .lst ([gt r 3, gt r 4, 25 + dd].map .int)] = .ok (mT pl2 fe) := fun pl2 fe g1 g2 g3 g4 =>
    c8 (by omega) ns ps (allWays ns ps) pl2 fe _ ho haw ⟨g1, g3, g2⟩ (agree ho g1 (fun t ht x hx => (g2 t ht x hx).1) g4) hds
  simp only [List.map_cons, List.map_nil] at asked
  have a1 := asked pl _ hpl hpb hdl hdn
  obtain ⟨y9, e9, q9, rfl, hq9⟩ := c9 (n := m) (by omega) ns ps pl (dues ps (allWays ns ps) pl) ho hpl hdl
  have hnob : ∀ k, k < ps.length → ¬ badT ns ps pl (dues ps (allWays ns ps) pl) k := fun k hk hb => by
    have := (agree ho hpl hpn hdn k hk).mp hb
    omega
  have q9n : q9 = none := by
    cases q9 with
    | none => rfl
    | some i => obtain ⟨k, rfl, hk, hb, _⟩ := hq9; exact absurd hb (hnob k hk)
  subst q9n
  obtain ⟨du, hdu⟩ : ∃ d, d = dues ps (allWays ns ps) pl := ⟨_, rfl⟩
  rw [← hdu] at edu hdl hdn a1 e9 hnob
  have h8 := ho.p8
  dsimp? only [f0, hbg, hdd, ez0, e1, esz, hCe, e3, e4, e5, ez6, ez5, e6, ez7, ↓mulP, ↓mulQ, ↓addPQ, e7, ez8, edu, a1, e9, is_mT, isnot_opt, ne_eq]
  have pk2 : ∀ k : Nat, k < 8 → (0 ≤ gt pk ((2 * k : Nat) : Int) ∧ gt pk ((2 * k : Nat) : Int) < 100) ∧ (0 ≤ gt pk ((2 * k + 1 : Nat) : Int) ∧ gt pk ((2 * k + 1 : Nat) : Int) < 7) := fun k hk => by
    have h := l1 ⟨k, hk⟩
    have c0 := hpk.2 ((2 * k : Nat) : Int) (by omega) (by omega)
    have c1 := hpk.2 ((2 * k + 1 : Nat) : Int) (by omega) (by omega)
    rw [h.1] at c0
    rw [h.2] at c1
    exact ⟨c0, c1⟩
  refine wp_range0 ps.length (by omega) (fun k σ G => ∃ (o13 o15 : Option W) (dr : List Int), σ = [some (.d (.scr sc)), some (.d (.lst (r.map .int))), some (.d (.lst [.int P, .int M])), some (.d (eO ns ps)), some (.d (mO ns ps)), some (.d (eAW (allWays ns ps))), some (.d (.int bg)), some (.d (ePl pl)), some (.d (.lst (pk.map .int))), some (.d (.lst [.int (gt r 3), .int (gt r 4), .int (25 + dd)])), some (.d (.lst (du.map .int))), some (.d (mT pl du)), some (.r 0), o13, none, o15, none, none, none, none] ∧ G = [.sh (dr.map .int)] ∧ dr.length = k ∧ ∀ x ∈ dr, 0 ≤ x) ⟨_, _, [], rfl, rfl, rfl, by simp⟩ ?_ ?_
  · rintro k σ G hk ⟨o13, o15, dr, rfl, rfl, hdr, hdr0⟩ R2 hR2
    obtain ⟨q0, q1⟩ := pk2 k (by omega)
    have t1 : (2 * (k : Int)).toNat = 2 * k := by omega
    have t2 : (2 * (k : Int) + 2).toNat - 2 * k = 2 := by omega
    have c0 := gt_cut (l := pk) (a := 2 * k) (n := 2) (i := 0) (by omega) (by omega) (by omega)
    have c1 := gt_cut (l := pk) (a := 2 * k) (n := 2) (i := 1) (by omega) (by omega) (by omega)
    rw [show ((2 * k : Nat) : Int) + 0 = ((2 * k : Nat) : Int) by omega] at c0
    rw [show ((2 * k : Nat) : Int) + 1 = ((2 * k + 1 : Nat) : Int) by omega] at c1
    rw [← c0] at q0
    rw [← c1] at q1
    have cl := cut_len (l := pk) (a := 2 * k) (n := 2) (by omega)
    generalize hpe : (pk.drop (2 * k)).take 2 = part at q0 q1 cl
    have hdk := hdn _ (gt_mem (l := du) (i := k) (by omega) (by omega))
    have hval := gt_all (l := ([gt du (k : Int), gt du (k : Int) + gt part 0, max 0 (gt du (k : Int) - 1), gt part 0, gt du (k : Int) + 1, gt du (k : Int) / 2, bg * 7 + gt part 0] : List Int)) (P := fun x : Int => 0 ≤ x) (i := gt part 1) (by simp; omega) q1.1 (by simp; omega)
    dsimp? only [f0_616, t1, t2, hpe, sub_L7]
    exact hR2 _ ⟨rfl, _, _, dr ++ [_], rfl, by rw [List.map_append]; rfl, by simp [hdr], mem_app hdr0 hval⟩
  · rintro σ G ⟨o13, o15, dr, rfl, rfl, hdr, hdr0⟩
    have a2 := asked pl dr hpl hpb hdr hdr0
    have hnl2 := nl_mT pl dr
    -- the last two questions
    have hrow : ∀ t ∈ pl, 1 ≤ t.length ∧ t.length ≤ 8 := fun t hm => by
      have hpl1 := hpl.l
      obtain ⟨j, hj⟩ := List.mem_iff_getElem?.mp hm
      have hjl := (List.getElem?_eq_some_iff.mp hj).1
      have := hpl.r j (by omega)
      rw [gt_nat hj] at this
      have hv := ho.n _ (gt_mem (l := ns) (i := j) (by omega) (by omega))
      have := hv.w1
      have := hv.w8
      omega
    have hpl1 := hpl.l
    have hn1 := ho.n1
    have hn3 := ho.n3
    have e11 := c11 (n := m) (by omega) ns ps (allWays ns ps) pl du [gt r 3, gt r 4, 25 + dd] ho haw (by rw [← all_wide]; exact aw_ok (wide_off ho)) ⟨hpl, hdl, hpb⟩ (pl_wide hpl)
      (by have := agree (needy_off ho) hpl hpn hdn; rwa [all_needy] at this) (by have := agree (wide_off ho) (pl_wide hpl) hpn hdn; rwa [all_wide] at this) hnob hds
    simp only [List.map_cons, List.map_nil] at e11
    have e12 := c12 (n := m) (by omega) ns ps pl du (pk.drop 19) (by omega) (by omega) hrow (by omega) (by rw [List.length_drop]; omega) (fun x hx => hpk0 x (List.mem_of_mem_drop hx))
    have e13 := c13 (n := m) (by omega) ns ps ho
    have t19 : Int.toNat 19 = 19 := rfl
    dsimp? only [a2, is_mT]
    rw [lcRif ps.length (fun k => .int k) (fun k => decide (0 < gt du (k : Int))) (by (dsimp? [hdl]; try rfl)) (fun k hk => ⟨by dsimp? only [], fun _ => by dsimp? only []⟩)]
    have e14 : ((List.range ps.length).filter fun (k : Nat) => decide (0 < gt du (k : Int))).map (fun (k : Nat) => D.int k) = (((List.range ps.length).filter fun (k : Nat) => decide (0 < gt du (k : Int))).map fun (k : Nat) => (k : Int)).map .int := by rw [List.map_map]; rfl
    rw [e14]
    have hpd : ∀ x ∈ ((List.range ps.length).filter fun (k : Nat) => decide (0 < gt du (k : Int))).map fun (k : Nat) => (k : Int), ∃ k : Nat, x = k ∧ k < ps.length ∧ 0 < gt du (k : Int) := fun x hx => by
      obtain ⟨k, hk, rfl⟩ := List.mem_map.mp hx
      have := List.mem_filter.mp hk
      exact ⟨k, rfl, List.mem_range.mp this.1, by simpa using this.2⟩
    have hpl2 : (((List.range ps.length).filter fun (k : Nat) => decide (0 < gt du (k : Int))).map fun (k : Nat) => (k : Int)).length ≤ 8 := by
      rw [List.length_map]
      have := List.length_filter_le (fun (k : Nat) => decide (0 < gt du (k : Int))) (List.range ps.length)
      rw [List.length_range] at this
      omega
    generalize (((List.range ps.length).filter fun (k : Nat) => decide (0 < gt du (k : Int))).map fun (k : Nat) => (k : Int)) = paid at hpd hpl2
    dsimp? only []
    refine wp_ifd (fun hq0 => ?_) (fun hq0 => ?_)
    · have i1 := Int.emod_nonneg (gt pk 16) (b := (paid.length : Int)) (by omega)
      have i2 := Int.emod_lt_of_pos (gt pk 16) hq0
      have i3 := Int.emod_nonneg (gt pk 17) (b := (paid.length : Int)) (by omega)
      have i4 := Int.emod_lt_of_pos (gt pk 17) hq0
      obtain ⟨a, ha, ha1, ha2⟩ := hpd _ (gt_mem i1 i2)
      obtain ⟨b, hb, hb1, hb2⟩ := hpd _ (gt_mem i3 i4)
      have hp18 := hpk0 _ (gt_mem (l := pk) (i := 18) (by omega) (by omega))
      dsimp? only [ha, hb]
      rw [lcR ps.length (fun k => .int (gt du (k : Int) - if (k : Int) ∈ [(a : Int), (b : Int)] then 1 else 0)) (by (dsimp? [hdl]; try rfl)) (fun k hk => by dsimp? only [in_l2])]
      obtain ⟨less, hless⟩ : ∃ l : List Int, l = (List.range ps.length).map fun (k : Nat) => gt du (k : Int) - if (k : Int) ∈ [(a : Int), (b : Int)] then 1 else 0 := ⟨_, rfl⟩
      have e15 : (List.range ps.length).map (fun (k : Nat) => D.int (gt du (k : Int) - if (k : Int) ∈ [(a : Int), (b : Int)] then 1 else 0)) = less.map .int := by rw [hless, List.map_map]; rfl
      rw [e15]
      have hll : less.length = ps.length := by rw [hless]; simp
      have hla : ∀ k : Nat, k < ps.length → gt less (k : Int) = gt du (k : Int) - if (k : Int) ∈ [(a : Int), (b : Int)] then 1 else 0 := fun k hk => by
        refine gt_nat ?_
        rw [hless, List.getElem?_map, List.getElem?_range hk]; rfl
      have hl0 : ∀ x ∈ less, 0 ≤ x := fun x hx => by
        obtain ⟨i, hi⟩ := List.mem_iff_getElem?.mp hx
        have hil := (List.getElem?_eq_some_iff.mp hi).1
        have h1 := hla i (by omega)
        rw [gt_nat hi] at h1
        have h2 := hdn _ (gt_mem (l := du) (i := i) (by omega) (by omega))
        rw [h1]
        split
        · rename_i hin
          simp only [List.mem_cons, List.not_mem_nil, or_false] at hin
          rcases hin with h | h
          · have : i = a := by omega
            subst this; omega
          · have : i = b := by omega
            subst this; omega
        · omega
      have a3 := asked pl less hpl hpb hll hl0
      obtain ⟨y9, e9b, q9, rfl, hq9⟩ := c9 (n := m) (by omega) ns ps pl less ho hpl hll
      have hq9b := IsF.congr (agree ho hpl hpn hl0) hq9
      rw [← hdu] at hq9b
      have hone : q9 = some (min (a : Int) b) := IsF.uniq hq9b (isF_ones ha1 hb1 fun k hk => by
        rw [hla k hk]
        simp only [List.mem_cons, List.not_mem_nil, or_false]
        constructor
        · intro h
          split at h
          · omega
          · omega
        · intro h
          rw [if_pos (by omega)]; omega)
      subst hone
      obtain ⟨x10, e10, pl2, rfl, hpl2', hpb2⟩ := c10 (n := m) (by omega) ns ps (allWays ns ps) pl a (gt pk 18) ho haw hpl hpb ha1 hp18 (paid_ways ho hpl ha1 (by rw [← hdu]; exact ha2))
      have a4 := asked pl2 du hpl2' hpb2 hdl hdn
      dsimp? only [a3, is_mT, e9b, ne_optI, min_l2]
      dsimp? only [e10, a4, is_mT, e11, e12, e13, truth_bb, t19]
      exact hR _ rfl
    · dsimp? only [e11, e12, e13, truth_bb, t19]
      exact hR _ rfl
end Rw

end

namespace Rw
open Ev PySem
theorem T_eq : RwR.T = T := by
  have h : RwR.T.fd = T.fd := by
    funext i
    show (fnsL[i]?).map (·.m) = fdL[i]?
    rw [← List.getElem?_map]; rfl
  show (⟨RwR.T.fd, RwR.T.prim, RwR.T.ini, RwR.T.meth, RwR.T.exf, RwR.T.exsub, RwR.T.fld, RwR.T.isc⟩ : Tab) = T
  rw [h]; rfl
end Rw
theorem PySem.Challenge.cw_sloweralone_k43_toll_judge_holds : PySem.Challenge.rw_sloweralone_k43_toll_judge.Holds := by
  exact law_from (fun w K mg base i φ e fd h => absurd h (by intro q; cases q)) (fun ns hn => by rw [Rw.T_eq]; exact Rw.c0 (by omega) ns)
