import PyProof.Rows.All
import Wide.All
import OpenK.AllK
import Wide.FinOn
import KE.GoesEnum
import HandS.ForMost
import KE.KDictZip
import HandS.Zip0
import KE.KTurns
import KE.KDictKeyed
import HandS.Conv
import HandS.Style
import HandS.Strs
import HandS.TupAny
import HandS.IsInst
import HandS.TupLen
import HandS.Walk
import PySem.Challenge.RW_twinstride_k67_whole_lone_things
set_option Elab.async false
set_option linter.all false
set_option maxRecDepth 100000
set_option maxHeartbeats 4000000
/-! The mathematics: halvings, runs of whole numbers, lists with one item less. No Python here. -/
namespace K67

/-- how often a number is halved, rounded up, till it is one -/
def halvGo : Nat → Nat → Nat
  | 0, _ => 0
  | f + 1, n => if n ≤ 1 then 0 else halvGo f ((n + 1) / 2) + 1
def halv (n : Nat) : Nat := halvGo n n
theorem halvGo_fuel : ∀ (f g n : Nat), n ≤ f → n ≤ g → halvGo f n = halvGo g n
  | 0, 0, _, _, _ => rfl
  | 0, g + 1, n, h, _ => by
    have e : n = 0 := by omega
    subst e
    rfl
  | f + 1, 0, n, _, h => by
    have e : n = 0 := by omega
    subst e
    rfl
  | f + 1, g + 1, n, h1, h2 => by
    unfold halvGo
    by_cases h : n ≤ 1
    · rw [if_pos h, if_pos h]
    · rw [if_neg h, if_neg h, halvGo_fuel f g ((n + 1) / 2) (by omega) (by omega)]
theorem halv_one {n : Nat} (h : n ≤ 1) : halv n = 0 := by
  unfold halv
  cases n with
  | zero => rfl
  | succ n =>
    unfold halvGo
    rw [if_pos h]
theorem halv_step {n : Nat} (h : 1 < n) : halv n = halv ((n + 1) / 2) + 1 := by
  unfold halv
  cases n with
  | zero => omega
  | succ n =>
    rw [show halvGo (n + 1) (n + 1) = if n + 1 ≤ 1 then 0 else halvGo n ((n + 1 + 1) / 2) + 1 from rfl, if_neg (by omega)]
    rw [halvGo_fuel n ((n + 1 + 1) / 2) ((n + 1 + 1) / 2) (by omega) (Nat.le_refl _)]
theorem halv_mono : ∀ (b a : Nat), a ≤ b → halv a ≤ halv b := by
  intro b
  induction b using Nat.strongRecOn with
  | ind b ih =>
    intro a h
    by_cases ha : a ≤ 1
    · rw [halv_one ha]
      exact Nat.zero_le _
    · rw [halv_step (by omega : 1 < a), halv_step (by omega : 1 < b)]
      exact Nat.succ_le_succ (ih ((b + 1) / 2) (by omega) ((a + 1) / 2) (by omega))

/-- lo, lo + 1, .., n of them -/
def rg (lo n : Nat) : List Int := (List.range n).map fun i => ((lo + i : Nat) : Int)
theorem rg_length (lo n : Nat) : (rg lo n).length = n := by
  unfold rg
  rw [List.length_map, List.length_range]
theorem rg_get {lo n i : Nat} (h : i < n) : (rg lo n)[i]? = some ((lo + i : Nat) : Int) := by
  unfold rg
  rw [List.getElem?_map, List.getElem?_range h]
  rfl
theorem mem_rg {lo n : Nat} {z : Int} : z ∈ rg lo n ↔ (lo : Int) ≤ z ∧ z < ((lo + n : Nat) : Int) := by
  unfold rg
  rw [List.mem_map]
  constructor
  · rintro ⟨i, hi, rfl⟩
    have := List.mem_range.mp hi
    omega
  · rintro ⟨h1, h2⟩
    exact ⟨(z - lo).toNat, List.mem_range.mpr (by omega), by omega⟩
theorem rg_take (lo n k : Nat) (h : k ≤ n) : (rg lo n).take k = rg lo k := by
  apply List.ext_getElem?
  intro i
  rw [List.getElem?_take]
  by_cases hi : i < k
  · rw [if_pos hi, rg_get (by omega), rg_get hi]
  · rw [if_neg hi, List.getElem?_eq_none (by rw [rg_length]; omega)]
theorem rg_drop (lo n k : Nat) (h : k ≤ n) : (rg lo n).drop k = rg (lo + k) (n - k) := by
  apply List.ext_getElem?
  intro i
  rw [List.getElem?_drop]
  by_cases hi : i < n - k
  · rw [rg_get (by omega), rg_get hi, Nat.add_assoc]
  · rw [List.getElem?_eq_none (by rw [rg_length]; omega), List.getElem?_eq_none (by rw [rg_length]; omega)]
theorem rg_zero (lo : Nat) : rg lo 0 = [] := rfl
theorem rg_one (lo : Nat) : rg lo 1 = [(lo : Int)] := by
  unfold rg
  simp
theorem rg_succ (lo n : Nat) : rg lo (n + 1) = (lo : Int) :: rg (lo + 1) n := by
  apply List.ext_getElem?
  intro i
  cases i with
  | zero =>
    rw [rg_get (by omega)]
    rfl
  | succ i =>
    rw [List.getElem?_cons_succ]
    by_cases hi : i < n
    · rw [rg_get (by omega), rg_get hi]
      congr 2
      omega
    · rw [List.getElem?_eq_none (by rw [rg_length]; omega), List.getElem?_eq_none (by rw [rg_length]; omega)]
theorem rg_snoc (lo n : Nat) : rg lo (n + 1) = rg lo n ++ [((lo + n : Nat) : Int)] := by
  unfold rg
  rw [List.range_succ, List.map_append, List.map_singleton]
/-- those of a run that lie in a run within it are that run -/
theorem rg_filter (lo k : Nat) : ∀ (n a : Nat), a ≤ lo → lo + k ≤ a + n → ((rg a n).filter fun z => decide (z ∈ rg lo k)) = rg lo k := by
  intro n
  induction n generalizing lo k with
  | zero =>
    intro a h1 h2
    have e : k = 0 := by omega
    subst e
    rfl
  | succ n ih =>
    intro a h1 h2
    rw [rg_succ, List.filter_cons]
    by_cases h : (a : Int) ∈ rg lo k
    · rw [if_pos (decide_eq_true h)]
      have hm := mem_rg.mp h
      have e : a = lo := by omega
      subst e
      cases k with
      | zero => omega
      | succ k =>
        have ih' := ih (a + 1) k (a + 1) (Nat.le_refl _) (by omega)
        rw [rg_succ a k]
        congr 1
        rw [← ih']
        apply List.filter_congr
        intro z hz
        have hz' := mem_rg.mp hz
        rw [ih']
        apply decide_eq_decide.mpr
        rw [List.mem_cons]
        constructor
        · rintro (e | e)
          · omega
          · exact e
        · exact Or.inr
    · rw [if_neg (by rw [decide_eq_true_eq]; exact h)]
      by_cases hk : k = 0
      · subst hk
        rw [rg_zero]
        rw [List.filter_eq_nil_iff]
        intro z _
        simp
      · refine ih lo k (a + 1) ?_ (by omega)
        have : ¬ ((lo : Int) ≤ a ∧ (a : Int) < ((lo + k : Nat) : Int)) := fun q => h (mem_rg.mpr q)
        omega
theorem nodup_rg (lo n : Nat) : (rg lo n).Nodup := by
  induction n generalizing lo with
  | zero => exact List.nodup_nil
  | succ n ih =>
    rw [rg_succ, List.nodup_cons]
    refine ⟨fun h => ?_, ih _⟩
    have := mem_rg.mp h
    omega

/-! ### one item less -/
def less (ns : List Int) (k : Nat) : List Int := ns.take k ++ ns.drop (k + 1)
/-- g is in it, and in none of those with one item less -/
def bare (g : Int) (ns : List Int) : Bool := decide (g ∈ ns) && (List.range ns.length).all fun k => !decide (g ∈ less ns k)
theorem bare_one (g : Int) : bare g [g] = true := by
  simp [bare, less, List.range_succ]
theorem bare_not {g : Int} {ns : List Int} (h : g ∉ ns) : bare g ns = false := by
  unfold bare
  rw [decide_eq_false h]
  rfl
/-- where an item that is not g stands besides, it may go -/
theorem bare_more {g o : Int} {ns : List Int} (hg : g ∈ ns) (ho : o ∈ ns) (hne : o ≠ g) : bare g ns = false := by
  unfold bare
  rw [Bool.and_eq_false_iff]
  refine .inr ?_
  rw [List.all_eq_false]
  obtain ⟨j, hj, ej⟩ := List.mem_iff_getElem.mp ho
  obtain ⟨i, hi, ei⟩ := List.mem_iff_getElem.mp hg
  refine ⟨j, List.mem_range.mpr hj, ?_⟩
  have hne' : i ≠ j := fun e => by
    subst e
    exact hne (ej.symm.trans ei)
  have hm : g ∈ less ns j := by
    unfold less
    rw [List.mem_append]
    by_cases hij : i < j
    · left
      rw [← ei]
      exact List.mem_take_iff_getElem.mpr ⟨i, by omega, rfl⟩
    · right
      rw [← ei]
      exact List.mem_drop_iff_getElem.mpr ⟨i - (j + 1), by omega, by congr 1; omega⟩
  rw [decide_eq_true hm]
  decide

/-! ### what is asked, each mix once -/
def addM (A : List (List Int)) (m : List Int) : List (List Int) := if m ∈ A then A else A ++ [m]
theorem mem_addM (A : List (List Int)) (m : List Int) : m ∈ addM A m := by
  unfold addM
  split
  · assumption
  · exact List.mem_append_right _ List.mem_cons_self
theorem sub_addM {A : List (List Int)} {m x : List Int} (h : x ∈ A) : x ∈ addM A m := by
  unfold addM
  split
  · exact h
  · exact List.mem_append_left _ h
theorem addM_sub {A : List (List Int)} {m x : List Int} (h : x ∈ addM A m) : x ∈ A ∨ x = m := by
  unfold addM at h
  split at h
  · exact .inl h
  · rcases List.mem_append.mp h with h | h
    · exact .inl h
    · exact .inr (List.mem_singleton.mp h)
theorem addM_len (A : List (List Int)) (m : List Int) : (addM A m).length ≤ A.length + 1 := by
  unfold addM
  split
  · exact Nat.le_succ _
  · rw [List.length_append]
    exact Nat.le_refl _
/-- no mix twice; each is a run within 0 .. n; all stand first -/
structure Good (n : Nat) (A : List (List Int)) : Prop where
  nd : A.Nodup
  runs : ∀ m ∈ A, ∃ lo k, m = rg lo k ∧ lo + k ≤ n
  all : A[0]? = some (rg 0 n)
theorem Good.add {n : Nat} {A : List (List Int)} (g : Good n A) {lo k : Nat} (h : lo + k ≤ n) : Good n (addM A (rg lo k)) := by
  refine ⟨?_, fun m hm => ?_, ?_⟩
  · unfold addM
    split
    · exact g.nd
    · rename_i h
      rw [List.nodup_append]
      refine ⟨g.nd, List.nodup_cons.mpr ⟨by simp, List.nodup_nil⟩, fun a ha b hb e => ?_⟩
      rw [List.mem_singleton.mp hb] at e
      exact h (e ▸ ha)
  · rcases addM_sub hm with h1 | rfl
    · exact g.runs m h1
    · exact ⟨lo, k, rfl, h⟩
  · unfold addM
    split
    · exact g.all
    · rw [List.getElem?_append_left ((List.getElem?_eq_some_iff.mp g.all).1)]
      exact g.all
theorem good_first (n : Nat) : Good n (addM [] (rg 0 n)) := by
  refine ⟨List.nodup_cons.mpr ⟨by simp, List.nodup_nil⟩, fun m hm => ?_, rfl⟩
  rcases addM_sub hm with h | rfl
  · cases h
  · exact ⟨0, n, rfl, by omega⟩
end K67
/-! enumerate(t) for a tuple t, in a for over two names: the layer's own rule is for lists alone. -/
namespace K67
open PySem PySem.Spec PyProof.Rows L2
open PySem.Sem (wp)

/-- enumerate(v) makes two cells: the iterator of v, and the counting one -/
theorem newEnum {v : Value} {o : Obj} {G : Heap → Prop} (B : Begins v o G) :
    Meets (Builtin.«enumerate.__new__» ⟨[.type "enumerate", v], []⟩) (fun _ R s => G s.heap ∧
      R (.ok (.ret (.ref (s.heap.push o).objs.size)))
        { s with heap := (s.heap.push o).push { cls := .type "enumerate", data := .fields #[.none, .bool false, .ref s.heap.objs.size, rawInt 0, .none, .none] } }) :=
  .of_wp fun prog w A R s hs => by
    obtain ⟨hp, g, d, tk, os⟩ := s
    obtain ⟨hg, hR⟩ := hs
    have sub := sub_enumerate
    have begin_ : ∀ {A' : Around} {E : Value → Shared → Prop} {Q : Value → Shared → Prop}, Q (.ref hp.objs.size) ⟨hp.push o, g, d, tk, os⟩ → wpAny (model prog w) A' (pyIter v) Q E ⟨hp, g, d, tk, os⟩ :=
      fun q => B.iter prog w _ _ ⟨hp, g, d, tk, os⟩ _ hg q
    wp_walk using begin_
    refine wpAny_stack_any fun st => wpAny_pure ?_
    split
    · next c _ _ _ _ _ =>
      cases (c == Value.type "enumerate") <;> (wp_walk using begin_; exact ⟨_, rfl, hR⟩)
    · wp_walk using begin_
      exact ⟨_, rfl, hR⟩
theorem callEnumT {prog : Program} {w : World} {A : Around} {E : Value → Shared → Prop} {s : Shared} {t : Addr} {items : Array Value} {Q : Value → Shared → Prop} (ht : s.heap.IsTuple t items)
    (hQ : ∀ h', IsEnum h' (s.heap.objs.size + 1) s.heap.objs.size 0 .none → h'.IsTupleIter s.heap.objs.size t 0 → (∀ b o, s.heap.get? b = some o → h'.get? b = some o) → Q (.ref (s.heap.objs.size + 1)) { s with heap := h' }) :
    wpAny (model prog w) A (call (.type "enumerate") [.ref t]) Q E s := by
  refine callType_new F.called_enumerate (by decide) (F.typeCall_enumerate_1 _) (F.newCall_enumerate_1 _) (fun obj => F.args_object_init_2 obj _) F.entry_enumerate_new (newEnum (begins_tuple t items)) ⟨ht, ?_⟩
  generalize eo : ({ cls := .type "tuple_iterator", data := .fields #[.ref t, .int 0 0] } : Obj) = o
  have size1 : (s.heap.push o).objs.size = s.heap.objs.size + 1 := Heap.size_push ..
  have cell : IsEnum ((s.heap.push o).push { cls := .type "enumerate", data := .fields #[.none, .bool false, .ref s.heap.objs.size, rawInt 0, .none, .none] }) (s.heap.objs.size + 1) s.heap.objs.size 0 .none := by
    rw [← size1]
    exact Heap.get?_push_size _ rfl
  show _ ∧ _
  rw [size1]
  refine ⟨⟨_, cell, rfl⟩, hQ _ cell ⟨o, Heap.get?_push_of_some _ (Heap.get?_push_size _ (by rw [← eo]; rfl)), by rw [← eo], by rw [← eo] <;> rfl⟩ fun b u e => Heap.get?_push_of_some _ (Heap.get?_push_of_some _ e)⟩

/-- the tuple at a, each item in a new pair with its number -/
def ItEt (K : PySem.W.Frag) (a : Addr) : It where
  go i H := ∃ (xs : List V) (x : V), SqT K H a xs ∧ xs[i]? = some x
  yld i H v H' := ∃ T x, v = .ref T ∧ H T = none ∧ H' = upd H T (.tup [.int (i : Nat), x]) ∧ ∀ xs, SqT K H a xs → xs[i]? = some x
  stop i H := ∃ xs : List V, SqT K H a xs ∧ xs.length = i
theorem turnEt {P : Program} {w : World} {K : PySem.W.Frag} {elts : List Expr} {kk : Nat} {tpos : Pos} (a e it : Addr) :
    Turn P w K (.Tuple elts kk tpos) (ItEt K a) [e, it] e (fun i h => (∃ old, IsEnum h e it ((i : Nat) : Int) old) ∧ h.IsTupleIter it a i ∧ e ≠ it ∧ a ≠ it ∧ a ≠ e) where
  mem := List.mem_cons_self
  obj := fun i h st b hb => by
    obtain ⟨⟨old, he⟩, ⟨o, ho, _, hd⟩, _⟩ := st
    rcases List.mem_cons.mp hb with rfl | hb
    · exact ⟨_, he, fun v q => nomatch q⟩
    · cases List.mem_singleton.mp hb
      exact ⟨o, ho, fun v q => by
        rw [hd] at q
        cases q⟩
  keep := fun i h h' st k => by
    obtain ⟨⟨old, he⟩, hi, r⟩ := st
    exact ⟨⟨old, k e List.mem_cons_self _ he⟩, hi.at fun o q => k it (List.mem_cons_of_mem _ List.mem_cons_self) o q, r⟩
  item := by
    intro X hP hw hK hc i pins s σ H E I hf st hg
    subst hP hw hK
    obtain ⟨⟨old, he⟩, hit, hne, hai, hae⟩ := st
    obtain ⟨xs, x, hq, hx⟩ := hg
    obtain ⟨its, rv, p, _⟩ := I.tuple hq
    obtain ⟨u, hu, ru⟩ := rv.get hx
    have lte : e < s.heap.objs.size := Heap.lt_size he
    have lti : it < s.heap.objs.size := by
      obtain ⟨_, q, _⟩ := hit
      exact Heap.lt_size q
    have hlt : i < its.toArray.size := by
      rw [List.size_toArray]
      exact (List.getElem?_eq_some_iff.mp hu).1
    have D := Draws.tuple (prog := X.prog) (w := X.w) (A := X.A.in1) (I.ok.hd hc) it a hai its.toArray
    refine wpAny_pyNext_enum_itemD D he ⟨hit, p⟩ hlt hne (fun z => ?_) fun y h' tk hy ho hst hT hsz hk => ?_
    · rcases List.mem_cons.mp z with z | z
      · exact hne z
      · exact hae (List.mem_singleton.mp z).symm
    have ey : y = u := by
      rw [List.getElem?_toArray] at hy
      exact Option.some.inj (hy.symm.trans hu)
    subst ey
    refine ⟨_, rfl, wpAny_letOwnedTupleGo_enum (s := { s with heap := h', toks := tk + 1 }) ho fun h2 he2 sb => ?_⟩
    have hT2 : h2.get? s.heap.objs.size = some { cls := .type "tuple", data := .seq #[.int i tk, y] } := (sb.2 _ (Nat.ne_of_gt lte)).trans hT
    have new : ObjOk X.prog X.w (upd H s.heap.objs.size (.tup [.int (i : Nat), x])) h2 s.heap.objs.size (.tup [.int (i : Nat), x]) :=
      ⟨(by decide : 2 ≤ sizeLine), [.int i tk, y], .cons ⟨_, rfl⟩ (.cons ru .nil), _, hT2, rfl, _, rfl⟩
    have kept : ∀ b ob, b ∉ [e, it] → s.heap.get? b = some ob → h2.get? b = some ob := fun b ob hb q => by
      have n1 : b ≠ e := fun z => hb (by rw [z]; exact List.mem_cons_self)
      have n2 : b ≠ it := fun z => hb (by rw [z]; exact List.mem_cons_of_mem _ List.mem_cons_self)
      exact (sb.2 b n1).trans (hk b ob n1 n2 q)
    have I2 := I.turnedNew (t' := tk + 1) kept hf (Nat.le_refl _) new
    refine ⟨V.ref s.heap.objs.size, _, I2, rfl, ⟨_, x, rfl, I.hok.fresh (Nat.le_refl _), rfl, fun ys hy => ?_⟩, ⟨⟨y, ?_⟩, hst.1.at fun o q => (sb.2 it (Ne.symm hne)).trans q, hne, hai, hae⟩, fun b hb => ?_⟩
    · rw [I.tuple_inj hy hq]
      exact hx
    · rw [show ((i + 1 : Nat) : Int) = (i : Int) + 1 by omega]
      exact he2
    · have hb' : b < s.heap.objs.size := by
        rcases List.mem_cons.mp hb with z | z
        · rw [z]
          exact lte
        · rw [List.mem_singleton.mp z]
          exact lti
      rw [upd_ne (Nat.ne_of_lt hb')]
      exact (hf b hb).1
  done := by
    intro X hP hw hK hc i pins s σ H E I hf st hg
    subst hP hw hK
    obtain ⟨⟨old, he⟩, hit, hne, hai, hae⟩ := st
    obtain ⟨xs, hq, hx⟩ := hg
    obtain ⟨its, rv, p, _⟩ := I.tuple hq
    obtain ⟨f0, f1, f2, f3, f4, f5⟩ := hf it (List.mem_cons_of_mem _ List.mem_cons_self)
    have el : its.toArray.size = i := by
      rw [List.size_toArray, ← rv.length]
      exact hx
    have D := Draws.tuple (prog := X.prog) (w := X.w) (A := X.A.in1) (I.ok.hd hc) it a hai its.toArray
    refine wpAny_pyNext_enum_endD D he ⟨by rw [el]; exact hit, p⟩ fun h' eb => ⟨rfl, I.turned (t' := s.toks) (fun b o hb q => eb b o hb q) f0 f1 f3 f4 f5⟩
  self := fun A i s Q E st h => by
    obtain ⟨⟨old, he⟩, _⟩ := st
    exact wpAny_pyIter_enum he h
def iEnumT (K : PySem.W.Frag) (ta : TA) : TI := fun σ H R => ta σ H fun vs H1 => ∃ a xs, vs = [.ref a] ∧ SqT K H1 a xs ∧ R (ItEt K a) H1
theorem pi_enumT {X : Cx} {e : Expr} {ta : TA} {p pos tpos : Pos} {elts : List Expr} {kk : Nat} (hg : Gl X "enumerate") (hm : X.mg "enumerate" = none) (ha : PA X [e] ta) (hs : starEach [e] X.env = [(false, eval e X.env)] := by rfl) :
    PI X (.Tuple elts kk tpos) (.Call (.Name "enumerate" p) [e] [] pos) (iEnumT X.K ta) := by
  refine ⟨fun pins s σ H R I h => Call_ (ld_blt I hg hm boot_enumerate (PyProof.Rows.callWith_type1 (thn (ha.run pos pins s σ H _ I h) fun us s1 end1 => ?_) hs rfl))⟩
  obtain ⟨vs, H1, I1, r1, a, xs, ex, hq, q⟩ := end1
  subst ex
  obtain ⟨u, rfl, ru⟩ := vals1 r1
  cases ru
  obtain ⟨its, _, tp, _⟩ := I1.tuple hq
  have lta : a < s1.heap.objs.size := by
    obtain ⟨o, ho, _⟩ := id tp
    exact Heap.lt_size ho
  refine callEnumT (show s1.heap.IsTuple a its.toArray from tp) fun h' he hit hk => wpAny_pyIter_enum he ?_
  refine ⟨_, _, _, _, H1, rfl, I1.kept (t' := s1.toks) hk, turnEt a (s1.heap.objs.size + 1) s1.heap.objs.size, ⟨⟨_, he⟩, hit, Nat.succ_ne_self _, Nat.ne_of_lt lta, Nat.ne_of_lt (Nat.lt_succ_of_lt lta)⟩, fun b hb => ?_, q⟩
  have hle : s1.heap.objs.size ≤ b := by
    rcases List.mem_cons.mp hb with z | z
    · rw [z]
      exact Nat.le_succ _
    · rw [List.mem_singleton.mp z]
      exact Nat.le_refl _
  exact I1.fpOk hle (I1.hok.fresh hle)
/-- a for over it: the pair is a new tuple -/
theorem for_enumT {K : PySem.W.Frag} {a : Addr} {xs : List V} {g : TG} {tb : TS} {D : Ends} {σ : L2.St} {H : Hp} (Pv : Nat → L2.St → Hp → Prop) (h0 : Pv 0 σ H) (hl : ∀ i σ H, i ≤ xs.length → Pv i σ H → SqT K H a xs)
    (hs : ∀ i x T σ H, xs[i]? = some x → Pv i σ H → H T = none → g (.ref T) σ (upd H T (.tup [.int (i : Nat), x])) fun σ2 H2 => tb { D with nx := Pv (i + 1), ct := Pv (i + 1), bk := D.nx } σ2 H2)
    (hd : ∀ σ H, Pv xs.length σ H → D.nx σ H) :
    ∃ W : Nat → Nat → L2.St → Hp → Prop, (∃ m, W 0 m σ H) ∧ ∀ i m σ H, W i m σ H →
      ((ItEt K a).stop i H ∧ D.nx σ H) ∨ ((ItEt K a).go i H ∧ ∃ N : L2.St → Hp → Prop, (∀ σ' H', N σ' H' → ∃ m', m' < m ∧ W (i + 1) m' σ' H') ∧ ∀ x H', (ItEt K a).yld i H x H' → g x σ H' fun σ2 H2 => tb { D with nx := N, ct := N, bk := D.nx } σ2 H2) := by
  refine ⟨fun i m σ H => m + i = xs.length ∧ Pv i σ H, ⟨xs.length, rfl, h0⟩, fun i m σ H w => ?_⟩
  obtain ⟨em, p⟩ := w
  have q := hl i σ H (by omega) p
  by_cases hi : i < xs.length
  · have ex : xs[i]? = some xs[i] := List.getElem?_eq_getElem hi
    refine .inr ⟨⟨xs, _, q, ex⟩, Pv (i + 1), fun σ' H' p' => ⟨m - 1, by omega, by omega, p'⟩, fun x H' y => ?_⟩
    obtain ⟨T, z, rfl, nT, rfl, f⟩ := y
    exact hs i z T σ H (f xs q) p nT
  · have e : i = xs.length := by omega
    subst e
    exact .inl ⟨⟨xs, q, rfl⟩, hd σ H p⟩
end K67
/-! dict(zip(t, u)) for two tuples t (of texts) and u: what the layer has is for lists alone. -/
namespace K67
open PySem PySem.Spec PyProof.Rows L2
open PySem.Sem (wp)
section
variable {prog : Program} {w : World} {A : Around} {E : Value → Shared → Prop} {s : Shared} {z TI TO T i1 i2 l1 l2 : Addr} {f : Bool} {oT : Obj} {k : Nat} {xs ys : Array Value}

/-- the next of a zip whose pair is still held by somebody: both are drawn, and laid in a new pair -/
theorem heldNext {Q : Fin → Shared → Prop} (hz : IsZipHeld s.heap z TI TO T f) (hT : s.heap.get? T = some oT) (hTI : IsPair s.heap TI (.ref i1) (.ref i2))
    (both : ∀ h1, IsZipHeld h1 z TI TO T true → Heap.SameBut z s.heap h1 →
      wpAny (model prog w) A (Builtin.SmallTypes.nextOf (.ref i1)) (fun x s2 => wpAny (model prog w) A (Builtin.SmallTypes.nextOf (.ref i2))
        (fun y s3 => Q (.done (.ret (.ref s3.heap.objs.size))) { s3 with heap := s3.heap.push { cls := .type "tuple", data := .seq #[x, y] } }) E s2) E { s with heap := h1 }) :
    wpAny (model prog w) A (Builtin.«zip.__next__» ⟨[.ref z], []⟩) Q E s := by
  show wpAny _ _ (field (.ref z) 2 >>= _) _ _ _
  refine wpAny_bind (wpAny_field hz rfl (x := .bool false) rfl ?_)
  show wpAny _ _ (field (.ref z) 3 >>= _) _ _ _
  refine wpAny_bind (wpAny_field hz rfl (x := .ref TI) rfl (wpAny_bind (wpAny_seqItems hTI rfl ?_)))
  show wpAny _ _ (Builtin.SmallTypes.ownedTupleIsFree (.ref z) >>= _) _ _ _
  refine wpAny_bind (wpAny_tupleHeld_zip hz hT fun h1 hz1 hs1 => ?_)
  simp only [Bool.false_eq_true, if_false]
  refine wpAny_bind ?_
  rw [← Array.forIn_toList]
  simp only [List.forIn_cons, List.forIn_nil]
  refine wpAny_bind (wpAny_bind (wpAny_holding ?_))
  show wpAny _ _ (Builtin.SmallTypes.nextOf (.ref i1) >>= _) _ _ _
  refine wpAny_bind (wpAny_mono (both h1 hz1 hs1) (fun x s2 q2 => wpAny_pure (wpAny_pure (wpAny_bind (wpAny_bind (wpAny_holding ?_))))) fun _ _ e => e)
  show wpAny _ _ (Builtin.SmallTypes.nextOf (.ref i2) >>= _) _ _ _
  refine wpAny_bind (wpAny_mono q2 (fun y s3 q3 => wpAny_pure (wpAny_pure (wpAny_pure ?_))) fun _ _ e => e)
  show wpAny _ _ (newTuple [x, y] >>= _) _ _ _
  exact wpAny_bind (wpAny_newTuple (wpAny_pure q3))
theorem heldItem {x y : Value} {Q : Option Value → Shared → Prop} (D : ZipApart z TI TO i1 i2 l1 l2) (hz : IsZipHeld s.heap z TI TO T f) (hT : s.heap.get? T = some oT) (hTI : IsPair s.heap TI (.ref i1) (.ref i2))
    (h1 : s.heap.IsTupleIter i1 l1 k) (h2 : s.heap.IsTupleIter i2 l2 k) (hl1 : s.heap.IsTuple l1 xs) (hl2 : s.heap.IsTuple l2 ys) (hx : xs[k]? = some x) (hy : ys[k]? = some y)
    (hQ : ∀ h', IsZipHeld h' z TI TO T true → h'.IsTupleIter i1 l1 (k + 1) → h'.IsTupleIter i2 l2 (k + 1) → IsPair h' s.heap.objs.size x y →
      (∀ c o, c ≠ z → c ≠ i1 → c ≠ i2 → s.heap.get? c = some o → h'.get? c = some o) → Q (some (.ref s.heap.objs.size)) { s with heap := h' }) :
    wpAny (model prog w) A (pyNext (.ref z)) Q E s := by
  have ty : s.TypeIs (.ref z) "zip" := ⟨_, hz, rfl⟩
  unfold pyNext
  refine wpAny_bind (wpAny_attempt (wpAny_callSpecial?_slot (name := Str.ofString "__next__") ty F.slot_zip_next (wpAny_call_entry F.slot_zip_next ty F.entry_zip_next ?_ (F.args_zip_next_1 _))))
  refine heldNext hz hT hTI fun g1 hz1 s1 => ?_
  refine RZ.nextOf_tuple_item (s := { s with heap := g1 }) (h1.extBut s1.extBut D.i1z) (hl1.extBut s1.extBut D.l1z) hx fun g2 a2 s2 => ?_
  refine RZ.nextOf_tuple_item (s := { s with heap := g2 }) ((h2.extBut s1.extBut D.i2z).extBut s2.extBut D.i12.symm) ((hl2.extBut s1.extBut D.l2z).extBut s2.extBut D.l2i1) hy fun g3 b3 s3 => ?_
  have size : g3.objs.size = s.heap.objs.size := s3.1.trans (s2.1.trans s1.1)
  have pair : IsPair (g3.push { cls := .type "tuple", data := .seq #[x, y] }) g3.objs.size x y := Heap.get?_push_size _ rfl
  rw [size] at pair
  refine ⟨_, rfl, wpAny_pure ?_⟩
  show Q (some (.ref g3.objs.size)) _
  rw [size]
  exact hQ _ (Heap.get?_push_of_some _ (s3.extBut _ _ D.i2z.symm (s2.extBut _ _ D.i1z.symm hz1))) ((a2.extBut s3.extBut D.i12).at fun o e => Heap.get?_push_of_some _ e) (b3.at fun o e => Heap.get?_push_of_some _ e) pair
    fun c o n1 n2 n3 e => Heap.get?_push_of_some _ (s3.extBut _ _ n3 (s2.extBut _ _ n2 (s1.extBut _ _ n1 e)))
/-- both are gone through (two tuples of one length) -/
theorem heldEnd {Q : Option Value → Shared → Prop} (hh : A.handled = none) (D : ZipApart z TI TO i1 i2 l1 l2) (hz : IsZipHeld s.heap z TI TO T f) (hT : s.heap.get? T = some oT) (hTI : IsPair s.heap TI (.ref i1) (.ref i2))
    (h1 : s.heap.IsTupleIter i1 l1 k) (hl1 : s.heap.IsTuple l1 xs) (hx : xs[k]? = none)
    (hQ : ∀ h', (∀ c o, c ≠ z → c ≠ i1 → s.heap.get? c = some o → h'.get? c = some o) → Q none { s with heap := h' }) : wpAny (model prog w) A (pyNext (.ref z)) Q E s := by
  have ty : s.TypeIs (.ref z) "zip" := ⟨_, hz, rfl⟩
  unfold pyNext
  refine wpAny_bind (wpAny_attempt (wpAny_callSpecial?_slot (name := Str.ofString "__next__") ty F.slot_zip_next (wpAny_call_entry F.slot_zip_next ty F.entry_zip_next ?_ (F.args_zip_next_1 _))))
  refine heldNext hz hT hTI fun g1 hz1 s1 => ?_
  refine RZ.nextOf_tuple_end (s := { s with heap := g1 }) hh (h1.extBut s1.extBut D.i1z) (hl1.extBut s1.extBut D.l1z) hx fun g2 e s2 he => ?_
  obtain ⟨o, ho, hc⟩ := he
  exact wpAny_bind (wpAny_isInstance (T := "StopIteration") (b := true) ⟨o, ho, hc⟩ isSubtype_stop (wpAny_pure (hQ _ fun c u n1 n2 q => s2 _ _ n2 (s1.extBut _ _ n1 q))))
end
section
variable {prog : Program} {w : World}
/-- zip(t, u) as what dict() is made of: two tuples of n items -/
theorem pairsOfZip (z TI TO i1 i2 l1 l2 : Addr) (D : ZipApart z TI TO i1 i2 l1 l2) (xs ys : Array Value) (n : Nat) (hxs : xs.size = n) (hys : ys.size = n) :
    PairArg prog w "zip" z [z, TI, TO, i1, i2, l1, l2] [z, TO, i1, i2] n (fun i a b => xs[i]? = some a ∧ ys[i]? = some b)
      (fun h => IsZip h z TI TO .none ∧ IsPair h TI (.ref i1) (.ref i2) ∧ (∃ a b, IsPair h TO a b) ∧ h.IsTupleIter i1 l1 0 ∧ h.IsTupleIter i2 l2 0 ∧ h.IsTuple l1 xs ∧ h.IsTuple l2 ys) where
  type := fun s ok => ⟨_, ok.1, rfl⟩
  notDict := by decide
  keep := fun h h' ⟨hz, hTI, ⟨a, b, hTO⟩, h1, h2, q1, q2⟩ k =>
    ⟨k _ _ hz, k _ _ hTI, ⟨a, b, k _ _ hTO⟩, h1.at fun o e => k _ o e, h2.at fun o e => k _ o e, q1.at fun o e => k _ o e, q2.at fun o e => k _ o e⟩
  there := fun h ⟨hz, hTI, ⟨a, c, hTO⟩, ⟨o1, h1, _⟩, ⟨o2, h2, _⟩, ⟨o3, h3, _⟩, ⟨o4, h4, _⟩⟩ b hb => by
    simp only [List.mem_cons, List.not_mem_nil, or_false] at hb
    rcases hb with rfl | rfl | rfl | rfl | rfl | rfl | rfl
    · exact ⟨_, hz⟩
    · exact ⟨_, hTI⟩
    · exact ⟨_, hTO⟩
    · exact ⟨_, h1⟩
    · exact ⟨_, h2⟩
    · exact ⟨_, h3⟩
    · exact ⟨_, h4⟩
  sub := fun b hb => by
    simp only [List.mem_cons, List.not_mem_nil, or_false] at hb ⊢
    rcases hb with rfl | rfl | rfl | rfl <;> simp
  noKeys := fun A s Q E hA ok h => getAttrOr_miss_zip ok.1 rfl rfl rfl zip_no_keys (by decide +kernel) hA h
  iter := fun A s d Q E hA ok hd hdf h => by
    obtain ⟨hz, hTI, ⟨a, b, hTO⟩, h1, h2, q1, q2⟩ := ok
    simp only [List.mem_cons, List.not_mem_nil, or_false, not_or] at hdf
    obtain ⟨dz, dTI, dTO, di1, di2, dl1, dl2⟩ := hdf
    -- the state: how far both are; the pair is free, or held
    refine wpAny_pyIter_zip hz (h z [z, TO, i1, i2] (fun i g => IsPair g TI (.ref i1) (.ref i2) ∧ g.IsTupleIter i1 l1 i ∧ g.IsTupleIter i2 l2 i ∧ g.IsTuple l1 xs ∧ g.IsTuple l2 ys ∧
      ((IsZip g z TI TO .none ∧ ∃ a b, IsPair g TO a b) ∨ ∃ T f oT, IsZipHeld g z TI TO T f ∧ g.get? T = some oT ∧ T ≠ z ∧ T ≠ i1 ∧ T ≠ i2 ∧ T ≠ d)) s.heap s.toks ?_
      ⟨hTI, h1, h2, q1, q2, .inl ⟨hz, a, b, hTO⟩⟩ (fun _ _ e => e) fun b hb => .inl hb)
    refine ⟨fun hm => ?_, fun i g g' st k => ?_, fun i t Q1 E1 hi st hdt hQ => ?_, fun t Q1 E1 st hQ => ?_⟩
    · simp only [List.mem_cons, List.not_mem_nil, or_false] at hm
      rcases hm with e | e | e | e
      · exact dz e
      · exact dTO e
      · exact di1 e
      · exact di2 e
    · obtain ⟨hTI, h1, h2, q1, q2, hz⟩ := st
      refine ⟨k _ _ (Ne.symm dTI) hTI, h1.at fun o e => k _ o (Ne.symm di1) e, h2.at fun o e => k _ o (Ne.symm di2) e, q1.at fun o e => k _ o (Ne.symm dl1) e, q2.at fun o e => k _ o (Ne.symm dl2) e, ?_⟩
      rcases hz with ⟨hz, a, b, hTO⟩ | ⟨T, f, oT, hz, hT, r1, r2, r3, r4⟩
      · exact .inl ⟨k _ _ (Ne.symm dz) hz, a, b, k _ _ (Ne.symm dTO) hTO⟩
      · exact .inr ⟨T, f, oT, k _ _ (Ne.symm dz) hz, k _ _ r4 hT, r1, r2, r3, r4⟩
    · obtain ⟨hTI, h1, h2, q1, q2, hz⟩ := st
      have ex : xs[i]? = some (xs[i]'(by omega)) := Array.getElem?_eq_getElem _
      have ey : ys[i]? = some (ys[i]'(by omega)) := Array.getElem?_eq_getElem _
      have new : ∀ {c o}, t.heap.get? c = some o → t.heap.objs.size ≠ c := fun e => Nat.ne_of_gt (Heap.lt_size e)
      have n1 : t.heap.objs.size ≠ i1 := by
        obtain ⟨_, e, _⟩ := id h1
        exact new e
      have n2 : t.heap.objs.size ≠ i2 := by
        obtain ⟨_, e, _⟩ := id h2
        exact new e
      rcases hz with ⟨hz, a, b, hTO⟩ | ⟨T, f, oT, hz, hT, r1, r2, r3, r4⟩
      · refine RZ.pyNext_zipT_item D hz hTI hTO h1 h2 q1 q2 ex ey fun g a1 a2 a3 a4 a5 a6 k => ?_
        refine hQ t.heap.objs.size _ _ g t.toks ⟨ex, ey⟩ (.inl ⟨_, a5, rfl, _, rfl⟩) ⟨k _ _ D.TIz D.TITO D.TIi1 D.TIi2 hTI, a3, a4, q1.at fun o e => k _ o D.l1z D.l1TO D.l1i1 D.l1i2 e, q2.at fun o e => k _ o D.l2z D.l2TO D.l2i1 D.l2i2 e,
          .inr ⟨_, false, _, a1, a5, new hz, n1, n2, Nat.ne_of_gt hdt⟩⟩ fun c o hc e => ?_
        simp only [List.mem_cons, List.not_mem_nil, or_false, not_or] at hc
        exact k c o hc.1 hc.2.1 hc.2.2.1 hc.2.2.2 e
      · refine heldItem D hz hT hTI h1 h2 q1 q2 ex ey fun g a1 a3 a4 a5 k => ?_
        refine hQ t.heap.objs.size _ _ g t.toks ⟨ex, ey⟩ (.inl ⟨_, a5, rfl, _, rfl⟩) ⟨k _ _ D.TIz D.TIi1 D.TIi2 hTI, a3, a4, q1.at fun o e => k _ o D.l1z D.l1i1 D.l1i2 e, q2.at fun o e => k _ o D.l2z D.l2i1 D.l2i2 e,
          .inr ⟨T, true, oT, a1, k _ _ r1 r2 r3 hT, r1, r2, r3, r4⟩⟩ fun c o hc e => ?_
        simp only [List.mem_cons, List.not_mem_nil, or_false, not_or] at hc
        exact k c o hc.1 hc.2.2.1 hc.2.2.2 e
    · obtain ⟨hTI, h1, h2, q1, q2, hz⟩ := st
      have ex : xs[n]? = none := Array.getElem?_eq_none (by omega)
      rcases hz with ⟨hz, a, b, hTO⟩ | ⟨T, f, oT, hz, hT, r1, r2, r3, r4⟩
      · refine RZ.pyNext_zipT_end hA D hz hTI hTO h1 h2 q1 q2 (.inl ex) fun g k => hQ g t.toks fun c o hc e => ?_
        simp only [List.mem_cons, List.not_mem_nil, or_false, not_or] at hc
        exact k c o hc.1 hc.2.1 hc.2.2.1 hc.2.2.2 e
      · refine heldEnd hA D hz hT hTI h1 q1 ex fun g k => hQ g t.toks fun c o hc e => ?_
        simp only [List.mem_cons, List.not_mem_nil, or_false, not_or] at hc
        exact k c o hc.1 hc.2.2.1 e
end

/-! ### the rule: dict(zip(t, u)), t a tuple of texts -/
def zipKV (ks : List Str) (vs : List V) : List (Key × V) := (ks.map Sum.inr).zip vs
theorem zip_rel : ∀ {ks : List Str} {vs : List V} {us : List Value}, Vals vs us → KV (zipKV ks vs) ((ks.map (Sum.inr : Str → Key)).zip us)
  | [], _, _, _ => .nil
  | _ :: _, _, _, .nil => .nil
  | k :: ks, _, _, .cons r t => .cons ⟨rfl, r⟩ (zip_rel t)
def tDictZip (K : PySem.W.Frag) (ta : TA) : TE := fun σ H Q => ta σ H fun xs H1 => ∃ (a b : Addr) (ks : List Str) (vs : List V), xs = [.ref a, .ref b] ∧ SqT K H1 a (ks.map V.str) ∧ SqT K H1 b vs ∧ ks.length = vs.length ∧
  ∀ p, H1 p = none → Q (.ref p) (upd H1 p (.dK (mergeK [] (zipKV ks vs))))
theorem vals_str {ks : List Str} {us : List Value} {i : Nat} {u : Value} (h : Vals (ks.map V.str) us) (e : us[i]? = some u) : ∃ x t, ks[i]? = some x ∧ u = Value.str x t := by
  have lt : i < ks.length := by
    have q := (List.getElem?_eq_some_iff.mp e).1
    rw [← h.length, List.length_map] at q
    exact q
  have ek : (ks.map V.str)[i]? = some (V.str ks[i]) := by
    rw [List.getElem?_map, List.getElem?_eq_getElem lt]
    rfl
  obtain ⟨w, ew, t, rw_⟩ := h.get ek
  exact ⟨ks[i], t, List.getElem?_eq_getElem lt, Option.some.inj (e.symm.trans (ew.trans (by rw [rw_])))⟩
theorem pe_dictZip {X : Cx} {e1 e2 : Expr} {ta : TA} {p p2 q pos : Pos} (hc : X.calm = true) (hg : Gl X "dict") (hm : X.mg "dict" = none) (hg2 : Gl X "zip") (hm2 : X.mg "zip" = none) (ha : PA X [e1, e2] ta)
    (hs : starEach [e1, e2] X.env = (false, eval e1 X.env) :: starEach [e2] X.env := by rfl) (hpl : (backTo q (starEach [e2] X.env)).any (·.1) = false := by rfl)
    (ho : starEach [.Call (.Name "zip" p2) [e1, e2] [] q] X.env = (false, eval (.Call (.Name "zip" p2) [e1, e2] [] q) X.env) :: starEach [] X.env := by rfl) :
    PE X (.Call (.Name "dict" p) [.Call (.Name "zip" p2) [e1, e2] [] q] [] pos) (tDictZip X.K ta) := by
  refine ⟨fun pins s σ H Q I h => ?_⟩
  refine Call_ (ld_blt I hg hm PyProof.Rows.boot_dict (PyProof.Rows.callWith_type1 (PyProof.Rows.args_cons (Call_ (ld_blt I hg2 hm2 PyProof.Rows.boot_zip (PyProof.Rows.callWith_type1 (thn (ha.run q pins s σ H _ I h) fun us s1 end1 => ?_) hs hpl))) ho) ho rfl))
  obtain ⟨xs, H1, I1, r1, a, b, ks, vs, ex, hqa, hqb, hlen, fin⟩ := end1
  subst ex
  obtain ⟨u1, u2, rfl, ra, rb⟩ := vals2 r1
  cases ra
  cases rb
  obtain ⟨its, rv, ta1, hz1⟩ := I1.tuple hqa
  obtain ⟨its2, rv2, ta2, hz2⟩ := I1.tuple hqb
  have lta : a < s1.heap.objs.size := ta1.lt
  have ltb : b < s1.heap.objs.size := ta2.lt
  refine RZ.call_zipT (show s1.heap.IsTuple a its.toArray from ta1) (show s1.heap.IsTuple b its2.toArray from ta2) fun h' hz hTI hTO h1 h2 hsz hk => PyProof.Rows.args_nil ?_
  have el1 : its.toArray.size = ks.length := by
    rw [List.size_toArray, ← rv.length, List.length_map]
  have el2 : its2.toArray.size = ks.length := by
    rw [List.size_toArray, ← rv2.length, hlen]
  have le : ks.length ≤ sizeLine := by
    rw [List.length_map] at hz1
    exact hz1
  refine call_dict_pairs (knd := mixKind X.prog X.w) (kvs := (ks.map (Sum.inr : Str → Key)).zip its2)
    (pairsOfZip (s1.heap.objs.size + 4) (s1.heap.objs.size + 2) (s1.heap.objs.size + 3) s1.heap.objs.size (s1.heap.objs.size + 1) a b (PySem.W.ktu_apart _ _ _ lta ltb) its.toArray its2.toArray ks.length el1 el2)
    (I1.ok.hd hc) ⟨hz, hTI, ⟨_, _, hTO⟩, h1, h2, (show s1.heap.IsTuple a its.toArray from ta1).at fun o e => hk _ o e, (show s1.heap.IsTuple b its2.toArray from ta2).at fun o e => hk _ o e⟩ ⟨?_, fun i k v hr => ?_⟩ le fun h2' tk hd' k => ?_
  · rw [List.length_zip, List.length_map, ← rv2.length, hlen, Nat.min_self]
  · obtain ⟨e1, e2⟩ := hr
    rw [List.getElem?_toArray] at e1 e2
    obtain ⟨x, t, ek, rfl⟩ := vals_str rv e1
    refine ⟨Sum.inr x, ?_, mixKind_str _ _ x t⟩
    rw [List.getElem?_zip_eq_some]
    refine ⟨?_, e2⟩
    show (ks.map Sum.inr)[i]? = some (Sum.inr x)
    rw [List.getElem?_map, ek]
    rfl
  · have big : (h'.objs.size == sysModules) = false := by
      refine beq_eq_false_iff_ne.mpr (Nat.ne_of_gt (Nat.lt_of_lt_of_le I1.big ?_))
      show s1.heap.objs.size ≤ h'.objs.size
      rw [hsz]
      exact Nat.le_add_right _ _
    have rel : KV (mergeK [] (zipKV ks vs)) (merged [] ((ks.map (Sum.inr : Str → Key)).zip its2)) := KV.merge (zip_rel rv2) .nil
    have size : (mergeK [] (zipKV ks vs)).length ≤ sizeLine := by
      refine Nat.le_trans (length_mergeK _ _) ?_
      unfold zipKV
      rw [List.length_nil, Nat.zero_add, List.length_zip, List.length_map, hlen, Nat.min_self]
      rw [← hlen]
      exact le
    have free : s1.heap.objs.size ≤ h'.objs.size := by
      rw [hsz]
      exact Nat.le_add_right _ _
    have kept : ∀ c o, s1.heap.get? c = some o → h2'.get? c = some o := fun c o e => k c o (fun z => by
      have lt := Heap.lt_size e
      simp only [List.mem_cons, List.not_mem_nil, or_false] at z
      rcases z with z | z | z | z
      · exact absurd (Nat.lt_of_lt_of_le (z ▸ lt) (Nat.le_add_right _ 4)) (Nat.lt_irrefl _)
      · exact absurd (Nat.lt_of_lt_of_le (z ▸ lt) (Nat.le_add_right _ 3)) (Nat.lt_irrefl _)
      · exact absurd (z ▸ lt) (Nat.lt_irrefl _)
      · exact absurd (Nat.lt_of_lt_of_le (z ▸ lt) (Nat.le_add_right _ 1)) (Nat.lt_irrefl _)) (hk c o e)
    exact ⟨.ref h'.objs.size, _, I1.laid (t' := tk) (o := .dK (mergeK [] (zipKV ks vs))) kept free ⟨size, big, _, rel, hd'⟩, rfl, fin _ (I1.hok.fresh free)⟩

/-! ### the rule: dict(ps), ps a list of pairs whose keys are tuples, no key twice -/
theorem storedAll_new {κ : Type} [DecidableEq κ] : ∀ (ps acc : List (κ × Addr × Value)), ((acc ++ ps).map (·.1)).Nodup → storedAllH acc ps = acc ++ ps
  | [], acc, _ => (List.append_nil acc).symm
  | p :: ps, acc, nd => by
    have e1 : storedH acc p.1 p.2.1 p.2.2 = acc ++ [p] := by
      unfold storedH
      have none_ : atKey acc p.1 = none := by
        unfold atKey
        rw [Option.map_eq_none_iff, List.find?_eq_none]
        intro x hx
        rw [decide_eq_true_eq]
        intro z
        rw [List.map_append, List.nodup_append] at nd
        exact nd.2.2 x.1 (List.mem_map_of_mem hx) p.1 (by rw [List.map_cons]; exact List.mem_cons_self) z
      rw [none_]
      exact if_neg (by decide)
    show storedAllH (storedH acc p.1 p.2.1 p.2.2) ps = acc ++ p :: ps
    rw [e1, storedAll_new ps (acc ++ [p]) (by rw [List.append_assoc]; exact nd), List.append_assoc]
    rfl
def rDictT (K : PySem.W.Frag) : List V → Hp → VK → Prop := fun xs H Q => ∃ (a : Addr) (ps : List Addr) (kvs : List (List Key × V)), xs = [.ref a] ∧ SqL K H a (ps.map V.ref) ∧
  Paired (fun p kv => ∃ q, H p = some (.tup [.ref q, kv.2]) ∧ H q = some (.tup (kv.1.map kV))) ps kvs ∧ (kvs.map (·.1)).Nodup ∧ ∀ p, H p = none → Q (.ref p) (upd H p (.dT kvs))
theorem pairsT {X : Cx} {pins : List (Addr × Obj)} {σ : L2.St} {H : Hp} {s : Shared} (I : Inv X pins σ H s) {ps : List Addr} {kvs : List (List Key × V)} (h : Paired (fun p kv => ∃ q, H p = some (.tup [.ref q, kv.2]) ∧ H q = some (.tup (kv.1.map kV))) ps kvs) :
    ∃ xs : List (List Key × Addr × Value), KT H kvs xs ∧ xs.length = ps.length ∧ ∀ (j : Nat) (x : List Key × Addr × Value), xs[j]? = some x → ∃ p, ps[j]? = some p ∧ s.heap.IsTuple p #[.ref x.2.1, x.2.2] ∧ H x.2.1 = some (.tup (x.1.map kV)) := by
  induction h with
  | nil => exact ⟨[], .nil, rfl, fun j x e => by cases e⟩
  | @cons p kv _ _ h t ih =>
    obtain ⟨q, hp, hq⟩ := h
    obtain ⟨xs, r, l, f⟩ := ih
    obtain ⟨_, its, rv, tp⟩ := I.hok p _ hp
    obtain ⟨u1, u2, rfl, r1, r2⟩ := vals2 rv
    cases r1
    refine ⟨(kv.1, q, u2) :: xs, .cons ⟨rfl, hq, r2⟩ r, by rw [List.length_cons, l, List.length_cons], fun j x e => ?_⟩
    cases j with
    | zero =>
      cases Option.some.inj e
      exact ⟨p, rfl, tp, hq⟩
    | succ j => exact f j x e
theorem call_dictT {X : Cx} {k : Nat} (hcalm : X.calm = true) (hr : Room k X.A) : CallR X (.type "dict") (rDictT X.K) := by
  intro pins s σ H xs us Q I r h
  obtain ⟨a, ps, kvs, rfl, hq, hp, nd, fin⟩ := h
  obtain ⟨u, rfl, ra⟩ := vals1 r
  cases ra
  obtain ⟨its, rv, pl, hz⟩ := I.list hq
  obtain ⟨zs, rel, lz, at_⟩ := pairsT I hp
  have keys : kvs.map (·.1) = zs.map (·.1) := by
    clear at_ lz nd hp fin
    induction rel with
    | nil => rfl
    | cons h t ih => rw [List.map_cons, List.map_cons, ih, h.1]
  have items : ∀ {l : List Addr} {vs : List Value}, Vals (l.map V.ref) vs → vs = l.map Value.ref := by
    intro l
    induction l with
    | nil =>
      intro vs q
      cases q
      rfl
    | cons x l ih =>
      intro vs q
      cases q with
      | cons r t =>
        cases r
        rw [ih t]
        rfl
  have ei := items rv
  subst ei
  have nd2 : ((([] : List (List Key × Addr × Value)) ++ zs).map (·.1)).Nodup := by
    rw [List.nil_append, ← keys]
    exact nd
  rw [List.length_map] at hz
  have lk : kvs.length = ps.length := rel.length.trans lz
  have room : (tupleKind (mixKind X.prog X.w)).room X.A.in1.in1 := by
    show X.A.units + 1 + 1 < cLine
    have := hr.units
    omega
  obtain ⟨o, n, ho, hc, hd, hdat⟩ := pl
  refine call_dict_pairsH (knd := tupleKind (mixKind X.prog X.w)) (ps := zs) (PairArg.list a (ps.map Value.ref).toArray (fun j => ps.getD j 0) (zs.map fun x => (Value.ref x.2.1, x.2.2))) (I.ok.hd hcalm) room
    ⟨⟨o, n, ho, hc, hd, hdat⟩, by rw [List.size_toArray, List.length_map, List.length_map, lz], fun j a b e => ?_⟩ ⟨by rw [List.length_map], fun i a b e => ?_⟩ (fun h' k x hx => ?_) (by rw [List.length_map, lz]; exact hz) fun h' tk hd' kk => ?_
  · rw [List.getElem?_map] at e
    obtain ⟨x, ex, e2⟩ := Option.map_eq_some_iff.mp e
    cases e2
    obtain ⟨p, ep, tp, _⟩ := at_ j x ex
    have ed : ps.getD j 0 = p := by
      rw [List.getD_eq_getElem?_getD, ep]
      rfl
    show (ps.map Value.ref).toArray[j]? = some (.ref (ps.getD j 0)) ∧ PairAt s.heap (ps.getD j 0) (.ref x.2.1) x.2.2
    rw [ed, List.getElem?_toArray, List.getElem?_map, ep]
    exact ⟨rfl, .inl tp⟩
  · have e' : (zs.map fun x => (Value.ref x.2.1, x.2.2))[i]? = some (a, b) := e
    rw [List.getElem?_map] at e'
    obtain ⟨x, ex, e2⟩ := Option.map_eq_some_iff.mp e'
    cases e2
    exact ⟨x.1, x.2.1, ex, rfl⟩
  · obtain ⟨j, ej⟩ := List.mem_iff_getElem?.mp hx
    obtain ⟨p, _, _, hb⟩ := at_ j x ej
    exact tupleKind_stays.stays (fun b o vs n e _ => k b o (Nat.ne_of_lt (Heap.lt_size e)) (fun z => nomatch z) e) (key_of I.hok hb)
  · rw [storedAll_new zs [] nd2, List.nil_append] at hd'
    have free : s.heap.objs.size ≤ s.heap.objs.size := Nat.le_refl _
    have hn := I.hok.fresh free
    obtain ⟨od, es, ep, g1, g2, g3, g4, _, g6⟩ := hd'
    refine ⟨.ref s.heap.objs.size, _, I.laid (t' := tk) (o := .dT kvs) (fun b o e => kk b o (fun z => nomatch z) e) free ⟨by rw [lk]; exact hz, beq_eq_false_iff_ne.mpr (Nat.ne_of_gt I.big), zs, rel.keeps fun b ys e => ?_, od, es, ep, g1, g2, g3, g4, g6⟩, rfl, fin _ hn⟩
    rw [upd_ne (ne_of_none e hn)]
    exact e
end K67
/-! The text by places, the data, what stays. -/
namespace K67
open PySem PySem.Spec PyProof.Rows L2

/-! ### the text by places -/
def top (i : Nat) : Stmt := PySem.Challenge.pw_twinstride_k67_whole_lone_things.main.body.getD i (.Pass ⟨0, 0, 0, 0⟩)
abbrev sThings : Stmt := top 4
abbrev sNumbers : Stmt := top 5
abbrev sUnlike : Stmt := top 6
abbrev sRInit : Stmt := inClass (top 8) 0
abbrev sStep : Stmt := inClass (top 8) 1
abbrev sOutcome : Stmt := inClass (top 8) 2
abbrev sAlong : Stmt := inClass (top 8) 6
abbrev sRun : Stmt := top 9
abbrev sMark : Stmt := top 10
abbrev sMarks : Stmt := top 12
abbrev sStand : Stmt := top 13
abbrev sVerdictBy : Stmt := top 14
abbrev sVerdict : Stmt := top 15
abbrev sUnlikeThings : Stmt := top 16
abbrev sAInit : Stmt := inClass (top 18) 0
abbrev sIsCause : Stmt := inClass (top 18) 1
abbrev sSmaller : Stmt := inClass (top 18) 2
abbrev sNarrowed : Stmt := top 19
abbrev sLessened : Stmt := top 20
abbrev sIsMix : Stmt := top 21
abbrev sIsAsking : Stmt := top 22
abbrev sIsNarrowed : Stmt := top 23
abbrev sIsBare : Stmt := top 24
abbrev sTape : Stmt := top 26
abbrev sDraw : Stmt := top 27
abbrev sLone : Stmt := top 28
abbrev sHalv : Stmt := top 29
abbrev sLaw : Stmt := top 30

/-! ### what stays of a heap -/
/-- all tuples stay, and all that is known to the object -/
structure TK (K : PySem.W.Frag) (H H' : Hp) : Prop where
  t : ∀ a xs, SqT K H a xs → SqT K H' a xs
  z : ∀ a o u, H a = some (.frz o u) → H' a = some (.frz o u)
theorem TK.refl (K : PySem.W.Frag) (H : Hp) : TK K H H := ⟨fun _ _ h => h, fun _ _ _ h => h⟩
theorem TK.trans {K : PySem.W.Frag} {H H1 H2 : Hp} (a : TK K H H1) (b : TK K H1 H2) : TK K H H2 := ⟨fun c o h => b.t c o (a.t c o h), fun c o u h => b.z c o u (a.z c o u h)⟩
theorem same_tk {K : PySem.W.Frag} {H H' : Hp} (e : Same H H') : TK K H H' := ⟨fun a xs h => by
  rcases h with (h | ⟨o, h⟩) | h
  · exact .inl (.inl (e _ _ h))
  · exact .inl (.inr ⟨o, e _ _ h⟩)
  · exact .inr h, fun a o u h => e _ _ h⟩
theorem same_new {H : Hp} {p : Addr} {o : HO} (h : H p = none) : Same H (upd H p o) := fun b x e => by
  rw [upd_ne (ne_of_none e h)]
  exact e
theorem tk_new {K : PySem.W.Frag} {H : Hp} {p : Addr} {o : HO} (h : H p = none) : TK K H (upd H p o) := same_tk (same_new h)
/-- a write at what is no tuple and is not known -/
def Wr : HO → Bool
  | .tup _ => false
  | .frz _ _ => false
  | _ => true
theorem wr_ne {H : Hp} {p a : Addr} {u x : HO} (h : H p = some u) (w : Wr u = true) (e : H a = some x) (f : Wr x = false) : a ≠ p := fun z => by
  subst z
  rw [h] at e
  cases e
  rw [w] at f
  cases f
theorem tk_wr {K : PySem.W.Frag} {H : Hp} {p : Addr} {o u : HO} (h : H p = some u) (w : Wr u = true) : TK K H (upd H p o) := ⟨fun a xs q => by
  rcases q with (q | ⟨ob, q⟩) | q
  · exact .inl (.inl (by rw [upd_ne (wr_ne h w q rfl)]; exact q))
  · exact .inl (.inr ⟨ob, by rw [upd_ne (wr_ne h w q rfl)]; exact q⟩)
  · exact .inr q, fun a ob x q => by rw [upd_ne (wr_ne h w q rfl)]; exact q⟩
/-- an object at p stays where p is not written -/
theorem upd_at {H : Hp} {p q : Addr} {o u : HO} (h : H q = some u) (ne : q ≠ p) : upd H p o q = some u := by
  rw [upd_ne ne]
  exact h
theorem upd_new {H : Hp} {p q : Addr} {o u : HO} (h : H q = some u) (n : H p = none) : upd H p o q = some u := upd_at h (ne_of_none h n)
theorem free_ne {H : Hp} {p q : Addr} {o : HO} (h : upd H p o q = none) : q ≠ p := fun z => by
  rw [z, upd_same] at h
  cases h
theorem free_of {H : Hp} {p q : Addr} {o : HO} (h : upd H p o q = none) : H q = none := by
  rw [upd_ne (free_ne h)] at h
  exact h
/-- all but the objects of M stay -/
def Keep (M : List Addr) (H H' : Hp) : Prop := ∀ b o, b ∉ M → H b = some o → H' b = some o
theorem Keep.same {H H' : Hp} (k : Keep [] H H') : Same H H' := fun b o e => k b o (fun z => nomatch z) e
theorem Same.keep {H H' : Hp} (M : List Addr) (e : Same H H') : Keep M H H' := fun b o _ h => e b o h
theorem Keep.refl (M : List Addr) (H : Hp) : Keep M H H := fun _ _ _ h => h
theorem Keep.trans {M : List Addr} {H H1 H2 : Hp} (a : Keep M H H1) (b : Keep M H1 H2) : Keep M H H2 := fun c o n h => b c o n (a c o n h)
theorem keep_wr {M : List Addr} {H : Hp} {p : Addr} {o : HO} (h : p ∈ M) : Keep M H (upd H p o) := fun b x n e => upd_at e (fun z => n (z ▸ h))
theorem keep_new {M : List Addr} {H : Hp} {p : Addr} {o : HO} (h : H p = none) : Keep M H (upd H p o) := fun b x _ e => upd_new e h
/-- what is kept but for new things is the same -/
theorem Keep.fresh {M : List Addr} {H0 H H' : Hp} (s : Same H0 H) (k : Keep M H H') (f : ∀ b ∈ M, H0 b = none) : Same H0 H' := fun b o e => k b o (fun z => by
  rw [f b z] at e
  cases e) (s b o e)
/-- all tuples stay where M has none -/
theorem Keep.tk {K : PySem.W.Frag} {M : List Addr} {H H' : Hp} (k : Keep M H H') (w : ∀ b ∈ M, ∃ u, H b = some u ∧ Wr u = true) : TK K H H' := by
  have ne : ∀ {a u}, H a = some u → Wr u = false → a ∉ M := fun {a u} e f z => by
    obtain ⟨u', e', f'⟩ := w a z
    rw [e] at e'
    cases e'
    rw [f] at f'
    cases f'
  refine ⟨fun a xs q => ?_, fun a o u q => k _ _ (ne q rfl) q⟩
  rcases q with (q | ⟨o, q⟩) | q
  · exact .inl (.inl (k _ _ (ne q rfl) q))
  · exact .inl (.inr ⟨o, k _ _ (ne q rfl) q⟩)
  · exact .inr q
theorem sqT_new {K : PySem.W.Frag} {H : Hp} {p : Addr} {xs : List V} : SqT K (upd H p (.tup xs)) p xs := SqT.of upd_same

/-- behind the last argument -/
theorem nil_ {σ : L2.St} {H : Hp} {Q : List V → Hp → Prop} (h : Q [] H) : tNil σ H Q := h

/-! ### the data -/
abbrev iv (ns : List Int) : List V := ns.map V.int
/-- a plan of the law: its wheel, how many pieces, the drawn piece, how many rows ahead of the last -/
structure PD where
  W : Int
  n : Nat
  g : Nat
  m : Nat
structure PD.Ok (d : PD) : Prop where
  w2 : 2 ≤ d.W
  w9 : d.W ≤ 997
  n1 : 1 ≤ d.n
  n4 : d.n ≤ 40
  gn : d.g < d.n
  mm : d.m ≤ 16
def IsOp (o : Str) : Prop := o = "sum" ∨ o = "by" ∨ o = "less" ∨ o = "same"
def RowAt (K : PySem.W.Frag) (H : Hp) (d : PD) (v : V) : Prop :=
  ∃ a, v = .ref a ∧ ((∃ j : Nat, j < d.n ∧ SqT K H a [.str "take", .str "b", .int j]) ∨ ∃ o, IsOp o ∧ SqT K H a [.str o, .str "c", .str "b", .str "c"])
def LastAt (K : PySem.W.Frag) (H : Hp) (d : PD) (v : V) : Prop := ∃ a, v = .ref a ∧ SqT K H a [.str "take", .str "a", .int (d.g : Nat)]
def RowsAt (K : PySem.W.Frag) (H : Hp) (d : PD) (a : Addr) : Prop :=
  ∃ rvs, SqT K H a rvs ∧ rvs.length = d.m + 1 ∧ (∀ (i : Nat) (v : V), i < d.m → rvs[i]? = some v → RowAt K H d v) ∧ ∀ v, rvs[d.m]? = some v → LastAt K H d v
/-- the names' tuple, an object that has no dict of its own -/
def NamesAt (H : Hp) (nm : Addr) : Prop := ∃ o : Obj, H nm = some (.frz o (.tup [.str "a", .str "b", .str "c"])) ∧ o.dict = none
theorem NamesAt.sq {K : PySem.W.Frag} {H : Hp} {nm : Addr} (h : NamesAt H nm) : SqT K H nm [.str "a", .str "b", .str "c"] := by
  obtain ⟨o, e, _⟩ := h
  exact .inl (.inr ⟨o, e⟩)
theorem NamesAt.tk {K : PySem.W.Frag} {H H' : Hp} {nm : Addr} (t : TK K H H') (h : NamesAt H nm) : NamesAt H' nm := by
  obtain ⟨o, e, d⟩ := h
  exact ⟨o, t.z _ _ _ e, d⟩
def PlanAt (K : PySem.W.Frag) (H : Hp) (p : Addr) (d : PD) : Prop :=
  ∃ nm rw, SqT K H p [.int d.W, .ref nm, .int (d.n : Nat), .ref rw, .str "a"] ∧ NamesAt H nm ∧ RowsAt K H d rw ∧ d.Ok
def StandAt (K : PySem.W.Frag) (H : Hp) (s : Addr) (ps : List Int) : Prop :=
  ∃ na pa, SqT K H s [.ref na, .ref pa] ∧ SqT K H na [.int 0, .int 0, .int 0] ∧ SqT K H pa (iv ps)
/-- numbers of the pieces, within the wheel -/
structure NumsOk (d : PD) (ps : List Int) : Prop where
  len : ps.length = d.n
  lo : ∀ z ∈ ps, 0 ≤ z ∧ z < d.W
structure Two (d : PD) (so fa : List Int) : Prop where
  s : NumsOk d so
  f : NumsOk d fa
  ne : ∀ (i : Nat) (x y : Int), so[i]? = some x → fa[i]? = some y → x ≠ y
def CaseAt (K : PySem.W.Frag) (H : Hp) (c : Addr) (d : PD) (so fa : List Int) : Prop :=
  ∃ p s f, SqT K H c [.ref p, .ref s, .ref f, .int 40] ∧ PlanAt K H p d ∧ StandAt K H s so ∧ StandAt K H f fa ∧ Two d so fa
section
variable {K : PySem.W.Frag} {H H' : Hp} {d : PD}
theorem RowAt.tk {v : V} (t : TK K H H') (h : RowAt K H d v) : RowAt K H' d v := by
  obtain ⟨a, e, h⟩ := h
  refine ⟨a, e, ?_⟩
  rcases h with ⟨j, hj, h⟩ | ⟨o, ho, h⟩
  · exact .inl ⟨j, hj, t.t _ _ h⟩
  · exact .inr ⟨o, ho, t.t _ _ h⟩
theorem LastAt.tk {v : V} (t : TK K H H') (h : LastAt K H d v) : LastAt K H' d v := by
  obtain ⟨a, e, h⟩ := h
  exact ⟨a, e, t.t _ _ h⟩
theorem RowsAt.tk {a : Addr} (t : TK K H H') (h : RowsAt K H d a) : RowsAt K H' d a := by
  obtain ⟨rvs, h1, h2, h3, h4⟩ := h
  exact ⟨rvs, t.t _ _ h1, h2, fun i v hi e => (h3 i v hi e).tk t, fun v e => (h4 v e).tk t⟩
theorem PlanAt.tk {p : Addr} (t : TK K H H') (h : PlanAt K H p d) : PlanAt K H' p d := by
  obtain ⟨nm, rw_, h1, h2, h3, h4⟩ := h
  exact ⟨nm, rw_, t.t _ _ h1, h2.tk t, h3.tk t, h4⟩
theorem StandAt.tk {s : Addr} {ps : List Int} (t : TK K H H') (h : StandAt K H s ps) : StandAt K H' s ps := by
  obtain ⟨na, pa, h1, h2, h3⟩ := h
  exact ⟨na, pa, t.t _ _ h1, t.t _ _ h2, t.t _ _ h3⟩
theorem CaseAt.tk {c : Addr} {so fa : List Int} (t : TK K H H') (h : CaseAt K H c d so fa) : CaseAt K H' c d so fa := by
  obtain ⟨p, s, f, h1, h2, h3, h4, h5⟩ := h
  exact ⟨p, s, f, t.t _ _ h1, h2.tk t, h3.tk t, h4.tk t, h5⟩
end
theorem size1000 {n : Nat} (h : n ≤ 1000) : n ≤ sizeLine := Nat.le_of_lt (small1000 h)
/-- the two items of a list of whole numbers -/
theorem iv_get {ns : List Int} {i : Nat} {v : V} (h : (iv ns)[i]? = some v) : ∃ z, ns[i]? = some z ∧ v = .int z := by
  rw [List.getElem?_map] at h
  obtain ⟨z, e1, e2⟩ := Option.map_eq_some_iff.mp h
  exact ⟨z, e1, e2.symm⟩
theorem iv_snoc (ns : List Int) (z : Int) : iv (ns ++ [z]) = iv ns ++ [.int z] := by
  unfold iv
  rw [List.map_append]
  rfl
theorem iv_len (ns : List Int) : (iv ns).length = ns.length := List.length_map ..
theorem iv_at {ns : List Int} {i : Nat} {z : Int} (h : ns[i]? = some z) : (iv ns)[i]? = some (.int z) := by
  rw [List.getElem?_map, h]
  rfl
end K67
/-! Two rules more: a tuple laid down as an object that is known; its index. -/
namespace K67
open PySem PySem.Spec PyProof.Rows L2
section
variable {X : Cx}
def tTupF (t : TA) : TE := fun σ H Q => t σ H fun xs H1 => xs.length ≤ sizeLine ∧ ∀ (p : Addr) (o : Obj), H1 p = none → o.dict = none → Q (.ref p) (upd H1 p (.frz o (.tup xs)))
theorem pe_tupF {es : List Expr} {t : TA} {x1 : Nat} {pos : Pos} (h : PA X es t) : PE X (.Tuple es x1 pos) (tTupF t) := by
  refine ⟨fun pins s σ H Q I hw => wpAny_Tuple_spliced (thn (h.run _ pins s σ H _ I hw) fun us s1 end1 => ?_)⟩
  obtain ⟨xs, H1, I1, r1, hz, q⟩ := end1
  refine ⟨by rw [← r1.length]; exact hz, ?_⟩
  have cell : (s1.heap.push { cls := .type "tuple", data := .seq us.toArray }).get? s1.heap.objs.size = some { cls := .type "tuple", data := .seq us.toArray } := Heap.get?_push_size _ rfl
  exact ⟨.ref s1.heap.objs.size, _, I1.laid (t' := s1.toks) (o := .frz { cls := .type "tuple", data := .seq us.toArray } (.tup xs)) (fun b u e => Heap.get?_push_of_some _ e) (Nat.le_refl _) ⟨cell, hz, us, r1, _, cell, rfl, _, rfl⟩, rfl,
    q _ _ (I1.hok.fresh (Nat.le_refl _)) rfl⟩
/-- t.index(x) of such a tuple of texts: the first place -/
def tIdxF (K : PySem.W.Frag) (to te : TE) : TE := fun σ H Q => to σ H fun x H1 => ∃ (p : Addr) (o : Obj) (ys : List Str), x = .ref p ∧ H1 p = some (.frz o (.tup (ys.map V.str))) ∧ o.dict = none ∧
  te σ H1 fun y H2 => ∃ z j, y = .str z ∧ SqT K H2 p (ys.map V.str) ∧ ys[j]? = some z ∧ (∀ m, m < j → ys[m]? ≠ some z) ∧ Q (.int (j : Nat)) H2
theorem pe_tidx {o e : Expr} {to te : TE} {apos cpos : Pos} (ho : PE X o to) (he : PE X e te)
    (hbase : attributeBase o "index" X.env (eval o X.env) = eval o X.env := by rfl)
    (hfew : ((backTo cpos (starEach [e] X.env)).all (fun x => !x.1) && (backToKw cpos (keywordEach [] X.env)).all (fun x => x.1.isSome) && decide ([e].length + ([] : List Keyword).length + (if ([] : List Keyword).isEmpty then 0 else 1) < 30)) = true := by rfl)
    (hline : (apos.endLine == cpos.line) = true := by rfl) (hs : starEach [e] X.env = (false, eval e X.env) :: starEach [] X.env := by rfl) : PE X (.Call (.Attribute o "index" apos) [e] [] cpos) (tIdxF X.K to te) := by
  refine ⟨fun pins s σ H Q I h => wpAny_Call_method_late hbase hfew hline rfl (thn (ho.run pins s σ H _ I h) fun v s1 end1 => ?_)⟩
  obtain ⟨x, H1, I1, r1, p, ob, ys, rfl, hp, hd, q1⟩ := end1
  cases r1
  obtain ⟨cell, _, its, rv, ob', cell', hc, n, hdat⟩ := I1.hok p _ hp
  rw [cell] at cell'
  cases cell'
  refine ⟨"tuple", _, PySem.F.plainAttrs_tuple, PySem.F.slot_tuple_index, PySem.F.type_tuple_index, ⟨ob, cell, hc⟩, fun a e => ?_, ?_⟩
  · cases e
    exact ⟨ob, cell, hd⟩
  · rw [hs]
    refine Calls.callWith_builtin rfl (Calls.evalArgs_plain (Calls.spliced_cons (thn (he.run pins s1 σ H1 _ I1 q1) fun u s2 end2 => Calls.spliced_nil ?_)))
    obtain ⟨y, H2, I2, r2, z, j, rfl, hq, hj, hno, q⟩ := end2
    exact mt_tup_index pins s2 σ H2 (.ref p) [.str z] (.ref p) [u] Q I2 rfl (.cons r2 .nil) ⟨p, ys, z, j, rfl, rfl, hq, hj, hno, q⟩
end
end K67
/-! things_of, numbers_of, unlike. -/
namespace K67
open PySem PySem.Spec PyProof.Rows L2
def names3 : List V := [.str "a", .str "b", .str "c"]
def spThings (K : PySem.W.Frag) : Sp := fun vs H Q _ => ∃ p d, vs = [.ref p] ∧ PlanAt K H p d ∧ ∀ H' l, Same H H' → H l = none → H' l = some (.lst (names3 ++ iv (rg 0 d.n))) → Q (.ref l) H'
def spNumbers (K : PySem.W.Frag) : Sp := fun vs H Q _ => ∃ p ps, vs = [.ref p] ∧ StandAt K H p ps ∧ ps.length ≤ 40 ∧ ∀ H' l, Same H H' → H l = none → H' l = some (.lst (iv ([0, 0, 0] ++ ps))) → Q (.ref l) H'
def spUnlike (K : PySem.W.Frag) : Sp := fun vs H Q _ => ∃ p s f d so fa, vs = [.ref p, .ref s, .ref f] ∧ PlanAt K H p d ∧ StandAt K H s so ∧ StandAt K H f fa ∧ Two d so fa ∧
  ∀ H' l, Same H H' → H l = none → H' l = some (.lst (iv (rg 0 d.n))) → Q (.ref l) H'
theorem rgV_rg (n : Nat) : rgV 0 (n : Int) = iv (rg 0 n) := by
  unfold rgV rg
  simp
theorem rgOk_nat {n : Nat} (h : n ≤ 1000) : RgOk 0 (n : Int) := RgOk.of_le (Int.le_refl _) (by omega) (by omega) (by omega)
section
variable {P : Program} {w : World} {K : PySem.W.Frag} {mg : Str → Option Value} {base : Heap}
theorem scThings : FnScope ["plan"] ["plan"] (defScope sThings) := ⟨rfl, rfl, rfl, by decide +kernel, rfl, by decide +kernel, by decide +kernel⟩
theorem ok_things {f : Addr} {fd : FuncData} (F : Fun K "things_of" "things_of" sThings f fd) (mL : mg "list" = none) (mR : mg "range" = none) : FnOk P w K mg base CX0 1 f fd ["plan"] (spThings K) := by
  refine F.ok scThings (fun vs H Q E h => ?_) (fun cdv A outer s H vs Q E hr h => ?_)
  · obtain ⟨p, d, rfl, _⟩ := h
    rfl
  · obtain ⟨p, d, rfl, ⟨nm, rw_, hp, hn, hR, ok⟩, k⟩ := h
    refine ⟨_, pss_one (ps_ret (pe_op op_cat (pe_callTy call_list_of (by rfl) mL PyProof.Rows.boot_list (pa_cons (pe_ix ix_tup (pv 0) pe_int (fun _ _ => rfl)) pa_nil))
      (pe_listRg rfl (by rfl) mL (prg_1 (by rfl) mR (pe_ix ix_tup (pv 0) pe_int (fun _ _ => rfl)))))), ?_⟩
    refine ⟨_, rfl, p, _, 1, _, rfl, rfl, hp, rfl, nm, _, rfl, .inr hn.sq, fun l hl => ?_⟩
    refine ⟨_, rfl, p, _, 2, _, rfl, rfl, (tk_new hl).t _ _ hp, rfl, _, rfl, rgOk_nat (by have := ok.n4; omega), fun q hq => ?_⟩
    refine ⟨l, q, _, _, rfl, rfl, upd_new upd_same hq, upd_same, ?_, fun r hrr => ?_⟩
    · rw [rgV_length]
      refine size1000 ?_
      have := ok.n4
      show 3 + _ ≤ 1000
      omega
    · refine k _ r ((same_new hl).trans ((same_new hq).trans (same_new hrr))) (free_of (free_of hrr)) ?_
      rw [upd_same, rgV_rg]
      rfl
theorem scNumbers : FnScope ["stand"] ["stand"] (defScope sNumbers) := ⟨rfl, rfl, rfl, by decide +kernel, rfl, by decide +kernel, by decide +kernel⟩
theorem ok_numbers {f : Addr} {fd : FuncData} (F : Fun K "numbers_of" "numbers_of" sNumbers f fd) (mL : mg "list" = none) : FnOk P w K mg base CX0 1 f fd ["stand"] (spNumbers K) := by
  refine F.ok scNumbers (fun vs H Q E h => ?_) (fun cdv A outer s H vs Q E hr h => ?_)
  · obtain ⟨p, ps, rfl, _⟩ := h
    rfl
  · obtain ⟨p, ps, rfl, ⟨na, pa, hp, hn, hP⟩, hl, k⟩ := h
    refine ⟨_, pss_one (ps_ret (pe_op op_cat (pe_callTy call_list_of (by rfl) mL PyProof.Rows.boot_list (pa_cons (pe_ix ix_tup (pv 0) pe_int (fun _ _ => rfl)) pa_nil))
      (pe_callTy call_list_of (by rfl) mL PyProof.Rows.boot_list (pa_cons (pe_ix ix_tup (pv 0) pe_int (fun _ _ => rfl)) pa_nil)))), ?_⟩
    refine ⟨_, rfl, p, _, 0, _, rfl, rfl, hp, rfl, na, _, rfl, .inr hn, fun l hl' => ?_⟩
    refine ⟨_, rfl, p, _, 1, _, rfl, rfl, (tk_new hl').t _ _ hp, rfl, pa, _, rfl, .inr ((tk_new hl').t _ _ hP), fun q hq => ?_⟩
    refine ⟨l, q, _, _, rfl, rfl, upd_new upd_same hq, upd_same, ?_, fun r hrr => ?_⟩
    · rw [List.length_map]
      refine size1000 ?_
      show 3 + _ ≤ 1000
      omega
    · refine k _ r ((same_new hl').trans ((same_new hq).trans (same_new hrr))) (free_of (free_of hrr)) ?_
      rw [upd_same]
      rfl
theorem scUnlike : FnScope ["plan", "one", "other", "numbers", "others", "at", "thing"] ["plan", "one", "other"] (defScope sUnlike) := ⟨rfl, rfl, rfl, by decide +kernel, rfl, by decide +kernel, by decide +kernel⟩
theorem ok_unlike {f fT fN : Addr} {fd fdT fdN : FuncData} (F : Fun K "unlike" "unlike" sUnlike f fd) (FT : Fun K "things_of" "things_of" sThings fT fdT) (FN : Fun K "numbers_of" "numbers_of" sNumbers fN fdN)
    (bT : Binds K fdT ["plan"] []) (bN : Binds K fdN ["stand"] []) (gT : mg "things_of" = some (.ref fT)) (gN : mg "numbers_of" = some (.ref fN)) (mL : mg "list" = none) (mR : mg "range" = none) (mE : mg "enumerate" = none) :
    FnOk P w K mg base CX0 2 f fd ["plan", "one", "other"] (spUnlike K) := by
  have GT : FnOk P w K mg base CX0 1 fT fdT ["plan"] (spThings K) := ok_things FT mL mR
  have GN : FnOk P w K mg base CX0 1 fN fdN ["stand"] (spNumbers K) := ok_numbers FN mL
  refine F.ok scUnlike (fun vs H Q E h => ?_) (fun cdv A outer s H vs Q E hr h => ?_)
  · obtain ⟨p, s, f, d, so, fa, rfl, _⟩ := h
    rfl
  · obtain ⟨p, s, f, d, so, fa, rfl, hp, hs, hf, tw, k⟩ := h
    refine ⟨_, pss_cons (ps_set (i := 3) scUnlike.nd rfl (Or.inr rfl) (pe_call GN hr (by rfl) gN FN.kp bN .nil pass0 (pa_cons (pv 1) pa_nil)))
      (pss_cons (ps_set (i := 4) scUnlike.nd rfl (Or.inr rfl) (pe_call GN hr (by rfl) gN FN.kp bN .nil pass0 (pa_cons (pv 2) pa_nil)))
      (pss_one (ps_ret (pe_lc (own := [("at", 5), ("thing", 6)]) (g := gTup K 2 (gCons (gName 5) (gCons (gName 6) gNil))) (tt := tTest (tOp rNe (tOp (rIxL K) (tVar 3) (tVar 5)) (tOp (rIxL K) (tVar 4) (tVar 5)))) (te := tVar 6) (by rfl) scUnlike.nd (pi_enum (by rfl) mE (pa_cons (pe_call GT hr (by rfl) gT FT.kp bT .nil pass0 (pa_cons (pv 0) pa_nil)) pa_nil))
        (blkOk_by (own := [("at", 5), ("thing", 6)]) (N := ["plan", "one", "other", "numbers", "others", "at", "thing"]) (sc := defScope sUnlike) (by decide +kernel))
        (fun _ _ _ _ _ => pg_tup rfl (pgs_cons (pg_name (i := 5) scUnlike.nd rfl (Or.inl rfl)) (pgs_cons (pg_name (i := 6) scUnlike.nd rfl (Or.inl rfl)) pgs_nil)))
        (fun _ _ _ _ _ => pts_one (pt_cmpR op_ne (pe_ix ix_list (pv 3) (pv 5) (fun _ _ => rfl)) (pe_ix ix_list (pv 4) (pv 5) (fun _ _ => rfl)) (nomark _)))
        (fun _ _ _ _ _ => pv 6))))), ?_⟩
    have ls : so.length ≤ 40 := by
      rw [tw.s.len]
      obtain ⟨_, _, _, _, _, ok⟩ := hp
      exact ok.n4
    have lf : fa.length ≤ 40 := by
      rw [tw.f.len]
      obtain ⟨_, _, _, _, _, ok⟩ := hp
      exact ok.n4
    refine ⟨_, rfl, s, so, rfl, hs, ls, fun H1 l1 s1 f1 e1 => ?_⟩
    refine ⟨_, rfl, f, fa, rfl, hf.tk (same_tk s1), lf, fun H2 l2 s2 f2 e2 => ?_⟩
    refine ⟨_, rfl, p, d, rfl, hp.tk (same_tk (s1.trans s2)), fun H3 l3 s3 f3 e3 => ?_⟩
    refine ⟨l3, _, rfl, SqL.of e3, fun D nD => ?_⟩
    have h1 : H3 l1 = some (.lst (iv ([0, 0, 0] ++ so))) := s3 _ _ (s2 _ _ e1)
    have h2 : H3 l2 = some (.lst (iv ([0, 0, 0] ++ fa))) := s3 _ _ e2
    have n1 : l1 ≠ D := ne_of_none h1 nD
    have n2 : l2 ≠ D := ne_of_none h2 nD
    have n3 : l3 ≠ D := ne_of_none e3 nD
    refine lc_it (walk_enum (K := K) (a := l3) (xs := names3 ++ iv (rg 0 d.n))) (fun i H' => Keep [D] H3 H' ∧ H' D = some (.lst (iv (rg 0 (i - 3)))))
      ⟨keep_new nD, upd_same⟩ (fun i H' _ p => SqL.of (p.1 _ _ (by simpa using n3) e3)) (fun i x H4 H5 hi p y => ?_) (fun H4 p => ?_)
    · obtain ⟨kp, eD⟩ := p
      obtain ⟨T, a, b, rfl, nT, rfl, ea, eb⟩ := y
      cases Option.some.inj ea
      have k1 : H4 l1 = some (.lst (iv ([0, 0, 0] ++ so))) := kp _ _ (by simpa using n1) h1
      have k2 : H4 l2 = some (.lst (iv ([0, 0, 0] ++ fa))) := kp _ _ (by simpa using n2) h2
      refine ⟨T, _, rfl, sqT_new, rfl, _, _, rfl, _, _, rfl, rfl, rfl, ?_⟩
      have hi3 : i < 3 + d.n := by
        have e : (names3 ++ iv (rg 0 d.n)).length = 3 + d.n := by
          rw [List.length_append, List.length_map, rg_length]
          rfl
        omega
      obtain ⟨u, eu⟩ : ∃ u, ([0, 0, 0] ++ so)[i]? = some u := ⟨_, List.getElem?_eq_getElem (by rw [List.length_append, tw.s.len]; exact hi3)⟩
      obtain ⟨v, ev⟩ : ∃ v, ([0, 0, 0] ++ fa)[i]? = some v := ⟨_, List.getElem?_eq_getElem (by rw [List.length_append, tw.f.len]; exact hi3)⟩
      have nTD : D ≠ T := ne_of_none eD nT
      refine ⟨_, rfl, _, rfl, l1, _, i, .int u, rfl, rfl, SqL.of (upd_new k1 nT), atI_nat (iv_at eu), _, rfl, _, rfl, l2, _, i, .int v, rfl, rfl, SqL.of (upd_new k2 nT), atI_nat (iv_at ev), rfl, _, rfl, ?_⟩
      have kT : Keep [D] H3 (upd H4 T (.tup [.int (i : Nat), b])) := kp.trans (keep_new nT)
      by_cases h3 : i < 3
      · have e0 : u = v := by
          rw [List.getElem?_append_left (by show i < 3; exact h3)] at eu ev
          exact Option.some.inj (eu.symm.trans ev)
        rw [decide_eq_true (by rw [e0])]
        refine iteF ⟨kT, ?_⟩
        rw [show i + 1 - 3 = i - 3 by omega]
        exact upd_new eD nT
      · have ne : u ≠ v := by
          rw [List.getElem?_append_right (by show 3 ≤ i; omega)] at eu ev
          exact tw.ne (i - 3) u v eu ev
        have eb' : b = .int ((i - 3 : Nat) : Int) := by
          have eb2 : (names3 ++ iv (rg 0 d.n))[i]? = some b := eb
          rw [List.getElem?_append_right (by show 3 ≤ i; omega)] at eb2
          have e4 : (iv (rg 0 d.n))[i - 3]? = some (.int ((0 + (i - 3) : Nat) : Int)) := iv_at (rg_get (by omega))
          rw [Nat.zero_add] at e4
          exact Option.some.inj (eb2.symm.trans e4)
        rw [decide_eq_false (fun z => ne (V.int.inj z))]
        refine iteT ⟨b, rfl, _, upd_new eD nT, ?_, kT.trans (keep_wr (by simp)), ?_⟩
        · rw [List.length_map, rg_length]
          obtain ⟨_, _, _, _, _, ok⟩ := hp
          have := ok.n4
          exact small1000 (by omega)
        · rw [upd_same, show i + 1 - 3 = (i - 3) + 1 by omega, eb']
          rw [rg_snoc, iv_snoc, Nat.zero_add]
    · obtain ⟨kp, eD⟩ := p
      have e : (names3 ++ iv (rg 0 d.n)).length - 3 = d.n := by
        rw [List.length_append, List.length_map, rg_length]
        show 3 + d.n - 3 = d.n
        omega
      rw [e] at eD
      exact k H4 D (Keep.fresh ((s1.trans s2).trans s3) kp (by simpa using ((s1.trans s2).trans s3).free nD)) (((s1.trans s2).trans s3).free nD) eD
end
end K67
/-! The runner: __init__, step, outcome. -/
namespace K67
open PySem PySem.Spec PyProof.Rows L2
/-! ### its fields -/
def rf (p nd pa sl : Addr) : List (Str × V) := [("plan", .ref p), ("numbers", .ref nd), ("pieces", .ref pa), ("most", .int 40), ("steps", .ref sl), ("over", .bl false)]
def nd3 (a b c : Int) : List (Key × V) := [((Sum.inr "a" : Key), .int a), ((Sum.inr "b" : Key), .int b), ((Sum.inr "c" : Key), .int c)]
theorem nd3_zip : mergeK [] (zipKV ["a", "b", "c"] [.int 0, .int 0, .int 0]) = nd3 0 0 0 := rfl
/-- a runner at r: its numbers' dict at nd, its steps' list at sl -/
structure RunAt (C : Addr) (H : Hp) (r dx p nd pa sl : Addr) (a b c : Int) (st : List V) : Prop where
  o : H r = some (.ins C dx (rf p nd pa sl))
  n : H nd = some (.dK (nd3 a b c))
  s : H sl = some (.lst st)
theorem RunAt.keep {C : Addr} {H H' : Hp} {r dx p nd pa sl : Addr} {a b c : Int} {st : List V} (h : RunAt C H r dx p nd pa sl a b c st) (k : ∀ q ∈ [r, nd, sl], ∀ o, H q = some o → H' q = some o) : RunAt C H' r dx p nd pa sl a b c st :=
  ⟨k _ (by simp) _ h.o, k _ (by simp) _ h.n, k _ (by simp) _ h.s⟩
/-- within the wheel -/
def Bd (d : PD) (z : Int) : Prop := 0 ≤ z ∧ z < d.W
structure RTxt (K : PySem.W.Frag) (mg : Str → Option Value) (C : Addr) : Prop where
  cl : Cls K C
  nP : NoAttr K C "plan"
  nN : NoAttr K C "numbers"
  nI : NoAttr K C "pieces"
  nM : NoAttr K C "most"
  nS : NoAttr K C "steps"
  nO : NoAttr K C "over"
  mgC : mg "Runner" = some (.ref C)
  dict : mg "dict" = none
  zip : mg "zip" = none
  len : mg "len" = none
  int : mg "int" = none
  enum : mg "enumerate" = none
  tuple : mg "tuple" = none
def spRInit (K : PySem.W.Frag) (C : Addr) : Sp := fun vs H Q _ => ∃ r dx p s d ps, vs = [.ref r, .ref p, .ref s, .int 40] ∧ H r = some (.ins C dx []) ∧ PlanAt K H p d ∧ StandAt K H s ps ∧
  ∀ H' nd pa sl, Keep [r] H H' → H nd = none → H sl = none → RunAt C H' r dx p nd pa sl 0 0 0 [] → SqT K H' pa (iv ps) → Q .non H'
def spStep (C : Addr) : Sp := fun vs H Q _ => ∃ r dx p nd pa sl a b c st pl z, vs = [.ref r, .ref pl, .int z] ∧ RunAt C H r dx p nd pa sl a b c st ∧ st.length < 40 ∧
  ∀ H' t, Keep [sl] H H' → RunAt C H' r dx p nd pa sl a b c (st ++ [.ref t]) → Q (.bl true) H'
def spOutcome (K : PySem.W.Frag) (C : Addr) : Sp := fun vs H Q _ => ∃ r dx p nd pa sl a b c st d ps v, vs = [.ref r, v] ∧ RunAt C H r dx p nd pa sl a b c st ∧ PlanAt K H p d ∧ SqT K H pa (iv ps) ∧ NumsOk d ps ∧ Bd d b ∧ Bd d c ∧
  ((∃ t x j z, v = .ref t ∧ SqT K H t [.str "take", .str x, .int (j : Nat)] ∧ ps[j]? = some z ∧ Q (.int z) H) ∨
    ∃ t o, v = .ref t ∧ IsOp o ∧ SqT K H t [.str o, .str "c", .str "b", .str "c"] ∧ ∀ z, Bd d z → Q (.int z) H)
/-! ### tests of texts -/
theorem teq {x y : Str} {A B : Prop} (h : x = y) (a : A) : if decide (V.str x = V.str y) = true then A else B := by
  subst h
  rw [decide_eq_true rfl]
  exact iteT a
theorem tne {x y : Str} {A B : Prop} (h : x ≠ y) (b : B) : if decide (V.str x = V.str y) = true then A else B := by
  rw [decide_eq_false (fun z => h (V.str.inj z))]
  exact iteF b
section
variable {P : Program} {w : World} {K : PySem.W.Frag} {mg : Str → Option Value} {base : Heap}
theorem scRInit : FnScope ["self", "plan", "stand", "most"] ["self", "plan", "stand", "most"] (defScope sRInit) := ⟨rfl, rfl, rfl, by decide +kernel, rfl, by decide +kernel, by decide +kernel⟩
theorem ok_rinit {f C : Addr} {fd : FuncData} (F : Fun K "__init__" "Runner.__init__" sRInit f fd) (T : RTxt K mg C) : FnOk P w K mg base CX0 1 f fd ["self", "plan", "stand", "most"] (spRInit K C) := by
  refine F.ok scRInit (fun vs H Q E h => ?_) (fun cdv A outer s H vs Q E hr h => ?_)
  · obtain ⟨r, dx, p, s, d, ps, rfl, _⟩ := h
    rfl
  · obtain ⟨r, dx, p, s, d, ps, rfl, h0, ⟨nm, rw_, hp, hn, hR, ok⟩, ⟨na, pa, hs, hna, hpa⟩, k⟩ := h
    refine ⟨_, pss_cons (ps_fld (pv 0) (pv 1) rfl)
      (pss_cons (ps_fld (pv 0) (pe_dictZip rfl (by rfl) T.dict (by rfl) T.zip (pa_cons (pe_ix ix_tup (pv 1) pe_int (fun _ _ => rfl)) (pa_cons (pe_ix ix_tup (pv 2) pe_int (fun _ _ => rfl)) pa_nil))) rfl)
      (pss_cons (ps_fld (pv 0) (pe_ix ix_tup (pv 2) pe_int (fun _ _ => rfl)) rfl)
      (pss_cons (ps_fld (pv 0) (pv 3) rfl)
      (pss_cons (ps_fld (pv 0) (pe_lst pa_nil) rfl)
      (pss_one (ps_fld (pv 0) pe_bl rfl)))))), ?_⟩
    -- self.plan = plan
    refine ⟨_, rfl, _, rfl, r, C, dx, [], rfl, h0, T.cl, T.nP, (by show 0 < 1000; decide), ?_⟩
    have t1 : TK K H (upd H r (.ins C dx (putF "plan" (.ref p) []))) := tk_wr h0 rfl
    -- self.numbers = dict(zip(plan[1], stand[0]))
    refine ⟨_, rfl, p, _, 1, _, rfl, rfl, t1.t _ _ hp, rfl, _, rfl, s, _, 0, _, rfl, rfl, t1.t _ _ hs, rfl, nm, na, ["a", "b", "c"], [.int 0, .int 0, .int 0], rfl, (hn.tk t1).sq, t1.t _ _ hna, rfl, fun nd fnd => ?_⟩
    rw [nd3_zip]
    have rnd : r ≠ nd := (free_ne fnd).symm
    refine ⟨_, rfl, r, C, dx, _, rfl, upd_at upd_same rnd, T.cl, T.nN, (by show 1 < 1000; decide), ?_⟩
    have t2 := (t1.trans (tk_new (o := .dK (nd3 0 0 0)) fnd)).trans (tk_wr (o := .ins C dx (putF "numbers" (.ref nd) (putF "plan" (.ref p) []))) (upd_at upd_same rnd) rfl)
    -- self.pieces = stand[1]; self.most = most; self.steps = []; self.over = False
    refine ⟨_, rfl, s, _, 1, _, rfl, rfl, t2.t _ _ hs, rfl, _, rfl, r, C, dx, _, rfl, upd_same, T.cl, T.nI, (by show 2 < 1000; decide), ?_⟩
    refine ⟨_, rfl, _, rfl, r, C, dx, _, rfl, upd_same, T.cl, T.nM, (by show 3 < 1000; decide), ?_⟩
    refine ⟨Nat.zero_le _, fun sl fsl => ?_⟩
    have rsl : r ≠ sl := (free_ne fsl).symm
    refine ⟨_, rfl, r, C, dx, _, rfl, upd_at upd_same rsl, T.cl, T.nS, (by show 4 < 1000; decide), ?_⟩
    refine ⟨_, rfl, r, C, dx, _, rfl, upd_same, T.cl, T.nO, (by show 5 < 1000; decide), ?_⟩
    have fnd0 : H nd = none := free_of fnd
    have fsl0 : H sl = none := free_of (free_of (free_of (free_of (free_of fsl))))
    have ndsl : nd ≠ sl := fun z => by
      have e := free_of (free_of (free_of fsl))
      rw [← z, upd_same] at e
      cases e
    have kp : Keep [r] H _ := (((((((keep_wr (M := [r]) (H := H) (p := r) (o := .ins C dx (putF "plan" (.ref p) [])) (by simp)).trans (keep_new (o := .dK (nd3 0 0 0)) fnd)).trans
      (keep_wr (p := r) (o := .ins C dx (putF "numbers" (.ref nd) (putF "plan" (.ref p) []))) (by simp))).trans
      (keep_wr (p := r) (o := .ins C dx (putF "pieces" (.ref pa) (putF "numbers" (.ref nd) (putF "plan" (.ref p) [])))) (by simp))).trans
      (keep_wr (p := r) (o := .ins C dx (putF "most" (.int 40) (putF "pieces" (.ref pa) (putF "numbers" (.ref nd) (putF "plan" (.ref p) []))))) (by simp))).trans
      (keep_new (o := .lst []) fsl)).trans
      (keep_wr (p := r) (o := .ins C dx (putF "steps" (.ref sl) (putF "most" (.int 40) (putF "pieces" (.ref pa) (putF "numbers" (.ref nd) (putF "plan" (.ref p) [])))))) (by simp))).trans
      (keep_wr (p := r) (o := .ins C dx (rf p nd pa sl)) (by simp))
    refine k _ nd pa sl kp fnd0 fsl0 ⟨upd_same, ?_, ?_⟩ ((kp.tk fun b hb => ?_).t _ _ hpa)
    · rw [upd_ne rnd.symm, upd_ne rnd.symm, upd_ne ndsl, upd_ne rnd.symm, upd_ne rnd.symm, upd_ne rnd.symm, upd_same]
    · rw [upd_ne rsl.symm, upd_ne rsl.symm, upd_same]
    · cases List.mem_singleton.mp hb
      exact ⟨_, h0, rfl⟩
theorem scStep : FnScope ["self", "place", "number"] ["self", "place", "number"] (defScope sStep) := ⟨rfl, rfl, rfl, by decide +kernel, rfl, by decide +kernel, by decide +kernel⟩
theorem ok_step {f C : Addr} {fd : FuncData} (F : Fun K "step" "Runner.step" sStep f fd) (T : RTxt K mg C) : FnOk P w K mg base CX0 1 f fd ["self", "place", "number"] (spStep C) := by
  refine F.ok scStep (fun vs H Q E h => ?_) (fun cdv A outer s H vs Q E hr h => ?_)
  · obtain ⟨r, dx, p, nd, pa, sl, a, b, c, st, pl, z, rfl, _⟩ := h
    rfl
  · obtain ⟨r, dx, p, nd, pa, sl, a, b, c, st, pl, z, rfl, R, hl, k⟩ := h
    refine ⟨_, pss_cons (ps_if (pt_cmpR op_eq (pe_callB call_len_seq (by rfl) T.len PySem.boot_len (pa_cons (pe_fld (pv 0) rfl) pa_nil)) (pe_fld (pv 0) rfl) (nomark _)) pss_never pss_nil)
      (pss_cons (ps_expr (pe_bm PySem.F.plainAttrs_list PySem.F.slot_list_append PySem.F.type_list_append mt_append (pe_fld (pv 0) rfl) (pa_cons (pe_tup (pa_cons (pv 1) (pa_cons (pv 2) pa_nil))) pa_nil)))
      (pss_one (ps_ret pe_bl))), ?_⟩
    refine ⟨_, rfl, r, C, dx, _, _, rfl, R.o, T.cl, T.nS, rfl, sl, st, rfl, .inl (SqL.of R.s), _, rfl, r, C, dx, _, _, rfl, R.o, T.cl, T.nM, rfl, rfl, _, rfl, ?_⟩
    rw [decide_eq_false (fun e => by
      have e' : ((st.length : Nat) : Int) = 40 := V.int.inj e
      omega)]
    refine iteF ?_
    refine ⟨_, rfl, r, C, dx, _, _, rfl, R.o, T.cl, T.nS, rfl, .inl ⟨rfl, _, SqL.of R.s⟩, _, rfl, _, rfl, (by show 2 ≤ sizeLine; decide), fun t ft => ?_⟩
    have st_ : sl ≠ t := ne_of_none R.s ft
    refine ⟨sl, st, _, rfl, rfl, upd_new R.s ft, small1000 (by omega), ?_⟩
    have rsl : r ≠ sl := ne_of R.o R.s (by intro z; cases z)
    have nsl : nd ≠ sl := ne_of R.n R.s (by intro z; cases z)
    exact k _ t ((keep_new ft).trans (keep_wr (by simp))) ⟨upd_at (upd_new R.o ft) rsl, upd_at (upd_new R.n ft) nsl, upd_same⟩
theorem scOutcome : FnScope ["self", "row", "one", "other"] ["self", "row"] (defScope sOutcome) := ⟨rfl, rfl, rfl, by decide +kernel, rfl, by decide +kernel, by decide +kernel⟩
theorem bd_mod {d : PD} (ok : d.Ok) (z : Int) : Bd d (z % d.W) := by
  have := ok.w2
  exact ⟨Int.emod_nonneg _ (by omega), Int.emod_lt_of_pos _ (by omega)⟩
theorem ok_outcome {f C : Addr} {fd : FuncData} (F : Fun K "outcome" "Runner.outcome" sOutcome f fd) (T : RTxt K mg C) : FnOk P w K mg base CX0 1 f fd ["self", "row"] (spOutcome K C) := by
  refine F.ok scOutcome (fun vs H Q E h => ?_) (fun cdv A outer s H vs Q E hr h => ?_)
  · obtain ⟨r, dx, p, nd, pa, sl, a, b, c, st, d, ps, v, rfl, _⟩ := h
    rfl
  · obtain ⟨r, dx, p, nd, pa, sl, a, b, c, st, d, ps, v, rfl, R, ⟨nm, rw_, hp, hn, hR, ok⟩, hpa, np, hb, hc, k⟩ := h
    have hu := hu_of hr
    refine ⟨_, pss_cons (ps_if (pt_cmpR op_eq (pe_ix ix_tup (pv 1) pe_int (fun _ _ => rfl)) pe_str (nomark _)) pss_never pss_nil)
      (pss_cons (ps_if (pt_cmpR op_eq (pe_ix ix_tup (pv 1) pe_int (fun _ _ => rfl)) pe_str (nomark _)) (pss_one (ps_ret (pe_ix ix_tup (pe_fld (pv 0) rfl) (pe_ix ix_tup (pv 1) pe_int (fun _ _ => rfl)) (fun _ _ => rfl)))) pss_nil)
      (pss_cons (ps_set (i := 2) scOutcome.nd rfl (Or.inl rfl) (pe_dget hu (pe_fld (pv 0) rfl) (pe_ix ix_tup (pv 1) pe_int (fun _ _ => rfl)) (fun _ _ => rfl)))
      (pss_cons (ps_if (pt_cmpR op_eq (pe_ix ix_tup (pv 1) pe_int (fun _ _ => rfl)) pe_str (nomark _)) pss_never pss_nil)
      (pss_cons (ps_set (i := 3) scOutcome.nd rfl (Or.inl rfl) (pe_dget hu (pe_fld (pv 0) rfl) (pe_ix ix_tup (pv 1) pe_int (fun _ _ => rfl)) (fun _ _ => rfl)))
      (pss_cons (ps_if (pt_cmpR op_eq (pe_ix ix_tup (pv 1) pe_int (fun _ _ => rfl)) pe_str (nomark _)) (pss_one (ps_ret (pe_op op_mod (pe_op op_add (pv 2) (pv 3)) (pe_ix ix_tup (pe_fld (pv 0) rfl) pe_int (fun _ _ => rfl))))) pss_nil)
      (pss_cons (ps_if (pt_cmpR op_eq (pe_ix ix_tup (pv 1) pe_int (fun _ _ => rfl)) pe_str (nomark _)) (pss_one (ps_ret (pe_op op_mod (pe_op op_mul (pv 2) (pv 3)) (pe_ix ix_tup (pe_fld (pv 0) rfl) pe_int (fun _ _ => rfl))))) pss_nil)
      (pss_cons (ps_if (pt_cmpR op_eq (pe_ix ix_tup (pv 1) pe_int (fun _ _ => rfl)) pe_str (nomark _)) (pss_one (ps_ret (pe_callTy call_int1 (by rfl) T.int PyProof.Rows.boot_int (pa_cons (pe_cmpR op_lt (pv 2) (pv 3) (nomark _)) pa_nil)))) pss_nil)
      (pss_one (ps_ret (pe_callTy call_int1 (by rfl) T.int PyProof.Rows.boot_int (pa_cons (pe_cmpR op_eq (pv 2) (pv 3) (nomark _)) pa_nil))))))))))), ?_⟩
    rcases k with ⟨t, x, j, z, rfl, ht, hz, q⟩ | ⟨t, o, rfl, io, ht, q⟩
    · refine ⟨_, rfl, t, _, 0, _, rfl, rfl, ht, rfl, rfl, _, rfl, tne (by decide +kernel) ?_⟩
      refine ⟨_, rfl, t, _, 0, _, rfl, rfl, ht, rfl, rfl, _, rfl, teq rfl ?_⟩
      exact ⟨_, rfl, r, C, dx, _, _, rfl, R.o, T.cl, T.nI, rfl, _, rfl, t, _, 2, _, rfl, rfl, ht, rfl, pa, _, j, _, rfl, rfl, hpa, atI_nat (iv_at hz), q⟩
    · have gb : DGet H nd (.str "b") (some (.int b)) := DGet.k (k := Sum.inr "b") R.n
      have gc : DGet H nd (.str "c") (some (.int c)) := DGet.k (k := Sum.inr "c") R.n
      have w0 : 0 < d.W := by
        have := ok.w2
        omega
      have small : ∀ k : Bool, Bd d (if k then 1 else 0) := fun k => by
        have := ok.w2
        cases k
        · exact ⟨Int.le_refl _, w0⟩
        · exact ⟨(by decide : (0 : Int) ≤ 1), (by show (1 : Int) < d.W; omega)⟩
      rcases io with rfl | rfl | rfl | rfl
      all_goals
        refine ⟨_, rfl, t, _, 0, _, rfl, rfl, ht, rfl, rfl, _, rfl, tne (by decide +kernel) ?_⟩
        refine ⟨_, rfl, t, _, 0, _, rfl, rfl, ht, rfl, rfl, _, rfl, tne (by decide +kernel) ?_⟩
        refine ⟨_, rfl, r, C, dx, _, _, rfl, R.o, T.cl, T.nN, rfl, _, rfl, t, _, 2, _, rfl, rfl, ht, rfl, nd, _, rfl, gb, ?_⟩
        refine ⟨_, rfl, t, _, 0, _, rfl, rfl, ht, rfl, rfl, _, rfl, tne (by decide +kernel) ?_⟩
        refine ⟨_, rfl, r, C, dx, _, _, rfl, R.o, T.cl, T.nN, rfl, _, rfl, t, _, 3, _, rfl, rfl, ht, rfl, nd, _, rfl, gc, ?_⟩
      · refine ⟨_, rfl, t, _, 0, _, rfl, rfl, ht, rfl, rfl, _, rfl, teq rfl ?_⟩
        exact ⟨_, rfl, _, rfl, _, _, rfl, rfl, _, rfl, r, C, dx, _, _, rfl, R.o, T.cl, T.nP, rfl, p, _, 0, _, rfl, rfl, hp, rfl, _, _, rfl, rfl, w0, q _ (bd_mod ok _)⟩
      · refine ⟨_, rfl, t, _, 0, _, rfl, rfl, ht, rfl, rfl, _, rfl, tne (by decide +kernel) ?_⟩
        refine ⟨_, rfl, t, _, 0, _, rfl, rfl, ht, rfl, rfl, _, rfl, teq rfl ?_⟩
        have := ok.w9
        refine ⟨_, rfl, _, rfl, _, _, rfl, rfl, .inl ⟨by have := hb.1; omega, by have := hb.2; omega⟩, _, rfl, r, C, dx, _, _, rfl, R.o, T.cl, T.nP, rfl, p, _, 0, _, rfl, rfl, hp, rfl, _, _, rfl, rfl, w0, q _ (bd_mod ok _)⟩
      · refine ⟨_, rfl, t, _, 0, _, rfl, rfl, ht, rfl, rfl, _, rfl, tne (by decide +kernel) ?_⟩
        refine ⟨_, rfl, t, _, 0, _, rfl, rfl, ht, rfl, rfl, _, rfl, tne (by decide +kernel) ?_⟩
        refine ⟨_, rfl, t, _, 0, _, rfl, rfl, ht, rfl, rfl, _, rfl, teq rfl ?_⟩
        exact ⟨_, rfl, _, rfl, _, _, rfl, rfl, .inr ⟨_, rfl, q _ (small _)⟩⟩
      · refine ⟨_, rfl, t, _, 0, _, rfl, rfl, ht, rfl, rfl, _, rfl, tne (by decide +kernel) ?_⟩
        refine ⟨_, rfl, t, _, 0, _, rfl, rfl, ht, rfl, rfl, _, rfl, tne (by decide +kernel) ?_⟩
        refine ⟨_, rfl, t, _, 0, _, rfl, rfl, ht, rfl, rfl, _, rfl, tne (by decide +kernel) ?_⟩
        exact ⟨_, rfl, _, rfl, rfl, .inr ⟨_, rfl, q _ (small _)⟩⟩
end
end K67
/-! The runner goes along; run, mark. -/
namespace K67
open PySem PySem.Spec PyProof.Rows L2
def spAlong (K : PySem.W.Frag) (C : Addr) : Sp := fun vs H Q _ => ∃ r dx p nd pa sl rows e0 d ps, vs = [.ref r, .ref rows, .ref e0] ∧ RunAt C H r dx p nd pa sl 0 0 0 [] ∧ PlanAt K H p d ∧ RowsAt K H d rows ∧ SqT K H pa (iv ps) ∧ NumsOk d ps ∧ SqT K H e0 [] ∧
  ∀ H' z b c st, Keep [nd, sl] H H' → ps[d.g]? = some z → RunAt C H' r dx p nd pa sl z b c st → Q .non H'
section
variable {P : Program} {w : World} {K : PySem.W.Frag} {mg : Str → Option Value} {base : Heap}
theorem scAlong : FnScope ["self", "rows", "place", "at", "row", "here", "number"] ["self", "rows", "place"] (defScope sAlong) := ⟨rfl, rfl, rfl, by decide +kernel, rfl, by decide +kernel, by decide +kernel⟩
theorem put_a (a b c z : Int) : putK (nd3 a b c) (Sum.inr "a" : Key) (.int z) = nd3 z b c := rfl
theorem put_b (a b c z : Int) : putK (nd3 a b c) (Sum.inr "b" : Key) (.int z) = nd3 a z c := rfl
theorem put_c (a b c z : Int) : putK (nd3 a b c) (Sum.inr "c" : Key) (.int z) = nd3 a b z := rfl
theorem ok_along {f C fS fO : Addr} {fd fdS fdO : FuncData} (F : Fun K "go_along" "Runner.go_along" sAlong f fd) (T : RTxt K mg C) (FS : Fun K "step" "Runner.step" sStep fS fdS) (bS : Binds K fdS ["self", "place", "number"] []) (mS : Meth K C "step" fS)
    (FO : Fun K "outcome" "Runner.outcome" sOutcome fO fdO) (bO : Binds K fdO ["self", "row"] []) (mO : Meth K C "outcome" fO) : FnOk P w K mg base CX0 2 f fd ["self", "rows", "place"] (spAlong K C) := by
  have GS : FnOk P w K mg base CX0 1 fS fdS ["self", "place", "number"] (spStep C) := ok_step FS T
  have GO : FnOk P w K mg base CX0 1 fO fdO ["self", "row"] (spOutcome K C) := ok_outcome FO T
  refine F.ok scAlong (fun vs H Q E h => ?_) (fun cdv A outer s H vs Q E hr h => ?_)
  · obtain ⟨r, dx, p, nd, pa, sl, rows, e0, d, ps, rfl, _⟩ := h
    rfl
  · obtain ⟨r, dx, p, nd, pa, sl, rows, e0, d, ps, rfl, R, hp, ⟨rvs, hrows, hlen, hrow, hlast⟩, hpa, np, he0, k⟩ := h
    have hu := hu_of hr
    refine ⟨_, pss_one (ps_for PassesOwn.never rfl (pi_enumT (by rfl) T.enum (pa_cons (pv 1) pa_nil))
      (pg_tup rfl (pgs_cons (pg_name (i := 3) scAlong.nd rfl (Or.inl rfl)) (pgs_cons (pg_name (i := 4) scAlong.nd rfl (Or.inl rfl)) pgs_nil)))
      (pss_one (ps_if (pt_not (pt_val (pe_fld (pv 0) rfl)))
        (pss_cons (ps_set (i := 5) scAlong.nd rfl (Or.inl rfl) (pe_op op_catA (pv 2) (pe_tup (pa_cons (pv 3) pa_nil))))
        (pss_one (ps_if (pt_cmpR op_eq (pe_ix ix_tup (pv 4) pe_int (fun _ _ => rfl)) pe_str (nomark _)) pss_never
          (pss_one (ps_if (pt_cmpR op_eq (pe_ix ix_tup (pv 4) pe_int (fun _ _ => rfl)) pe_str (nomark _)) pss_never
            (pss_cons (ps_set (i := 6) scAlong.nd rfl (Or.inl rfl) (pe_meth (pv 0) T.cl mO GO hr bO .nil pass0 (pa_cons (pv 4) pa_nil)))
            (pss_one (ps_if (pt_val (pe_meth (pv 0) T.cl mS GS hr bS .nil pass0 (pa_cons (pv 5) (pa_cons (pv 6) pa_nil))))
              (pss_one (ps_dput hu (pe_fld (pv 0) rfl) (pe_ix ix_tup (pv 4) pe_int (fun _ _ => rfl)) (pv 6) rfl)) pss_nil))))))))
        pss_nil))), ?_⟩
    have ok : d.Ok := hp.choose_spec.choose_spec.2.2.2
    have nz : r ≠ nd := ne_of R.o R.n (by intro z; cases z)
    have sz : r ≠ sl := ne_of R.o R.s (by intro z; cases z)
    have nsl : nd ≠ sl := ne_of R.n R.s (by intro z; cases z)
    have tkw : ∀ {H'}, Keep [nd, sl] H H' → TK K H H' := fun kp => kp.tk fun b hb => by
      rcases List.mem_cons.mp hb with rfl | hb
      · exact ⟨_, R.n, rfl⟩
      · cases List.mem_singleton.mp hb
        exact ⟨_, R.s, rfl⟩
    refine ⟨_, rfl, rows, rvs, rfl, hrows, for_enumT (K := K) (a := rows) (xs := rvs)
      (fun i σ H' => ∃ a b c st y3 y4 y5 y6, σ = [some (.ref r), some (.ref rows), some (.ref e0), y3, y4, y5, y6] ∧ Keep [nd, sl] H H' ∧ RunAt C H' r dx p nd pa sl a b c st ∧ st.length = i ∧ Bd d b ∧ Bd d c ∧ (i = d.m + 1 → ps[d.g]? = some a))
      ?_ ?_ ?_ ?_⟩
    · have b0 : Bd d 0 := ⟨Int.le_refl _, by have := ok.w2; omega⟩
      exact ⟨0, 0, 0, [], none, none, none, none, rfl, Keep.refl _ _, R, rfl, b0, b0, fun z => by omega⟩
    · rintro i σ H' _ ⟨a, b, c, st, y3, y4, y5, y6, rfl, kp, _⟩
      exact (tkw kp).t _ _ hrows
    · rintro i v t σ H' hi ⟨a, b, c, st, y3, y4, y5, y6, rfl, kp, R', hst, hb, hc, _⟩ ft
      -- for at, row
      refine ⟨t, _, rfl, sqT_new, rfl, _, _, rfl, _, _, rfl, rfl, ?_⟩
      have Rt := R'.keep fun q _ o e => upd_new (o := .tup [.int (i : Nat), v]) e ft
      have kt : Keep [nd, sl] H _ := kp.trans (keep_new (o := .tup [.int (i : Nat), v]) ft)
      -- if not self.over
      refine ⟨_, rfl, r, C, dx, _, _, rfl, Rt.o, T.cl, T.nO, rfl, false, rfl, iteT ?_⟩
      -- here = place + (at,)
      refine ⟨_, rfl, _, rfl, (by show 1 ≤ sizeLine; decide), fun u fu => ?_⟩
      have ku := kt.trans (keep_new (o := .tup [.int (i : Nat)]) fu)
      have Ru := Rt.keep fun q _ o e => upd_new (o := .tup [.int (i : Nat)]) e fu
      refine ⟨e0, u, [], _, rfl, rfl, (tkw ku).t _ _ he0, sqT_new, (by show 0 + 1 ≤ sizeLine; decide), fun _ => ?_, fun z => absurd rfl z, fun z => absurd rfl z⟩
      have im : i < d.m + 1 := by
        rw [← hlen]
        exact (List.getElem?_eq_some_iff.mp hi).1
      obtain ⟨z9, hz9⟩ : ∃ z, ps[d.g]? = some z := ⟨_, List.getElem?_eq_getElem (by rw [np.len]; exact ok.gn)⟩
      -- the row, whatever it is
      obtain ⟨t2, o, x, rest, rfl, ht, no1, no2, xa, out⟩ : ∃ (t2 : Addr) (o x : Str) (rest : List V), v = .ref t2 ∧ SqT K H t2 (.str o :: .str x :: rest) ∧ o ≠ "if" ∧ o ≠ "again" ∧ (i = d.m → x = "a") ∧
          ∀ (H2 : Hp) (Q2 : VK), TK K H H2 → RunAt C H2 r dx p nd pa sl a b c st → (∀ z, (x = "b" ∧ Bd d z ∨ x = "c" ∧ Bd d z ∨ x = "a" ∧ ps[d.g]? = some z) → Q2 (.int z) H2) → spOutcome K C [.ref r, v] H2 Q2 E0 := by
        by_cases hm : i < d.m
        · obtain ⟨t2, rfl, ⟨j, hj, ht⟩ | ⟨o, io, ht⟩⟩ := hrow i v hm hi
          · obtain ⟨z, hz⟩ : ∃ z, ps[j]? = some z := ⟨_, List.getElem?_eq_getElem (by rw [np.len]; exact hj)⟩
            refine ⟨t2, _, _, _, rfl, ht, by decide +kernel, by decide +kernel, fun e => by omega, fun H2 Q2 tk R2 q => ?_⟩
            exact ⟨r, dx, p, nd, pa, sl, a, b, c, st, d, ps, _, rfl, R2, hp.tk tk, tk.t _ _ hpa, np, hb, hc, .inl ⟨t2, _, j, z, rfl, tk.t _ _ ht, hz, q z (.inl ⟨rfl, np.lo z (List.mem_of_getElem? hz)⟩)⟩⟩
          · refine ⟨t2, o, _, _, rfl, ht, ?_, ?_, fun e => by omega, fun H2 Q2 tk R2 q => ?_⟩
            · rcases io with rfl | rfl | rfl | rfl <;> decide +kernel
            · rcases io with rfl | rfl | rfl | rfl <;> decide +kernel
            · exact ⟨r, dx, p, nd, pa, sl, a, b, c, st, d, ps, _, rfl, R2, hp.tk tk, tk.t _ _ hpa, np, hb, hc, .inr ⟨t2, o, rfl, io, tk.t _ _ ht, fun z bz => q z (.inr (.inl ⟨rfl, bz⟩))⟩⟩
        · have e : i = d.m := by omega
          subst e
          obtain ⟨t2, rfl, ht⟩ := hlast v hi
          refine ⟨t2, _, _, _, rfl, ht, by decide +kernel, by decide +kernel, fun _ => rfl, fun H2 Q2 tk R2 q => ?_⟩
          exact ⟨r, dx, p, nd, pa, sl, a, b, c, st, d, ps, _, rfl, R2, hp.tk tk, tk.t _ _ hpa, np, hb, hc, .inl ⟨t2, _, d.g, z9, rfl, tk.t _ _ ht, hz9, q z9 (.inr (.inr ⟨rfl, hz9⟩))⟩⟩
      refine ⟨_, rfl, t2, _, 0, _, rfl, rfl, (tkw ku).t _ _ ht, atI_nat (j := 0) rfl, rfl, _, rfl, tne no1 ?_⟩
      refine ⟨_, rfl, t2, _, 0, _, rfl, rfl, (tkw ku).t _ _ ht, atI_nat (j := 0) rfl, rfl, _, rfl, tne no2 ?_⟩
      -- number = self.outcome(row)
      refine ⟨_, rfl, r, dx, _, rfl, Ru.o, rfl, _, rfl, ?_⟩
      refine nil_ (out _ _ (tkw ku) Ru fun z hz => ?_)
      -- if self.step(here, number): self.numbers[row[1]] = number
      refine ⟨_, rfl, r, dx, _, rfl, Ru.o, rfl, _, rfl, _, rfl, r, dx, p, nd, pa, sl, a, b, c, st, u, z, rfl, Ru, by have := ok.mm; omega, fun H3 t3 k3 R3 => ⟨true, rfl, iteT ?_⟩⟩
      have k3' : Keep [nd, sl] H H3 := ku.trans fun q o n e => k3 q o (fun m => n (by cases List.mem_singleton.mp m; simp)) e
      refine ⟨_, rfl, _, rfl, r, C, dx, _, _, rfl, R3.o, T.cl, T.nN, rfl, _, rfl, t2, _, 1, _, rfl, rfl, (tkw k3').t _ _ ht, atI_nat (j := 1) rfl, nd, _, rfl, DPut.k (k := Sum.inr x) R3.n (by show 3 < sizeLine; decide), ?_⟩
      have k4 : ∀ u, Keep [nd, sl] H (upd H3 nd u) := fun u => k3'.trans (keep_wr (by simp))
      have l4 : (st ++ [V.ref t3]).length = i + 1 := by rw [List.length_append, hst]; rfl
      rcases hz with ⟨rfl, bz⟩ | ⟨rfl, bz⟩ | ⟨rfl, bz⟩
      · rw [put_b]
        exact ⟨a, z, c, _, _, _, _, _, rfl, k4 _, ⟨upd_at R3.o nz, upd_same, upd_at R3.s nsl.symm⟩, l4, bz, hc, fun e => absurd (xa (by omega)) (by decide +kernel)⟩
      · rw [put_c]
        exact ⟨a, b, z, _, _, _, _, _, rfl, k4 _, ⟨upd_at R3.o nz, upd_same, upd_at R3.s nsl.symm⟩, l4, hb, bz, fun e => absurd (xa (by omega)) (by decide +kernel)⟩
      · rw [put_a]
        exact ⟨z, b, c, _, _, _, _, _, rfl, k4 _, ⟨upd_at R3.o nz, upd_same, upd_at R3.s nsl.symm⟩, l4, hb, hc, fun _ => bz⟩
    · rintro σ H' ⟨a, b, c, st, y3, y4, y5, y6, rfl, kp, R', hst, hb, hc, hz⟩
      exact k H' a b c st kp (hz hlen) R'
end
end K67
/-! run, mark. -/
namespace K67
open PySem PySem.Spec PyProof.Rows L2
def spRun (K : PySem.W.Frag) : Sp := fun vs H Q _ => ∃ p s d ps, vs = [.ref p, .ref s, .int 40] ∧ PlanAt K H p d ∧ StandAt K H s ps ∧ NumsOk d ps ∧
  ∀ (H' : Hp) (t sl nt : Addr) (z b c : Int), Same H H' → H' t = some (.tup [.ref sl, .ref nt]) → H' nt = some (.tup [.int z, .int b, .int c]) → ps[d.g]? = some z → Q (.ref t) H'
def spMark (K : PySem.W.Frag) : Sp := fun vs H Q _ => ∃ p s d ps, vs = [.ref p, .ref s, .int 40] ∧ PlanAt K H p d ∧ StandAt K H s ps ∧ NumsOk d ps ∧
  ∀ (H' : Hp) (z : Int), Same H H' → ps[d.g]? = some z → Q (.int z) H'
/-- what stands behind the class Runner -/
structure RFns (K : PySem.W.Frag) (C : Addr) : Prop where
  init : ∃ fI fdI, Mk K C fI ∧ Fun K "__init__" "Runner.__init__" sRInit fI fdI ∧ Binds K fdI ["self", "plan", "stand", "most"] []
  st : ∃ fS fdS, Meth K C "step" fS ∧ Fun K "step" "Runner.step" sStep fS fdS ∧ Binds K fdS ["self", "place", "number"] []
  ou : ∃ fO fdO, Meth K C "outcome" fO ∧ Fun K "outcome" "Runner.outcome" sOutcome fO fdO ∧ Binds K fdO ["self", "row"] []
  al : ∃ fA fdA, Meth K C "go_along" fA ∧ Fun K "go_along" "Runner.go_along" sAlong fA fdA ∧ Binds K fdA ["self", "rows", "place"] []
section
variable {P : Program} {w : World} {K : PySem.W.Frag} {mg : Str → Option Value} {base : Heap}
theorem scRun : FnScope ["plan", "stand", "most", "runner", "name"] ["plan", "stand", "most"] (defScope sRun) := ⟨rfl, rfl, rfl, by decide +kernel, rfl, by decide +kernel, by decide +kernel⟩
theorem same_made {H H1 : Hp} {x dx C : Addr} (nx : H x = none) (nd : H dx = none) (k : Keep [x] (upd (upd H dx (.own x)) x (.ins C dx [])) H1) : Same H H1 := fun b o e =>
  k b o (fun m => by
    cases List.mem_singleton.mp m
    rw [nx] at e
    cases e) (upd_at (upd_new e nd) (ne_of_none e nx))
theorem ok_run {f C : Addr} {fd : FuncData} (F : Fun K "run" "run" sRun f fd) (T : RTxt K mg C) (R : RFns K C) : FnOk P w K mg base CX0 3 f fd ["plan", "stand", "most"] (spRun K) := by
  obtain ⟨fI, fdI, M, FI, bI⟩ := R.init
  obtain ⟨fS, fdS, mS, FS, bS⟩ := R.st
  obtain ⟨fO, fdO, mO, FO, bO⟩ := R.ou
  obtain ⟨fA, fdA, mA, FA, bA⟩ := R.al
  have GI : FnOk P w K mg base CX0 1 fI fdI ["self", "plan", "stand", "most"] (spRInit K C) := ok_rinit FI T
  have GA : FnOk P w K mg base CX0 2 fA fdA ["self", "rows", "place"] (spAlong K C) := ok_along FA T FS bS mS FO bO mO
  refine F.ok scRun (fun vs H Q E h => ?_) (fun cdv A outer s H vs Q E hr h => ?_)
  · obtain ⟨p, s, d, ps, rfl, _⟩ := h
    rfl
  · obtain ⟨p, s, d, ps, rfl, hp, hs, np, k⟩ := h
    have hu := hu_of hr
    refine ⟨_, pss_cons (ps_set (i := 3) scRun.nd rfl (Or.inr rfl) (pe_make M GI hr (by rfl) T.mgC bI .nil pass0 (pa_cons (pv 0) (pa_cons (pv 1) (pa_cons (pv 2) pa_nil)))))
      (pss_cons (ps_expr (pe_meth (pv 3) T.cl mA GA hr bA .nil pass0 (pa_cons (pe_ix ix_tup (pv 0) pe_int (fun _ _ => rfl)) (pa_cons (pe_tup pa_nil) pa_nil))))
      (pss_cons (ps_if (pt_val (pe_fld (pv 3) rfl)) pss_never pss_nil)
      (pss_one (ps_ret (pe_tup (pa_cons (pe_fld (pv 3) rfl) (pa_cons (pe_callTy call_tuple_of (by rfl) T.tuple PyProof.Rows.boot_tuple (pa_cons
        (pe_lc (own := [("name", 4)]) (g := gName 4) (tt := tYes) (te := tDGet (tFld K (tVar 3) "numbers") (tVar 4)) (by rfl) scRun.nd (pi_tup (pe_ix ix_tup (pv 0) pe_int (fun _ _ => rfl)))
          (blkOk_by (own := [("name", 4)]) (N := ["plan", "stand", "most", "runner", "name"]) (sc := defScope sRun) (by decide +kernel))
          (fun _ _ _ _ _ => pg_name (i := 4) scRun.nd rfl (Or.inl rfl)) (fun _ _ _ _ _ => pts_nil)
          (fun _ _ _ _ _ => pe_dget hu (pe_fld (pv 3) rfl) (pv 4) (fun _ _ => rfl))) pa_nil)) pa_nil))))))), ?_⟩
    refine ⟨_, rfl, _, rfl, _, rfl, fun r dx fr fdx ne => ?_⟩
    have t0 : TK K H (upd (upd H dx (.own r)) r (.ins C dx [])) := (tk_new fdx).trans (tk_new (by rw [upd_ne ne.symm]; exact fr))
    refine ⟨r, dx, p, s, d, ps, rfl, upd_same, hp.tk t0, hs.tk t0, fun H1 nd pa sl k1 fnd fsl R1 hpa => ⟨rfl, ?_⟩⟩
    have s1 : Same H H1 := same_made fr fdx k1
    obtain ⟨nm, rw_, hp1, hn, hR, ok⟩ := id hp
    have t1 := same_tk (K := K) s1
    have fnd0 : H nd = none := free_of (free_of fnd)
    have fsl0 : H sl = none := free_of (free_of fsl)
    refine ⟨_, rfl, r, dx, _, rfl, R1.o, rfl, _, rfl, p, _, 3, _, rfl, rfl, t1.t _ _ hp1, rfl, Nat.zero_le _, fun e0 fe0 => ?_⟩
    have s2 : Same H1 (upd H1 e0 (.tup [])) := same_new fe0
    have t2 := same_tk (K := K) (s1.trans s2)
    refine ⟨r, dx, p, nd, pa, sl, rw_, e0, d, ps, rfl, R1.keep fun q _ o e => upd_new e fe0, hp.tk t2, hR.tk t2, (same_tk s2).t _ _ hpa, np, sqT_new, fun H2 z b c st k2 hz R2 => ?_⟩
    have s3 : Same H H2 := Keep.fresh (s1.trans s2) k2 (by simp [fnd0, fsl0])
    have t3 := same_tk (K := K) s3
    refine ⟨_, rfl, r, C, dx, _, _, rfl, R2.o, T.cl, T.nO, rfl, false, rfl, iteF ?_⟩
    refine ⟨_, rfl, r, C, dx, _, _, rfl, R2.o, T.cl, T.nS, rfl, ?_⟩
    refine ⟨_, rfl, p, _, 1, _, rfl, rfl, t3.t _ _ hp1, rfl, nm, rfl, ⟨_, (hn.tk t3).sq⟩, fun D fD => ?_⟩
    obtain ⟨on, en, dn⟩ := hn.tk t3
    have nmD : nm ≠ D := ne_of_none en fD
    have kR : ∀ {H'}, Keep [D] H2 H' → RunAt C H' r dx p nd pa sl z b c st := fun kp => R2.keep fun q _ o e => kp q o (fun m => by
      cases List.mem_singleton.mp m
      rw [fD] at e
      cases e) e
    refine lc_it (walk_tup (K := K) (a := nm) (xs := [.str "a", .str "b", .str "c"])) (fun i H' => Keep [D] H2 H' ∧ H' D = some (.lst (([.int z, .int b, .int c] : List V).take i)))
      ⟨keep_new fD, upd_same⟩ (fun i H' _ q => .inl (.inr ⟨on, q.1 _ _ (by simpa using nmD) en⟩)) (fun i x H4 H5 hi q y => ?_) (fun H4 q => ?_)
    · obtain ⟨kp, eD⟩ := q
      obtain ⟨rfl, ex⟩ := y
      have R4 := kR kp
      have turn : ∀ (k : Str) (v : V), x = .str k → valV (nd3 z b c) (Sum.inr k : Key) = some v → ([.int z, .int b, .int c] : List V)[i]? = some v → (wipe [some (V.ref p), some (V.ref s), some (V.int 40), some (V.ref r), none] [4]).set 4 (some x) = [some (V.ref p), some (V.ref s), some (V.int 40), some (V.ref r), some x] ∧
          DGet H5 nd x (some v) ∧ Keep [D] H2 (upd H5 D (.lst (([.int z, .int b, .int c] : List V).take i ++ [v]))) ∧ upd H5 D (.lst (([.int z, .int b, .int c] : List V).take i ++ [v])) D = some (.lst (([.int z, .int b, .int c] : List V).take (i + 1))) := by
        rintro k v rfl ev hv
        refine ⟨rfl, ?_, kp.trans (keep_wr (by simp)), ?_⟩
        · rw [← ev]
          exact DGet.k (k := Sum.inr k) R4.n
        · rw [upd_same, List.take_add_one, hv]
          rfl
      have i3 : i = 0 ∨ i = 1 ∨ i = 2 := by
        have : i < 3 := hi
        omega
      have small : (([.int z, .int b, .int c] : List V).take i).length < sizeLine := by
        rw [List.length_take]
        exact Nat.lt_of_le_of_lt (Nat.min_le_left _ _) (small1000 (by omega))
      rcases i3 with rfl | rfl | rfl
      · cases Option.some.inj ex
        obtain ⟨_, g1, g2, g3⟩ := turn "a" _ rfl rfl rfl
        refine ⟨rfl, ?_⟩
        exact ⟨_, rfl, r, C, dx, _, _, rfl, R4.o, T.cl, T.nN, rfl, _, rfl, nd, _, rfl, g1, _, eD, small, g2, g3⟩
      · cases Option.some.inj ex
        obtain ⟨_, g1, g2, g3⟩ := turn "b" _ rfl rfl rfl
        refine ⟨rfl, ?_⟩
        exact ⟨_, rfl, r, C, dx, _, _, rfl, R4.o, T.cl, T.nN, rfl, _, rfl, nd, _, rfl, g1, _, eD, small, g2, g3⟩
      · cases Option.some.inj ex
        obtain ⟨_, g1, g2, g3⟩ := turn "c" _ rfl rfl rfl
        refine ⟨rfl, ?_⟩
        exact ⟨_, rfl, r, C, dx, _, _, rfl, R4.o, T.cl, T.nN, rfl, _, rfl, nd, _, rfl, g1, _, eD, small, g2, g3⟩
    · obtain ⟨kp, eD⟩ := q
      refine ⟨D, _, rfl, .inl ⟨SqL.of eD, fun nt fnt => ⟨(by show 2 ≤ sizeLine; decide), fun t ft => ?_⟩⟩⟩
      have s4 : Same H H4 := Keep.fresh s3 kp (by simpa using s3.free fD)
      exact k _ t sl nt z b c (s4.trans ((same_new fnt).trans (same_new ft))) upd_same (upd_new upd_same ft) hz
theorem scMark : FnScope ["plan", "stand", "most", "end"] ["plan", "stand", "most"] (defScope sMark) := ⟨rfl, rfl, rfl, by decide +kernel, rfl, by decide +kernel, by decide +kernel⟩
theorem ok_mark {f fR : Addr} {fd fdR : FuncData} {C : Addr} (F : Fun K "mark" "mark" sMark f fd) (T : RTxt K mg C) (R : RFns K C) (FR : Fun K "run" "run" sRun fR fdR) (bR : Binds K fdR ["plan", "stand", "most"] []) (gR : mg "run" = some (.ref fR)) :
    FnOk P w K mg base CX0 4 f fd ["plan", "stand", "most"] (spMark K) := by
  have GR : FnOk P w K mg base CX0 3 fR fdR ["plan", "stand", "most"] (spRun K) := ok_run FR T R
  refine F.ok scMark (fun vs H Q E h => ?_) (fun cdv A outer s H vs Q E hr h => ?_)
  · obtain ⟨p, s, d, ps, rfl, _⟩ := h
    rfl
  · obtain ⟨p, s, d, ps, rfl, hp, hs, np, k⟩ := h
    refine ⟨_, pss_cons (ps_set (i := 3) scMark.nd rfl (Or.inl rfl) (pe_ix ix_tup (pe_call GR hr (by rfl) gR FR.kp bR .nil pass0 (pa_cons (pv 0) (pa_cons (pv 1) (pa_cons (pv 2) pa_nil)))) pe_int (fun _ _ => rfl)))
      (pss_cons (ps_if (pt_cmp (pc_isN (pv 3))) pss_never pss_nil)
      (pss_one (ps_ret (pe_ix ix_tup (pv 3) (pe_tidx (pe_ix ix_tup (pv 0) pe_int (fun _ _ => rfl)) (pe_ix ix_tup (pv 0) pe_int (fun _ _ => rfl))) (fun _ _ => rfl))))), ?_⟩
    refine ⟨_, rfl, _, rfl, _, rfl, p, s, d, ps, rfl, hp, hs, np, fun H1 t sl nt z b c s1 ht hnt hz => ?_⟩
    refine ⟨t, _, 1, _, rfl, rfl, SqT.of ht, rfl, ?_⟩
    refine ⟨_, rfl, false, rfl, iteF ?_⟩
    obtain ⟨nm, rw_, hp1, hn, hR, ok⟩ := hp.tk (same_tk s1)
    obtain ⟨on, en, dn⟩ := hn
    refine ⟨_, rfl, _, rfl, p, _, 1, _, rfl, rfl, hp1, rfl, nm, on, ["a", "b", "c"], rfl, en, dn, _, rfl, p, _, 4, _, rfl, rfl, hp1, rfl, "a", 0, rfl, .inl (.inr ⟨on, en⟩), rfl, fun m hm => by omega, ?_⟩
    exact ⟨nt, _, 0, _, rfl, rfl, SqT.of hnt, rfl, k H1 z s1 hz⟩
end
end K67
/-! marks, stand_with, verdict_by, verdict, unlike_things. -/
namespace K67
open PySem PySem.Spec PyProof.Rows L2
def mixOf (n : Nat) (so fa ns : List Int) : List Int := (List.range n).map fun i => if ((i : Nat) : Int) ∈ ns then fa.getD i 0 else so.getD i 0
def verd (g : Nat) (ns : List Int) : Str := if (g : Int) ∈ ns then "faulty" else "sound"
def spMarks (K : PySem.W.Frag) : Sp := fun vs H Q _ => ∃ c d so fa, vs = [.ref c] ∧ CaseAt K H c d so fa ∧ ∀ (H' : Hp) (t : Addr) (x y : Int), Same H H' → H t = none → H' t = some (.tup [.int x, .int y]) → so[d.g]? = some x → fa[d.g]? = some y → x ≠ y → Q (.ref t) H'
def spStand (K : PySem.W.Frag) : Sp := fun vs H Q _ => ∃ p s f m d so fa ns, vs = [.ref p, .ref s, .ref f, .ref m] ∧ PlanAt K H p d ∧ StandAt K H s so ∧ StandAt K H f fa ∧ SqL K H m (iv ns) ∧ Two d so fa ∧
  ∀ H' t, Same H H' → StandAt K H' t (mixOf d.n so fa ns) → Q (.ref t) H'
def spVB (K : PySem.W.Frag) : Sp := fun vs H Q _ => ∃ t x y z, vs = [.ref t, .int z] ∧ SqT K H t [.int x, .int y] ∧ x ≠ y ∧ ((z = x ∧ Q (.str "sound") H) ∨ (z = y ∧ Q (.str "faulty") H))
def spVerdict (K : PySem.W.Frag) : Sp := fun vs H Q _ => ∃ c m d so fa ns, vs = [.ref c, .ref m] ∧ CaseAt K H c d so fa ∧ SqL K H m (iv ns) ∧ ∀ H', Same H H' → Q (.str (verd d.g ns)) H'
def spUT (K : PySem.W.Frag) : Sp := fun vs H Q _ => ∃ c d so fa, vs = [.ref c] ∧ CaseAt K H c d so fa ∧ ∀ H' l, Same H H' → H l = none → H' l = some (.lst (iv (rg 0 d.n))) → Q (.ref l) H'
theorem inV_iv (z : Int) : ∀ ns : List Int, inV (.int z) (iv ns) = decide (z ∈ ns)
  | [] => by simp [inV]
  | x :: ns => by
    have ih := inV_iv z ns
    unfold inV at ih ⊢
    show ((x == z) || (iv ns).any fun y => eqV y (.int z)) = _
    rw [ih]
    by_cases h : z = x
    · subst h
      simp
    · have h' : ¬ x = z := fun e => h e.symm
      simp [h, h']
theorem inV_str (x : Str) : ∀ ns : List Int, inV (.str x) (iv ns) = false
  | [] => rfl
  | y :: ns => by
    have ih := inV_str x ns
    unfold inV at ih ⊢
    show (false || (iv ns).any fun y => eqV y (.str x)) = false
    rw [ih]
    rfl
theorem iv_flat (ns : List Int) : (iv ns).all flatV = true := by
  rw [List.all_eq_true]
  intro v hv
  obtain ⟨z, _, rfl⟩ := List.mem_map.mp hv
  rfl
theorem mixOf_ok {d : PD} {so fa : List Int} (tw : Two d so fa) (ns : List Int) : NumsOk d (mixOf d.n so fa ns) := by
  refine ⟨by unfold mixOf; rw [List.length_map, List.length_range], fun z hz => ?_⟩
  unfold mixOf at hz
  obtain ⟨i, hi, rfl⟩ := List.mem_map.mp hz
  have hi' := List.mem_range.mp hi
  have get : ∀ {l : List Int}, NumsOk d l → 0 ≤ l.getD i 0 ∧ l.getD i 0 < d.W := fun {l} ok => by
    have lt : i < l.length := by
      rw [ok.len]
      exact hi'
    rw [List.getD_eq_getElem?_getD, List.getElem?_eq_getElem lt]
    exact ok.lo _ (List.getElem_mem lt)
  split
  · exact get tw.f
  · exact get tw.s
theorem mixOf_get {n i : Nat} {so fa ns : List Int} {x y : Int} (h : i < n) (hx : so[i]? = some x) (hy : fa[i]? = some y) : (mixOf n so fa ns)[i]? = some (if ((i : Nat) : Int) ∈ ns then y else x) := by
  unfold mixOf
  rw [List.getElem?_map, List.getElem?_range h]
  show some (if ((i : Nat) : Int) ∈ ns then fa.getD i 0 else so.getD i 0) = _
  rw [List.getD_eq_getElem?_getD, List.getD_eq_getElem?_getD, hx, hy]
  rfl
section
variable {P : Program} {w : World} {K : PySem.W.Frag} {mg : Str → Option Value} {base : Heap}
theorem scMarks : FnScope ["case", "plan", "sound", "faulty", "most", "found"] ["case"] (defScope sMarks) := ⟨rfl, rfl, rfl, by decide +kernel, rfl, by decide +kernel, by decide +kernel⟩
theorem ok_marks {f fM : Addr} {fd fdM : FuncData} (F : Fun K "marks" "marks" sMarks f fd) (GM : FnOk P w K mg base CX0 4 fM fdM ["plan", "stand", "most"] (spMark K)) (FM : Fun K "mark" "mark" sMark fM fdM) (bM : Binds K fdM ["plan", "stand", "most"] []) (gM : mg "mark" = some (.ref fM)) :
    FnOk P w K mg base CX0 5 f fd ["case"] (spMarks K) := by
  refine F.ok scMarks (fun vs H Q E h => ?_) (fun cdv A outer s H vs Q E hr h => ?_)
  · obtain ⟨c, d, so, fa, rfl, _⟩ := h
    rfl
  · obtain ⟨c, d, so, fa, rfl, ⟨p, s, f, hc, hp, hs, hf, tw⟩, k⟩ := h
    refine ⟨_, pss_cons (ps_asg (pv 0) (pg_tup rfl (pgs_cons (pg_name (i := 1) scMarks.nd rfl (Or.inl rfl)) (pgs_cons (pg_name (i := 2) scMarks.nd rfl (Or.inl rfl)) (pgs_cons (pg_name (i := 3) scMarks.nd rfl (Or.inl rfl)) (pgs_cons (pg_name (i := 4) scMarks.nd rfl (Or.inl rfl)) pgs_nil))))))
      (pss_cons (ps_set (i := 5) scMarks.nd rfl (Or.inl rfl) (pe_tup (pa_cons (pe_call GM hr (by rfl) gM FM.kp bM .nil pass0 (pa_cons (pv 1) (pa_cons (pv 2) (pa_cons (pv 4) pa_nil)))) (pa_cons (pe_call GM hr (by rfl) gM FM.kp bM .nil pass0 (pa_cons (pv 1) (pa_cons (pv 3) (pa_cons (pv 4) pa_nil)))) pa_nil))))
      (pss_cons (ps_if (PW.pt (pw_or (pt_cmp (pc_isN (pe_ix ix_tup (pv 5) pe_int (fun _ _ => rfl)))) (pw_or (pt_cmp (pc_isN (pe_ix ix_tup (pv 5) pe_int (fun _ _ => rfl))))
        (pw_or1 (pt_cmpR op_eq (pe_ix ix_tup (pv 5) pe_int (fun _ _ => rfl)) (pe_ix ix_tup (pv 5) pe_int (fun _ _ => rfl)) (nomark _)))))) pss_never pss_nil)
      (pss_one (ps_ret (pv 5))))), ?_⟩
    refine ⟨_, rfl, c, _, rfl, hc, rfl, _, _, rfl, _, _, rfl, _, _, rfl, _, _, rfl, rfl, ?_⟩
    refine ⟨_, rfl, _, rfl, _, rfl, p, s, d, so, rfl, hp, hs, tw.s, fun H1 x s1 hx => ?_⟩
    have t1 := same_tk (K := K) s1
    refine ⟨_, rfl, _, rfl, _, rfl, p, f, d, fa, rfl, hp.tk t1, hf.tk t1, tw.f, fun H2 y s2 hy => ⟨(by show 2 ≤ sizeLine; decide), fun t ft => ?_⟩⟩
    have ne := tw.ne d.g x y hx hy
    have ht : SqT K (upd H2 t (.tup [.int x, .int y])) t [.int x, .int y] := sqT_new
    refine ⟨_, rfl, t, _, 0, _, rfl, rfl, ht, rfl, false, rfl, iteF ?_⟩
    refine ⟨_, rfl, t, _, 1, _, rfl, rfl, ht, rfl, false, rfl, iteF ?_⟩
    refine ⟨_, rfl, t, _, 0, _, rfl, rfl, ht, rfl, _, rfl, t, _, 1, _, rfl, rfl, ht, rfl, rfl, _, rfl, ?_⟩
    rw [decide_eq_false (fun z => ne (V.int.inj z))]
    refine iteF ⟨_, rfl, ?_⟩
    exact k _ t x y ((s1.trans s2).trans (same_new ft)) ((s1.trans s2).free ft) upd_same hx hy ne
theorem scVB : FnScope ["both", "number"] ["both", "number"] (defScope sVerdictBy) := ⟨rfl, rfl, rfl, by decide +kernel, rfl, by decide +kernel, by decide +kernel⟩
theorem ok_vb {f : Addr} {fd : FuncData} (F : Fun K "verdict_by" "verdict_by" sVerdictBy f fd) : FnOk P w K mg base CX0 1 f fd ["both", "number"] (spVB K) := by
  refine F.ok scVB (fun vs H Q E h => ?_) (fun cdv A outer s H vs Q E hr h => ?_)
  · obtain ⟨t, x, y, z, rfl, _⟩ := h
    rfl
  · obtain ⟨t, x, y, z, rfl, ht, ne, k⟩ := h
    refine ⟨_, pss_cons (ps_if (pt_cmpR op_eq (pv 1) (pe_ix ix_tup (pv 0) pe_int (fun _ _ => rfl)) (nomark _)) (pss_one (ps_ret pe_str)) pss_nil)
      (pss_cons (ps_if (pt_cmpR op_eq (pv 1) (pe_ix ix_tup (pv 0) pe_int (fun _ _ => rfl)) (nomark _)) (pss_one (ps_ret pe_str)) pss_nil)
      (pss_one (ps_ret pe_str))), ?_⟩
    refine ⟨_, rfl, _, rfl, t, _, 0, _, rfl, rfl, ht, rfl, rfl, _, rfl, ?_⟩
    rcases k with ⟨rfl, q⟩ | ⟨rfl, q⟩
    · rw [decide_eq_true rfl]
      exact iteT q
    · rw [decide_eq_false (fun e => ne (V.int.inj e).symm)]
      refine iteF ⟨_, rfl, _, rfl, t, _, 1, _, rfl, rfl, ht, rfl, rfl, _, rfl, ?_⟩
      rw [decide_eq_true rfl]
      exact iteT q
theorem scUT : FnScope ["case"] ["case"] (defScope sUnlikeThings) := ⟨rfl, rfl, rfl, by decide +kernel, rfl, by decide +kernel, by decide +kernel⟩
theorem ok_ut {f fU : Addr} {fd fdU : FuncData} (F : Fun K "unlike_things" "unlike_things" sUnlikeThings f fd) (GU : FnOk P w K mg base CX0 2 fU fdU ["plan", "one", "other"] (spUnlike K)) (FU : Fun K "unlike" "unlike" sUnlike fU fdU) (bU : Binds K fdU ["plan", "one", "other"] []) (gU : mg "unlike" = some (.ref fU)) :
    FnOk P w K mg base CX0 3 f fd ["case"] (spUT K) := by
  refine F.ok scUT (fun vs H Q E h => ?_) (fun cdv A outer s H vs Q E hr h => ?_)
  · obtain ⟨c, d, so, fa, rfl, _⟩ := h
    rfl
  · obtain ⟨c, d, so, fa, rfl, ⟨p, s, f, hc, hp, hs, hf, tw⟩, k⟩ := h
    refine ⟨_, pss_one (ps_ret (pe_call GU hr (by rfl) gU FU.kp bU .nil pass0 (pa_cons (pe_ix ix_tup (pv 0) pe_int (fun _ _ => rfl)) (pa_cons (pe_ix ix_tup (pv 0) pe_int (fun _ _ => rfl)) (pa_cons (pe_ix ix_tup (pv 0) pe_int (fun _ _ => rfl)) pa_nil))))), ?_⟩
    exact ⟨_, rfl, c, _, 0, _, rfl, rfl, hc, rfl, _, rfl, c, _, 1, _, rfl, rfl, hc, rfl, _, rfl, c, _, 2, _, rfl, rfl, hc, rfl, p, s, f, d, so, fa, rfl, hp, hs, hf, tw, k⟩
end
end K67
/-! stand_with, verdict. -/
namespace K67
open PySem PySem.Spec PyProof.Rows L2
section
variable {P : Program} {w : World} {K : PySem.W.Frag} {mg : Str → Option Value} {base : Heap}
theorem scStand : FnScope ["plan", "sound", "faulty", "some", "numbers", "at", "name", "pieces"] ["plan", "sound", "faulty", "some"] (defScope sStand) := ⟨rfl, rfl, rfl, by decide +kernel, rfl, by decide +kernel, by decide +kernel⟩
theorem ok_stand {f : Addr} {fd : FuncData} (F : Fun K "stand_with" "stand_with" sStand f fd) (mE : mg "enumerate" = none) (mR : mg "range" = none) (mT : mg "tuple" = none) :
    FnOk P w K mg base CX0 1 f fd ["plan", "sound", "faulty", "some"] (spStand K) := by
  refine F.ok scStand (fun vs H Q E h => ?_) (fun cdv A outer s H vs Q E hr h => ?_)
  · obtain ⟨p, s, f, m, d, so, fa, ns, rfl, _⟩ := h
    rfl
  · obtain ⟨p, s, f, m, d, so, fa, ns, rfl, ⟨nm, rw_, hp, hn, hR, ok⟩, ⟨na, pa, hs, hna, hpa⟩, ⟨nb, pb, hf, hnb, hpb⟩, hm, tw, k⟩ := h
    refine ⟨_, pss_cons (ps_set (i := 4) scStand.nd rfl (Or.inl rfl) (pe_lst pa_nil))
      (pss_cons (ps_for PassesOwn.never rfl (pi_enumT (by rfl) mE (pa_cons (pe_ix ix_tup (pv 0) pe_int (fun _ _ => rfl)) pa_nil))
        (pg_tup rfl (pgs_cons (pg_name (i := 5) scStand.nd rfl (Or.inl rfl)) (pgs_cons (pg_name (i := 6) scStand.nd rfl (Or.inl rfl)) pgs_nil)))
        (pss_one (ps_expr (pe_bm PySem.F.plainAttrs_list PySem.F.slot_list_append PySem.F.type_list_append mt_append (pv 4) (pa_cons
          (pe_ifExp (pt_cmpR op_in_seq (pv 6) (pv 3) rfl) (pe_ix ix_tup (pe_ix ix_tup (pv 2) pe_int (fun _ _ => rfl)) (pv 5) (fun _ _ => rfl)) (pe_ix ix_tup (pe_ix ix_tup (pv 1) pe_int (fun _ _ => rfl)) (pv 5) (fun _ _ => rfl))) pa_nil)))))
      (pss_cons (ps_setLc (i := 7) (own := [("at", 5)]) (g := gName 5) (tt := tYes)
        (te := tIf (tTest (tOp (rIn K false) (tVar 5) (tVar 3))) (tOp (rIxT K) (tOp (rIxT K) (tVar 2) (tC (.int 1))) (tVar 5)) (tOp (rIxT K) (tOp (rIxT K) (tVar 1) (tC (.int 1))) (tVar 5)))
        (by rfl) scStand.nd rfl rfl (sw_true rfl rfl rfl (by decide +kernel)) (pi_range1 (by rfl) mR (pa_cons (pe_ix ix_tup (pv 0) pe_int (fun _ _ => rfl)) pa_nil))
        (blkOk_by (own := [("at", 5)]) (N := ["plan", "sound", "faulty", "some", "numbers", "at", "name", "pieces"]) (sc := defScope sStand) (by decide +kernel))
        (fun _ _ _ _ _ => pg_name (i := 5) scStand.nd rfl (Or.inl rfl)) (fun _ _ _ _ _ => pts_nil)
        (fun _ _ _ _ _ => pe_ifExp (pt_cmpR op_in_seq (pv 5) (pv 3) rfl) (pe_ix ix_tup (pe_ix ix_tup (pv 2) pe_int (fun _ _ => rfl)) (pv 5) (fun _ _ => rfl)) (pe_ix ix_tup (pe_ix ix_tup (pv 1) pe_int (fun _ _ => rfl)) (pv 5) (fun _ _ => rfl))))
      (pss_one (ps_ret (pe_tup (pa_cons (pe_callTy call_tuple_of (by rfl) mT PyProof.Rows.boot_tuple (pa_cons (pv 4) pa_nil)) (pa_cons (pe_callTy call_tuple_of (by rfl) mT PyProof.Rows.boot_tuple (pa_cons (pv 7) pa_nil)) pa_nil))))))), ?_⟩
    -- numbers = []
    refine ⟨Nat.zero_le _, fun l fl => ?_⟩
    have s1 : Same H (upd H l (.lst [])) := same_new fl
    have t1 := same_tk (K := K) s1
    refine ⟨_, rfl, p, _, 1, _, rfl, rfl, t1.t _ _ hp, rfl, nm, _, rfl, (hn.tk t1).sq, for_enumT (K := K) (a := nm) (xs := [.str "a", .str "b", .str "c"])
      (fun i σ H' => ∃ y5 y6, σ = [some (.ref p), some (.ref s), some (.ref f), some (.ref m), some (.ref l), y5, y6, none] ∧ Same H H' ∧ H' l = some (.lst (([.int 0, .int 0, .int 0] : List V).take i)))
      ⟨none, none, rfl, s1, upd_same⟩ ?_ ?_ ?_⟩
    · rintro i σ H' _ ⟨y5, y6, rfl, s2, _⟩
      exact (hn.tk (same_tk (K := K) s2)).sq
    · rintro i x t σ H' hi ⟨y5, y6, rfl, s2, el⟩ ft
      have s3 : Same H (upd H' t (.tup [.int (i : Nat), x])) := s2.trans (same_new ft)
      have t3 := same_tk (K := K) s3
      refine ⟨t, _, rfl, sqT_new, rfl, _, _, rfl, _, _, rfl, rfl, ?_⟩
      obtain ⟨z, rfl⟩ : ∃ z, x = V.str z := by
        have : i < 3 := (List.getElem?_eq_some_iff.mp hi).1
        rcases (show i = 0 ∨ i = 1 ∨ i = 2 by omega) with rfl | rfl | rfl <;> exact ⟨_, (Option.some.inj hi).symm⟩
      have i3 : i < 3 := (List.getElem?_eq_some_iff.mp hi).1
      have g0 : ([.int 0, .int 0, .int 0] : List V)[i]? = some (.int 0) := by
        rcases (show i = 0 ∨ i = 1 ∨ i = 2 by omega) with rfl | rfl | rfl <;> rfl
      refine ⟨_, rfl, .inl ⟨rfl, _, SqL.of (upd_new el ft)⟩, _, rfl, _, rfl, m, iv ns, rfl, .inl (s3.seq hm), rfl, iv_flat ns, ?_⟩
      refine ⟨_, rfl, ?_⟩
      rw [inV_str]
      refine iteF ?_
      refine ⟨_, rfl, s, _, 0, _, rfl, rfl, t3.t _ _ hs, rfl, _, rfl, na, _, i, _, rfl, rfl, t3.t _ _ hna, atI_nat g0, ?_⟩
      refine ⟨l, _, _, rfl, rfl, upd_new el ft, ?_, ?_⟩
      · rw [List.length_take]
        exact Nat.lt_of_le_of_lt (Nat.min_le_left _ _) (small1000 (by omega))
      · refine ⟨_, _, rfl, fun b o e => ?_, ?_⟩
        · exact upd_at (s3 _ _ e) (ne_of_none e fl)
        · rw [upd_same, List.take_add_one, g0]
          rfl
    · rintro σ H' ⟨y5, y6, rfl, s2, el⟩
      have t2 := same_tk (K := K) s2
      have el' : H' l = some (.lst [.int 0, .int 0, .int 0]) := el
      have n4 := ok.n4
      refine ⟨_, rfl, p, _, 2, _, rfl, rfl, t2.t _ _ hp, rfl, _, rfl, (by omega), (by omega), fun D fD => ?_⟩
      have nl : l ≠ D := ne_of_none el' fD
      have mlen : (mixOf d.n so fa ns).length = d.n := (mixOf_ok tw ns).len
      refine lc_range (lo := 0) (n := d.n) (fun i H2 => Keep [D] H' H2 ∧ H2 D = some (.lst (iv ((mixOf d.n so fa ns).take i)))) ⟨keep_new fD, upd_same⟩ (fun i H2 hi q => ?_) (fun H2 q => ?_)
      · obtain ⟨kp, eD⟩ := q
        have s3 : Same H H2 := Keep.fresh s2 kp (by simpa using s2.free fD)
        have t3 := same_tk (K := K) s3
        obtain ⟨x, hx⟩ : ∃ x, so[i]? = some x := ⟨_, List.getElem?_eq_getElem (by rw [tw.s.len]; exact hi)⟩
        obtain ⟨y, hy⟩ : ∃ y, fa[i]? = some y := ⟨_, List.getElem?_eq_getElem (by rw [tw.f.len]; exact hi)⟩
        have hz := mixOf_get (ns := ns) hi hx hy
        have fin : ∀ z : Int, (mixOf d.n so fa ns)[i]? = some z → ∃ acc, H2 D = some (.lst acc) ∧ acc.length < sizeLine ∧ Keep [D] H' (upd H2 D (.lst (acc ++ [.int z]))) ∧ upd H2 D (.lst (acc ++ [.int z])) D = some (.lst (iv ((mixOf d.n so fa ns).take (i + 1)))) := fun z ez => by
          refine ⟨_, eD, ?_, kp.trans (keep_wr (by simp)), ?_⟩
          · rw [iv_len, List.length_take]
            exact Nat.lt_of_le_of_lt (Nat.min_le_left _ _) (small1000 (by omega))
          · rw [upd_same, List.take_add_one, ez]
            rw [show (some z).toList = [z] from rfl, iv_snoc]
        refine ⟨rfl, ?_⟩
        refine ⟨_, rfl, _, rfl, m, iv ns, rfl, .inl (s3.seq hm), rfl, iv_flat ns, _, rfl, ?_⟩
        rw [Int.zero_add, inV_iv]
        by_cases hin : ((i : Nat) : Int) ∈ ns
        · rw [decide_eq_true hin]
          rw [if_pos hin] at hz
          refine iteT ?_
          exact ⟨_, rfl, f, _, 1, _, rfl, rfl, t3.t _ _ hf, rfl, _, rfl, pb, _, i, _, rfl, rfl, t3.t _ _ hpb, atI_nat (iv_at hy), fin y hz⟩
        · rw [decide_eq_false hin]
          rw [if_neg hin] at hz
          refine iteF ?_
          exact ⟨_, rfl, s, _, 1, _, rfl, rfl, t3.t _ _ hs, rfl, _, rfl, pa, _, i, _, rfl, rfl, t3.t _ _ hpa, atI_nat (iv_at hx), fin x hz⟩
      · obtain ⟨kp, eD⟩ := q
        rw [List.take_of_length_le (by rw [mlen]; exact Nat.le_refl _)] at eD
        have s3 : Same H H2 := Keep.fresh s2 kp (by simpa using s2.free fD)
        have el2 : H2 l = some (.lst [.int 0, .int 0, .int 0]) := kp _ _ (by simpa using nl) el'
        refine ⟨_, rfl, l, _, rfl, .inl ⟨SqL.of el2, fun a fa_ => ?_⟩⟩
        refine ⟨_, rfl, D, _, rfl, .inl ⟨SqL.of (upd_new eD fa_), fun b fb => ⟨(by show 2 ≤ sizeLine; decide), fun t ft => ?_⟩⟩⟩
        exact k _ t (s3.trans ((same_new fa_).trans ((same_new fb).trans (same_new ft)))) ⟨a, b, sqT_new, SqT.of (upd_new (upd_new upd_same fb) ft), SqT.of (upd_new upd_same ft)⟩
theorem scVerdict : FnScope ["case", "mix", "both"] ["case", "mix"] (defScope sVerdict) := ⟨rfl, rfl, rfl, by decide +kernel, rfl, by decide +kernel, by decide +kernel⟩
theorem ok_verdict {f fM fK fS fV : Addr} {fd fdM fdK fdS fdV : FuncData} (F : Fun K "verdict" "verdict" sVerdict f fd)
    (GM : FnOk P w K mg base CX0 5 fM fdM ["case"] (spMarks K)) (FM : Fun K "marks" "marks" sMarks fM fdM) (bM : Binds K fdM ["case"] []) (gM : mg "marks" = some (.ref fM))
    (GK : FnOk P w K mg base CX0 4 fK fdK ["plan", "stand", "most"] (spMark K)) (FK : Fun K "mark" "mark" sMark fK fdK) (bK : Binds K fdK ["plan", "stand", "most"] []) (gK : mg "mark" = some (.ref fK))
    (GS : FnOk P w K mg base CX0 1 fS fdS ["plan", "sound", "faulty", "some"] (spStand K)) (FS : Fun K "stand_with" "stand_with" sStand fS fdS) (bS : Binds K fdS ["plan", "sound", "faulty", "some"] []) (gS : mg "stand_with" = some (.ref fS))
    (GV : FnOk P w K mg base CX0 1 fV fdV ["both", "number"] (spVB K)) (FV : Fun K "verdict_by" "verdict_by" sVerdictBy fV fdV) (bV : Binds K fdV ["both", "number"] []) (gV : mg "verdict_by" = some (.ref fV)) :
    FnOk P w K mg base CX0 6 f fd ["case", "mix"] (spVerdict K) := by
  refine F.ok scVerdict (fun vs H Q E h => ?_) (fun cdv A outer s H vs Q E hr h => ?_)
  · obtain ⟨c, m, d, so, fa, ns, rfl, _⟩ := h
    rfl
  · obtain ⟨c, m, d, so, fa, ns, rfl, hC, hm, k⟩ := h
    refine ⟨_, pss_cons (ps_set (i := 2) scVerdict.nd rfl (Or.inl rfl) (pe_call GM hr (by rfl) gM FM.kp bM .nil pass0 (pa_cons (pv 0) pa_nil)))
      (pss_one (ps_ret (pe_call GV (hr.mono (by decide)) (by rfl) gV FV.kp bV .nil pass0 (pa_cons (pv 2) (pa_cons
        (pe_call GK (hr.mono (by decide)) (by rfl) gK FK.kp bK .nil pass0 (pa_cons (pe_ix ix_tup (pv 0) pe_int (fun _ _ => rfl)) (pa_cons
          (pe_call GS (hr.mono (by decide)) (by rfl) gS FS.kp bS .nil pass0 (pa_cons (pe_ix ix_tup (pv 0) pe_int (fun _ _ => rfl)) (pa_cons (pe_ix ix_tup (pv 0) pe_int (fun _ _ => rfl)) (pa_cons (pe_ix ix_tup (pv 0) pe_int (fun _ _ => rfl)) (pa_cons (pv 1) pa_nil)))))
          (pa_cons (pe_ix ix_tup (pv 0) pe_int (fun _ _ => rfl)) pa_nil)))) pa_nil))))), ?_⟩
    refine ⟨_, rfl, c, d, so, fa, rfl, hC, fun H1 t x y s1 _ ht hx hy ne => ?_⟩
    obtain ⟨p, s, f, hc, hp, hs, hf, tw⟩ := hC
    have t1 := same_tk (K := K) s1
    have hc1 := t1.t _ _ hc
    refine ⟨_, rfl, _, rfl, c, _, 0, _, rfl, rfl, hc1, rfl, _, rfl, c, _, 0, _, rfl, rfl, hc1, rfl, _, rfl, c, _, 1, _, rfl, rfl, hc1, rfl, _, rfl, c, _, 2, _, rfl, rfl, hc1, rfl, _, rfl, ?_⟩
    refine ⟨p, s, f, m, d, so, fa, ns, rfl, hp.tk t1, hs.tk t1, hf.tk t1, s1.seq hm, tw, fun H2 u s2 hu => ?_⟩
    have t2 := same_tk (K := K) s2
    refine ⟨_, rfl, c, _, 3, _, rfl, rfl, t2.t _ _ hc1, rfl, p, u, d, _, rfl, (hp.tk t1).tk t2, hu, mixOf_ok tw ns, fun H3 z s3 hz => ?_⟩
    have gn : d.g < d.n := by
      obtain ⟨_, _, _, _, _, ok⟩ := hp
      exact ok.gn
    have ez : z = if ((d.g : Nat) : Int) ∈ ns then y else x := Option.some.inj (hz.symm.trans (mixOf_get gn hx hy))
    refine ⟨t, x, y, z, rfl, SqT.of (s3 _ _ (s2 _ _ ht)), ne, ?_⟩
    have fin := k H3 (s1.trans (s2.trans s3))
    unfold verd at fin
    by_cases hin : ((d.g : Nat) : Int) ∈ ns
    · rw [if_pos hin] at ez fin
      exact .inr ⟨ez, fin⟩
    · rw [if_neg hin] at ez fin
      exact .inl ⟨ez, fin⟩
end
end K67
/-! The asker: __init__, is_cause. -/
namespace K67
open PySem PySem.Spec PyProof.Rows L2
def af (c d l : Addr) : List (Str × V) := [("case", .ref c), ("known", .ref d), ("askings", .ref l)]
def keyOf (m : List Int) : List Key := m.map Sum.inl
theorem key_iv (m : List Int) : (keyOf m).map kV = iv m := by
  unfold keyOf iv
  rw [List.map_map]
  rfl
theorem key_inj {a b : List Int} (h : keyOf a = keyOf b) : a = b := by
  have e := congrArg (List.map kV) h
  rw [key_iv, key_iv] at e
  exact List.map_inj_right (fun x y z => V.int.inj z) |>.mp e
def kvsOf (g : Nat) (A : List (List Int)) : List (List Key × V) := A.map fun m => (keyOf m, V.str (verd g m))
theorem valV_kvs (g : Nat) (m : List Int) : ∀ A : List (List Int), valV (kvsOf g A) (keyOf m) = if m ∈ A then some (.str (verd g m)) else none
  | [] => rfl
  | x :: A => by
    have ih := valV_kvs g m A
    by_cases h : x = m
    · subst h
      rw [if_pos List.mem_cons_self]
      exact valV_pos (p := (keyOf x, V.str (verd g x))) rfl
    · have e : valV (kvsOf g (x :: A)) (keyOf m) = valV (kvsOf g A) (keyOf m) := valV_neg (p := (keyOf x, V.str (verd g x))) fun z => h (key_inj z)
      rw [e, ih]
      by_cases hm : m ∈ A
      · rw [if_pos hm, if_pos (List.mem_cons_of_mem _ hm)]
      · rw [if_neg hm, if_neg fun z => (List.mem_cons.mp z).elim (fun q => h q.symm) hm]
theorem kvs_snoc (g : Nat) (A : List (List Int)) (m : List Int) : kvsOf g (A ++ [m]) = kvsOf g A ++ [(keyOf m, .str (verd g m))] := by
  unfold kvsOf
  rw [List.map_append]
  rfl
def EntryAt (H : Hp) (l : Addr) (g : Nat) (v : V) (m : List Int) : Prop := ∃ p q, v = .ref p ∧ H p = some (.tup [.ref q, .str (verd g m)]) ∧ H q = some (.lst (iv m)) ∧ q ≠ l
structure AskAt (C : Addr) (H : Hp) (x dx c d l : Addr) (g : Nat) (A : List (List Int)) : Prop where
  o : H x = some (.ins C dx (af c d l))
  k : H d = some (.dT (kvsOf g A))
  s : ∃ rvs, H l = some (.lst rvs) ∧ Paired (EntryAt H l g) rvs A
theorem AskAt.same {C : Addr} {H H' : Hp} {x dx c d l : Addr} {g : Nat} {A : List (List Int)} (a : AskAt C H x dx c d l g A) (s : Same H H') : AskAt C H' x dx c d l g A := by
  obtain ⟨rvs, e, p⟩ := a.s
  exact ⟨s _ _ a.o, s _ _ a.k, rvs, s _ _ e, Paired.mapP p fun v m ⟨p, q, ev, e1, e2, n⟩ => ⟨p, q, ev, s _ _ e1, s _ _ e2, n⟩⟩
structure ATxt (K : PySem.W.Frag) (mg : Str → Option Value) (C : Addr) : Prop where
  cl : Cls K C
  nC : NoAttr K C "case"
  nK : NoAttr K C "known"
  nA : NoAttr K C "askings"
  mgC : mg "Asker" = some (.ref C)
  tuple : mg "tuple" = none
  list : mg "list" = none
  len : mg "len" = none
  range : mg "range" = none
def spAInit (C : Addr) : Sp := fun vs H Q _ => ∃ x dx c, vs = [.ref x, .ref c] ∧ H x = some (.ins C dx []) ∧ ∀ H' d l, Keep [x] H H' → H d = none → H l = none → (∀ g, AskAt C H' x dx c d l g []) → Q .non H'
def spCause (K : PySem.W.Frag) (C : Addr) : Sp := fun vs H Q _ => ∃ x dx c d l dd so fa A m ms, vs = [.ref x, .ref m] ∧ AskAt C H x dx c d l dd.g A ∧ CaseAt K H c dd so fa ∧ H m = some (.lst (iv ms)) ∧ m ≠ l ∧ ms.length ≤ 1000 ∧ A.length ≤ 900 ∧
  ∀ H', Keep [d, l] H H' → AskAt C H' x dx c d l dd.g (addM A ms) → Q (.bl (decide ((dd.g : Int) ∈ ms))) H'
section
variable {P : Program} {w : World} {K : PySem.W.Frag} {mg : Str → Option Value} {base : Heap}
theorem scAInit : FnScope ["self", "case"] ["self", "case"] (defScope sAInit) := ⟨rfl, rfl, rfl, by decide +kernel, rfl, by decide +kernel, by decide +kernel⟩
theorem ok_ainit {f C : Addr} {fd : FuncData} (F : Fun K "__init__" "Asker.__init__" sAInit f fd) (T : ATxt K mg C) : FnOk P w K mg base CX0 1 f fd ["self", "case"] (spAInit C) := by
  refine F.ok scAInit (fun vs H Q E h => ?_) (fun cdv A outer s H vs Q E hr h => ?_)
  · obtain ⟨x, dx, c, rfl, _⟩ := h
    rfl
  · obtain ⟨x, dx, c, rfl, h0, k⟩ := h
    refine ⟨_, pss_cons (ps_fld (pv 0) (pv 1) rfl) (pss_cons (ps_fld (pv 0) pe_dnewT rfl) (pss_one (ps_fld (pv 0) (pe_lst pa_nil) rfl))), ?_⟩
    refine ⟨_, rfl, _, rfl, x, C, dx, [], rfl, h0, T.cl, T.nC, (by show 0 < 1000; decide), ?_⟩
    intro d fd_
    have xd : x ≠ d := (free_ne fd_).symm
    refine ⟨_, rfl, x, C, dx, _, rfl, upd_at upd_same xd, T.cl, T.nK, (by show 1 < 1000; decide), ?_⟩
    refine ⟨Nat.zero_le _, fun l fl => ?_⟩
    have xl : x ≠ l := (free_ne fl).symm
    refine ⟨_, rfl, x, C, dx, _, rfl, upd_at upd_same xl, T.cl, T.nA, (by show 2 < 1000; decide), ?_⟩
    have dl : d ≠ l := fun z => by
      have e := free_of fl
      rw [← z, upd_same] at e
      cases e
    refine k _ d l (((((keep_wr (by simp)).trans (keep_new (o := .dT []) fd_)).trans (keep_wr (p := x) (by simp))).trans (keep_new (o := .lst []) fl)).trans (keep_wr (p := x) (by simp))) (free_of fd_) (free_of (free_of (free_of fl))) fun g => ⟨upd_same, ?_, [], ?_, .nil⟩
    · rw [upd_ne xd.symm, upd_ne dl, upd_ne xd.symm, upd_same]
      rfl
    · rw [upd_ne xl.symm, upd_same]
theorem scCause : FnScope ["self", "mix", "told"] ["self", "mix"] (defScope sIsCause) := ⟨rfl, rfl, rfl, by decide +kernel, rfl, by decide +kernel, by decide +kernel⟩
theorem ok_cause {f C fV : Addr} {fd fdV : FuncData} (F : Fun K "is_cause" "Asker.is_cause" sIsCause f fd) (T : ATxt K mg C)
    (GV : FnOk P w K mg base CX0 6 fV fdV ["case", "mix"] (spVerdict K)) (FV : Fun K "verdict" "verdict" sVerdict fV fdV) (bV : Binds K fdV ["case", "mix"] []) (gV : mg "verdict" = some (.ref fV)) : FnOk P w K mg base CX0 7 f fd ["self", "mix"] (spCause K C) := by
  refine F.ok scCause (fun vs H Q E h => ?_) (fun cdv A outer s H vs Q E hr h => ?_)
  · obtain ⟨x, dx, c, d, l, dd, so, fa, A, m, ms, rfl, _⟩ := h
    rfl
  · obtain ⟨x, dx, c, d, l, dd, so, fa, A, m, ms, rfl, a, hC, hm, nml, hml, hlen, k⟩ := h
    have hu := hu_of hr
    refine ⟨_, pss_cons (ps_if (pt_cmp (pc_dnotin hu (pe_callTy call_tuple_of (by rfl) T.tuple PyProof.Rows.boot_tuple (pa_cons (pv 1) pa_nil)) (pe_fld (pv 0) rfl)))
        (pss_cons (ps_set (i := 2) scCause.nd rfl (Or.inl rfl) (pe_call GV hr (by rfl) gV FV.kp bV .nil pass0 (pa_cons (pe_fld (pv 0) rfl) (pa_cons (pv 1) pa_nil))))
        (pss_cons (ps_dput hu (pe_fld (pv 0) rfl) (pe_callTy call_tuple_of (by rfl) T.tuple PyProof.Rows.boot_tuple (pa_cons (pv 1) pa_nil)) (pv 2) rfl)
        (pss_one (ps_expr (pe_bm PySem.F.plainAttrs_list PySem.F.slot_list_append PySem.F.type_list_append mt_append (pe_fld (pv 0) rfl) (pa_cons (pe_tup (pa_cons (pe_callTy call_list_of (by rfl) T.list PyProof.Rows.boot_list (pa_cons (pv 1) pa_nil)) (pa_cons (pv 2) pa_nil))) pa_nil)))))) pss_nil)
      (pss_one (ps_ret (pe_cmpR op_eq (pe_dget hu (pe_fld (pv 0) rfl) (pe_callTy call_tuple_of (by rfl) T.tuple PyProof.Rows.boot_tuple (pa_cons (pv 1) pa_nil)) (fun _ _ => rfl)) pe_str (nomark _)))), ?_⟩
    obtain ⟨rvs, el, pr⟩ := a.s
    have nmd : m ≠ d := ne_of hm a.k (by intro z; cases z)
    have nld : l ≠ d := ne_of el a.k (by intro z; cases z)
    have nxd : x ≠ d := ne_of a.o a.k (by intro z; cases z)
    have nxl : x ≠ l := ne_of a.o el (by intro z; cases z)
    have isV : ∀ z : Bool, decide (V.str (verd dd.g ms) = V.str "faulty") = z → z = decide ((dd.g : Int) ∈ ms) := fun z e => by
      rw [← e]
      unfold verd
      by_cases h : (dd.g : Int) ∈ ms
      · rw [if_pos h, decide_eq_true h]
        exact decide_eq_true rfl
      · rw [if_neg h, decide_eq_false h]
        exact decide_eq_false (fun z => absurd (V.str.inj z) (by decide +kernel))
    -- tuple(mix) not in self.known
    refine ⟨_, rfl, m, _, rfl, .inl ⟨SqL.of hm, fun t ft => ?_⟩⟩
    have s1 : Same H (upd H t (.tup (iv ms))) := same_new ft
    have et : upd H t (.tup (iv ms)) t = some (.tup ((keyOf ms).map kV)) := by rw [key_iv]; exact upd_same
    refine ⟨_, rfl, x, C, dx, _, _, rfl, s1 _ _ a.o, T.cl, T.nK, rfl, d, _, rfl, DGet.t (k := keyOf ms) (s1 _ _ a.k) et, ?_⟩
    rw [valV_kvs]
    by_cases hin : ms ∈ A
    · rw [if_pos hin]
      refine ⟨false, rfl, iteF ?_⟩
      refine ⟨_, rfl, x, C, dx, _, _, rfl, s1 _ _ a.o, T.cl, T.nK, rfl, _, rfl, m, _, rfl, .inl ⟨SqL.of (s1 _ _ hm), fun u fu => ?_⟩⟩
      have s2 := s1.trans (same_new (o := .tup (iv ms)) fu)
      have eu : upd (upd H t (.tup (iv ms))) u (.tup (iv ms)) u = some (.tup ((keyOf ms).map kV)) := by rw [key_iv]; exact upd_same
      refine ⟨d, .str (verd dd.g ms), rfl, ?_, rfl, ?_⟩
      · have g := DGet.t (k := keyOf ms) (s2 _ _ a.k) eu
        rw [valV_kvs, if_pos hin] at g
        exact g
      · rw [isV _ rfl]
        refine k _ (Same.keep _ s2) ?_
        rw [show addM A ms = A from if_pos hin]
        exact a.same s2
    · rw [if_neg hin]
      refine ⟨true, rfl, iteT ?_⟩
      have lr : rvs.length = A.length := Paired.length pr
      -- told = verdict(self.case, mix)
      refine ⟨_, rfl, x, C, dx, _, _, rfl, s1 _ _ a.o, T.cl, T.nC, rfl, _, rfl, c, m, dd, so, fa, ms, rfl, hC.tk (same_tk s1), SqL.of (s1 _ _ hm), fun H2 s12 => ?_⟩
      have s2 : Same H H2 := s1.trans s12
      -- self.known[tuple(mix)] = told
      refine ⟨_, rfl, _, rfl, x, C, dx, _, _, rfl, s2 _ _ a.o, T.cl, T.nK, rfl, _, rfl, m, _, rfl, .inl ⟨SqL.of (s2 _ _ hm), fun u fu => ?_⟩⟩
      have s3 : Same H (upd H2 u (.tup (iv ms))) := s2.trans (same_new fu)
      have eu : upd H2 u (.tup (iv ms)) u = some (.tup ((keyOf ms).map kV)) := by rw [key_iv]; exact upd_same
      refine ⟨d, _, rfl, DPut.t (k := keyOf ms) (s3 _ _ a.k) eu (by unfold kvsOf; rw [List.length_map]; exact small1000 (by omega)), ?_⟩
      rw [putK_new _ (by rw [valV_kvs, if_neg hin]), ← kvs_snoc]
      generalize e3 : upd H2 u (.tup (iv ms)) = H3 at s3 eu
      have m4 : upd H3 d (.dT (kvsOf dd.g (A ++ [ms]))) m = some (.lst (iv ms)) := upd_at (s3 _ _ hm) nmd
      have l4 : upd H3 d (.dT (kvsOf dd.g (A ++ [ms]))) l = some (.lst rvs) := upd_at (s3 _ _ el) nld
      have x4 : upd H3 d (.dT (kvsOf dd.g (A ++ [ms]))) x = some (.ins C dx (af c d l)) := upd_at (s3 _ _ a.o) nxd
      have d4 : upd H3 d (.dT (kvsOf dd.g (A ++ [ms]))) d = some (.dT (kvsOf dd.g (A ++ [ms]))) := upd_same
      have k4 : Keep [d, l] H (upd H3 d (.dT (kvsOf dd.g (A ++ [ms])))) := (Same.keep _ s3).trans (keep_wr (by simp))
      have p4 : Paired (EntryAt (upd H3 d (.dT (kvsOf dd.g (A ++ [ms])))) l dd.g) rvs A := Paired.mapP pr fun v y ⟨p, q, ev, h1, h2, n⟩ =>
        ⟨p, q, ev, upd_at (s3 _ _ h1) (ne_of h1 a.k (by intro z; cases z)), upd_at (s3 _ _ h2) (ne_of h2 a.k (by intro z; cases z)), n⟩
      generalize upd H3 d (.dT (kvsOf dd.g (A ++ [ms]))) = H4 at m4 l4 x4 d4 k4 p4
      -- self.askings.append((list(mix), told))
      refine ⟨_, rfl, x, C, dx, _, _, rfl, x4, T.cl, T.nA, rfl, .inl ⟨rfl, _, SqL.of l4⟩, _, rfl, m, _, rfl, .inl (SqL.of m4), fun q fq => ⟨_, rfl, (by show 2 ≤ sizeLine; decide), fun p fp => ?_⟩⟩
      have s6 : Same H4 (upd (upd H4 q (.lst (iv ms))) p (.tup [.ref q, .str (verd dd.g ms)])) := (same_new fq).trans (same_new fp)
      have nql : q ≠ l := (ne_of_none l4 fq).symm
      have q6 : upd (upd H4 q (.lst (iv ms))) p (.tup [.ref q, .str (verd dd.g ms)]) q = some (.lst (iv ms)) := upd_new upd_same fp
      have pp6 : upd (upd H4 q (.lst (iv ms))) p (.tup [.ref q, .str (verd dd.g ms)]) p = some (.tup [.ref q, .str (verd dd.g ms)]) := upd_same
      refine ⟨l, rvs, _, rfl, rfl, s6 _ _ l4, small1000 (by omega), ?_⟩
      generalize upd (upd H4 q (.lst (iv ms))) p (.tup [.ref q, .str (verd dd.g ms)]) = H6 at s6 q6 pp6
      have k7 : Keep [d, l] H (upd H6 l (.lst (rvs ++ [.ref p]))) := (k4.trans (Same.keep _ s6)).trans (keep_wr (by simp))
      have a7 : AskAt C (upd H6 l (.lst (rvs ++ [.ref p]))) x dx c d l dd.g (A ++ [ms]) := by
        refine ⟨upd_at (s6 _ _ x4) nxl, upd_at (s6 _ _ d4) nld.symm, _, upd_same, Paired.snoc (Paired.mapP p4 fun v y ⟨p', q', ev, h1, h2, n⟩ => ?_) ?_⟩
        · exact ⟨p', q', ev, upd_at (s6 _ _ h1) (ne_of h1 l4 (by intro z; cases z)), upd_at (s6 _ _ h2) n, n⟩
        · exact ⟨p, q, rfl, upd_at pp6 (ne_of pp6 (s6 _ _ l4) (by intro z; cases z)), upd_at q6 nql, nql⟩
      have m7 : upd H6 l (.lst (rvs ++ [.ref p])) m = some (.lst (iv ms)) := upd_at (s6 _ _ m4) nml
      generalize upd H6 l (.lst (rvs ++ [.ref p])) = H7 at k7 a7 m7
      -- return self.known[tuple(mix)] == "faulty"
      refine ⟨_, rfl, x, C, dx, _, _, rfl, a7.o, T.cl, T.nK, rfl, _, rfl, m, _, rfl, .inl ⟨SqL.of m7, fun y fy => ?_⟩⟩
      have s8 : Same H7 (upd H7 y (.tup (iv ms))) := same_new fy
      have ey : upd H7 y (.tup (iv ms)) y = some (.tup ((keyOf ms).map kV)) := by rw [key_iv]; exact upd_same
      refine ⟨d, .str (verd dd.g ms), rfl, ?_, rfl, ?_⟩
      · have g := DGet.t (k := keyOf ms) (s8 _ _ a7.k) ey
        rw [valV_kvs, if_pos (List.mem_append_right _ List.mem_cons_self)] at g
        exact g
      · rw [isV _ rfl]
        refine k _ (k7.trans (Same.keep _ s8)) ?_
        rw [show addM A ms = A ++ [ms] from if_neg hin]
        exact a7.same s8
end
end K67
/-! smaller. -/
namespace K67
open PySem PySem.Spec PyProof.Rows L2
theorem cut_rg {lo L a b : Nat} (h1 : a ≤ b) (h2 : b ≤ L) : cutV (iv (rg lo L)) (some (a : Int)) (some (b : Int)) = iv (rg (lo + a) (b - a)) := by
  unfold cutV
  rw [HT.sIx_nat, HT.sIx_nat, iv_len, rg_length, Nat.min_eq_left h2, Nat.min_eq_left (Nat.le_trans h1 h2)]
  unfold iv
  rw [← List.map_drop, ← List.map_take, rg_drop _ _ _ (by omega), rg_take _ _ _ (by omega)]
def rLenS (K : PySem.W.Frag) : List V → Hp → VK → Prop := fun xs H Q => ∃ p ys, xs = [.ref p] ∧ (SqL K H p ys ∨ SqT K H p ys) ∧ Q (.int ys.length) H
/-- what stays of the asker, whatever it asked: it has asked A', of which the run at lo' of k' is one -/
structure Asked (n g : Nat) (A A' : List (List Int)) (more lo k lo' k' : Nat) : Prop where
  good : Good n A → Good n A'
  len : A'.length ≤ A.length + more
  has : rg lo' k' ∈ A'
  low : lo' ≤ g
  up : g < lo' + k'
  half : k' ≤ (k + 1) / 2
  inn : lo ≤ lo' ∧ lo' + k' ≤ lo + k
def spSmaller (K : PySem.W.Frag) (C : Addr) : Sp := fun vs H Q _ => ∃ x dx c d l dd so fa A m lo k, vs = [.ref x, .ref m, .int 2] ∧ AskAt C H x dx c d l dd.g A ∧ CaseAt K H c dd so fa ∧ H m = some (.lst (iv (rg lo k))) ∧ m ≠ l ∧ 2 ≤ k ∧ lo + k ≤ dd.n ∧ lo ≤ dd.g ∧ dd.g < lo + k ∧ A.length ≤ 800 ∧
  ∀ (H' : Hp) (t r : Addr) (A' : List (List Int)) (lo' k' : Nat), Keep [d, l] H H' → AskAt C H' x dx c d l dd.g A' → H' t = some (.tup [.ref r, .int 2]) → H' r = some (.lst (iv (rg lo' k'))) → r ≠ l → Asked dd.n dd.g A A' 2 lo k lo' k' → Q (.ref t) H'
section
variable {P : Program} {w : World} {K : PySem.W.Frag} {mg : Str → Option Value} {base : Heap}
theorem scSmaller : FnScope ["self", "mix", "many", "k", "cuts", "rest"] ["self", "mix", "many"] (defScope sSmaller) := ⟨rfl, rfl, rfl, by decide +kernel, rfl, by decide +kernel, by decide +kernel⟩
theorem ok_smaller {f C fC : Addr} {fd fdC : FuncData} (F : Fun K "smaller" "Asker.smaller" sSmaller f fd) (T : ATxt K mg C)
    (GC : FnOk P w K mg base CX0 7 fC fdC ["self", "mix"] (spCause K C)) (FC : Fun K "is_cause" "Asker.is_cause" sIsCause fC fdC) (bC : Binds K fdC ["self", "mix"] []) (mC : Meth K C "is_cause" fC) : FnOk P w K mg base CX0 8 f fd ["self", "mix", "many"] (spSmaller K C) := by
  refine F.ok scSmaller (fun vs H Q E h => ?_) (fun cdv A outer s H vs Q E hr h => ?_)
  · obtain ⟨x, dx, c, d, l, dd, so, fa, A, m, lo, k, rfl, _⟩ := h
    rfl
  · obtain ⟨x, dx, c, d, l, dd, so, fa, A, m, lo, k, rfl, a, hC, hm, nml, k2, kn, g1, g2, hlen, q⟩ := h
    refine ⟨_, pss_cons (ps_setLc (i := 4) (own := [("k", 3)]) (g := gName 3) (tt := tYes)
        (te := tOp (rI CDiv fun i j => .int (i / j)) (tOp (rI CMul fun i j => .int (i * j)) (tCB (rLenS K) (tCons (tVar 1) tNil)) (tVar 3)) (tVar 2))
        (by rfl) scSmaller.nd rfl rfl (sw_true rfl rfl rfl (by decide +kernel)) (pi_range1 (by rfl) T.range (pa_cons (pe_op op_add (pv 2) pe_int) pa_nil))
        (blkOk_by (own := [("k", 3)]) (N := ["self", "mix", "many", "k", "cuts", "rest"]) (sc := defScope sSmaller) (by decide +kernel))
        (fun _ _ _ _ _ => pg_name (i := 3) scSmaller.nd rfl (Or.inl rfl)) (fun _ _ _ _ _ => pts_nil)
        (fun _ _ _ _ _ => pe_op op_fdiv (pe_op op_mul (pe_callB call_len_seq (by rfl) T.len PySem.boot_len (pa_cons (pv 1) pa_nil)) (pv 3)) (pv 2)))
      (pss_cons (ps_for PassesOwn.never rfl (pi_range1 (by rfl) T.range (pa_cons (pv 2) pa_nil)) (pg_name (i := 3) scSmaller.nd rfl (Or.inl rfl))
        (pss_one (ps_if (pt_val (pe_meth (pv 0) T.cl mC GC hr bC .nil pass0 (pa_cons (pe_slice sl_list (pv 1) (po_some (pe_ix ix_list (pv 4) (pv 3) (fun _ _ => rfl))) (po_some (pe_ix ix_list (pv 4) (pe_op op_add (pv 3) pe_int) (fun _ _ => rfl)))) pa_nil)))
          (pss_one (ps_ret (pe_tup (pa_cons (pe_slice sl_list (pv 1) (po_some (pe_ix ix_list (pv 4) (pv 3) (fun _ _ => rfl))) (po_some (pe_ix ix_list (pv 4) (pe_op op_add (pv 3) pe_int) (fun _ _ => rfl)))) (pa_cons pe_int pa_nil))))) pss_nil)))
      pss_never), ?_⟩
    obtain ⟨rvs, el, pr⟩ := a.s
    have n4 : dd.n ≤ 40 := by
      obtain ⟨_, _, _, _, ⟨_, _, _, _, _, ok⟩, _⟩ := hC
      exact ok.n4
    -- cuts
    refine ⟨_, rfl, _, _, rfl, rfl, 3, rfl, by decide, by decide, fun D fD => ?_⟩
    have mD : m ≠ D := ne_of_none hm fD
    refine lc_range (lo := 0) (n := 3) (fun i H' => Keep [D] H H' ∧ H' D = some (.lst (([.int 0, .int (k / 2 : Nat), .int (k : Nat)] : List V).take i))) ⟨keep_new fD, upd_same⟩ (fun i H' hi p => ?_) (fun H' p => ?_)
    · obtain ⟨kp, eD⟩ := p
      refine ⟨rfl, ?_⟩
      refine ⟨_, rfl, m, _, rfl, .inl (SqL.of (kp _ _ (by simpa using mD) hm)), _, rfl, _, _, rfl, rfl, .inr (by omega), _, rfl, _, _, rfl, rfl, ⟨by decide, by decide⟩, _, eD, ?_, kp.trans (keep_wr (by simp)), ?_⟩
      · rw [List.length_take]
        exact Nat.lt_of_le_of_lt (Nat.min_le_left _ _) (small1000 (by omega))
      · rw [upd_same, iv_len, rg_length]
        rcases (show i = 0 ∨ i = 1 ∨ i = 2 by omega) with rfl | rfl | rfl
        · dsimp only
          rw [show ((k : Nat) : Int) * (0 + ((0 : Nat) : Int)) / 2 = 0 by omega]
          rfl
        · dsimp only
          rw [show ((k : Nat) : Int) * (0 + ((1 : Nat) : Int)) / 2 = ((k / 2 : Nat) : Int) by omega]
          rfl
        · dsimp only
          rw [show ((k : Nat) : Int) * (0 + ((2 : Nat) : Int)) / 2 = ((k : Nat) : Int) by omega]
          rfl
    · obtain ⟨kp, eD⟩ := p
      have s1 : Same H H' := kp.fresh (Same.refl H) (by simpa using fD)
      have eD' : H' D = some (.lst [.int 0, .int (k / 2 : Nat), .int (k : Nat)]) := eD
      have lD : D ≠ l := (ne_of_none el fD).symm
      have dD : D ≠ d := (ne_of_none a.k fD).symm
      have c0 : cutV (iv (rg lo k)) (some 0) (some ((k / 2 : Nat) : Int)) = iv (rg lo (k / 2)) := by
        have e := cut_rg (lo := lo) (L := k) (a := 0) (b := k / 2) (Nat.zero_le _) (by omega)
        simpa using e
      have c1 : cutV (iv (rg lo k)) (some ((k / 2 : Nat) : Int)) (some ((k : Nat) : Int)) = iv (rg (lo + k / 2) (k - k / 2)) := cut_rg (by omega) (Nat.le_refl _)
      have tkw : ∀ {H2}, Keep [d, l] H H2 → TK K H H2 := fun kp => kp.tk fun b hb => by
        rcases List.mem_cons.mp hb with rfl | hb
        · exact ⟨_, a.k, rfl⟩
        · cases List.mem_singleton.mp hb
          exact ⟨_, el, rfl⟩
      have nmd : m ≠ d := ne_of hm a.k (by intro z; cases z)
      have nDl : D ∉ [d, l] := by simp [lD, dD]
      have nml2 : m ∉ [d, l] := by simp [nmd, nml]
      refine ⟨_, rfl, 2, rfl, by decide, by decide, for_range (lo := 0) (n := 2) (fun i σ H2 => ∃ y3, σ = [some (.ref x), some (.ref m), some (.int 2), y3, some (.ref D), none] ∧ Keep [d, l] H' H2 ∧
        ((i = 0 ∧ AskAt C H2 x dx c d l dd.g A) ∨ (i = 1 ∧ AskAt C H2 x dx c d l dd.g (addM A (rg lo (k / 2))) ∧ lo + k / 2 ≤ dd.g))) ⟨none, rfl, Keep.refl _ _, .inl ⟨rfl, a.same s1⟩⟩ ?_ ?_⟩
      · rintro i σ H2 hi ⟨y3, rfl, k2', st⟩
        have kk : Keep [d, l] H H2 := (Same.keep _ s1).trans k2'
        have eD2 : H2 D = some (.lst [.int 0, .int (k / 2 : Nat), .int (k : Nat)]) := k2' _ _ nDl eD'
        have m2 : H2 m = some (.lst (iv (rg lo k))) := kk _ _ nml2 hm
        rcases st with ⟨rfl, a2⟩ | ⟨rfl, a2, gl⟩
        · -- the first half
          refine ⟨_, rfl, x, dx, _, rfl, a2.o, rfl, _, rfl, _, rfl, _, rfl, D, _, _, _, rfl, rfl, SqL.of eD2, rfl, 0, rfl, _, rfl, _, rfl, _, _, rfl, rfl, D, _, _, _, rfl, rfl, SqL.of eD2, rfl, _, rfl, m, _, rfl, SqL.of m2, fun p fp => ?_⟩
          rw [c0]
          have s3 : Same H2 (upd H2 p (.lst (iv (rg lo (k / 2))))) := same_new fp
          have pl : p ≠ l := fun z => by
            obtain ⟨_, e2, _⟩ := a2.s
            rw [z, e2] at fp
            cases fp
          refine nil_ ⟨x, dx, c, d, l, dd, so, fa, A, p, rg lo (k / 2), rfl, a2.same s3, hC.tk ((tkw kk).trans (same_tk s3)), upd_same, pl, by rw [rg_length]; omega, by omega, fun H4 k4 a4 => ?_⟩
          have kk4 : Keep [d, l] H' H4 := (k2'.trans (Same.keep _ s3)).trans k4
          have kkH : Keep [d, l] H H4 := (Same.keep _ s1).trans kk4
          refine ⟨_, rfl, ite2 (fun hin => ?_) (fun hin => ?_)⟩
          · have hg := mem_rg.mp (of_decide_eq_true hin)
            have eD4 := kk4 _ _ nDl eD'
            have m4 := kkH _ _ nml2 hm
            refine ⟨_, rfl, _, rfl, _, rfl, D, _, _, _, rfl, rfl, SqL.of eD4, rfl, 0, rfl, _, rfl, _, rfl, _, _, rfl, rfl, D, _, _, _, rfl, rfl, SqL.of eD4, rfl, _, rfl, m, _, rfl, SqL.of m4, fun r fr => ⟨(by show 2 ≤ sizeLine; decide), fun t ft => ?_⟩⟩
            rw [c0] at ft ⊢
            refine q _ t r _ lo (k / 2) (kkH.trans (Same.keep _ ((same_new fr).trans (same_new ft)))) (a4.same ((same_new fr).trans (same_new ft))) upd_same (upd_new upd_same ft) (fun z => by
              obtain ⟨_, e2, _⟩ := a4.s
              rw [z, e2] at fr
              cases fr) ⟨fun gd => gd.add (by omega), Nat.le_trans (addM_len _ _) (by omega), mem_addM _ _, by omega, by omega, by omega, by omega, by omega⟩
          · refine ⟨_, rfl, kk4, .inr ⟨rfl, a4, ?_⟩⟩
            have hg : ¬ ((lo : Int) ≤ dd.g ∧ (dd.g : Int) < ((lo + k / 2 : Nat) : Int)) := fun z => hin (decide_eq_true (mem_rg.mpr z))
            omega
        · -- the second half
          refine ⟨_, rfl, x, dx, _, rfl, a2.o, rfl, _, rfl, _, rfl, _, rfl, D, _, _, _, rfl, rfl, SqL.of eD2, rfl, _, rfl, _, rfl, _, rfl, _, _, rfl, rfl, D, _, _, _, rfl, rfl, SqL.of eD2, rfl, _, rfl, m, _, rfl, SqL.of m2, fun p fp => ?_⟩
          rw [c1]
          have s3 : Same H2 (upd H2 p (.lst (iv (rg (lo + k / 2) (k - k / 2))))) := same_new fp
          have pl : p ≠ l := fun z => by
            obtain ⟨_, e2, _⟩ := a2.s
            rw [z, e2] at fp
            cases fp
          have la := addM_len A (rg lo (k / 2))
          refine nil_ ⟨x, dx, c, d, l, dd, so, fa, _, p, rg (lo + k / 2) (k - k / 2), rfl, a2.same s3, hC.tk ((tkw kk).trans (same_tk s3)), upd_same, pl, by rw [rg_length]; omega, by omega, fun H4 k4 a4 => ?_⟩
          have kk4 : Keep [d, l] H' H4 := (k2'.trans (Same.keep _ s3)).trans k4
          have kkH : Keep [d, l] H H4 := (Same.keep _ s1).trans kk4
          rw [decide_eq_true (mem_rg.mpr (by omega))]
          refine ⟨_, rfl, iteT ?_⟩
          have eD4 := kk4 _ _ nDl eD'
          have m4 := kkH _ _ nml2 hm
          refine ⟨_, rfl, _, rfl, _, rfl, D, _, _, _, rfl, rfl, SqL.of eD4, rfl, _, rfl, _, rfl, _, rfl, _, _, rfl, rfl, D, _, _, _, rfl, rfl, SqL.of eD4, rfl, _, rfl, m, _, rfl, SqL.of m4, fun r fr => ⟨(by show 2 ≤ sizeLine; decide), fun t ft => ?_⟩⟩
          rw [c1] at ft ⊢
          refine q _ t r _ (lo + k / 2) (k - k / 2) (kkH.trans (Same.keep _ ((same_new fr).trans (same_new ft)))) (a4.same ((same_new fr).trans (same_new ft))) upd_same (upd_new upd_same ft) (fun z => by
            obtain ⟨_, e2, _⟩ := a4.s
            rw [z, e2] at fr
            cases fr) ⟨fun gd => (gd.add (by omega)).add (by omega), Nat.le_trans (addM_len _ _) (by omega), mem_addM _ _, by omega, by omega, by omega, by omega, by omega⟩
      · rintro σ H2 ⟨y3, rfl, k2', ⟨e, _⟩ | ⟨e, _⟩⟩
        · cases e
        · cases e
end
end K67
/-! narrowed. -/
namespace K67
open PySem PySem.Spec PyProof.Rows L2
def spNarrowed (K : PySem.W.Frag) : Sp := fun vs H Q _ => ∃ c d so fa, vs = [.ref c] ∧ CaseAt K H c d so fa ∧
  ∀ (H' : Hp) (t l mx : Addr) (A : List (List Int)) (rvs : List V), Same H H' → H' t = some (.tup [.ref l, .ref mx]) → H' l = some (.lst rvs) → Paired (EntryAt H' l d.g) rvs A → H' mx = some (.lst (iv [(d.g : Int)])) →
    Good d.n A → A.length ≤ 2 * halv d.n + 2 → [(d.g : Int)] ∈ A → [] ∈ A → Q (.ref t) H'
theorem halv_six {n : Nat} (h : n ≤ 64) : halv n ≤ 6 := Nat.le_trans (halv_mono 64 n h) (by decide +kernel)
section
variable {P : Program} {w : World} {K : PySem.W.Frag} {mg : Str → Option Value} {base : Heap}
theorem scNarrowed : FnScope ["case", "asker", "mix", "many", "found"] ["case"] (defScope sNarrowed) := ⟨rfl, rfl, rfl, by decide +kernel, rfl, by decide +kernel, by decide +kernel⟩
theorem ok_narrowed {f C fM fU fI fC fS : Addr} {fd fdM fdU fdI fdC fdS : FuncData} (F : Fun K "narrowed" "narrowed" sNarrowed f fd) (T : ATxt K mg C)
    (GM : FnOk P w K mg base CX0 5 fM fdM ["case"] (spMarks K)) (FM : Fun K "marks" "marks" sMarks fM fdM) (bM : Binds K fdM ["case"] []) (gM : mg "marks" = some (.ref fM))
    (GU : FnOk P w K mg base CX0 3 fU fdU ["case"] (spUT K)) (FU : Fun K "unlike_things" "unlike_things" sUnlikeThings fU fdU) (bU : Binds K fdU ["case"] []) (gU : mg "unlike_things" = some (.ref fU))
    (M : Mk K C fI) (GI : FnOk P w K mg base CX0 1 fI fdI ["self", "case"] (spAInit C)) (bI : Binds K fdI ["self", "case"] [])
    (GC : FnOk P w K mg base CX0 7 fC fdC ["self", "mix"] (spCause K C)) (bC : Binds K fdC ["self", "mix"] []) (mC : Meth K C "is_cause" fC)
    (GS : FnOk P w K mg base CX0 8 fS fdS ["self", "mix", "many"] (spSmaller K C)) (bS : Binds K fdS ["self", "mix", "many"] []) (mS : Meth K C "smaller" fS) :
    FnOk P w K mg base CX0 9 f fd ["case"] (spNarrowed K) := by
  refine F.ok scNarrowed (fun vs H Q E h => ?_) (fun cdv A outer s H vs Q E hr h => ?_)
  · obtain ⟨c, d, so, fa, rfl, _⟩ := h
    rfl
  · obtain ⟨c, d, so, fa, rfl, hC, q⟩ := h
    refine ⟨_, pss_cons (ps_expr (pe_call GM (hr.mono (by decide)) (by rfl) gM FM.kp bM .nil pass0 (pa_cons (pv 0) pa_nil)))
      (pss_cons (ps_set (i := 1) scNarrowed.nd rfl (Or.inl rfl) (pe_make M GI (hr.mono (by decide)) (by rfl) T.mgC bI .nil pass0 (pa_cons (pv 0) pa_nil)))
      (pss_cons (ps_set (i := 2) scNarrowed.nd rfl (Or.inl rfl) (pe_call GU (hr.mono (by decide)) (by rfl) gU FU.kp bU .nil pass0 (pa_cons (pv 0) pa_nil)))
      (pss_cons (ps_expr (pe_meth (pv 1) T.cl mC GC (hr.mono (by decide)) bC .nil pass0 (pa_cons (pv 2) pa_nil)))
      (pss_cons (ps_set (i := 3) scNarrowed.nd rfl (Or.inl rfl) pe_int)
      (pss_cons (ps_while PassesOwn.never (pt_cmpR op_gt (pe_callB call_len_seq (by rfl) T.len PySem.boot_len (pa_cons (pv 2) pa_nil)) pe_int (nomark _))
        (pss_cons (ps_set (i := 4) scNarrowed.nd rfl (Or.inl rfl) (pe_meth (pv 1) T.cl mS GS hr bS .nil pass0 (pa_cons (pv 2) (pa_cons (pv 3) pa_nil))))
        (pss_one (ps_if (pt_cmp (pc_notN (pv 4))) (pss_one (ps_asg (pv 4) (pg_tup rfl (pgs_cons (pg_name (i := 2) scNarrowed.nd rfl (Or.inl rfl)) (pgs_cons (pg_name (i := 3) scNarrowed.nd rfl (Or.inl rfl)) pgs_nil))))) pss_never))))
      (pss_cons (ps_expr (pe_meth (pv 1) T.cl mC GC (hr.mono (by decide)) bC .nil pass0 (pa_cons (pe_lst pa_nil) pa_nil)))
      (pss_one (ps_ret (pe_tup (pa_cons (pe_fld (pv 1) rfl) (pa_cons (pv 2) pa_nil))))))))))), ?_⟩
    obtain ⟨ok, _⟩ : d.Ok ∧ True := by
      obtain ⟨_, _, _, _, ⟨_, _, _, _, _, ok⟩, _⟩ := hC
      exact ⟨ok, trivial⟩
    -- marks(case)
    refine ⟨_, rfl, c, d, so, fa, rfl, hC, fun H1 t x y s1 _ _ _ _ _ => ?_⟩
    -- asker = Asker(case)
    refine ⟨_, rfl, fun x dx fx fdx ne => ?_⟩
    refine ⟨x, dx, c, rfl, upd_same, fun H2 dd l k2 fdd fl a2' => ⟨rfl, ?_⟩⟩
    have s2 : Same H H2 := s1.trans (same_made fx fdx k2)
    have a2 := a2' d.g
    have fdd0 : H dd = none := s1.free (free_of (free_of fdd))
    have fl0 : H l = none := s1.free (free_of (free_of fl))
    -- mix = unlike_things(case)
    refine ⟨_, rfl, c, d, so, fa, rfl, hC.tk (same_tk s2), fun H3 mx s3 fmx emx => ?_⟩
    have a3 := a2.same s3
    have lne : ∀ {H' : Hp} {A' : List (List Int)} {z : Addr}, AskAt C H' x dx c dd l d.g A' → H' z = none → z ≠ l := fun a f e => by
      obtain ⟨_, e2, _⟩ := a.s
      rw [e, e2] at f
      cases f
    -- asker.is_cause(mix)
    refine ⟨_, rfl, x, dx, _, rfl, a3.o, rfl, _, rfl, x, dx, c, dd, l, d, so, fa, [], mx, rg 0 d.n, rfl, a3, hC.tk (same_tk (s2.trans s3)), emx, lne a2 fmx, by rw [rg_length]; have := ok.n4; omega, Nat.zero_le _, fun H4 k4 a4 => ?_⟩
    have s4 : Same H H4 := Keep.fresh (s2.trans s3) k4 (by simp [fdd0, fl0])
    have mxd : mx ≠ dd := ne_of emx a3.k (by intro z; cases z)
    have emx4 : H4 mx = some (.lst (iv (rg 0 d.n))) := k4 _ _ (by simp [mxd, lne a2 fmx]) emx
    have n4 := ok.n4
    have gn := ok.gn
    have h6 := halv_six (n := d.n) (by omega)
    -- while
    refine ⟨fun mm σ H' => ∃ mx' lo A' y4, σ = [some (.ref c), some (.ref x), some (.ref mx'), some (.int 2), y4] ∧ Same H H' ∧ AskAt C H' x dx c dd l d.g A' ∧ H' mx' = some (.lst (iv (rg lo mm))) ∧ mx' ≠ l ∧ Good d.n A' ∧
      lo ≤ d.g ∧ d.g < lo + mm ∧ lo + mm ≤ d.n ∧ rg lo mm ∈ A' ∧ A'.length + 2 * halv mm ≤ 1 + 2 * halv d.n,
      ⟨d.n, mx, 0, _, none, rfl, s4, a4, emx4, lne a2 fmx, good_first _, Nat.zero_le _, by omega, by omega, mem_addM _ _, by rw [show (addM [] (rg 0 d.n)).length = 1 from rfl]; omega⟩, ?_⟩
    rintro mm σ H' ⟨mx', lo, A', y4, rfl, s5, a5, em, nl, gd, g1, g2, inn, has, len⟩
    refine ⟨_, rfl, mx', _, rfl, .inl (SqL.of em), _, _, rfl, rfl, _, rfl, ite2 (fun ht => ?_) (fun ht => ?_)⟩
    · have m2 : 2 ≤ mm := by
        have e := of_decide_eq_true ht
        rw [iv_len, rg_length] at e
        omega
      refine ⟨fun σ2 H2 => ∃ k', k' < mm ∧ ∃ mx' lo A' y4, σ2 = [some (.ref c), some (.ref x), some (.ref mx'), some (.int 2), y4] ∧ Same H H2 ∧ AskAt C H2 x dx c dd l d.g A' ∧ H2 mx' = some (.lst (iv (rg lo k'))) ∧ mx' ≠ l ∧ Good d.n A' ∧
        lo ≤ d.g ∧ d.g < lo + k' ∧ lo + k' ≤ d.n ∧ rg lo k' ∈ A' ∧ A'.length + 2 * halv k' ≤ 1 + 2 * halv d.n, fun σ2 H2 w => w, ?_⟩
      refine ⟨_, rfl, x, dx, _, rfl, a5.o, rfl, _, rfl, _, rfl, x, dx, c, dd, l, d, so, fa, A', mx', lo, mm, rfl, a5, hC.tk (same_tk s5), em, nl, m2, inn, g1, g2, by omega, fun H6 t r A2 lo' k' k6 a6 et er nr as => ?_⟩
      refine ⟨_, rfl, true, rfl, iteT ?_⟩
      refine ⟨_, rfl, t, _, rfl, SqT.of et, rfl, _, _, rfl, _, _, rfl, rfl, k', ?_, r, lo', A2, _, rfl, Keep.fresh s5 k6 (by simp [fdd0, fl0]), a6, er, nr, as.good gd, as.low, as.up, ?_, as.has, ?_⟩
      · have := as.half
        omega
      · have := as.inn
        omega
      · have l1 := as.len
        have l2 := halv_mono _ _ as.half
        rw [halv_step (by omega : 1 < mm)] at len
        omega
    · have m1 : mm = 1 := by
        have e : ¬ ((1 : Int) < ((iv (rg lo mm)).length : Nat)) := fun z => ht (decide_eq_true z)
        rw [iv_len, rg_length] at e
        omega
      subst m1
      have e1 : lo = d.g := by omega
      subst e1
      rw [rg_one] at em has
      rw [halv_one (Nat.le_refl 1)] at len
      refine ⟨_, rfl, x, dx, _, rfl, a5.o, rfl, Nat.zero_le _, fun e fe => ?_⟩
      have s6 : Same H' (upd H' e (.lst [])) := same_new fe
      refine nil_ ⟨x, dx, c, dd, l, d, so, fa, A', e, [], rfl, a5.same s6, hC.tk (same_tk (s5.trans s6)), upd_same, lne a5 fe, Nat.zero_le _, by omega, fun H7 k7 a7 => ?_⟩
      have s7 : Same H H7 := Keep.fresh (s5.trans s6) k7 (by simp [fdd0, fl0])
      have nd : mx' ≠ dd := ne_of em a5.k (by intro z; cases z)
      have em7 : H7 mx' = some (.lst (iv [(d.g : Int)])) := k7 _ _ (by simp [nd, nl]) (s6 _ _ em)
      refine ⟨_, rfl, x, C, dx, _, _, rfl, a7.o, T.cl, T.nA, rfl, _, rfl, (by show 2 ≤ sizeLine; decide), fun t ft => ?_⟩
      have s8 : Same H7 _ := same_new (o := .tup [.ref l, .ref mx']) ft
      obtain ⟨rvs, el, pr⟩ := (a7.same s8).s
      have la := addM_len A' []
      exact q _ t l mx' _ rvs (s7.trans s8) upd_same el pr (s8 _ _ em7) (by rw [show ([] : List Int) = rg 0 0 from rfl]; exact gd.add (by omega)) (by omega) (sub_addM has) (mem_addM _ _)
end
end K67
/-! lessened, is_bare. -/
namespace K67
open PySem PySem.Spec PyProof.Rows L2
theorem cut_to {ms : List Int} {k : Nat} (h : k ≤ ms.length) : cutV (iv ms) none (some (k : Int)) = iv (ms.take k) := by
  unfold cutV
  rw [HT.sIx_none, HT.sIx_nat, iv_len, Nat.min_eq_left h, Nat.sub_zero, List.drop_zero]
  exact (List.map_take ..).symm
theorem cut_from {ms : List Int} {k : Nat} (h : k ≤ ms.length) : cutV (iv ms) (some (k : Int)) none = iv (ms.drop k) := by
  unfold cutV
  rw [HT.sIx_none, HT.sIx_nat, iv_len, Nat.min_eq_left h, List.take_of_length_le (by rw [List.length_drop, iv_len]; exact Nat.le_refl _)]
  exact (List.map_drop ..).symm
theorem iv_app (a b : List Int) : iv a ++ iv b = iv (a ++ b) := (List.map_append ..).symm
def spLess (K : PySem.W.Frag) : Sp := fun vs H Q _ => ∃ m ms, vs = [.ref m] ∧ SqL K H m (iv ms) ∧ ms.length ≤ 100 ∧
  ∀ (H' : Hp) (D : Addr) (rs : List V), Same H H' → H' D = some (.lst rs) → rs.length = ms.length → (∀ k, k < ms.length → ∃ q, rs[k]? = some (.ref q) ∧ H' q = some (.lst (iv (less ms k)))) → Q (.ref D) H'
section
variable {P : Program} {w : World} {K : PySem.W.Frag} {mg : Str → Option Value} {base : Heap}
theorem scLess : FnScope ["mix", "k"] ["mix"] (defScope sLessened) := ⟨rfl, rfl, rfl, by decide +kernel, rfl, by decide +kernel, by decide +kernel⟩
theorem ok_less {f : Addr} {fd : FuncData} (F : Fun K "lessened" "lessened" sLessened f fd) (mL : mg "len" = none) (mR : mg "range" = none) : FnOk P w K mg base CX0 1 f fd ["mix"] (spLess K) := by
  refine F.ok scLess (fun vs H Q E h => ?_) (fun cdv A outer s H vs Q E hr h => ?_)
  · obtain ⟨m, ms, rfl, _⟩ := h
    rfl
  · obtain ⟨m, ms, rfl, hm, hl, q⟩ := h
    refine ⟨_, pss_one (ps_ret (pe_lc (own := [("k", 1)]) (g := gName 1) (tt := tYes)
      (te := tOp rCat (tSl (rSlL K) (tVar 0) tNoPart (tPart (tVar 1))) (tSl (rSlL K) (tVar 0) (tPart (tOp (rI0 fun i j => .int (i + j)) (tVar 1) (tC (.int 1)))) tNoPart))
      (by rfl) scLess.nd (pi_range1 (by rfl) mR (pa_cons (pe_callB call_len_seq (by rfl) mL PySem.boot_len (pa_cons (pv 0) pa_nil)) pa_nil))
      (blkOk_by (own := [("k", 1)]) (N := ["mix", "k"]) (sc := defScope sLessened) (by decide +kernel))
      (fun _ _ _ _ _ => pg_name (i := 1) scLess.nd rfl (Or.inl rfl)) (fun _ _ _ _ _ => pts_nil)
      (fun _ _ _ _ _ => pe_op op_cat (pe_slice sl_list (pv 0) po_none (po_some (pv 1))) (pe_slice sl_list (pv 0) (po_some (pe_op op_add (pv 1) pe_int)) po_none)))), ?_⟩
    refine ⟨_, rfl, m, _, rfl, .inl hm, _, rfl, by rw [iv_len]; omega, by rw [iv_len]; omega, fun D fD => ?_⟩
    rw [iv_len]
    refine lc_range (lo := 0) (n := ms.length) (fun i H' => Keep [D] H H' ∧ ∃ rs, H' D = some (.lst rs) ∧ rs.length = i ∧ ∀ k, k < i → ∃ q, rs[k]? = some (.ref q) ∧ H' q = some (.lst (iv (less ms k))) ∧ q ≠ D)
      ⟨keep_new fD, [], upd_same, rfl, fun k hk => by omega⟩ (fun i H' hi p => ?_) (fun H' p => ?_)
    · obtain ⟨kp, rs, eD, lr, hrs⟩ := p
      have s1 : Same H H' := kp.fresh (Same.refl H) (by simpa using fD)
      refine ⟨rfl, ?_⟩
      refine ⟨_, rfl, _, rfl, _, rfl, m, _, rfl, s1.seq hm, fun a fa => ?_⟩
      have s2 := s1.trans (same_new (o := .lst (cutV (iv ms) none (some (0 + ((i : Nat) : Int))))) fa)
      refine ⟨_, rfl, _, rfl, _, _, rfl, rfl, _, rfl, m, _, rfl, s2.seq hm, fun b fb => ?_⟩
      have z1 : cutV (iv ms) none (some (0 + ((i : Nat) : Int))) = iv (ms.take i) := by
        rw [Int.zero_add]
        exact cut_to (by omega)
      have z2 : cutV (iv ms) (some (0 + ((i : Nat) : Int) + 1)) none = iv (ms.drop (i + 1)) := by
        rw [Int.zero_add]
        exact cut_from (k := i + 1) (by omega)
      rw [z1] at fb
      rw [z1, z2]
      refine ⟨a, b, _, _, rfl, rfl, upd_new upd_same fb, upd_same, ?_, fun c fc => ?_⟩
      · rw [iv_len, iv_len, List.length_take, List.length_drop]
        exact size1000 (by omega)
      · rw [iv_app]
        have s3 : Same H' (upd (upd (upd H' a (.lst (iv (ms.take i)))) b (.lst (iv (ms.drop (i + 1))))) c (.lst (iv (ms.take i ++ ms.drop (i + 1))))) := (same_new fa).trans ((same_new fb).trans (same_new fc))
        have ec : upd (upd (upd H' a (.lst (iv (ms.take i)))) b (.lst (iv (ms.drop (i + 1))))) c (.lst (iv (ms.take i ++ ms.drop (i + 1)))) c = some (.lst (iv (less ms i))) := upd_same
        have fc' : H' c = none := free_of (free_of fc)
        generalize upd (upd (upd H' a (.lst (iv (ms.take i)))) b (.lst (iv (ms.drop (i + 1))))) c (.lst (iv (ms.take i ++ ms.drop (i + 1)))) = H4 at s3 ec
        refine ⟨rs, s3 _ _ eD, small1000 (by omega), (kp.trans (Same.keep _ s3)).trans (keep_wr (by simp)), _, upd_same, by rw [List.length_append, lr]; rfl, fun k hk => ?_⟩
        by_cases hki : k < i
        · obtain ⟨q', e1, e2, n⟩ := hrs k hki
          exact ⟨q', by rw [List.getElem?_append_left (by omega)]; exact e1, upd_at (s3 _ _ e2) n, n⟩
        · have e : k = i := by omega
          subst e
          have nD : c ≠ D := (ne_of_none eD fc').symm
          exact ⟨c, by rw [List.getElem?_append_right (by omega), lr, Nat.sub_self]; rfl, upd_at ec nD, nD⟩
    · obtain ⟨kp, rs, eD, lr, hrs⟩ := p
      exact q H' D rs (kp.fresh (Same.refl H) (by simpa using fD)) eD lr fun k hk => let ⟨q', e1, e2, _⟩ := hrs k hk; ⟨q', e1, e2⟩
end
end K67
/-! is_bare. -/
namespace K67
open PySem PySem.Spec PyProof.Rows L2
def spBare (K : PySem.W.Frag) : Sp := fun vs H Q _ => ∃ c d so fa m ms, vs = [.ref c, .ref m] ∧ CaseAt K H c d so fa ∧ SqL K H m (iv ms) ∧ ms.length ≤ 100 ∧ ∀ H', Same H H' → Q (.bl (bare d.g ms)) H'
theorem verd_ne (g : Nat) (ns : List Int) : (!decide (V.str (verd g ns) = V.str "faulty")) = !decide ((g : Int) ∈ ns) := by
  unfold verd
  by_cases h : (g : Int) ∈ ns
  · rw [if_pos h, decide_eq_true h, decide_eq_true rfl]
  · rw [if_neg h, decide_eq_false h, decide_eq_false (fun z => absurd (V.str.inj z) (by decide +kernel))]
section
variable {P : Program} {w : World} {K : PySem.W.Frag} {mg : Str → Option Value} {base : Heap}
theorem scBare : FnScope ["case", "mix", "less"] ["case", "mix"] (defScope sIsBare) := ⟨rfl, rfl, rfl, by decide +kernel, rfl, by decide +kernel, by decide +kernel⟩
theorem ok_bare {f fV fL : Addr} {fd fdV fdL : FuncData} (F : Fun K "is_bare" "is_bare" sIsBare f fd)
    (GV : FnOk P w K mg base CX0 6 fV fdV ["case", "mix"] (spVerdict K)) (FV : Fun K "verdict" "verdict" sVerdict fV fdV) (bV : Binds K fdV ["case", "mix"] []) (gV : mg "verdict" = some (.ref fV))
    (GL : FnOk P w K mg base CX0 1 fL fdL ["mix"] (spLess K)) (FL : Fun K "lessened" "lessened" sLessened fL fdL) (bL : Binds K fdL ["mix"] []) (gL : mg "lessened" = some (.ref fL))
    (mA : mg "all" = none) (mL : mg "list" = none) : FnOk P w K mg base CX0 7 f fd ["case", "mix"] (spBare K) := by
  refine F.ok scBare (fun vs H Q E h => ?_) (fun cdv A outer s H vs Q E hr h => ?_)
  · obtain ⟨c, d, so, fa, m, ms, rfl, _⟩ := h
    rfl
  · obtain ⟨c, d, so, fa, m, ms, rfl, hC, hm, hl, q⟩ := h
    refine ⟨_, pss_cons (ps_if (pt_cmpR op_ne (pe_call GV hr (by rfl) gV FV.kp bV .nil pass0 (pa_cons (pv 0) (pa_cons (pv 1) pa_nil))) pe_str (nomark _)) (pss_one (ps_ret pe_bl)) pss_nil)
      (pss_one (ps_ret (pe_callB (cr_all rfl) (by rfl) mA PyProof.Rows.boot_all (pa_cons (pe_lc (own := [("less", 2)]) (g := gName 2) (tt := tYes)
        (te := tOp rNe (tCall (spVerdict K) [] E0 (tCons (tVar 0) (tCons (tVar 2) tNil))) (tC (.str "faulty")))
        (by rfl) scBare.nd (pi_list (pe_call GL (hr.mono (by decide)) (by rfl) gL FL.kp bL .nil pass0 (pa_cons (pe_callTy call_list_of (by rfl) mL PyProof.Rows.boot_list (pa_cons (pv 1) pa_nil)) pa_nil)))
        (blkOk_by (own := [("less", 2)]) (N := ["case", "mix", "less"]) (sc := defScope sIsBare) (by decide +kernel))
        (fun _ _ _ _ _ => pg_name (i := 2) scBare.nd rfl (Or.inl rfl)) (fun _ _ _ _ _ => pts_nil)
        (fun _ _ _ _ _ => pe_cmpR op_ne (pe_call GV hr (by rfl) gV FV.kp bV .nil pass0 (pa_cons (pv 0) (pa_cons (pv 2) pa_nil))) pe_str (nomark _))) pa_nil)))), ?_⟩
    refine ⟨_, rfl, _, rfl, c, m, d, so, fa, ms, rfl, hC, hm, fun H1 s1 => ⟨rfl, _, rfl, ?_⟩⟩
    rw [verd_ne]
    by_cases hg : (d.g : Int) ∈ ms
    · rw [decide_eq_true hg]
      refine iteF ?_
      refine ⟨_, rfl, m, _, rfl, .inl (s1.seq hm), fun l fl => ?_⟩
      have s2 := s1.trans (same_new (o := .lst (iv ms)) fl)
      refine ⟨l, ms, rfl, SqL.of upd_same, hl, fun H3 L rs s3 eL lrs hrs => ?_⟩
      have sH : Same H H3 := s2.trans s3
      refine ⟨L, rfl, ⟨_, SqL.of eL⟩, fun D fD => ?_⟩
      have nL : L ≠ D := ne_of_none eL fD
      refine lc_list (K := K) (a := L) (xs := rs) (fun i H' => Keep [D] H3 H' ∧ H' D = some (.lst (((List.range i).map fun k => !decide ((d.g : Int) ∈ less ms k)).map V.bl)))
        ⟨keep_new fD, upd_same⟩ (fun i H' _ p => SqL.of (p.1 _ _ (by simpa using nL) eL)) (fun i v H' hi p => ?_) (fun H' p => ?_)
      · obtain ⟨kp, eD⟩ := p
        have sH' : Same H H' := Keep.fresh sH kp (by simpa using sH.free fD)
        have il : i < ms.length := by
          rw [← lrs]
          exact (List.getElem?_eq_some_iff.mp hi).1
        obtain ⟨y, ey, hy⟩ := hrs i il
        have ev : v = .ref y := Option.some.inj (hi.symm.trans ey)
        subst ev
        have ny : y ≠ D := ne_of_none hy fD
        refine ⟨rfl, ?_⟩
        refine ⟨_, rfl, _, rfl, c, y, d, so, fa, less ms i, rfl, hC.tk (same_tk sH'), SqL.of (kp _ _ (by simpa using ny) hy), fun H4 s4 => ⟨rfl, ?_⟩⟩
        rw [verd_ne]
        refine ⟨_, s4 _ _ eD, ?_, (kp.trans (Same.keep _ s4)).trans (keep_wr (by simp)), ?_⟩
        · rw [List.length_map, List.length_map, List.length_range]
          exact small1000 (by omega)
        · rw [upd_same, List.range_succ, List.map_append, List.map_append]
          rfl
      · obtain ⟨kp, eD⟩ := p
        refine ⟨D, _, rfl, SqL.of eD, ?_⟩
        have sH' : Same H H' := Keep.fresh sH kp (by simpa using sH.free fD)
        have e : (((List.range rs.length).map fun k => !decide ((d.g : Int) ∈ less ms k)).all id) = bare d.g ms := by
          unfold bare
          rw [decide_eq_true hg, lrs, List.all_map]
          rfl
        rw [e]
        exact q H' sH'
    · rw [decide_eq_false hg]
      refine iteT ?_
      have e : bare d.g ms = false := bare_not hg
      rw [e] at q
      exact q H1 s1
end
end K67
/-! is_mix, is_asking. -/
namespace K67
open PySem PySem.Spec PyProof.Rows L2
/-! ### data that is compared -/
def dInts (ns : List Int) : PyData := .list (ns.map PyData.int)
theorem dp_all (K : PySem.W.Frag) (H : Hp) : ∀ ns : List Int, DpAll K H (iv ns) (ns.map PyData.int)
  | [] => .nil
  | n :: ns => .cons (.int n) (dp_all K H ns)
theorem dp_ints {K : PySem.W.Frag} {H : Hp} {a : Addr} {ns : List Int} (h : SqL K H a (iv ns)) : Dp K H (.ref a) (dInts ns) := .lst h (dp_all K H ns)
theorem lay_ints : ∀ ns : List Int, PyData.canLayAll0 (ns.map PyData.int) = true
  | [] => by simp [PyData.canLayAll0]
  | n :: ns => by
    have ih := lay_ints ns
    simp [PyData.canLayAll0, PyData.canLay0, ih]
theorem depth_ints : ∀ ns : List Int, PyData.depthAll (ns.map PyData.int) = 0
  | [] => by simp [PyData.depthAll]
  | n :: ns => by
    have ih := depth_ints ns
    simp [PyData.depthAll, PyData.depth, ih]
theorem shaped_ints (ns : List Int) : SeqAt.shaped (dInts ns) = true := by
  unfold SeqAt.shaped dInts
  simp [PyData.canLay0, PyData.depth, lay_ints, depth_ints]
theorem eqv_ints (ns : List Int) : PyData.eqv (dInts ns) (dInts ns) = true := by
  have h := shaped_ints ns
  unfold SeqAt.shaped at h
  rw [Bool.and_eq_true] at h
  exact SeqAt.eqv_refl _ h.1
def spIsMix (K : PySem.W.Frag) : Sp := fun vs H Q _ => ∃ c d so fa m lo k, vs = [.ref c, .ref m] ∧ CaseAt K H c d so fa ∧ H m = some (.lst (iv (rg lo k))) ∧ lo + k ≤ d.n ∧ ∀ H', Same H H' → Q (.bl true) H'
def spIsAsking (K : PySem.W.Frag) : Sp := fun vs H Q _ => ∃ c d so fa p q lo k, vs = [.ref c, .ref p] ∧ CaseAt K H c d so fa ∧ H p = some (.tup [.ref q, .str (verd d.g (rg lo k))]) ∧ H q = some (.lst (iv (rg lo k))) ∧ lo + k ≤ d.n ∧ ∀ H', Same H H' → Q (.bl true) H'
structure ITxt (mg : Str → Option Value) : Prop where
  isi : mg "isinstance" = none
  list : mg "list" = none
  bool : mg "bool" = none
  str : mg "str" = none
  int : mg "int" = none
  tuple : mg "tuple" = none
  len : mg "len" = none
theorem take_filter_snoc (p : Int → Bool) (l : List Int) {i : Nat} {z : Int} (h : l[i]? = some z) : (l.take (i + 1)).filter p = if p z = true then (l.take i).filter p ++ [z] else (l.take i).filter p := by
  rw [List.take_add_one, h, List.filter_append]
  show (l.take i).filter p ++ [z].filter p = _
  rw [List.filter_cons]
  split
  · rfl
  · exact List.append_nil _
section
variable {P : Program} {w : World} {K : PySem.W.Frag} {mg : Str → Option Value} {base : Heap}
theorem scIsMix : FnScope ["case", "thing", "some", "one"] ["case", "thing"] (defScope sIsMix) := ⟨rfl, rfl, rfl, by decide +kernel, rfl, by decide +kernel, by decide +kernel⟩
theorem ok_ismix {f fU : Addr} {fd fdU : FuncData} (F : Fun K "is_mix" "is_mix" sIsMix f fd) (T : ITxt mg)
    (GU : FnOk P w K mg base CX0 3 fU fdU ["case"] (spUT K)) (FU : Fun K "unlike_things" "unlike_things" sUnlikeThings fU fdU) (bU : Binds K fdU ["case"] []) (gU : mg "unlike_things" = some (.ref fU)) : FnOk P w K mg base CX0 4 f fd ["case", "thing"] (spIsMix K) := by
  refine F.ok scIsMix (fun vs H Q E h => ?_) (fun cdv A outer s H vs Q E hr h => ?_)
  · obtain ⟨c, d, so, fa, m, lo, k, rfl, _⟩ := h
    rfl
  · obtain ⟨c, d, so, fa, m, lo, k, rfl, hC, hm, inn, q⟩ := h
    refine ⟨_, pss_cons (ps_set (i := 2) scIsMix.nd rfl (Or.inl rfl) (pe_call GU hr (by rfl) gU FU.kp bU .nil pass0 (pa_cons (pv 0) pa_nil)))
      (pss_cons (ps_if (pt_not (pt_val (pe_callB call_isi (by rfl) T.isi PyProof.Rows.boot_isinstance (pa_cons (pv 1) (pa_cons (pe_bltn (v := .ty "list") (by rfl) T.list PyProof.Rows.boot_list rfl) pa_nil))))) pss_never pss_nil)
      (pss_cons (ps_for PassesOwn.never rfl (pi_list (pv 1)) (pg_name (i := 3) scIsMix.nd rfl (Or.inl rfl))
        (pss_one (ps_if (PW.pt (pw_or (pt_val (pe_callB call_isi (by rfl) T.isi PyProof.Rows.boot_isinstance (pa_cons (pv 3) (pa_cons (pe_bltn (v := .ty "bool") (by rfl) T.bool PyProof.Rows.boot_bool rfl) pa_nil))))
          (pw_or (pt_not (pt_val (pe_callB call_isiT (by rfl) T.isi PyProof.Rows.boot_isinstance (pa_cons (pv 3) (pa_cons (pe_tup (pa_cons (pe_bltn (v := .ty "str") (by rfl) T.str PyProof.Rows.boot_str rfl) (pa_cons (pe_bltn (v := .ty "int") (by rfl) T.int PyProof.Rows.boot_int rfl) pa_nil))) pa_nil)))))
          (pw_or1 (pt_cmpR op_notIn_seq (pv 3) (pv 2) rfl))))) pss_never pss_nil)))
      (pss_one (ps_ret (pe_cmpR (op_eqD hr.units) (pv 1) (pe_lc (own := [("one", 3)]) (g := gName 3) (tt := tTest (tOp (rIn K false) (tVar 3) (tVar 1))) (te := tVar 3)
        (by rfl) scIsMix.nd (pi_list (pv 2)) (blkOk_by (own := [("one", 3)]) (N := ["case", "thing", "some", "one"]) (sc := defScope sIsMix) (by decide +kernel))
        (fun _ _ _ _ _ => pg_name (i := 3) scIsMix.nd rfl (Or.inl rfl)) (fun _ _ _ _ _ => pts_one (pt_cmpR op_in_seq (pv 3) (pv 1) rfl)) (fun _ _ _ _ _ => pv 3)) (nomark _)))))), ?_⟩
    have n4 : d.n ≤ 40 := by
      obtain ⟨_, _, _, _, ⟨_, _, _, _, _, ok⟩, _⟩ := hC
      exact ok.n4
    refine ⟨_, rfl, c, d, so, fa, rfl, hC, fun H1 l s1 fl el => ?_⟩
    have m1 := s1 _ _ hm
    refine ⟨_, rfl, .ref m, .ty "list", _, _, true, rfl, .ty "list", .base (.lst m1), kit_ty (by decide +kernel), true, rfl, iteF ?_⟩
    refine ⟨_, rfl, m, rfl, ⟨_, SqL.of m1⟩, for_list (K := K) (a := m) (xs := iv (rg lo k)) (fun i σ H' => ∃ y3, σ = [some (.ref c), some (.ref m), some (.ref l), y3] ∧ Same H1 H')
      ⟨none, rfl, Same.refl _⟩ (fun i σ H' _ p => ?_) (fun i v σ H' hi p => ?_) (fun σ H' p => ?_)⟩
    · obtain ⟨y3, rfl, s2⟩ := p
      exact SqL.of (s2 _ _ m1)
    · obtain ⟨y3, rfl, s2⟩ := p
      obtain ⟨z, hz, rfl⟩ := iv_get hi
      have hz' := mem_rg.mp (List.mem_of_getElem? hz)
      refine ⟨_, rfl, .int z, .ty "bool", _, _, false, rfl, .ty "bool", .base (.int z), kit_ty (by decide +kernel), false, rfl, iteF ?_⟩
      refine ⟨_, rfl, (by show 2 ≤ sizeLine; decide), fun t ft => ?_⟩
      refine ⟨.int z, t, _, _, _, true, rfl, upd_same, .cons (.ty "str") (.cons (.ty "int") .nil), .base (.int z), ?_, true, rfl, iteF ?_⟩
      · exact kitAny_cons (kit_ty (show kitB "int" "str" = some false by decide +kernel)) (fun _ => kitAny_cons (kit_ty (show kitB "int" "int" = some true by decide +kernel)) (fun e => by cases e) (fun _ => rfl)) (fun e => by cases e)
      · have s3 := s2.trans (same_new (o := .tup [.ty "str", .ty "int"]) ft)
        refine ⟨_, rfl, _, rfl, l, _, rfl, .inl (SqL.of (s3 _ _ el)), rfl, iv_flat _, ?_⟩
        rw [inV_iv, decide_eq_true (mem_rg.mpr (by omega))]
        exact ⟨false, rfl, iteF ⟨_, rfl, s3⟩⟩
    · obtain ⟨y3, rfl, s2⟩ := p
      have m2 := s2 _ _ m1
      refine ⟨_, rfl, _, rfl, l, rfl, ⟨_, SqL.of (s2 _ _ el)⟩, fun D fD => ?_⟩
      have nm : m ≠ D := ne_of_none m2 fD
      have nl : l ≠ D := ne_of_none (s2 _ _ el) fD
      refine lc_list (K := K) (a := l) (xs := iv (rg 0 d.n)) (fun i H2 => Keep [D] H' H2 ∧ H2 D = some (.lst (iv (((rg 0 d.n).take i).filter fun z => decide (z ∈ rg lo k)))))
        ⟨keep_new fD, upd_same⟩ (fun i H2 _ p => SqL.of (p.1 _ _ (by simpa using nl) (s2 _ _ el))) (fun i v H2 hi p => ?_) (fun H2 p => ?_)
      · obtain ⟨kp, eD⟩ := p
        obtain ⟨z, hz, rfl⟩ := iv_get hi
        have il : i < d.n := by
          have e := (List.getElem?_eq_some_iff.mp hz).1
          rw [rg_length] at e
          exact e
        have ts := take_filter_snoc (fun z => decide (z ∈ rg lo k)) (rg 0 d.n) hz
        refine ⟨rfl, ?_⟩
        refine ⟨_, rfl, _, rfl, m, _, rfl, .inl (SqL.of (kp _ _ (by simpa using nm) m2)), rfl, iv_flat _, _, rfl, ?_⟩
        rw [inV_iv]
        by_cases hin : z ∈ rg lo k
        · rw [if_pos (decide_eq_true hin)] at ts
          rw [decide_eq_true hin]
          refine iteT ⟨_, rfl, _, eD, ?_, kp.trans (keep_wr (by simp)), ?_⟩
          · rw [iv_len]
            refine Nat.lt_of_le_of_lt (List.length_filter_le _ _) ?_
            rw [List.length_take]
            exact Nat.lt_of_le_of_lt (Nat.min_le_left _ _) (small1000 (by omega))
          · rw [upd_same, ts, iv_snoc]
        · rw [if_neg (fun e => hin (of_decide_eq_true e))] at ts
          rw [decide_eq_false hin]
          refine iteF ⟨kp, ?_⟩
          rw [ts]
          exact eD
      · obtain ⟨kp, eD⟩ := p
        rw [iv_len, rg_length, List.take_of_length_le (by rw [rg_length]; exact Nat.le_refl _), rg_filter _ _ _ _ (Nat.zero_le _) (by omega)] at eD
        refine ⟨dInts (rg lo k), dInts (rg lo k), dp_ints (SqL.of (kp _ _ (by simpa using nm) m2)), dp_ints (SqL.of eD), shaped_ints _, shaped_ints _, ?_⟩
        rw [eqv_ints]
        exact q H2 (Keep.fresh (s1.trans s2) kp (by simpa using (s1.trans s2).free fD))
theorem scAsking : FnScope ["case", "thing"] ["case", "thing"] (defScope sIsAsking) := ⟨rfl, rfl, rfl, by decide +kernel, rfl, by decide +kernel, by decide +kernel⟩
theorem ok_asking {f fM fV : Addr} {fd fdM fdV : FuncData} (F : Fun K "is_asking" "is_asking" sIsAsking f fd) (T : ITxt mg)
    (GM : FnOk P w K mg base CX0 4 fM fdM ["case", "thing"] (spIsMix K)) (FM : Fun K "is_mix" "is_mix" sIsMix fM fdM) (bM : Binds K fdM ["case", "thing"] []) (gM : mg "is_mix" = some (.ref fM))
    (GV : FnOk P w K mg base CX0 6 fV fdV ["case", "mix"] (spVerdict K)) (FV : Fun K "verdict" "verdict" sVerdict fV fdV) (bV : Binds K fdV ["case", "mix"] []) (gV : mg "verdict" = some (.ref fV)) : FnOk P w K mg base CX0 7 f fd ["case", "thing"] (spIsAsking K) := by
  refine F.ok scAsking (fun vs H Q E h => ?_) (fun cdv A outer s H vs Q E hr h => ?_)
  · obtain ⟨c, d, so, fa, p, q, lo, k, rfl, _⟩ := h
    rfl
  · obtain ⟨c, d, so, fa, p, y, lo, k, rfl, hC, hp, hy, inn, q⟩ := h
    refine ⟨_, pss_cons (ps_if (PW.pt (pw_or (pt_not (pt_val (pe_callB call_isi (by rfl) T.isi PyProof.Rows.boot_isinstance (pa_cons (pv 1) (pa_cons (pe_bltn (v := .ty "tuple") (by rfl) T.tuple PyProof.Rows.boot_tuple rfl) pa_nil)))))
        (pw_or (pt_cmpR op_ne (pe_callB call_len_seq (by rfl) T.len PySem.boot_len (pa_cons (pv 1) pa_nil)) pe_int (nomark _))
        (pw_or1 (pt_not (pt_val (pe_call GM (hr.mono (by decide)) (by rfl) gM FM.kp bM .nil pass0 (pa_cons (pv 0) (pa_cons (pe_ix ix_tup (pv 1) pe_int (fun _ _ => rfl)) pa_nil))))))))) pss_never pss_nil)
      (pss_one (ps_ret (pe_and (pe_callB call_isi (by rfl) T.isi PyProof.Rows.boot_isinstance (pa_cons (pe_ix ix_tup (pv 1) pe_int (fun _ _ => rfl)) (pa_cons (pe_bltn (v := .ty "str") (by rfl) T.str PyProof.Rows.boot_str rfl) pa_nil)))
        (pe_one (pe_cmpR op_eq (pe_ix ix_tup (pv 1) pe_int (fun _ _ => rfl)) (pe_call GV hr (by rfl) gV FV.kp bV .nil pass0 (pa_cons (pv 0) (pa_cons (pe_ix ix_tup (pv 1) pe_int (fun _ _ => rfl)) pa_nil))) (nomark _)))))), ?_⟩
    refine ⟨_, rfl, .ref p, .ty "tuple", _, _, true, rfl, .ty "tuple", .base (.tup hp), kit_ty (by decide +kernel), true, rfl, iteF ?_⟩
    refine ⟨_, rfl, p, _, rfl, .inr (SqT.of hp), rfl, false, rfl, iteF ?_⟩
    refine ⟨_, rfl, _, rfl, p, _, 0, _, rfl, rfl, SqT.of hp, rfl, c, d, so, fa, y, lo, k, rfl, hC, hy, inn, fun H1 s1 => ⟨true, rfl, iteF ?_⟩⟩
    have hp1 := SqT.of (K := K) (s1 _ _ hp)
    refine ⟨_, rfl, p, _, 1, _, rfl, rfl, hp1, rfl, .str _, .ty "str", _, _, true, rfl, .ty "str", .base (.str _), kit_ty (by decide +kernel), true, rfl, iteT ?_⟩
    refine ⟨_, rfl, p, _, 1, _, rfl, rfl, hp1, rfl, _, rfl, _, rfl, p, _, 0, _, rfl, rfl, hp1, rfl, c, y, d, so, fa, rg lo k, rfl, hC.tk (same_tk s1), SqL.of (s1 _ _ hy), fun H2 s2 => ⟨rfl, ?_⟩⟩
    rw [decide_eq_true rfl]
    exact q H2 (s1.trans s2)
end
end K67
/-! is_narrowed. -/
namespace K67
open PySem PySem.Spec PyProof.Rows L2
theorem paired_at {α β : Type} {F : α → β → Prop} {l1 : List α} {l2 : List β} (h : Paired F l1 l2) : ∀ {i : Nat} {a : α}, l1[i]? = some a → ∃ b, l2[i]? = some b ∧ F a b := by
  induction h with
  | nil => intro i a e; cases e
  | @cons x y _ _ f t ih =>
    intro i a e
    cases i with
    | zero =>
      cases Option.some.inj e
      exact ⟨y, rfl, f⟩
    | succ i => exact ih e
theorem paired_at' {α β : Type} {F : α → β → Prop} {l1 : List α} {l2 : List β} (h : Paired F l1 l2) : ∀ {i : Nat} {b : β}, l2[i]? = some b → ∃ a, l1[i]? = some a ∧ F a b := by
  induction h with
  | nil => intro i a e; cases e
  | @cons x y _ _ f t ih =>
    intro i a e
    cases i with
    | zero =>
      cases Option.some.inj e
      exact ⟨x, rfl, f⟩
    | succ i => exact ih e
def dEntry (g : Nat) (m : List Int) : PyData := .tuple [dInts m, .str (verd g m)]
theorem dp_entries {K : PySem.W.Frag} {H : Hp} {l : Addr} {g : Nat} {rvs : List V} {A : List (List Int)} (h : Paired (EntryAt H l g) rvs A) : DpAll K H rvs (A.map (dEntry g)) := by
  induction h with
  | nil => exact .nil
  | cons f t ih =>
    obtain ⟨p, q, rfl, e1, e2, _⟩ := f
    exact .cons (.tup (SqT.of e1) (.cons (dp_ints (SqL.of e2)) (.cons (.str _) .nil))) ih
theorem strOk_verd (g : Nat) (m : List Int) : PyData.canLay0 (.str (verd g m)) = true := by
  unfold verd
  split <;> (simp only [PyData.canLay0]; decide +kernel)
theorem lay_entries (g : Nat) : ∀ A : List (List Int), PyData.canLayAll0 (A.map (dEntry g)) = true
  | [] => by simp [PyData.canLayAll0]
  | m :: A => by
    have ih := lay_entries g A
    have h := strOk_verd g m
    simp [PyData.canLayAll0, PyData.canLay0, dEntry, dInts, lay_ints] at h ⊢
    exact ⟨h, ih⟩
theorem depth_entries (g : Nat) : ∀ A : List (List Int), PyData.depthAll (A.map (dEntry g)) ≤ 2
  | [] => by simp [PyData.depthAll]
  | m :: A => by
    have ih := depth_entries g A
    simp [PyData.depthAll, PyData.depth, dEntry, dInts, depth_ints]
    exact Nat.max_le.mpr ⟨Nat.le_refl _, ih⟩
theorem shaped_entries (g : Nat) (A : List (List Int)) : SeqAt.shaped (.list (A.map (dEntry g))) = true := by
  have h := depth_entries g A
  unfold SeqAt.shaped
  rw [Bool.and_eq_true]
  refine ⟨by simp [PyData.canLay0, lay_entries], decide_eq_true ?_⟩
  simp only [PyData.depth]
  omega
theorem keys_nodup {g : Nat} {A : List (List Int)} (h : A.Nodup) : ((kvsOf g A).map (·.1)).Nodup := by
  unfold kvsOf
  rw [List.map_map]
  induction A with
  | nil => exact List.nodup_nil
  | cons m A ih =>
    rw [List.nodup_cons] at h
    rw [List.map_cons, List.nodup_cons]
    refine ⟨fun z => ?_, ih h.2⟩
    obtain ⟨y, hy, e⟩ := List.mem_map.mp z
    exact h.1 (key_inj e ▸ hy)
def rTupOf (K : PySem.W.Frag) : List V → Hp → VK → Prop := fun xs H Q => ∃ p ys, xs = [.ref p] ∧ ((SqL K H p ys ∧ ∀ l, H l = none → Q (.ref l) (upd H l (.tup ys))) ∨ (SqT K H p ys ∧ Q (.ref p) H))
def spIsNarrowed (K : PySem.W.Frag) : Sp := fun vs H Q _ => ∃ c d so fa t l mx A rvs, vs = [.ref c, .ref t] ∧ CaseAt K H c d so fa ∧ H t = some (.tup [.ref l, .ref mx]) ∧ H l = some (.lst rvs) ∧ Paired (EntryAt H l d.g) rvs A ∧ H mx = some (.lst (iv [(d.g : Int)])) ∧
  Good d.n A ∧ [(d.g : Int)] ∈ A ∧ [] ∈ A ∧ A.length ≤ 100 ∧ ∀ H', Same H H' → Q (.bl true) H'
section
variable {P : Program} {w : World} {K : PySem.W.Frag} {mg : Str → Option Value} {base : Heap}
theorem scIsNarrowed : FnScope ["case", "thing", "askings", "cause", "known", "row", "mix", "told"] ["case", "thing"] (defScope sIsNarrowed) := ⟨rfl, rfl, rfl, by decide +kernel, rfl, by decide +kernel, by decide +kernel⟩
theorem ok_isnarrowed {f fM fI fA fU fL : Addr} {fd fdM fdI fdA fdU fdL : FuncData} (F : Fun K "is_narrowed" "is_narrowed" sIsNarrowed f fd) (T : ITxt mg) (mAll : mg "all" = none) (mD : mg "dict" = none)
    (GM : FnOk P w K mg base CX0 5 fM fdM ["case"] (spMarks K)) (FM : Fun K "marks" "marks" sMarks fM fdM) (bM : Binds K fdM ["case"] []) (gM : mg "marks" = some (.ref fM))
    (GI : FnOk P w K mg base CX0 4 fI fdI ["case", "thing"] (spIsMix K)) (FI : Fun K "is_mix" "is_mix" sIsMix fI fdI) (bI : Binds K fdI ["case", "thing"] []) (gI : mg "is_mix" = some (.ref fI))
    (GA : FnOk P w K mg base CX0 7 fA fdA ["case", "thing"] (spIsAsking K)) (FA : Fun K "is_asking" "is_asking" sIsAsking fA fdA) (bA : Binds K fdA ["case", "thing"] []) (gA : mg "is_asking" = some (.ref fA))
    (GU : FnOk P w K mg base CX0 3 fU fdU ["case"] (spUT K)) (FU : Fun K "unlike_things" "unlike_things" sUnlikeThings fU fdU) (bU : Binds K fdU ["case"] []) (gU : mg "unlike_things" = some (.ref fU))
    (GL : FnOk P w K mg base CX0 1 fL fdL ["mix"] (spLess K)) (FL : Fun K "lessened" "lessened" sLessened fL fdL) (bL : Binds K fdL ["mix"] []) (gL : mg "lessened" = some (.ref fL)) :
    FnOk P w K mg base CX0 8 f fd ["case", "thing"] (spIsNarrowed K) := by
  refine F.ok scIsNarrowed (fun vs H Q E h => ?_) (fun cdv A outer s H vs Q E hr h => ?_)
  · obtain ⟨c, d, so, fa, t, l, mx, A, rvs, rfl, _⟩ := h
    rfl
  · obtain ⟨c, d, so, fa, t, l, mx, A, rvs, rfl, hC, ht, hl, pr, hmx, gd, hg, h0, hlen, q⟩ := h
    have hu := hu_of hr
    refine ⟨_, pss_cons (ps_expr (pe_call GM (hr.mono (by decide)) (by rfl) gM FM.kp bM .nil pass0 (pa_cons (pv 0) pa_nil)))
      (pss_cons (ps_if (PW.pt (pw_or (pt_not (pt_val (pe_callB call_isi (by rfl) T.isi PyProof.Rows.boot_isinstance (pa_cons (pv 1) (pa_cons (pe_bltn (v := .ty "tuple") (by rfl) T.tuple PyProof.Rows.boot_tuple rfl) pa_nil)))))
        (pw_or (pt_cmpR op_ne (pe_callB call_len_seq (by rfl) T.len PySem.boot_len (pa_cons (pv 1) pa_nil)) pe_int (nomark _))
        (pw_or (pt_not (pt_val (pe_callB call_isi (by rfl) T.isi PyProof.Rows.boot_isinstance (pa_cons (pe_ix ix_tup (pv 1) pe_int (fun _ _ => rfl)) (pa_cons (pe_bltn (v := .ty "list") (by rfl) T.list PyProof.Rows.boot_list rfl) pa_nil)))))
        (pw_or1 (pt_cmpR (op_eqD hr.units) (pe_ix ix_tup (pv 1) pe_int (fun _ _ => rfl)) (pe_lst pa_nil) (nomark _))))))) pss_never pss_nil)
      (pss_cons (ps_asg (pv 1) (pg_tup rfl (pgs_cons (pg_name (i := 2) scIsNarrowed.nd rfl (Or.inl rfl)) (pgs_cons (pg_name (i := 3) scIsNarrowed.nd rfl (Or.inl rfl)) pgs_nil))))
      (pss_cons (ps_if (PW.pt (pw_or (pt_not (pt_val (pe_callB (cr_all rfl) (by rfl) mAll PyProof.Rows.boot_all (pa_cons
          (pe_lc (own := [("row", 5)]) (g := gName 5) (tt := tYes) (te := tCall (spIsAsking K) [] E0 (tCons (tVar 0) (tCons (tVar 5) tNil))) (by rfl) scIsNarrowed.nd (pi_list (pv 2))
            (blkOk_by (own := [("row", 5)]) (N := ["case", "thing", "askings", "cause", "known", "row", "mix", "told"]) (sc := defScope sIsNarrowed) (by decide +kernel))
            (fun _ _ _ _ _ => pg_name (i := 5) scIsNarrowed.nd rfl (Or.inl rfl)) (fun _ _ _ _ _ => pts_nil)
            (fun _ _ _ _ _ => pe_call GA hr (by rfl) gA FA.kp bA .nil pass0 (pa_cons (pv 0) (pa_cons (pv 5) pa_nil)))) pa_nil))))
        (pw_or1 (pt_not (pt_val (pe_call GI (hr.mono (by decide)) (by rfl) gI FI.kp bI .nil pass0 (pa_cons (pv 0) (pa_cons (pv 3) pa_nil)))))))) pss_never pss_nil)
      (pss_cons (ps_set (i := 4) scIsNarrowed.nd rfl (Or.inr rfl) (pe_callTy (call_dictT rfl hr) (by rfl) mD PyProof.Rows.boot_dict (pa_cons
          (pe_lc (own := [("mix", 6), ("told", 7)]) (g := gTup K 2 (gCons (gName 6) (gCons (gName 7) gNil))) (tt := tYes) (te := tTup (tCons (tCB (rTupOf K) (tCons (tVar 6) tNil)) (tCons (tVar 7) tNil))) (by rfl) scIsNarrowed.nd (pi_list (pv 2))
            (blkOk_by (own := [("mix", 6), ("told", 7)]) (N := ["case", "thing", "askings", "cause", "known", "row", "mix", "told"]) (sc := defScope sIsNarrowed) (by decide +kernel))
            (fun _ _ _ _ _ => pg_tup rfl (pgs_cons (pg_name (i := 6) scIsNarrowed.nd rfl (Or.inl rfl)) (pgs_cons (pg_name (i := 7) scIsNarrowed.nd rfl (Or.inl rfl)) pgs_nil))) (fun _ _ _ _ _ => pts_nil)
            (fun _ _ _ _ _ => pe_tup (pa_cons (pe_callTy call_tuple_of (by rfl) T.tuple PyProof.Rows.boot_tuple (pa_cons (pv 6) pa_nil)) (pa_cons (pv 7) pa_nil)))) pa_nil)))
      (pss_cons (ps_if (PW.pt (pw_or (pt_cmpR op_lt (pe_callB call_len_dT (by rfl) T.len PySem.boot_len (pa_cons (pv 4) pa_nil)) (pe_callB call_len_seq (by rfl) T.len PySem.boot_len (pa_cons (pv 2) pa_nil)) (nomark _))
        (pw_or1 (pt_cmpR (op_neD hr.units) (pe_ix ix_tup (pe_ix ix_list (pv 2) pe_int (fun _ _ => rfl)) pe_int (fun _ _ => rfl)) (pe_call GU (hr.mono (by decide)) (by rfl) gU FU.kp bU .nil pass0 (pa_cons (pv 0) pa_nil)) (nomark _))))) pss_never pss_nil)
      (pss_cons (ps_if (pt_cmpR op_ne (pe_dget1 hu (pv 4) (pe_callTy call_tuple_of (by rfl) T.tuple PyProof.Rows.boot_tuple (pa_cons (pv 3) pa_nil)) ⟨rfl, rfl, rfl, rfl⟩) pe_str (nomark _)) pss_never pss_nil)
      (pss_one (ps_ret (pe_callB (cr_all rfl) (by rfl) mAll PyProof.Rows.boot_all (pa_cons
          (pe_lc (own := [("mix", 6)]) (g := gName 6) (tt := tYes) (te := tOp rNe (tDGet2 (tVar 4) (tCB (rTupOf K) (tCons (tVar 6) tNil)) (tC (.str "faulty"))) (tC (.str "faulty"))) (by rfl) scIsNarrowed.nd
            (pi_list (pe_call GL (hr.mono (by decide)) (by rfl) gL FL.kp bL .nil pass0 (pa_cons (pv 3) pa_nil)))
            (blkOk_by (own := [("mix", 6)]) (N := ["case", "thing", "askings", "cause", "known", "row", "mix", "told"]) (sc := defScope sIsNarrowed) (by decide +kernel))
            (fun _ _ _ _ _ => pg_name (i := 6) scIsNarrowed.nd rfl (Or.inl rfl)) (fun _ _ _ _ _ => pts_nil)
            (fun _ _ _ _ _ => pe_cmpR op_ne (pe_dget2 hu (pv 4) (pe_callTy call_tuple_of (by rfl) T.tuple PyProof.Rows.boot_tuple (pa_cons (pv 6) pa_nil)) pe_str ⟨rfl, rfl, rfl, rfl⟩) pe_str (nomark _))) pa_nil)))))))))), ?_⟩
    have lr : rvs.length = A.length := Paired.length pr
    have n4 : d.n ≤ 40 ∧ d.g < d.n := by
      obtain ⟨_, _, _, _, ⟨_, _, _, _, _, ok⟩, _⟩ := hC
      exact ⟨ok.n4, ok.gn⟩
    -- marks(case)
    refine ⟨_, rfl, c, d, so, fa, rfl, hC, fun H1 _ _ _ s1 _ _ _ _ _ => ?_⟩
    have t1 := s1 _ _ ht
    have l1 := s1 _ _ hl
    -- the form
    refine ⟨_, rfl, .ref t, .ty "tuple", _, _, true, rfl, .ty "tuple", .base (.tup t1), kit_ty (by decide +kernel), true, rfl, iteF ?_⟩
    refine ⟨_, rfl, t, _, rfl, .inr (SqT.of t1), rfl, false, rfl, iteF ?_⟩
    refine ⟨_, rfl, t, _, 0, _, rfl, rfl, SqT.of t1, rfl, .ref l, .ty "list", _, _, true, rfl, .ty "list", .base (.lst l1), kit_ty (by decide +kernel), true, rfl, iteF ?_⟩
    refine ⟨_, rfl, t, _, 0, _, rfl, rfl, SqT.of t1, rfl, Nat.zero_le _, fun e fe => ?_⟩
    have s2 := s1.trans (same_new (o := .lst []) fe)
    have pr2 : ∀ {H'}, Same H H' → Paired (EntryAt H' l d.g) rvs A := fun s => Paired.mapP pr fun v m ⟨p, q, ev, e1, e2, n⟩ => ⟨p, q, ev, s _ _ e1, s _ _ e2, n⟩
    obtain ⟨m0, A0, eA⟩ : ∃ m0 A0, A = m0 :: A0 := by
      cases A with
      | nil =>
        have := gd.all
        cases this
      | cons m0 A0 => exact ⟨m0, A0, rfl⟩
    refine ⟨.list (A.map (dEntry d.g)), .list [], .lst (SqL.of (s2 _ _ hl)) (dp_entries (pr2 s2)), .lst (SqL.of upd_same) .nil, shaped_entries _ _, by decide +kernel, false, ?_, iteF ?_⟩
    · rw [eA]
      show V.bl (PyData.eqv (.list (_ :: _)) (.list [])) = _
      simp [PyData.eqv, PyData.eqvAll]
    -- askings, cause = thing
    refine ⟨_, rfl, t, _, rfl, SqT.of (s2 _ _ ht), rfl, _, _, rfl, _, _, rfl, rfl, ?_⟩
    generalize upd H1 e (.lst []) = H2 at s2
    -- all([is_asking(case, row) for row in askings])
    refine ⟨_, rfl, l, rfl, ⟨_, SqL.of (s2 _ _ hl)⟩, fun D fD => ?_⟩
    have nl : l ≠ D := ne_of_none (s2 _ _ hl) fD
    refine lc_list (K := K) (a := l) (xs := rvs) (fun i H' => Keep [D] H2 H' ∧ H' D = some (.lst ((List.replicate i true).map V.bl))) ⟨keep_new fD, upd_same⟩ (fun i H' _ p => SqL.of (p.1 _ _ (by simpa using nl) (s2 _ _ hl))) (fun i v H' hi p => ?_) (fun H' p => ?_)
    · obtain ⟨kp, eD⟩ := p
      have s3 : Same H H' := Keep.fresh s2 kp (by simpa using s2.free fD)
      obtain ⟨m, em, p, y, rfl, e1, e2, _⟩ := paired_at (pr2 s3) hi
      obtain ⟨lo, k, rfl, inn⟩ := gd.runs m (List.mem_of_getElem? em)
      refine ⟨rfl, ?_⟩
      refine ⟨_, rfl, _, rfl, c, d, so, fa, p, y, lo, k, rfl, hC.tk (same_tk s3), e1, e2, inn, fun H4 s4 => ?_⟩
      refine ⟨_, s4 _ _ eD, ?_, (kp.trans (Same.keep _ s4)).trans (keep_wr (by simp)), ?_⟩
      · rw [List.length_map, List.length_replicate]
        have := (List.getElem?_eq_some_iff.mp hi).1
        exact small1000 (by omega)
      · rw [upd_same, List.replicate_succ', List.map_append]
        rfl
    obtain ⟨kp, eD⟩ := p
    have s3 : Same H H' := Keep.fresh s2 kp (by simpa using s2.free fD)
    clear kp
    refine ⟨D, _, rfl, SqL.of eD, true, ?_, iteF ?_⟩
    · simp
    -- is_mix(case, cause)
    have gq : iv [(d.g : Int)] = iv (rg d.g 1) := by rw [rg_one]
    refine ⟨_, rfl, _, rfl, c, d, so, fa, mx, d.g, 1, rfl, hC.tk (same_tk s3), by rw [← gq]; exact s3 _ _ hmx, by omega, fun H4 s34 => ⟨true, rfl, iteF ?_⟩⟩
    have s4 : Same H H4 := s3.trans s34
    clear eD fD nl s34 s3
    -- known
    refine ⟨_, rfl, l, rfl, ⟨_, SqL.of (s4 _ _ hl)⟩, fun D fD => ?_⟩
    have nl : l ≠ D := ne_of_none (s4 _ _ hl) fD
    refine lc_list (K := K) (a := l) (xs := rvs) (fun i H' => Keep [D] H4 H' ∧ ∃ ps : List Addr, H' D = some (.lst (ps.map V.ref)) ∧ ps.length = i ∧ Paired (fun p kv => ∃ q, H' p = some (.tup [.ref q, kv.2]) ∧ H' q = some (.tup (kv.1.map kV))) ps (kvsOf d.g (A.take i)))
      ⟨keep_new fD, [], upd_same, rfl, .nil⟩ (fun i H' _ p => SqL.of (p.1 _ _ (by simpa using nl) (s4 _ _ hl))) (fun i v H' hi p => ?_) (fun H' p => ?_)
    · obtain ⟨kp, ps, eD, lps, pp⟩ := p
      have s5 : Same H H' := Keep.fresh s4 kp (by simpa using s4.free fD)
      obtain ⟨m, em, p, y, rfl, e1, e2, _⟩ := paired_at (pr2 s5) hi
      have ai : i < A.length := (List.getElem?_eq_some_iff.mp em).1
      refine ⟨p, _, rfl, SqT.of e1, rfl, _, _, rfl, _, _, rfl, rfl, rfl, ?_⟩
      refine ⟨_, rfl, y, _, rfl, .inl ⟨SqL.of e2, fun b fb => ?_⟩⟩
      refine ⟨_, rfl, (by show 2 ≤ sizeLine; decide), fun r fr => ?_⟩
      have s6 : Same H' (upd (upd H' b (.tup (iv m))) r (.tup [.ref b, .str (verd d.g m)])) := (same_new fb).trans (same_new fr)
      have eb : upd (upd H' b (.tup (iv m))) r (.tup [.ref b, .str (verd d.g m)]) b = some (.tup ((keyOf m).map kV)) := by
        rw [key_iv]
        exact upd_new upd_same fr
      have er : upd (upd H' b (.tup (iv m))) r (.tup [.ref b, .str (verd d.g m)]) r = some (.tup [.ref b, .str (verd d.g m)]) := upd_same
      generalize upd (upd H' b (.tup (iv m))) r (.tup [.ref b, .str (verd d.g m)]) = H6 at s6 eb er
      have eD6 := s6 _ _ eD
      refine ⟨ps.map V.ref, eD6, by rw [List.length_map, lps]; exact small1000 (by omega), (kp.trans (Same.keep _ s6)).trans (keep_wr (by simp)), ps ++ [r], ?_, by rw [List.length_append, lps]; rfl, ?_⟩
      · rw [upd_same, List.map_append]
        rfl
      · rw [List.take_add_one, em, show (some m).toList = [m] from rfl, kvs_snoc]
        refine Paired.snoc (Paired.mapP pp fun p kv ⟨q, h1, h2⟩ => ⟨q, ?_, ?_⟩) ⟨b, ?_, ?_⟩
        · exact upd_at (s6 _ _ h1) (ne_of (s6 _ _ h1) eD6 (by intro z; cases z))
        · exact upd_at (s6 _ _ h2) (ne_of (s6 _ _ h2) eD6 (by intro z; cases z))
        · exact upd_at er (ne_of er eD6 (by intro z; cases z))
        · exact upd_at eb (ne_of eb eD6 (by intro z; cases z))
    obtain ⟨kp, ps, eD, lps, pp⟩ := p
    have s5 : Same H H' := Keep.fresh s4 kp (by simpa using s4.free fD)
    rw [lr, List.take_length] at pp
    refine ⟨D, ps, _, rfl, SqL.of eD, pp, keys_nodup gd.nd, fun kd fk => ?_⟩
    have s6 : Same H (upd H' kd (.dT (kvsOf d.g A))) := s5.trans (same_new fk)
    have ek : upd H' kd (.dT (kvsOf d.g A)) kd = some (.dT (kvsOf d.g A)) := upd_same
    generalize upd H' kd (.dT (kvsOf d.g A)) = H6 at s6 ek
    clear pp eD kp s5 fk fD nl
    -- len(known) < len(askings)
    refine ⟨_, rfl, kd, _, rfl, ek, _, rfl, l, _, rfl, .inl (SqL.of (s6 _ _ hl)), _, _, rfl, rfl, false, ?_, iteF ?_⟩
    · dsimp only
      rw [decide_eq_false]
      unfold kvsOf
      rw [List.length_map, lr]
      omega
    -- askings[0][0] != unlike_things(case)
    obtain ⟨v0, ev0, p0, y0, rfl, e01, e02, _⟩ := paired_at' (pr2 s6) gd.all
    refine ⟨_, rfl, l, _, 0, _, rfl, rfl, SqL.of (s6 _ _ hl), atI_nat (j := 0) ev0, p0, _, 0, _, rfl, rfl, SqT.of e01, rfl, _, rfl, c, d, so, fa, rfl, hC.tk (same_tk s6), fun H7 u s67 fu eu => ?_⟩
    have s7 : Same H H7 := s6.trans s67
    refine ⟨dInts (rg 0 d.n), dInts (rg 0 d.n), dp_ints (SqL.of (s67 _ _ e02)), dp_ints (SqL.of eu), shaped_ints _, shaped_ints _, false, by rw [eqv_ints] <;> rfl, iteF ?_⟩
    have ek7 := s67 _ _ ek
    clear e01 e02 ev0 fu eu s67 ek s6
    -- known.get(tuple(cause)) != "faulty"
    refine ⟨_, rfl, kd, rfl, .inr ⟨_, .inl ek7⟩, _, rfl, mx, _, rfl, .inl ⟨SqL.of (s7 _ _ hmx), fun b fb => ?_⟩⟩
    have s8 : Same H7 (upd H7 b (.tup (iv [(d.g : Int)]))) := same_new fb
    have eb : upd H7 b (.tup (iv [(d.g : Int)])) b = some (.tup ((keyOf [(d.g : Int)]).map kV)) := by
      rw [key_iv]
      exact upd_same
    have g8 := DGet.t (k := keyOf [(d.g : Int)]) (s8 _ _ ek7) eb
    rw [valV_kvs, if_pos hg] at g8
    refine ⟨_, g8, rfl, false, ?_, iteF ?_⟩
    · show V.bl (!decide (V.str (verd d.g [(d.g : Int)]) = V.str "faulty")) = _
      rw [verd_ne, decide_eq_true List.mem_cons_self]
      rfl
    have s9 : Same H (upd H7 b (.tup (iv [(d.g : Int)]))) := s7.trans s8
    have ek9 := s8 _ _ ek7
    generalize upd H7 b (.tup (iv [(d.g : Int)])) = H9 at s9 ek9
    -- all([known.get(tuple(mix), "faulty") != "faulty" for mix in lessened(cause)])
    refine ⟨_, rfl, mx, [(d.g : Int)], rfl, SqL.of (s9 _ _ hmx), (by decide : 1 ≤ 100), fun HA L rs sA eL lrs hrs => ?_⟩
    have ekA := sA _ _ ek9
    have sHA : Same H HA := s9.trans sA
    refine ⟨L, rfl, ⟨_, SqL.of eL⟩, fun D fD => ?_⟩
    have nL : L ≠ D := ne_of_none eL fD
    have nk : kd ≠ D := ne_of_none ekA fD
    refine lc_list (K := K) (a := L) (xs := rs) (fun i H' => Keep [D] HA H' ∧ H' D = some (.lst ((List.replicate i true).map V.bl))) ⟨keep_new fD, upd_same⟩ (fun i H' _ p => SqL.of (p.1 _ _ (by simpa using nL) eL)) (fun i v H' hi p => ?_) (fun H' p => ?_)
    · obtain ⟨kp, eD⟩ := p
      have i0 : i = 0 := by
        have e := (List.getElem?_eq_some_iff.mp hi).1
        rw [lrs] at e
        have : ([(d.g : Int)] : List Int).length = 1 := rfl
        omega
      subst i0
      obtain ⟨y, ey, hy⟩ := hrs 0 (by show 0 < 1; decide)
      have ev : v = .ref y := Option.some.inj (hi.symm.trans ey)
      subst ev
      have ny : y ≠ D := ne_of_none hy fD
      have hy' : H' y = some (.lst (iv [])) := kp _ _ (by simpa using ny) hy
      have ek' := kp _ _ (by simpa using nk) ekA
      refine ⟨rfl, ?_⟩
      refine ⟨_, rfl, kd, rfl, .inr ⟨_, .inl ek'⟩, _, rfl, y, _, rfl, .inl ⟨SqL.of hy', fun b2 fb2 => ?_⟩⟩
      have sB : Same H' (upd H' b2 (.tup (iv []))) := same_new fb2
      have eb2 : upd H' b2 (.tup (iv [])) b2 = some (.tup ((keyOf []).map kV)) := upd_same
      have gB := DGet.t (k := keyOf []) (sB _ _ ek') eb2
      rw [valV_kvs, if_pos h0] at gB
      refine ⟨_, gB, rfl, [], sB _ _ eD, (by show 0 < sizeLine; decide), (kp.trans (Same.keep _ sB)).trans (keep_wr (by simp)), ?_⟩
      rw [upd_same]
      show some (HO.lst ([] ++ [V.bl (!decide (V.str (verd d.g []) = V.str "faulty"))])) = _
      rw [verd_ne, decide_eq_false (by simp)]
      rfl
    · obtain ⟨kp, eD⟩ := p
      refine ⟨D, _, rfl, SqL.of eD, ?_⟩
      have e : (List.replicate rs.length true).all id = true := by simp
      rw [e]
      exact q H' (Keep.fresh sHA kp (by simpa using sHA.free fD))
end
end K67
/-! The law's own: _law_tape, _law_draw, _law_halvings. -/
namespace K67
open PySem PySem.Spec PyProof.Rows L2
/-- a tape at t: its cells at t0, so many draws at most -/
def TapeAt (H : Hp) (t t0 : Addr) (ns : List Int) (k : Nat) : Prop := ∃ a g : Int, H t = some (.lst [.ref t0, .int a, .int g]) ∧ H t0 = some (.lst (iv ns)) ∧ t0 ≠ t ∧ 0 ≤ a ∧ a ≤ k
theorem TapeAt.same {H H' : Hp} {t t0 : Addr} {ns : List Int} {k : Nat} (s : Same H H') (h : TapeAt H t t0 ns k) : TapeAt H' t t0 ns k := by
  obtain ⟨a, g, e1, e2, r⟩ := h
  exact ⟨a, g, s _ _ e1, s _ _ e2, r⟩
theorem cut_any (ns : List Int) (k : Nat) : cutV (iv ns) none (some (k : Int)) = iv (ns.take k) := by
  unfold cutV
  rw [HT.sIx_none, HT.sIx_nat, iv_len, Nat.sub_zero, List.drop_zero]
  unfold iv
  rw [← List.map_take]
  by_cases h : k ≤ ns.length
  · rw [Nat.min_eq_left h]
  · rw [Nat.min_eq_right (by omega), List.take_length, List.take_of_length_le (by omega)]
def spTape (K : PySem.W.Frag) : Sp := fun vs H Q _ => ∃ a ns, vs = [.ref a] ∧ SqL K H a (iv ns) ∧ ∀ H' t t0 ns, Same H H' → TapeAt H' t t0 ns 0 → Q (.ref t) H'
def spDraw : Sp := fun vs H Q _ => ∃ t t0 ns k n, vs = [.ref t, .int n] ∧ TapeAt H t t0 ns k ∧ k ≤ 1000 ∧ 0 < n ∧ n ≤ 1000 ∧ ∀ H' z, Keep [t] H H' → TapeAt H' t t0 ns (k + 1) → 0 ≤ z → z < n → Q (.int z) H'
def spHalv : Sp := fun vs H Q _ => ∃ n : Nat, vs = [.int n] ∧ n ≤ 1000 ∧ Q (.int (halv n : Nat)) H
section
variable {P : Program} {w : World} {K : PySem.W.Frag} {mg : Str → Option Value} {base : Heap}
theorem scTape : FnScope ["_law_script"] ["_law_script"] (defScope sTape) := ⟨rfl, rfl, rfl, by decide +kernel, rfl, by decide +kernel, by decide +kernel⟩
theorem ok_tape {f : Addr} {fd : FuncData} (F : Fun K "_law_tape" "_law_tape" sTape f fd) (mL : mg "list" = none) : FnOk P w K mg base CX0 1 f fd ["_law_script"] (spTape K) := by
  refine F.ok scTape (fun vs H Q E h => ?_) (fun cdv A outer s H vs Q E hr h => ?_)
  · obtain ⟨a, ns, rfl, _⟩ := h
    rfl
  · obtain ⟨a, ns, rfl, ha, q⟩ := h
    refine ⟨_, pss_one (ps_ret (pe_lst (pa_cons (pe_callTy call_list_of (by rfl) mL PyProof.Rows.boot_list (pa_cons (pe_slice sl_list (pv 0) po_none (po_some pe_int)) pa_nil)) (pa_cons pe_int (pa_cons pe_int pa_nil))))), ?_⟩
    refine ⟨_, rfl, 63, rfl, a, _, rfl, ha, fun p fp => ?_⟩
    have ec : cutV (iv ns) none (some 63) = iv (ns.take 63) := cut_any ns 63
    rw [ec]
    refine ⟨p, _, rfl, .inl (SqL.of upd_same), fun l fl => ⟨(by show 3 ≤ sizeLine; decide), fun t ft => ?_⟩⟩
    have tl : l ≠ t := ne_of_none upd_same ft
    exact q _ t l _ ((same_new fp).trans ((same_new fl).trans (same_new ft))) ⟨0, 0, upd_same, upd_new upd_same ft, tl, Int.le_refl _, Int.le_refl _⟩
theorem scDraw : FnScope ["_law_tape_here", "_law_many", "_law_digit", "_law_at", "_law_cell", "_law_mixed"] ["_law_tape_here", "_law_many"] (defScope sDraw) := ⟨rfl, rfl, rfl, by decide +kernel, rfl, by decide +kernel, by decide +kernel⟩
theorem ok_draw {f : Addr} {fd : FuncData} (F : Fun K "_law_draw" "_law_draw" sDraw f fd) (mL : mg "len" = none) : FnOk P w K mg base CX0 1 f fd ["_law_tape_here", "_law_many"] spDraw := by
  refine F.ok scDraw (fun vs H Q E h => ?_) (fun cdv A outer s H vs Q E hr h => ?_)
  · obtain ⟨t, t0, ns, k, n, rfl, _⟩ := h
    rfl
  · obtain ⟨t, t0, ns, k, n, rfl, ⟨a, g, et, e0, ne, a0, ak⟩, k1, n0, n1, q⟩ := h
    refine ⟨_, pss_cons (ps_if (pt_cmpR op_gt (pe_ix ix_list (pv 0) pe_int (fun _ _ => rfl)) pe_int (nomark _))
        (pss_cons (ps_set (i := 2) scDraw.nd rfl (Or.inl rfl) (pe_op op_mod (pe_ix ix_list (pv 0) pe_int (fun _ _ => rfl)) (pv 1)))
        (pss_cons (ps_asg (pe_op op_fdiv (pe_ix ix_list (pv 0) pe_int (fun _ _ => rfl)) (pv 1)) (pg_sub (pv 0) pe_int set_list))
        (pss_one (ps_ret (pv 2))))) pss_nil)
      (pss_cons (ps_set (i := 3) scDraw.nd rfl (Or.inl rfl) (pe_ix ix_list (pv 0) pe_int (fun _ _ => rfl)))
      (pss_cons (ps_asg (pe_op op_add (pv 3) pe_int) (pg_sub (pv 0) pe_int set_list))
      (pss_cons (ps_set (i := 4) scDraw.nd rfl (Or.inl rfl) pe_int)
      (pss_cons (ps_if (pt_cmpR op_gt (pe_callB call_len_seq (by rfl) mL PySem.boot_len (pa_cons (pe_ix ix_list (pv 0) pe_int (fun _ _ => rfl)) pa_nil)) pe_int (nomark _))
        (pss_one (ps_set (i := 4) scDraw.nd rfl (Or.inl rfl) (pe_ix ix_list (pe_ix ix_list (pv 0) pe_int (fun _ _ => rfl)) (pe_op op_mod (pv 3) (pe_callB call_len_seq (by rfl) mL PySem.boot_len (pa_cons (pe_ix ix_list (pv 0) pe_int (fun _ _ => rfl)) pa_nil))) (fun _ _ => rfl)))) pss_nil)
      (pss_cons (ps_if (PW.pt (pw_and (pt_cmpR op_lt (pv 3) (pe_callB call_len_seq (by rfl) mL PySem.boot_len (pa_cons (pe_ix ix_list (pv 0) pe_int (fun _ _ => rfl)) pa_nil)) (nomark _)) (pw_and1 (pt_cmpR op_ge (pv 4) (pe_op op_pow pe_int pe_int) (nomark _)))))
        (pss_cons (ps_asg (pe_op op_fdiv (pv 4) (pv 1)) (pg_sub (pv 0) pe_int set_list)) (pss_one (ps_ret (pe_op op_mod (pv 4) (pv 1))))) pss_nil)
      (pss_cons (ps_set (i := 5) scDraw.nd rfl (Or.inl rfl) (pe_op op_mod (pe_op op_mul (pe_op op_add (pe_op op_mod (pv 4) pe_int) pe_int) (pe_op op_add (pe_op op_add (pe_op op_mul (pe_op op_mul pe_int (pv 3)) (pv 3)) (pe_op op_mul pe_int (pv 3))) pe_int)) pe_int))
      (pss_cons (ps_set (i := 5) scDraw.nd rfl (Or.inl rfl) (pe_op op_mod (pe_op op_add (pe_op op_add (pe_op op_mul (pv 5) (pv 5)) (pe_op op_mul pe_int (pv 3))) (pe_op op_mod (pv 4) pe_int)) pe_int))
      (pss_one (ps_ret (pe_op op_mod (pe_op op_fdiv (pv 5) pe_int) (pv 1))))))))))), ?_⟩
    have tm : ∀ z : Int, 0 ≤ z % n ∧ z % n < n := fun z => ⟨Int.emod_nonneg _ (by omega), Int.emod_lt_of_pos _ n0⟩
    refine ⟨_, rfl, t, _, 2, _, rfl, rfl, SqL.of et, rfl, _, _, rfl, rfl, _, rfl, ite2 (fun _ => ?_) (fun _ => ?_)⟩
    · refine ⟨_, rfl, t, _, 2, _, rfl, rfl, SqL.of et, rfl, _, rfl, _, _, rfl, rfl, n0, ?_⟩
      refine ⟨_, rfl, t, _, 2, _, rfl, rfl, SqL.of et, rfl, _, rfl, _, _, rfl, rfl, ⟨n0, by omega⟩, _, rfl, t, _, 2, 2, rfl, rfl, et, rfl, ?_⟩
      exact ⟨_, rfl, q _ _ (keep_wr (by simp)) ⟨a, _, upd_same, upd_at e0 ne, ne, a0, by omega⟩ (tm _).1 (tm _).2⟩
    · refine ⟨_, rfl, t, _, 1, _, rfl, rfl, SqL.of et, rfl, ?_⟩
      refine ⟨_, rfl, _, _, rfl, rfl, _, rfl, t, _, 1, 1, rfl, rfl, et, rfl, ?_⟩
      have et1 : upd H t (.lst [.ref t0, .int (a + 1), .int g]) t = some (.lst [.ref t0, .int (a + 1), .int g]) := upd_same
      have e01 : upd H t (.lst [.ref t0, .int (a + 1), .int g]) t0 = some (.lst (iv ns)) := upd_at e0 ne
      have k1' : Keep [t] H (upd H t (.lst [.ref t0, .int (a + 1), .int g])) := keep_wr (by simp)
      have at1 : TapeAt (upd H t (.lst [.ref t0, .int (a + 1), .int g])) t t0 ns (k + 1) := ⟨a + 1, g, et1, e01, ne, by omega, by omega⟩
      have cellAt : decide ((0 : Int) < (((iv ns).length : Nat) : Int)) = true → 0 < (((iv ns).length : Nat) : Int) ∧ ∃ z, atI (iv ns) (a % (((iv ns).length : Nat) : Int)) = some (V.int z) := fun hp => by
        have hp' := of_decide_eq_true hp
        rw [iv_len] at hp' ⊢
        have h1 := Int.emod_nonneg a (show ((ns.length : Nat) : Int) ≠ 0 by omega)
        have h2 := Int.emod_lt_of_pos a hp'
        refine ⟨hp', ns[(a % ((ns.length : Nat) : Int)).toNat]'(by omega), at_of (j := (a % ((ns.length : Nat) : Int)).toNat) (by omega) (iv_at (List.getElem?_eq_getElem _))⟩
      refine ⟨_, rfl, t, _, 0, _, rfl, rfl, SqL.of et1, rfl, t0, _, rfl, .inl (SqL.of e01), _, _, rfl, rfl, _, rfl, ite2
        (fun hp => ⟨_, rfl, t, _, 0, _, rfl, rfl, SqL.of et1, rfl, _, rfl, _, rfl, t, _, 0, _, rfl, rfl, SqL.of et1, rfl, t0, _, rfl, .inl (SqL.of e01), _, _, rfl, rfl, (cellAt hp).1, t0, _, _, _, rfl, rfl, SqL.of e01, (cellAt hp).2.choose_spec, ?_⟩) (fun _ => ?_)⟩
      all_goals
        refine ⟨_, rfl, _, rfl, t, _, 0, _, rfl, rfl, SqL.of et1, rfl, t0, _, rfl, .inl (SqL.of e01), _, _, rfl, rfl, _, rfl, ite2
          (fun _ => ⟨_, rfl, _, _, rfl, rfl, ⟨by decide, by decide, by decide⟩, _, _, rfl, rfl, _, rfl, ite2
            (fun _ => ⟨_, rfl, _, rfl, _, _, rfl, rfl, ⟨n0, by omega⟩, _, rfl, t, _, 2, 2, rfl, rfl, et1, rfl, _, rfl, _, rfl, _, _, rfl, rfl, n0, q _ _ (k1'.trans (keep_wr (by simp))) ⟨_, _, upd_same, upd_at e01 ne, ne, by omega, by omega⟩ (tm _).1 (tm _).2⟩)
            (fun _ => ?_)⟩) (fun _ => iteF ?_)⟩
      all_goals
        refine ⟨_, rfl, _, _, rfl, rfl, (by show (0 : Int) < 1000003; decide), _, _, rfl, rfl, _, rfl, _, _, rfl, rfl, .inl ⟨by decide, by decide⟩, _, rfl, _, _, rfl, rfl, .inr ⟨by omega, by omega⟩,
          _, rfl, _, _, rfl, rfl, .inl ⟨by decide, by decide⟩, _, _, rfl, rfl, _, _, rfl, rfl, _, _, rfl, rfl, .inl ⟨by omega, by omega⟩, _, _, rfl, rfl, (by show (0 : Int) < 2147483647; decide), ?_⟩
        refine ⟨_, rfl, _, rfl, _, _, rfl, rfl, .inl ⟨by omega, by omega⟩, _, rfl, _, _, rfl, rfl, .inl ⟨by decide, by decide⟩, _, _, rfl, rfl, _, rfl, _, _, rfl, rfl, (by show (0 : Int) < 65537; decide), _, _, rfl, rfl, _, _, rfl, rfl, (by show (0 : Int) < 2147483629; decide), ?_⟩
        exact ⟨_, rfl, _, _, rfl, rfl, ⟨by decide, by decide⟩, _, rfl, _, _, rfl, rfl, n0, q _ _ k1' at1 (tm _).1 (tm _).2⟩
theorem scHalv : FnScope ["_law_many", "_law_found"] ["_law_many"] (defScope sHalv) := ⟨rfl, rfl, rfl, by decide +kernel, rfl, by decide +kernel, by decide +kernel⟩
theorem ok_halv {f : Addr} {fd : FuncData} (F : Fun K "_law_halvings" "_law_halvings" sHalv f fd) : FnOk P w K mg base CX0 1 f fd ["_law_many"] spHalv := by
  refine F.ok scHalv (fun vs H Q E h => ?_) (fun cdv A outer s H vs Q E hr h => ?_)
  · obtain ⟨n, rfl, _⟩ := h
    rfl
  · obtain ⟨n, rfl, hn, q⟩ := h
    refine ⟨_, pss_cons (ps_set (i := 1) scHalv.nd rfl (Or.inl rfl) pe_int)
      (pss_cons (ps_while PassesOwn.never (pt_cmpR op_gt (pv 0) pe_int (nomark _))
        (pss_cons (ps_set (i := 0) scHalv.nd rfl (Or.inl rfl) (pe_op op_fdiv (pe_op op_add (pv 0) pe_int) pe_int)) (pss_one (ps_set (i := 1) scHalv.nd rfl (Or.inl rfl) (pe_op op_add (pv 1) pe_int)))))
      (pss_one (ps_ret (pv 1)))), ?_⟩
    refine ⟨fun m σ H' => ∃ k : Nat, σ = [some (.int (m : Nat)), some (.int (k : Nat))] ∧ H' = H ∧ k + halv m = halv n, ⟨n, 0, rfl, rfl, Nat.zero_add _⟩, ?_⟩
    rintro m σ H' ⟨k, rfl, rfl, e⟩
    refine ⟨_, rfl, _, _, rfl, rfl, _, rfl, ite2 (fun hm => ?_) (fun hm => ?_)⟩
    · have hm' : 1 < m := by
        have z := of_decide_eq_true hm
        omega
      refine ⟨fun σ' H2 => ∃ m', m' < m ∧ ∃ k : Nat, σ' = [some (.int (m' : Nat)), some (.int (k : Nat))] ∧ H2 = H' ∧ k + halv m' = halv n, fun σ' H2 w => w, ?_⟩
      refine ⟨_, rfl, _, _, rfl, rfl, _, _, rfl, rfl, ⟨by decide, by decide⟩, _, rfl, _, _, rfl, rfl, (m + 1) / 2, by omega, k + 1, ?_, rfl, ?_⟩
      · show [some (V.int (((m : Nat) + 1 : Int) / 2)), some (V.int ((k : Int) + 1))] = _
        rw [show (((m : Nat) : Int) + 1) / 2 = (((m + 1) / 2 : Nat) : Int) by omega, show (k : Int) + 1 = ((k + 1 : Nat) : Int) by omega]
      · rw [halv_step hm'] at e
        omega
    · have hm' : m ≤ 1 := by
        have z : ¬ ((1 : Int) < (m : Int)) := fun z => hm (decide_eq_true z)
        omega
      rw [halv_one hm', Nat.add_zero] at e
      refine ⟨_, rfl, ?_⟩
      rw [e]
      exact q
end
end K67
/-! The law's own: _law_lone. -/
namespace K67
open PySem PySem.Spec PyProof.Rows L2
theorem keep_out {M : List Addr} {H H' : Hp} {p : Addr} {o : HO} (h : H p = none) (k : Keep M H H') : Keep M H (upd H' p o) := fun b x n e => upd_at (k b x n e) (ne_of_none e h)
theorem TapeAt.ne {H : Hp} {t t0 : Addr} {ns : List Int} {k : Nat} (h : TapeAt H t t0 ns k) {p : Addr} (f : H p = none) : t ≠ p ∧ t0 ≠ p := by
  obtain ⟨a, g, e1, e2, _⟩ := h
  exact ⟨ne_of_none e1 f, ne_of_none e2 f⟩
theorem TapeAt.upd {H : Hp} {t t0 : Addr} {ns : List Int} {k : Nat} (h : TapeAt H t t0 ns k) {p : Addr} {o : HO} (n : t ≠ p ∧ t0 ≠ p) : TapeAt (upd H p o) t t0 ns k := by
  obtain ⟨a, g, e1, e2, r⟩ := h
  exact ⟨a, g, upd_at e1 n.1, upd_at e2 n.2, r⟩
theorem TapeAt.tk {K : PySem.W.Frag} {H H' : Hp} {t t0 : Addr} {ns : List Int} {k : Nat} (h : TapeAt H t t0 ns k) (kp : Keep [t] H H') : TK K H H' := kp.tk fun b hb => by
  cases List.mem_singleton.mp hb
  obtain ⟨a, g, e1, _⟩ := h
  exact ⟨_, e1, rfl⟩
/-- a whole tape, and what it leaves of the heap ahead -/
structure Tp (H H' : Hp) (t t0 : Addr) (ns : List Int) (k : Nat) : Prop where
  b : ∃ j, TapeAt H t t0 ns j
  kp : Keep [t] H H'
  tp : TapeAt H' t t0 ns k
theorem Tp.same {H H' H2 : Hp} {t t0 : Addr} {ns : List Int} {k : Nat} (h : Tp H H' t t0 ns k) (s : Same H' H2) : Tp H H2 t t0 ns k := ⟨h.b, h.kp.trans (Same.keep _ s), h.tp.same s⟩
theorem Tp.draw {H H' H2 : Hp} {t t0 : Addr} {ns : List Int} {k j : Nat} (h : Tp H H' t t0 ns k) (kp : Keep [t] H' H2) (tp : TapeAt H2 t t0 ns j) : Tp H H2 t t0 ns j := ⟨h.b, h.kp.trans kp, tp⟩
theorem Tp.out {H H' : Hp} {t t0 : Addr} {ns : List Int} {k : Nat} (h : Tp H H' t t0 ns k) {p : Addr} {o : HO} (f : H p = none) : Tp H (upd H' p o) t t0 ns k := by
  obtain ⟨j, b⟩ := h.b
  exact ⟨⟨j, b⟩, keep_out f h.kp, h.tp.upd (b.ne f)⟩
theorem Tp.nt {H H' : Hp} {t t0 : Addr} {ns : List Int} {k : Nat} (h : Tp H H' t t0 ns k) {p : Addr} (f : H p = none) : p ≠ t := by
  obtain ⟨j, b⟩ := h.b
  exact (b.ne f).1.symm
/-- what is free here was free ahead, but for the tape -/
theorem Tp.free {H H' : Hp} {t t0 : Addr} {ns : List Int} {k : Nat} (h : Tp H H' t t0 ns k) {p : Addr} (f : H' p = none) : H p = none := by
  cases e : H p with
  | none => rfl
  | some x =>
    have n : p ∉ [t] := by
      intro z
      cases List.mem_singleton.mp z
      exact (h.tp.ne f).1 rfl
    have := h.kp _ _ n e
    rw [f] at this
    cases this
def spLone (K : PySem.W.Frag) : Sp := fun vs H Q _ => ∃ t t0 ns, vs = [.ref t] ∧ TapeAt H t t0 ns 0 ∧ ∀ H' r c d so fa k, Keep [t] H H' → TapeAt H' t t0 ns k → k ≤ 900 → SqT K H' r [.ref c, .int (d.g : Nat)] → CaseAt K H' c d so fa → Q (.ref r) H'
theorem wheel_of {z : Int} (h0 : 0 ≤ z) (h1 : z < 5) : ∃ W : Int, atI [V.int 2, .int 3, .int 5, .int 97, .int 997] z = some (.int W) ∧ 2 ≤ W ∧ W ≤ 997 := by
  rcases (show z = 0 ∨ z = 1 ∨ z = 2 ∨ z = 3 ∨ z = 4 by omega) with rfl | rfl | rfl | rfl | rfl
  · exact ⟨2, rfl, by decide, by decide⟩
  · exact ⟨3, rfl, by decide, by decide⟩
  · exact ⟨5, rfl, by decide, by decide⟩
  · exact ⟨97, rfl, by decide, by decide⟩
  · exact ⟨997, rfl, by decide, by decide⟩
theorem op_of {z : Int} (h0 : 0 ≤ z) (h1 : z < 4) : ∃ o : Str, atI ([V.str "sum", .str "by", .str "less", .str "same"] : List V) z = some (.str o) ∧ IsOp o := by
  rcases (show z = 0 ∨ z = 1 ∨ z = 2 ∨ z = 3 by omega) with rfl | rfl | rfl | rfl
  · exact ⟨"sum", rfl, .inl rfl⟩
  · exact ⟨"by", rfl, .inr (.inl rfl)⟩
  · exact ⟨"less", rfl, .inr (.inr (.inl rfl))⟩
  · exact ⟨"same", rfl, .inr (.inr (.inr rfl))⟩
theorem turn_ne {x W e : Int} (hW : 2 ≤ W) (x0 : 0 ≤ x) (x1 : x < W) (e0 : 0 ≤ e) (e1 : e < W - 1) : x ≠ (x + 1 + e) % W := by
  intro h
  by_cases c : x + 1 + e < W
  · rw [Int.emod_eq_of_lt (by omega) c] at h
    omega
  · have : (x + 1 + e) % W = x + 1 + e - W := by
      rw [← Int.sub_emod_right, Int.emod_eq_of_lt (by omega) (by omega)]
    omega
abbrev Nlone : List Str := ["_law_tape_here", "_law_wheel", "_law_many", "_law_rows", "_law_k", "_law_goal", "_law_plan_here", "_law_sound", "_law_faulty", "_law_zero", "_law_number"]
section
variable {P : Program} {w : World} {K : PySem.W.Frag} {mg : Str → Option Value} {base : Heap}
theorem scLone : FnScope Nlone ["_law_tape_here"] (defScope sLone) := ⟨rfl, rfl, rfl, by decide +kernel, rfl, by decide +kernel, by decide +kernel⟩
theorem ok_lone {f fD : Addr} {fd fdD : FuncData} (F : Fun K "_law_lone" "_law_lone" sLone f fd) (mR : mg "range" = none) (mT : mg "tuple" = none)
    (GD : FnOk P w K mg base CX0 1 fD fdD ["_law_tape_here", "_law_many"] spDraw) (FD : Fun K "_law_draw" "_law_draw" sDraw fD fdD) (bD : Binds K fdD ["_law_tape_here", "_law_many"] []) (gD : mg "_law_draw" = some (.ref fD)) :
    FnOk P w K mg base CX0 2 f fd ["_law_tape_here"] (spLone K) := by
  refine F.ok scLone (fun vs H Q E h => ?_) (fun cdv A outer s H vs Q E hr h => ?_)
  · obtain ⟨t, t0, ns, rfl, _⟩ := h
    rfl
  · obtain ⟨t, t0, ns, rfl, htp, q⟩ := h
    refine ⟨_, pss_cons (ps_set (i := 1) scLone.nd rfl (Or.inr rfl) (pe_ix ix_list (pe_lst (pa_cons pe_int (pa_cons pe_int (pa_cons pe_int (pa_cons pe_int (pa_cons pe_int pa_nil)))))) (pe_call GD hr (by rfl) gD FD.kp bD .nil pass0 (pa_cons (pv 0) (pa_cons pe_int pa_nil))) (fun _ _ => rfl)))
      (pss_cons (ps_set (i := 2) scLone.nd rfl (Or.inl rfl) (pe_op op_add pe_int (pe_call GD hr (by rfl) gD FD.kp bD .nil pass0 (pa_cons (pv 0) (pa_cons pe_int pa_nil)))))
      (pss_cons (ps_set (i := 3) scLone.nd rfl (Or.inl rfl) (pe_lst pa_nil))
      (pss_cons (ps_for PassesOwn.never rfl (pi_range1 (by rfl) mR (pa_cons (pe_call GD hr (by rfl) gD FD.kp bD .nil pass0 (pa_cons (pv 0) (pa_cons pe_int pa_nil))) pa_nil)) (pg_name (i := 4) scLone.nd rfl (Or.inl rfl))
        (pss_cons (ps_expr (pe_bm PySem.F.plainAttrs_list PySem.F.slot_list_append PySem.F.type_list_append mt_append (pv 3) (pa_cons
            (pe_tup (pa_cons pe_str (pa_cons pe_str (pa_cons (pe_call GD hr (by rfl) gD FD.kp bD .nil pass0 (pa_cons (pv 0) (pa_cons (pv 2) pa_nil))) pa_nil)))) pa_nil)))
        (pss_one (ps_expr (pe_bm PySem.F.plainAttrs_list PySem.F.slot_list_append PySem.F.type_list_append mt_append (pv 3) (pa_cons
            (pe_tup (pa_cons (pe_ix ix_list (pe_lst (pa_cons pe_str (pa_cons pe_str (pa_cons pe_str (pa_cons pe_str pa_nil))))) (pe_call GD hr (by rfl) gD FD.kp bD .nil pass0 (pa_cons (pv 0) (pa_cons pe_int pa_nil))) (fun _ _ => rfl)) (pa_cons pe_str (pa_cons pe_str (pa_cons pe_str pa_nil))))) pa_nil))))))
      (pss_cons (ps_set (i := 5) scLone.nd rfl (Or.inl rfl) (pe_call GD hr (by rfl) gD FD.kp bD .nil pass0 (pa_cons (pv 0) (pa_cons (pv 2) pa_nil))))
      (pss_cons (ps_expr (pe_bm PySem.F.plainAttrs_list PySem.F.slot_list_append PySem.F.type_list_append mt_append (pv 3) (pa_cons
            (pe_tup (pa_cons pe_str (pa_cons pe_str (pa_cons (pv 5) pa_nil)))) pa_nil)))
      (pss_cons (ps_set (i := 6) scLone.nd rfl (Or.inl rfl) (pe_tup (pa_cons (pv 1) (pa_cons (pe_tupF (pa_cons pe_str (pa_cons pe_str (pa_cons pe_str pa_nil)))) (pa_cons (pv 2) (pa_cons (pe_callTy call_tuple_of (by rfl) mT PyProof.Rows.boot_tuple (pa_cons (pv 3) pa_nil)) (pa_cons pe_str pa_nil)))))))
      (pss_cons (ps_setLc (i := 7) (own := [("_law_k", 4)]) (g := gName 4) (tt := tYes) (te := tCall spDraw [] E0 (tCons (tVar 0) (tCons (tVar 1) tNil)))
        (by rfl) scLone.nd rfl rfl (sw_true rfl rfl rfl (by decide +kernel)) (pi_range1 (by rfl) mR (pa_cons (pv 2) pa_nil))
        (blkOk_by (own := [("_law_k", 4)]) (N := Nlone) (sc := defScope sLone) (by decide +kernel))
        (fun _ _ _ _ _ => pg_name (i := 4) scLone.nd rfl (Or.inl rfl)) (fun _ _ _ _ _ => pts_nil)
        (fun _ _ _ _ _ => pe_call GD hr (by rfl) gD FD.kp bD .nil pass0 (pa_cons (pv 0) (pa_cons (pv 1) pa_nil))))
      (pss_cons (ps_setLc (i := 8) (own := [("_law_number", 10)]) (g := gName 10) (tt := tYes)
        (te := tOp (rI (fun _ j => 0 < j) fun i j => .int (i % j)) (tOp (rI0 fun i j => .int (i + j)) (tOp (rI0 fun i j => .int (i + j)) (tVar 10) (tC (.int 1))) (tCall spDraw [] E0 (tCons (tVar 0) (tCons (tOp (rI0 fun i j => .int (i - j)) (tVar 1) (tC (.int 1))) tNil)))) (tVar 1))
        (by rfl) scLone.nd rfl rfl (sw_true rfl rfl rfl (by decide +kernel)) (pi_list (pv 7))
        (blkOk_by (own := [("_law_number", 10)]) (N := Nlone) (sc := defScope sLone) (by decide +kernel))
        (fun _ _ _ _ _ => pg_name (i := 10) scLone.nd rfl (Or.inl rfl)) (fun _ _ _ _ _ => pts_nil)
        (fun _ _ _ _ _ => pe_op op_mod (pe_op op_add (pe_op op_add (pv 10) pe_int) (pe_call GD hr (by rfl) gD FD.kp bD .nil pass0 (pa_cons (pv 0) (pa_cons (pe_op op_sub (pv 1) pe_int) pa_nil)))) (pv 1)))
      (pss_cons (ps_set (i := 9) scLone.nd rfl (Or.inl rfl) (pe_tup (pa_cons pe_int (pa_cons pe_int (pa_cons pe_int pa_nil)))))
      (pss_one (ps_ret (pe_tup (pa_cons (pe_tup (pa_cons (pv 6)
        (pa_cons (pe_tup (pa_cons (pv 9) (pa_cons (pe_callTy call_tuple_of (by rfl) mT PyProof.Rows.boot_tuple (pa_cons (pv 7) pa_nil)) pa_nil)))
        (pa_cons (pe_tup (pa_cons (pv 9) (pa_cons (pe_callTy call_tuple_of (by rfl) mT PyProof.Rows.boot_tuple (pa_cons (pv 8) pa_nil)) pa_nil)))
        (pa_cons pe_int pa_nil))))) (pa_cons (pv 5) pa_nil)))))))))))))), ?_⟩
    have T0 : Tp H H t t0 ns 0 := ⟨⟨0, htp⟩, Keep.refl _ _, htp⟩
    -- the wheel
    refine ⟨(by show 5 ≤ sizeLine; decide), fun a fa => ?_⟩
    have T1 := T0.same (same_new (o := .lst [.int 2, .int 3, .int 5, .int 97, .int 997]) fa)
    refine ⟨_, rfl, t, t0, ns, 0, 5, rfl, T1.tp, by decide, by decide, by decide, fun H2 z kp tp z0 z5 => ?_⟩
    have T2 := T1.draw kp tp
    obtain ⟨W, eW, w2, w9⟩ := wheel_of z0 z5
    refine ⟨a, _, z, .int W, rfl, rfl, SqL.of (kp _ _ (by simpa using T0.nt fa) upd_same), eW, ?_⟩
    clear kp tp z0 z5 eW T1
    -- how many
    refine ⟨_, rfl, t, t0, ns, _, 40, rfl, T2.tp, by decide, by decide, by decide, fun H3 e kp tp e0 e40 => ?_⟩
    have T3 := T2.draw kp tp
    refine ⟨_, _, rfl, rfl, ?_⟩
    obtain ⟨n, en, n1, n4⟩ : ∃ n : Nat, 1 + e = (n : Int) ∧ 1 ≤ n ∧ n ≤ 40 := ⟨(1 + e).toNat, by omega, by omega, by omega⟩
    dsimp only
    rw [en]
    clear kp tp e0 e40 en
    -- the rows
    refine ⟨Nat.zero_le _, fun D fD => ?_⟩
    have D0 : H D = none := T3.free fD
    have Dt : D ≠ t := T3.nt D0
    have T4 := T3.out (o := .lst []) D0
    refine ⟨_, rfl, t, t0, ns, _, 9, rfl, T4.tp, by decide, by decide, by decide, fun H5 m kp tp m0 m9 => ?_⟩
    have T5 := T4.draw kp tp
    have e5 : H5 D = some (.lst []) := kp _ _ (by simpa using Dt) upd_same
    refine ⟨m, rfl, by omega, by omega, for_range (lo := 0) (n := m.toNat) (fun i σ H' => ∃ y4, σ = [some (.ref t), some (.int W), some (.int (n : Nat)), some (.ref D), y4, none, none, none, none, none, none] ∧ Tp H H' t t0 ns (3 + 2 * i) ∧
      ∃ rvs, H' D = some (.lst rvs) ∧ rvs.length = 2 * i ∧ ∀ v ∈ rvs, RowAt K H' ⟨W, n, 0, 0⟩ v) ⟨none, rfl, T5, [], e5, rfl, fun v hv => nomatch hv⟩ ?_ ?_⟩
    · clear T5 e5 kp tp
      rintro i σ H' hi ⟨y4, rfl, T, rvs, eD, lr, hr_⟩

      refine ⟨_, rfl, .inl ⟨rfl, _, SqL.of eD⟩, _, rfl, _, rfl, t, t0, ns, _, n, rfl, T.tp, by omega, by omega, by omega, fun H6 j kp tp j0 jn => ?_⟩
      have T6 := T.draw kp tp
      have k6 := T.tp.tk (K := K) kp
      have eD6 : H6 D = some (.lst rvs) := kp _ _ (by simpa using Dt) eD
      refine ⟨(by show 3 ≤ sizeLine; decide), fun p fp => ?_⟩
      have s7 := same_new (o := .tup [.str "take", .str "b", .int j]) fp
      have T7 := T6.same s7
      refine ⟨D, _, _, rfl, rfl, s7 _ _ eD6, small1000 (by omega), ?_⟩
      have k8 : TK K H' (upd (upd H6 p (.tup [.str "take", .str "b", .int j])) D (.lst (rvs ++ [.ref p]))) := (k6.trans (same_tk s7)).trans (tk_wr (s7 _ _ eD6) rfl)
      have T8 := T7.out (o := .lst (rvs ++ [.ref p])) D0
      have e8 : upd (upd H6 p (.tup [.str "take", .str "b", .int j])) D (.lst (rvs ++ [.ref p])) D = some (.lst (rvs ++ [.ref p])) := upd_same
      have ep : upd (upd H6 p (.tup [.str "take", .str "b", .int j])) D (.lst (rvs ++ [.ref p])) p = some (.tup [.str "take", .str "b", .int j]) := upd_at upd_same (ne_of_none eD6 fp).symm
      generalize upd (upd H6 p (.tup [.str "take", .str "b", .int j])) D (.lst (rvs ++ [.ref p])) = H8 at k8 T8 e8 ep
      clear T7 T6 k6 s7 fp kp tp eD6 T
      refine ⟨_, rfl, .inl ⟨rfl, _, SqL.of e8⟩, (by show 4 ≤ sizeLine; decide), fun b fb => ?_⟩
      have s9 := same_new (o := .lst [.str "sum", .str "by", .str "less", .str "same"]) fb
      have T9 := T8.same s9
      refine ⟨_, rfl, t, t0, ns, _, 4, rfl, T9.tp, by omega, by decide, by decide, fun H10 z kp tp z0 z4 => ?_⟩
      have T10 := T9.draw kp tp
      obtain ⟨o, eo, ho⟩ := op_of z0 z4
      have bt : b ≠ t := T8.nt (T8.free fb)
      have nb : b ∉ [t] := by simpa using bt
      refine ⟨b, _, z, .str o, rfl, rfl, SqL.of (kp _ _ nb upd_same), eo, ?_⟩
      refine ⟨(by show 4 ≤ sizeLine; decide), fun p2 fp2 => ?_⟩
      have s11 := same_new (o := .tup [.str o, .str "c", .str "b", .str "c"]) fp2
      have k11 : TK K H8 (upd H10 p2 (.tup [.str o, .str "c", .str "b", .str "c"])) := ((same_tk s9).trans (T9.tp.tk kp)).trans (same_tk s11)
      have eD11 : upd H10 p2 (.tup [.str o, .str "c", .str "b", .str "c"]) D = some (.lst (rvs ++ [.ref p])) := s11 _ _ (kp _ _ (by simpa using Dt) (s9 _ _ e8))
      have T11 := T10.same s11
      have ep2 : upd H10 p2 (.tup [.str o, .str "c", .str "b", .str "c"]) p2 = some (.tup [.str o, .str "c", .str "b", .str "c"]) := upd_same
      have np2 : p2 ≠ D := (ne_of_none (kp _ _ (by simpa using Dt) (s9 _ _ e8)) fp2).symm
      refine ⟨D, _, _, rfl, rfl, eD11, ?_, ?_⟩
      · rw [List.length_append, lr]
        exact small1000 (by show 2 * i + 1 ≤ 1000; omega)
      · have k12 : TK K H8 (upd (upd H10 p2 (.tup [.str o, .str "c", .str "b", .str "c"])) D (.lst (rvs ++ [.ref p] ++ [.ref p2]))) := k11.trans (tk_wr eD11 rfl)
        refine ⟨_, rfl, T11.out D0, _, upd_same, ?_, fun v hv => ?_⟩
        · rw [List.length_append, List.length_append, lr]
          show 2 * i + 1 + 1 = 2 * (i + 1)
          omega
        · rcases List.mem_append.mp hv with hv | hv
          · rcases List.mem_append.mp hv with hv | hv
            · exact ((hr_ v hv).tk k8).tk k12
            · cases List.mem_singleton.mp hv
              refine ⟨p, rfl, .inl ⟨j.toNat, by show j.toNat < n; omega, ?_⟩⟩
              rw [show ((j.toNat : Nat) : Int) = j by omega]
              exact k12.t _ _ (SqT.of ep)
          · cases List.mem_singleton.mp hv
            exact ⟨p2, rfl, .inr ⟨o, ho, SqT.of (upd_at ep2 np2)⟩⟩
    clear T5 e5 kp tp
    rintro σ H' ⟨y4, rfl, T, rvs, eD, lr, hr_⟩
    -- the goal
    refine ⟨_, rfl, _, rfl, t, t0, ns, _, n, rfl, T.tp, by omega, by omega, by omega, fun H6 g kp tp g0 gn => ?_⟩
    have T6 := T.draw kp tp
    have k6 := T.tp.tk (K := K) kp
    have eD6 : H6 D = some (.lst rvs) := kp _ _ (by simpa using Dt) eD
    obtain ⟨g, rfl⟩ := Int.eq_ofNat_of_zero_le g0
    have gn' : g < n := by omega
    refine ⟨_, rfl, .inl ⟨rfl, _, SqL.of eD6⟩, _, rfl, (by show 3 ≤ sizeLine; decide), fun p fp => ?_⟩
    have s7 := same_new (o := .tup [.str "take", .str "a", .int (g : Nat)]) fp
    have T7 := T6.same s7
    refine ⟨D, _, _, rfl, rfl, s7 _ _ eD6, small1000 (by omega), ?_⟩
    have k8 : TK K H' (upd (upd H6 p (.tup [.str "take", .str "a", .int (g : Nat)])) D (.lst (rvs ++ [.ref p]))) := (k6.trans (same_tk s7)).trans (tk_wr (s7 _ _ eD6) rfl)
    have T8 := T7.out (o := .lst (rvs ++ [.ref p])) D0
    have e8 : upd (upd H6 p (.tup [.str "take", .str "a", .int (g : Nat)])) D (.lst (rvs ++ [.ref p])) D = some (.lst (rvs ++ [.ref p])) := upd_same
    have ep : upd (upd H6 p (.tup [.str "take", .str "a", .int (g : Nat)])) D (.lst (rvs ++ [.ref p])) p = some (.tup [.str "take", .str "a", .int (g : Nat)]) := upd_at upd_same (ne_of_none eD6 fp).symm
    generalize upd (upd H6 p (.tup [.str "take", .str "a", .int (g : Nat)])) D (.lst (rvs ++ [.ref p])) = H8 at k8 T8 e8 ep
    clear T7 T6 k6 s7 fp kp tp eD6
    -- the plan
    refine ⟨_, rfl, (by show 3 ≤ sizeLine; decide), fun nm on fnm dn => ?_⟩
    have s9 := same_new (o := .frz on (.tup [.str "a", .str "b", .str "c"])) fnm
    have enm : upd H8 nm (.frz on (.tup [.str "a", .str "b", .str "c"])) nm = some (.frz on (.tup [.str "a", .str "b", .str "c"])) := upd_same
    refine ⟨_, rfl, _, rfl, D, _, rfl, .inl ⟨SqL.of (s9 _ _ e8), fun rw_ frw => ?_⟩⟩
    have s10 := s9.trans (same_new (o := .tup (rvs ++ [.ref p])) frw)
    refine ⟨(by show 5 ≤ sizeLine; decide), fun pl fpl => ?_⟩
    have s11 := s10.trans (same_new (o := .tup [.int W, .ref nm, .int (n : Nat), .ref rw_, .str "a"]) fpl)
    have hP : PlanAt K (upd (upd (upd H8 nm (.frz on (.tup [.str "a", .str "b", .str "c"]))) rw_ (.tup (rvs ++ [.ref p]))) pl (.tup [.int W, .ref nm, .int (n : Nat), .ref rw_, .str "a"])) pl ⟨W, n, g, 2 * m.toNat⟩ := by
      have k11 := same_tk (K := K) s11
      refine ⟨nm, rw_, SqT.of upd_same, ⟨on, upd_new (upd_new enm frw) fpl, dn⟩, ⟨rvs ++ [.ref p], SqT.of (upd_new upd_same fpl), ?_, fun i v hi e => ?_, fun v e => ?_⟩, ⟨w2, w9, n1, n4, gn', by show 2 * m.toNat ≤ 16; omega⟩⟩
      · rw [List.length_append, lr]
        rfl
      · have hi' : i < rvs.length := by rw [lr]; exact hi
        rw [List.getElem?_append_left hi'] at e
        exact (hr_ v (List.mem_of_getElem? e)).tk (k8.trans k11)
      · have e' : (rvs ++ [V.ref p])[2 * m.toNat]? = some v := e
        rw [List.getElem?_append_right (by omega), lr, Nat.sub_self] at e'
        cases e'
        exact ⟨p, rfl, k11.t _ _ (SqT.of ep)⟩
    have T11 := T8.same s11
    generalize upd (upd (upd H8 nm (.frz on (.tup [.str "a", .str "b", .str "c"]))) rw_ (.tup (rvs ++ [.ref p]))) pl (.tup [.int W, .ref nm, .int (n : Nat), .ref rw_, .str "a"]) = HA at hP T11
    clear s11 s10 s9 enm e8 ep k8 T8 hr_ lr eD T fnm frw fpl
    -- the sound
    refine ⟨_, rfl, (n : Nat), rfl, by omega, by omega, fun S fS => ?_⟩
    have S0 : H S = none := T11.free fS
    have St : S ≠ t := T11.nt S0
    rw [show ((n : Nat) : Int).toNat = n by omega]
    refine lc_range (lo := 0) (n := n) (fun i H2 => Tp H H2 t t0 ns (4 + 2 * m.toNat + i) ∧ PlanAt K H2 pl ⟨W, n, g, 2 * m.toNat⟩ ∧ ∃ so, H2 S = some (.lst (iv so)) ∧ so.length = i ∧ ∀ z ∈ so, 0 ≤ z ∧ z < W)
      ⟨by have := T11.out (o := .lst []) S0; rw [show 4 + 2 * m.toNat + 0 = 3 + 2 * m.toNat + 1 by omega]; exact this, hP.tk (tk_new fS), [], upd_same, rfl, fun z hz => nomatch hz⟩ (fun i H2 hi h => ?_) (fun H2 h => ?_)
    · obtain ⟨T, hP, so, eS, ls, hz⟩ := h
      refine ⟨rfl, ?_⟩
      refine ⟨_, rfl, _, rfl, t, t0, ns, _, W, rfl, T.tp, by omega, by omega, by omega, fun H3 z kp tp z0 zW => ?_⟩
      have eS3 : H3 S = some (.lst (iv so)) := kp _ _ (by simpa using St) eS
      refine ⟨_, eS3, by rw [iv_len]; exact small1000 (by omega), (T.draw kp tp).out S0, (hP.tk (T.tp.tk kp)).tk (tk_wr eS3 rfl), so ++ [z], ?_, ?_, fun y hy => ?_⟩
      · rw [upd_same, iv_snoc]
      · rw [List.length_append, ls]
        rfl
      · rcases List.mem_append.mp hy with hy | hy
        · exact hz y hy
        · cases List.mem_singleton.mp hy
          exact ⟨z0, zW⟩
    obtain ⟨T12, hP2, so, eS, ls, hso⟩ := h
    clear T11 hP fS
    -- the faulty
    refine ⟨_, rfl, S, rfl, ⟨_, SqL.of eS⟩, fun Fa fF => ?_⟩
    have F0 : H Fa = none := T12.free fF
    have Ft : Fa ≠ t := T12.nt F0
    have SF : S ≠ Fa := ne_of_none eS fF
    refine lc_list (K := K) (a := S) (xs := iv so) (fun i H3 => Tp H H3 t t0 ns (4 + 2 * m.toNat + n + i) ∧ PlanAt K H3 pl ⟨W, n, g, 2 * m.toNat⟩ ∧ H3 S = some (.lst (iv so)) ∧ ∃ fa, H3 Fa = some (.lst (iv fa)) ∧ fa.length = i ∧ (∀ z ∈ fa, 0 ≤ z ∧ z < W) ∧
        ∀ (j : Nat) (x y : Int), so[j]? = some x → fa[j]? = some y → x ≠ y)
      ⟨T12.out F0, hP2.tk (tk_new fF), upd_new eS fF, [], upd_same, rfl, (fun z hz => nomatch hz), (fun j x y _ hy => nomatch hy)⟩ (fun i H3 _ h => SqL.of h.2.2.1) (fun i v H3 hi h => ?_) (fun H3 h => ?_)
    · obtain ⟨T, hP, eS3, fa, eF, lf, hz, hne⟩ := h
      obtain ⟨x, hx, rfl⟩ := iv_get hi
      have il : i < n := by
        have := (List.getElem?_eq_some_iff.mp hx).1
        omega
      have xr := hso x (List.mem_of_getElem? hx)
      refine ⟨rfl, ?_⟩
      refine ⟨_, rfl, _, _, rfl, rfl, _, rfl, _, rfl, _, _, rfl, rfl, t, t0, ns, _, W - 1, rfl, T.tp, by omega, by omega, by omega, fun H4 e kp tp e0 eW => ?_⟩
      have eF4 : H4 Fa = some (.lst (iv fa)) := kp _ _ (by simpa using Ft) eF
      have eS4 : H4 S = some (.lst (iv so)) := kp _ _ (by simpa using St) eS3
      refine ⟨_, _, rfl, rfl, _, rfl, _, _, rfl, rfl, (by show 0 < W; omega), ?_⟩
      refine ⟨_, eF4, by rw [iv_len]; exact small1000 (by omega), (T.draw kp tp).out F0, (hP.tk (T.tp.tk kp)).tk (tk_wr eF4 rfl), upd_at eS4 SF, fa ++ [(x + 1 + e) % W], ?_, ?_, fun y hy => ?_, fun j a b ha hb => ?_⟩
      · rw [upd_same, iv_snoc]
      · rw [List.length_append, lf]
        rfl
      · rcases List.mem_append.mp hy with hy | hy
        · exact hz y hy
        · cases List.mem_singleton.mp hy
          exact ⟨Int.emod_nonneg _ (by omega), Int.emod_lt_of_pos _ (by omega)⟩
      · by_cases hj : j < fa.length
        · rw [List.getElem?_append_left hj] at hb
          exact hne j a b ha hb
        · rw [List.getElem?_append_right (by omega)] at hb
          have j0 : j - fa.length = 0 := by
            have := (List.getElem?_eq_some_iff.mp hb).1
            have l1 : ([(x + 1 + e) % W] : List Int).length = 1 := rfl
            omega
          rw [j0] at hb
          have ji : j = i := by omega
          subst ji
          cases hb
          rw [hx] at ha
          cases ha
          exact turn_ne w2 xr.1 xr.2 e0 eW
    obtain ⟨T13, hP3, eS3, fa, eF, lf, hfa, hne⟩ := h
    rw [iv_len, ls] at T13 lf
    clear T12 hP2 fF eS
    -- zero
    refine ⟨(by show 3 ≤ sizeLine; decide), fun ze fz => ?_⟩
    have s1 := same_new (o := .tup [.int 0, .int 0, .int 0]) fz
    have ez : upd H3 ze (.tup [.int 0, .int 0, .int 0]) ze = some (.tup [.int 0, .int 0, .int 0]) := upd_same
    refine ⟨_, rfl, _, rfl, _, rfl, S, _, rfl, .inl ⟨SqL.of (s1 _ _ eS3), fun a fa_ => ?_⟩⟩
    refine ⟨(by show 2 ≤ sizeLine; decide), fun sd fsd => ?_⟩
    refine ⟨_, rfl, _, rfl, Fa, _, rfl, .inl ⟨SqL.of (upd_new (upd_new (s1 _ _ eF) fa_) fsd), fun b fb => ?_⟩⟩
    refine ⟨(by show 2 ≤ sizeLine; decide), fun fd_ ffd => ?_⟩
    refine ⟨(by show 4 ≤ sizeLine; decide), fun c fc => ?_⟩
    refine ⟨_, rfl, (by show 2 ≤ sizeLine; decide), fun r fr => ?_⟩
    have sa := same_new (o := .tup (iv so)) fa_
    have ss := same_new (o := .tup [.ref ze, .ref a]) fsd
    have sb := same_new (o := .tup (iv fa)) fb
    have sf := same_new (o := .tup [.ref ze, .ref b]) ffd
    have sc := same_new (o := .tup [.ref pl, .ref sd, .ref fd_, .int 40]) fc
    have sr := same_new (o := .tup [.ref c, .int (g : Nat)]) fr
    have sAll := s1.trans (sa.trans (ss.trans (sb.trans (sf.trans (sc.trans sr)))))
    have T14 := T13.same sAll
    have hP4 := hP3.tk (same_tk (K := K) sAll)
    exact q _ r c ⟨W, n, g, 2 * m.toNat⟩ so fa _ T14.kp T14.tp (by omega) (SqT.of upd_same)
      ⟨pl, sd, fd_, SqT.of (upd_new upd_same fr), hP4,
        ⟨ze, a, SqT.of (sr _ _ (sc _ _ (sf _ _ (sb _ _ upd_same)))), SqT.of (sr _ _ (sc _ _ (sf _ _ (sb _ _ (ss _ _ (sa _ _ ez)))))), SqT.of (sr _ _ (sc _ _ (sf _ _ (sb _ _ (ss _ _ upd_same)))))⟩,
        ⟨ze, b, SqT.of (sr _ _ (sc _ _ upd_same)), SqT.of (sr _ _ (sc _ _ (sf _ _ (sb _ _ (ss _ _ (sa _ _ ez)))))), SqT.of (sr _ _ (sc _ _ (sf _ _ upd_same)))⟩,
        ⟨⟨ls, hso⟩, ⟨lf, hfa⟩, hne⟩⟩
end
end K67
/-! The law. -/
namespace K67
open PySem PySem.Spec PyProof.Rows L2
theorem rgV_iv (n : Nat) : rgV 0 (n : Nat) = iv (rg 0 n) := by
  unfold rgV rg iv
  rw [List.map_map, show (((n : Nat) : Int) - 0).toNat = n by omega]
  refine List.map_congr_left fun i _ => ?_
  show V.int (0 + (i : Int)) = V.int ((0 + i : Nat) : Int)
  rw [show (0 : Int) + (i : Int) = ((0 + i : Nat) : Int) by omega]
def spLaw (K : PySem.W.Frag) : Sp := fun vs H Q _ => ∃ (a : Addr) (ns : List Int), vs = [.ref a] ∧ SqL K H a (ns.map V.int) ∧ ∀ H', Q (.bl true) H'
section
variable {P : Program} {w : World} {K : PySem.W.Frag} {mg : Str → Option Value} {base : Heap}
theorem scLaw : FnScope ["_law_script", "_law_tape_here", "_law_case_here", "_law_goal", "_law_many", "_law_found", "_law_other"] ["_law_script"] (defScope sLaw) := ⟨rfl, rfl, rfl, by decide +kernel, rfl, by decide +kernel, by decide +kernel⟩
theorem ok_law {f fT fO fN fH fI fB fD : Addr} {fd fdT fdO fdN fdH fdI fdB fdD : FuncData} (F : Fun K "law" "law" sLaw f fd)
    (mLen : mg "len" = none) (mSo : mg "sorted" = none) (mLi : mg "list" = none) (mR : mg "range" = none)
    (GT : FnOk P w K mg base CX0 1 fT fdT ["_law_script"] (spTape K)) (FT : Fun K "_law_tape" "_law_tape" sTape fT fdT) (bT : Binds K fdT ["_law_script"] []) (gT : mg "_law_tape" = some (.ref fT))
    (GO : FnOk P w K mg base CX0 2 fO fdO ["_law_tape_here"] (spLone K)) (FO : Fun K "_law_lone" "_law_lone" sLone fO fdO) (bO : Binds K fdO ["_law_tape_here"] []) (gO : mg "_law_lone" = some (.ref fO))
    (GN : FnOk P w K mg base CX0 9 fN fdN ["case"] (spNarrowed K)) (FN : Fun K "narrowed" "narrowed" sNarrowed fN fdN) (bN : Binds K fdN ["case"] []) (gN : mg "narrowed" = some (.ref fN))
    (GH : FnOk P w K mg base CX0 1 fH fdH ["_law_many"] spHalv) (FH : Fun K "_law_halvings" "_law_halvings" sHalv fH fdH) (bH : Binds K fdH ["_law_many"] []) (gH : mg "_law_halvings" = some (.ref fH))
    (GI : FnOk P w K mg base CX0 8 fI fdI ["case", "thing"] (spIsNarrowed K)) (FI : Fun K "is_narrowed" "is_narrowed" sIsNarrowed fI fdI) (bI : Binds K fdI ["case", "thing"] []) (gI : mg "is_narrowed" = some (.ref fI))
    (GB : FnOk P w K mg base CX0 7 fB fdB ["case", "mix"] (spBare K)) (FB : Fun K "is_bare" "is_bare" sIsBare fB fdB) (bB : Binds K fdB ["case", "mix"] []) (gB : mg "is_bare" = some (.ref fB))
    (GD : FnOk P w K mg base CX0 1 fD fdD ["_law_tape_here", "_law_many"] spDraw) (FD : Fun K "_law_draw" "_law_draw" sDraw fD fdD) (bD : Binds K fdD ["_law_tape_here", "_law_many"] []) (gD : mg "_law_draw" = some (.ref fD)) :
    FnOk P w K mg base CX0 10 f fd ["_law_script"] (spLaw K) := by
  refine F.ok scLaw (fun vs H Q E h => ?_) (fun cdv A outer s H vs Q E hr h => ?_)
  · obtain ⟨a, ns, rfl, _⟩ := h
    rfl
  · obtain ⟨a, ns, rfl, ha, q⟩ := h
    refine ⟨_, pss_cons (ps_set (i := 1) scLaw.nd rfl (Or.inl rfl) (pe_call GT (hr.mono (by decide)) (by rfl) gT FT.kp bT .nil pass0 (pa_cons (pv 0) pa_nil)))
      (pss_cons (ps_asg (pe_call GO (hr.mono (by decide)) (by rfl) gO FO.kp bO .nil pass0 (pa_cons (pv 1) pa_nil)) (pg_tup rfl (pgs_cons (pg_name (i := 2) scLaw.nd rfl (Or.inl rfl)) (pgs_cons (pg_name (i := 3) scLaw.nd rfl (Or.inl rfl)) pgs_nil))))
      (pss_cons (ps_set (i := 4) scLaw.nd rfl (Or.inl rfl) (pe_ix ix_tup (pe_ix ix_tup (pv 2) pe_int (fun _ _ => rfl)) pe_int (fun _ _ => rfl)))
      (pss_cons (ps_set (i := 5) scLaw.nd rfl (Or.inl rfl) (pe_call GN hr (by rfl) gN FN.kp bN .nil pass0 (pa_cons (pv 2) pa_nil)))
      (pss_cons (ps_if (PW.pt (pw_or (pt_cmpR (op_neD hr.units) (pe_ix ix_tup (pv 5) pe_int (fun _ _ => rfl)) (pe_lst (pa_cons (pv 3) pa_nil)) (nomark _))
        (pw_or1 (pt_cmpR op_gt (pe_callB call_len_seq (by rfl) mLen PySem.boot_len (pa_cons (pe_ix ix_tup (pv 5) pe_int (fun _ _ => rfl)) pa_nil))
          (pe_op op_add (pe_op op_mul pe_int (pe_call GH (hr.mono (by decide)) (by rfl) gH FH.kp bH .nil pass0 (pa_cons (pv 4) pa_nil))) pe_int) (nomark _))))) pss_never pss_nil)
      (pss_cons (ps_if (PW.pt (pw_or (pt_cmpR op_notBl (pe_call GI (hr.mono (by decide)) (by rfl) gI FI.kp bI .nil pass0 (pa_cons (pv 2) (pa_cons (pv 5) pa_nil))) pe_bl (nomark _))
        (pw_or1 (pt_cmpR op_notBl (pe_call GB (hr.mono (by decide)) (by rfl) gB FB.kp bB .nil pass0 (pa_cons (pv 2) (pa_cons (pe_lst (pa_cons (pv 3) pa_nil)) pa_nil))) pe_bl (nomark _))))) pss_never pss_nil)
      (pss_cons (ps_if (pt_cmpR op_notBl (pe_call GB (hr.mono (by decide)) (by rfl) gB FB.kp bB .nil pass0 (pa_cons (pv 2) (pa_cons (pe_lst pa_nil) pa_nil))) pe_bl (nomark _)) pss_never pss_nil)
      (pss_cons (ps_if (pt_cmpR op_eq (pv 4) pe_int (nomark _)) (pss_one (ps_ret pe_bl)) pss_nil)
      (pss_cons (ps_set (i := 6) scLaw.nd rfl (Or.inl rfl) (pe_op op_mod (pe_op op_add (pe_op op_add (pv 3) pe_int) (pe_call GD (hr.mono (by decide)) (by rfl) gD FD.kp bD .nil pass0 (pa_cons (pv 1) (pa_cons (pe_op op_sub (pv 4) pe_int) pa_nil)))) (pv 4)))
      (pss_cons (ps_if (pt_cmpR op_notBl (pe_call GB (hr.mono (by decide)) (by rfl) gB FB.kp bB .nil pass0 (pa_cons (pv 2) (pa_cons
          (pe_callB cr_sorted (by rfl) mSo PyProof.Rows.boot_sorted (pa_cons (pe_lst (pa_cons (pv 3) (pa_cons (pv 6) pa_nil))) pa_nil)) pa_nil))) pe_bl (nomark _)) pss_never pss_nil)
      (pss_one (ps_ret (pe_and (pe_cmpR op_isBl (pe_call GB (hr.mono (by decide)) (by rfl) gB FB.kp bB .nil pass0 (pa_cons (pv 2) (pa_cons (pe_lst (pa_cons (pv 6) pa_nil)) pa_nil))) pe_bl (nomark _))
        (pe_one (pe_cmpR op_isBl (pe_call GB (hr.mono (by decide)) (by rfl) gB FB.kp bB .nil pass0 (pa_cons (pv 2) (pa_cons (pe_listRg rfl (by rfl) mLi (prg_1 (by rfl) mR (pv 4))) pa_nil))) pe_bl (nomark _))))))))))))))), ?_⟩
    -- the tape, the case
    refine ⟨_, rfl, a, ns, rfl, ha, fun H1 t t0 ms s1 tp1 => ?_⟩
    refine ⟨_, rfl, t, t0, ms, rfl, tp1, fun H2 r c d so fa k kp2 tp2 k9 er hC => ?_⟩
    refine ⟨r, _, rfl, er, rfl, _, _, rfl, _, _, rfl, rfl, ?_⟩
    obtain ⟨p, ps, pf, hc, ⟨nm, rw_, hpp, hn, hR, ok⟩, hs, hf, tw⟩ := id hC
    have n1 := ok.n1
    have n4 := ok.n4
    have gn := ok.gn
    refine ⟨_, rfl, c, _, 0, _, rfl, rfl, hc, rfl, p, _, 2, _, rfl, rfl, hpp, rfl, ?_⟩
    clear hc hpp hn hR hs hf tw er
    -- narrowed
    refine ⟨_, rfl, c, d, so, fa, rfl, hC, fun H3 tt l mx A rvs s3 et el pr emx gd hlen hg h0 => ?_⟩
    have h6 := halv_six (n := d.n) (by omega)
    refine ⟨_, rfl, tt, _, 1, _, rfl, rfl, SqT.of et, rfl, _, rfl, (by show 1 ≤ sizeLine; decide), fun e fe => ?_⟩
    have s4 := same_new (o := .lst [.int (d.g : Nat)]) fe
    refine ⟨dInts [(d.g : Int)], dInts [(d.g : Int)], dp_ints (SqL.of (s4 _ _ emx)), dp_ints (SqL.of upd_same), shaped_ints _, shaped_ints _, false, by rw [eqv_ints]; rfl, iteF ?_⟩
    refine ⟨_, rfl, tt, _, 0, _, rfl, rfl, SqT.of (s4 _ _ et), rfl, l, _, rfl, .inl (SqL.of (s4 _ _ el)), _, rfl, d.n, rfl, by omega, _, _, rfl, rfl, .inl ⟨by decide, by decide⟩, _, _, rfl, rfl, _, _, rfl, rfl, false, ?_, iteF ?_⟩
    · have lr : rvs.length = A.length := Paired.length pr
      dsimp only
      rw [decide_eq_false]
      omega
    -- is_narrowed
    have s34 := s3.trans s4
    refine ⟨_, rfl, _, rfl, c, d, so, fa, tt, l, mx, A, rvs, rfl, hC.tk (same_tk s34), s4 _ _ et, s4 _ _ el, Paired.mapP pr (fun v m ⟨p, q, ev, e1, e2, n⟩ => ⟨p, q, ev, s4 _ _ e1, s4 _ _ e2, n⟩), s4 _ _ emx, gd, hg, h0, by omega, fun H5 s5 => ?_⟩
    refine ⟨true, true, rfl, rfl, false, rfl, iteF ?_⟩
    have s25 := s34.trans s5
    clear s34 s4 s3 s5 et el pr emx fe
    -- is_bare of the one
    refine ⟨_, rfl, _, rfl, (by show 1 ≤ sizeLine; decide), fun b fb => ?_⟩
    have s6 := s25.trans (same_new (o := .lst [.int (d.g : Nat)]) fb)
    refine ⟨c, d, so, fa, b, [(d.g : Int)], rfl, hC.tk (same_tk s6), SqL.of upd_same, (by show 1 ≤ 100; decide), fun H6 s7 => ?_⟩
    refine ⟨_, true, rfl, rfl, false, by rw [bare_one]; rfl, iteF ?_⟩
    have s26 := s6.trans s7
    clear s6 s7 fb s25
    -- of none
    refine ⟨_, rfl, Nat.zero_le _, fun b fb => ?_⟩
    have s6 := s26.trans (same_new (o := .lst []) fb)
    refine ⟨c, d, so, fa, b, [], rfl, hC.tk (same_tk s6), SqL.of upd_same, by decide, fun H7 s7 => ?_⟩
    refine ⟨_, false, rfl, rfl, false, by rw [bare_not (by simp)]; rfl, iteF ?_⟩
    have s27 := s6.trans s7
    clear s6 s7 fb s26
    -- one alone
    refine ⟨_, rfl, rfl, _, rfl, ite2 (fun _ => q _) (fun h1 => ?_)⟩
    have n2 : 2 ≤ d.n := by
      have : d.n ≠ 1 := fun z => h1 (decide_eq_true (by rw [z]; rfl))
      omega
    -- the other
    refine ⟨_, rfl, _, _, rfl, rfl, _, rfl, _, rfl, _, _, rfl, rfl, t, t0, ms, k, (d.n : Int) - 1, rfl, tp2.same s27, by omega, by omega, by omega, fun H8 e kp8 tp8 e0 e1 => ?_⟩
    refine ⟨_, _, rfl, rfl, _, rfl, _, _, rfl, rfl, (by show 0 < (d.n : Int); omega), ?_⟩
    have one := turn_ne (x := (d.g : Int)) (W := (d.n : Int)) (e := e) (by omega) (by omega) (by omega) e0 e1
    have lo := Int.emod_nonneg ((d.g : Int) + 1 + e) (show (d.n : Int) ≠ 0 by omega)
    have hi := Int.emod_lt_of_pos ((d.g : Int) + 1 + e) (show 0 < (d.n : Int) by omega)
    dsimp only
    generalize ((d.g : Int) + 1 + e) % (d.n : Int) = o at one lo hi
    have hC8 : CaseAt K H8 c d so fa := (hC.tk (same_tk s27)).tk ((tp2.same s27).tk kp8)
    clear kp8 tp8
    -- of the two
    refine ⟨_, rfl, _, rfl, _, rfl, (by show 2 ≤ sizeLine; decide), fun b fb => ?_⟩
    have s6 := same_new (o := .lst [.int (d.g : Nat), .int o]) fb
    refine ⟨b, [(d.g : Int), o], rfl, SqL.of upd_same, (by show 2 < 64; decide), fun ns' y hp _ fy => ?_⟩
    have s7 := s6.trans (same_new (o := .lst (iv ns')) fy)
    refine ⟨c, d, so, fa, y, ns', rfl, hC8.tk (same_tk s7), SqL.of upd_same, (by rw [hp.length_eq]; show 2 ≤ 100; decide), fun H9 s8 => ?_⟩
    refine ⟨_, false, rfl, rfl, false, by rw [bare_more (o := o) (hp.mem_iff.mpr (by simp)) (hp.mem_iff.mpr (by simp)) one.symm]; rfl, iteF ?_⟩
    have s9 := s7.trans s8
    clear s6 s7 s8 fb fy
    -- of the other; of all
    refine ⟨_, rfl, _, rfl, (by show 1 ≤ sizeLine; decide), fun b fb => ?_⟩
    have s6 := s9.trans (same_new (o := .lst [.int o]) fb)
    refine ⟨c, d, so, fa, b, [o], rfl, hC8.tk (same_tk s6), SqL.of upd_same, (by show 1 ≤ 100; decide), fun HA sA => ?_⟩
    refine ⟨_, false, rfl, rfl, true, by rw [bare_not (by simpa using one)]; rfl, iteT ?_⟩
    have s7 := s6.trans sA
    refine ⟨_, rfl, _, rfl, _, rfl, RgOk.of_le (by omega) (by omega) (by omega) (by omega), fun b2 fb2 => ?_⟩
    rw [rgV_iv]
    have s8 := s7.trans (same_new (o := .lst (iv (rg 0 d.n))) fb2)
    refine ⟨c, d, so, fa, b2, rg 0 d.n, rfl, hC8.tk (same_tk s8), SqL.of upd_same, by rw [rg_length]; omega, fun HB sB => ?_⟩
    refine ⟨_, false, rfl, rfl, ?_⟩
    rw [bare_more (o := o) (mem_rg.mpr (by omega)) (mem_rg.mpr (by omega)) one.symm]
    exact q _
end
end K67
/-! What the top has written. -/
namespace K67
open PySem PySem.Spec PyProof.Rows L2
theorem all_mk {l : PySem.W.OpenLaw} {w : World} {K : PySem.W.Frag} {h : Heap} {mg : Str → Option Value} {fa f_things f_numbers f_unlike f_run f_mark f_marks f_stand f_vb f_verdict f_ut f_narrowed f_less f_ismix f_asking f_isnarrowed f_bare f_tape f_draw f_lone f_halv f_law f_rinit f_step f_outcome f_along f_ainit f_cause f_smaller C_R C_A : Addr} (X : K.In h) (G : h.Ns mainGlobals mg) (hfa : mg "law" = some (.ref fa))
    {od_things an_things od_numbers an_numbers od_unlike an_unlike od_run an_run od_mark an_mark od_marks an_marks od_stand an_stand od_vb an_vb od_verdict an_verdict od_ut an_ut od_narrowed an_narrowed od_less an_less od_ismix an_ismix od_asking an_asking od_isnarrowed an_isnarrowed od_bare an_bare od_tape an_tape od_draw an_draw od_lone an_lone od_halv an_halv od_law an_law od_rinit an_rinit od_step an_step od_outcome an_outcome od_along an_along od_ainit an_ainit od_cause an_cause od_smaller an_smaller : Option Addr} {sl_things sl_numbers sl_unlike sl_run sl_mark sl_marks sl_stand sl_vb sl_verdict sl_ut sl_narrowed sl_less sl_ismix sl_asking sl_isnarrowed sl_bare sl_tape sl_draw sl_lone sl_halv sl_law sl_rinit sl_step sl_outcome sl_along sl_ainit sl_cause sl_smaller : Array (Option Value)}
    {oc_things kV_things dc_things pm_things cd_things ct_things oc_numbers kV_numbers dc_numbers pm_numbers cd_numbers ct_numbers oc_unlike kV_unlike dc_unlike pm_unlike cd_unlike ct_unlike oc_run kV_run dc_run pm_run cd_run ct_run oc_mark kV_mark dc_mark pm_mark cd_mark ct_mark oc_marks kV_marks dc_marks pm_marks cd_marks ct_marks oc_stand kV_stand dc_stand pm_stand cd_stand ct_stand oc_vb kV_vb dc_vb pm_vb cd_vb ct_vb oc_verdict kV_verdict dc_verdict pm_verdict cd_verdict ct_verdict oc_ut kV_ut dc_ut pm_ut cd_ut ct_ut oc_narrowed kV_narrowed dc_narrowed pm_narrowed cd_narrowed ct_narrowed oc_less kV_less dc_less pm_less cd_less ct_less oc_ismix kV_ismix dc_ismix pm_ismix cd_ismix ct_ismix oc_asking kV_asking dc_asking pm_asking cd_asking ct_asking oc_isnarrowed kV_isnarrowed dc_isnarrowed pm_isnarrowed cd_isnarrowed ct_isnarrowed oc_bare kV_bare dc_bare pm_bare cd_bare ct_bare oc_tape kV_tape dc_tape pm_tape cd_tape ct_tape oc_draw kV_draw dc_draw pm_draw cd_draw ct_draw oc_lone kV_lone dc_lone pm_lone cd_lone ct_lone oc_halv kV_halv dc_halv pm_halv cd_halv ct_halv oc_law kV_law dc_law pm_law cd_law ct_law oc_rinit kV_rinit dc_rinit pm_rinit cd_rinit ct_rinit oc_step kV_step dc_step pm_step cd_step ct_step oc_outcome kV_outcome dc_outcome pm_outcome cd_outcome ct_outcome oc_along kV_along dc_along pm_along cd_along ct_along oc_ainit kV_ainit dc_ainit pm_ainit cd_ainit ct_ainit oc_cause kV_cause dc_cause pm_cause cd_cause ct_cause oc_smaller kV_smaller dc_smaller pm_smaller cd_smaller ct_smaller : Value}
    (aC_R : PySem.W.nsIn K mainGlobals "Runner" = some (some (.ref C_R)))
    (pg_R : PySem.W.plainGet K C_R Str.empty = true)
    (hd_R : PySem.W.hasDictIn K C_R = true)
    (po_R : PySem.W.plainOver K C_R = true)
    (sa_R : PySem.W.findIn K (.ref C_R) "__setattr__" = some (some (.builtin "object.__setattr__")))
    (mk_R : PySem.W.makesIn K C_R = true)
    (kc_R : PySem.W.keepIn K (.ref C_R) = true)
    (nR_plan : PySem.W.findIn K (.ref C_R) "plan" = some none)
    (nR_numbers : PySem.W.findIn K (.ref C_R) "numbers" = some none)
    (nR_pieces : PySem.W.findIn K (.ref C_R) "pieces" = some none)
    (nR_most : PySem.W.findIn K (.ref C_R) "most" = some none)
    (nR_steps : PySem.W.findIn K (.ref C_R) "steps" = some none)
    (nR_over : PySem.W.findIn K (.ref C_R) "over" = some none)
    (aC_A : PySem.W.nsIn K mainGlobals "Asker" = some (some (.ref C_A)))
    (pg_A : PySem.W.plainGet K C_A Str.empty = true)
    (hd_A : PySem.W.hasDictIn K C_A = true)
    (po_A : PySem.W.plainOver K C_A = true)
    (sa_A : PySem.W.findIn K (.ref C_A) "__setattr__" = some (some (.builtin "object.__setattr__")))
    (mk_A : PySem.W.makesIn K C_A = true)
    (kc_A : PySem.W.keepIn K (.ref C_A) = true)
    (nA_case : PySem.W.findIn K (.ref C_A) "case" = some none)
    (nA_known : PySem.W.findIn K (.ref C_A) "known" = some none)
    (nA_askings : PySem.W.findIn K (.ref C_A) "askings" = some none)
    (a_things : PySem.W.nsIn K mainGlobals "things_of" = some (some (.ref f_things)))
    (l_things : K.lookup f_things = some ⟨oc_things, od_things, .func (PySem.W.fnOf "things_of" "things_of" (defArgs sThings) (defBody sThings) (defScope sThings) .none kV_things dc_things pm_things an_things cd_things ct_things), sl_things⟩)
    (c_things : PySem.W.codeIn K cd_things "things_of" = true)
    (k_things : PySem.W.keepIn K (.ref f_things) = true)
    (a_numbers : PySem.W.nsIn K mainGlobals "numbers_of" = some (some (.ref f_numbers)))
    (l_numbers : K.lookup f_numbers = some ⟨oc_numbers, od_numbers, .func (PySem.W.fnOf "numbers_of" "numbers_of" (defArgs sNumbers) (defBody sNumbers) (defScope sNumbers) .none kV_numbers dc_numbers pm_numbers an_numbers cd_numbers ct_numbers), sl_numbers⟩)
    (c_numbers : PySem.W.codeIn K cd_numbers "numbers_of" = true)
    (k_numbers : PySem.W.keepIn K (.ref f_numbers) = true)
    (a_unlike : PySem.W.nsIn K mainGlobals "unlike" = some (some (.ref f_unlike)))
    (l_unlike : K.lookup f_unlike = some ⟨oc_unlike, od_unlike, .func (PySem.W.fnOf "unlike" "unlike" (defArgs sUnlike) (defBody sUnlike) (defScope sUnlike) .none kV_unlike dc_unlike pm_unlike an_unlike cd_unlike ct_unlike), sl_unlike⟩)
    (c_unlike : PySem.W.codeIn K cd_unlike "unlike" = true)
    (k_unlike : PySem.W.keepIn K (.ref f_unlike) = true)
    (a_run : PySem.W.nsIn K mainGlobals "run" = some (some (.ref f_run)))
    (l_run : K.lookup f_run = some ⟨oc_run, od_run, .func (PySem.W.fnOf "run" "run" (defArgs sRun) (defBody sRun) (defScope sRun) .none kV_run dc_run pm_run an_run cd_run ct_run), sl_run⟩)
    (c_run : PySem.W.codeIn K cd_run "run" = true)
    (k_run : PySem.W.keepIn K (.ref f_run) = true)
    (a_mark : PySem.W.nsIn K mainGlobals "mark" = some (some (.ref f_mark)))
    (l_mark : K.lookup f_mark = some ⟨oc_mark, od_mark, .func (PySem.W.fnOf "mark" "mark" (defArgs sMark) (defBody sMark) (defScope sMark) .none kV_mark dc_mark pm_mark an_mark cd_mark ct_mark), sl_mark⟩)
    (c_mark : PySem.W.codeIn K cd_mark "mark" = true)
    (k_mark : PySem.W.keepIn K (.ref f_mark) = true)
    (a_marks : PySem.W.nsIn K mainGlobals "marks" = some (some (.ref f_marks)))
    (l_marks : K.lookup f_marks = some ⟨oc_marks, od_marks, .func (PySem.W.fnOf "marks" "marks" (defArgs sMarks) (defBody sMarks) (defScope sMarks) .none kV_marks dc_marks pm_marks an_marks cd_marks ct_marks), sl_marks⟩)
    (c_marks : PySem.W.codeIn K cd_marks "marks" = true)
    (k_marks : PySem.W.keepIn K (.ref f_marks) = true)
    (a_stand : PySem.W.nsIn K mainGlobals "stand_with" = some (some (.ref f_stand)))
    (l_stand : K.lookup f_stand = some ⟨oc_stand, od_stand, .func (PySem.W.fnOf "stand_with" "stand_with" (defArgs sStand) (defBody sStand) (defScope sStand) .none kV_stand dc_stand pm_stand an_stand cd_stand ct_stand), sl_stand⟩)
    (c_stand : PySem.W.codeIn K cd_stand "stand_with" = true)
    (k_stand : PySem.W.keepIn K (.ref f_stand) = true)
    (a_vb : PySem.W.nsIn K mainGlobals "verdict_by" = some (some (.ref f_vb)))
    (l_vb : K.lookup f_vb = some ⟨oc_vb, od_vb, .func (PySem.W.fnOf "verdict_by" "verdict_by" (defArgs sVerdictBy) (defBody sVerdictBy) (defScope sVerdictBy) .none kV_vb dc_vb pm_vb an_vb cd_vb ct_vb), sl_vb⟩)
    (c_vb : PySem.W.codeIn K cd_vb "verdict_by" = true)
    (k_vb : PySem.W.keepIn K (.ref f_vb) = true)
    (a_verdict : PySem.W.nsIn K mainGlobals "verdict" = some (some (.ref f_verdict)))
    (l_verdict : K.lookup f_verdict = some ⟨oc_verdict, od_verdict, .func (PySem.W.fnOf "verdict" "verdict" (defArgs sVerdict) (defBody sVerdict) (defScope sVerdict) .none kV_verdict dc_verdict pm_verdict an_verdict cd_verdict ct_verdict), sl_verdict⟩)
    (c_verdict : PySem.W.codeIn K cd_verdict "verdict" = true)
    (k_verdict : PySem.W.keepIn K (.ref f_verdict) = true)
    (a_ut : PySem.W.nsIn K mainGlobals "unlike_things" = some (some (.ref f_ut)))
    (l_ut : K.lookup f_ut = some ⟨oc_ut, od_ut, .func (PySem.W.fnOf "unlike_things" "unlike_things" (defArgs sUnlikeThings) (defBody sUnlikeThings) (defScope sUnlikeThings) .none kV_ut dc_ut pm_ut an_ut cd_ut ct_ut), sl_ut⟩)
    (c_ut : PySem.W.codeIn K cd_ut "unlike_things" = true)
    (k_ut : PySem.W.keepIn K (.ref f_ut) = true)
    (a_narrowed : PySem.W.nsIn K mainGlobals "narrowed" = some (some (.ref f_narrowed)))
    (l_narrowed : K.lookup f_narrowed = some ⟨oc_narrowed, od_narrowed, .func (PySem.W.fnOf "narrowed" "narrowed" (defArgs sNarrowed) (defBody sNarrowed) (defScope sNarrowed) .none kV_narrowed dc_narrowed pm_narrowed an_narrowed cd_narrowed ct_narrowed), sl_narrowed⟩)
    (c_narrowed : PySem.W.codeIn K cd_narrowed "narrowed" = true)
    (k_narrowed : PySem.W.keepIn K (.ref f_narrowed) = true)
    (a_less : PySem.W.nsIn K mainGlobals "lessened" = some (some (.ref f_less)))
    (l_less : K.lookup f_less = some ⟨oc_less, od_less, .func (PySem.W.fnOf "lessened" "lessened" (defArgs sLessened) (defBody sLessened) (defScope sLessened) .none kV_less dc_less pm_less an_less cd_less ct_less), sl_less⟩)
    (c_less : PySem.W.codeIn K cd_less "lessened" = true)
    (k_less : PySem.W.keepIn K (.ref f_less) = true)
    (a_ismix : PySem.W.nsIn K mainGlobals "is_mix" = some (some (.ref f_ismix)))
    (l_ismix : K.lookup f_ismix = some ⟨oc_ismix, od_ismix, .func (PySem.W.fnOf "is_mix" "is_mix" (defArgs sIsMix) (defBody sIsMix) (defScope sIsMix) .none kV_ismix dc_ismix pm_ismix an_ismix cd_ismix ct_ismix), sl_ismix⟩)
    (c_ismix : PySem.W.codeIn K cd_ismix "is_mix" = true)
    (k_ismix : PySem.W.keepIn K (.ref f_ismix) = true)
    (a_asking : PySem.W.nsIn K mainGlobals "is_asking" = some (some (.ref f_asking)))
    (l_asking : K.lookup f_asking = some ⟨oc_asking, od_asking, .func (PySem.W.fnOf "is_asking" "is_asking" (defArgs sIsAsking) (defBody sIsAsking) (defScope sIsAsking) .none kV_asking dc_asking pm_asking an_asking cd_asking ct_asking), sl_asking⟩)
    (c_asking : PySem.W.codeIn K cd_asking "is_asking" = true)
    (k_asking : PySem.W.keepIn K (.ref f_asking) = true)
    (a_isnarrowed : PySem.W.nsIn K mainGlobals "is_narrowed" = some (some (.ref f_isnarrowed)))
    (l_isnarrowed : K.lookup f_isnarrowed = some ⟨oc_isnarrowed, od_isnarrowed, .func (PySem.W.fnOf "is_narrowed" "is_narrowed" (defArgs sIsNarrowed) (defBody sIsNarrowed) (defScope sIsNarrowed) .none kV_isnarrowed dc_isnarrowed pm_isnarrowed an_isnarrowed cd_isnarrowed ct_isnarrowed), sl_isnarrowed⟩)
    (c_isnarrowed : PySem.W.codeIn K cd_isnarrowed "is_narrowed" = true)
    (k_isnarrowed : PySem.W.keepIn K (.ref f_isnarrowed) = true)
    (a_bare : PySem.W.nsIn K mainGlobals "is_bare" = some (some (.ref f_bare)))
    (l_bare : K.lookup f_bare = some ⟨oc_bare, od_bare, .func (PySem.W.fnOf "is_bare" "is_bare" (defArgs sIsBare) (defBody sIsBare) (defScope sIsBare) .none kV_bare dc_bare pm_bare an_bare cd_bare ct_bare), sl_bare⟩)
    (c_bare : PySem.W.codeIn K cd_bare "is_bare" = true)
    (k_bare : PySem.W.keepIn K (.ref f_bare) = true)
    (a_tape : PySem.W.nsIn K mainGlobals "_law_tape" = some (some (.ref f_tape)))
    (l_tape : K.lookup f_tape = some ⟨oc_tape, od_tape, .func (PySem.W.fnOf "_law_tape" "_law_tape" (defArgs sTape) (defBody sTape) (defScope sTape) .none kV_tape dc_tape pm_tape an_tape cd_tape ct_tape), sl_tape⟩)
    (c_tape : PySem.W.codeIn K cd_tape "_law_tape" = true)
    (k_tape : PySem.W.keepIn K (.ref f_tape) = true)
    (a_draw : PySem.W.nsIn K mainGlobals "_law_draw" = some (some (.ref f_draw)))
    (l_draw : K.lookup f_draw = some ⟨oc_draw, od_draw, .func (PySem.W.fnOf "_law_draw" "_law_draw" (defArgs sDraw) (defBody sDraw) (defScope sDraw) .none kV_draw dc_draw pm_draw an_draw cd_draw ct_draw), sl_draw⟩)
    (c_draw : PySem.W.codeIn K cd_draw "_law_draw" = true)
    (k_draw : PySem.W.keepIn K (.ref f_draw) = true)
    (a_lone : PySem.W.nsIn K mainGlobals "_law_lone" = some (some (.ref f_lone)))
    (l_lone : K.lookup f_lone = some ⟨oc_lone, od_lone, .func (PySem.W.fnOf "_law_lone" "_law_lone" (defArgs sLone) (defBody sLone) (defScope sLone) .none kV_lone dc_lone pm_lone an_lone cd_lone ct_lone), sl_lone⟩)
    (c_lone : PySem.W.codeIn K cd_lone "_law_lone" = true)
    (k_lone : PySem.W.keepIn K (.ref f_lone) = true)
    (a_halv : PySem.W.nsIn K mainGlobals "_law_halvings" = some (some (.ref f_halv)))
    (l_halv : K.lookup f_halv = some ⟨oc_halv, od_halv, .func (PySem.W.fnOf "_law_halvings" "_law_halvings" (defArgs sHalv) (defBody sHalv) (defScope sHalv) .none kV_halv dc_halv pm_halv an_halv cd_halv ct_halv), sl_halv⟩)
    (c_halv : PySem.W.codeIn K cd_halv "_law_halvings" = true)
    (k_halv : PySem.W.keepIn K (.ref f_halv) = true)
    (a_law : PySem.W.nsIn K mainGlobals "law" = some (some (.ref f_law)))
    (l_law : K.lookup f_law = some ⟨oc_law, od_law, .func (PySem.W.fnOf "law" "law" (defArgs sLaw) (defBody sLaw) (defScope sLaw) .none kV_law dc_law pm_law an_law cd_law ct_law), sl_law⟩)
    (c_law : PySem.W.codeIn K cd_law "law" = true)
    (k_law : PySem.W.keepIn K (.ref f_law) = true)
    (a_rinit : PySem.W.findIn K (.ref C_R) "__init__" = some (some (.ref f_rinit)))
    (i_rinit : PySem.W.isFn K (.ref f_rinit) = true)
    (l_rinit : K.lookup f_rinit = some ⟨oc_rinit, od_rinit, .func (PySem.W.fnOf "__init__" "Runner.__init__" (defArgs sRInit) (defBody sRInit) (defScope sRInit) .none kV_rinit dc_rinit pm_rinit an_rinit cd_rinit ct_rinit), sl_rinit⟩)
    (c_rinit : PySem.W.codeIn K cd_rinit "Runner.__init__" = true)
    (k_rinit : PySem.W.keepIn K (.ref f_rinit) = true)
    (a_step : PySem.W.findIn K (.ref C_R) "step" = some (some (.ref f_step)))
    (i_step : PySem.W.isFn K (.ref f_step) = true)
    (l_step : K.lookup f_step = some ⟨oc_step, od_step, .func (PySem.W.fnOf "step" "Runner.step" (defArgs sStep) (defBody sStep) (defScope sStep) .none kV_step dc_step pm_step an_step cd_step ct_step), sl_step⟩)
    (c_step : PySem.W.codeIn K cd_step "Runner.step" = true)
    (k_step : PySem.W.keepIn K (.ref f_step) = true)
    (a_outcome : PySem.W.findIn K (.ref C_R) "outcome" = some (some (.ref f_outcome)))
    (i_outcome : PySem.W.isFn K (.ref f_outcome) = true)
    (l_outcome : K.lookup f_outcome = some ⟨oc_outcome, od_outcome, .func (PySem.W.fnOf "outcome" "Runner.outcome" (defArgs sOutcome) (defBody sOutcome) (defScope sOutcome) .none kV_outcome dc_outcome pm_outcome an_outcome cd_outcome ct_outcome), sl_outcome⟩)
    (c_outcome : PySem.W.codeIn K cd_outcome "Runner.outcome" = true)
    (k_outcome : PySem.W.keepIn K (.ref f_outcome) = true)
    (a_along : PySem.W.findIn K (.ref C_R) "go_along" = some (some (.ref f_along)))
    (i_along : PySem.W.isFn K (.ref f_along) = true)
    (l_along : K.lookup f_along = some ⟨oc_along, od_along, .func (PySem.W.fnOf "go_along" "Runner.go_along" (defArgs sAlong) (defBody sAlong) (defScope sAlong) .none kV_along dc_along pm_along an_along cd_along ct_along), sl_along⟩)
    (c_along : PySem.W.codeIn K cd_along "Runner.go_along" = true)
    (k_along : PySem.W.keepIn K (.ref f_along) = true)
    (a_ainit : PySem.W.findIn K (.ref C_A) "__init__" = some (some (.ref f_ainit)))
    (i_ainit : PySem.W.isFn K (.ref f_ainit) = true)
    (l_ainit : K.lookup f_ainit = some ⟨oc_ainit, od_ainit, .func (PySem.W.fnOf "__init__" "Asker.__init__" (defArgs sAInit) (defBody sAInit) (defScope sAInit) .none kV_ainit dc_ainit pm_ainit an_ainit cd_ainit ct_ainit), sl_ainit⟩)
    (c_ainit : PySem.W.codeIn K cd_ainit "Asker.__init__" = true)
    (k_ainit : PySem.W.keepIn K (.ref f_ainit) = true)
    (a_cause : PySem.W.findIn K (.ref C_A) "is_cause" = some (some (.ref f_cause)))
    (i_cause : PySem.W.isFn K (.ref f_cause) = true)
    (l_cause : K.lookup f_cause = some ⟨oc_cause, od_cause, .func (PySem.W.fnOf "is_cause" "Asker.is_cause" (defArgs sIsCause) (defBody sIsCause) (defScope sIsCause) .none kV_cause dc_cause pm_cause an_cause cd_cause ct_cause), sl_cause⟩)
    (c_cause : PySem.W.codeIn K cd_cause "Asker.is_cause" = true)
    (k_cause : PySem.W.keepIn K (.ref f_cause) = true)
    (a_smaller : PySem.W.findIn K (.ref C_A) "smaller" = some (some (.ref f_smaller)))
    (i_smaller : PySem.W.isFn K (.ref f_smaller) = true)
    (l_smaller : K.lookup f_smaller = some ⟨oc_smaller, od_smaller, .func (PySem.W.fnOf "smaller" "Asker.smaller" (defArgs sSmaller) (defBody sSmaller) (defScope sSmaller) .none kV_smaller dc_smaller pm_smaller an_smaller cd_smaller ct_smaller), sl_smaller⟩)
    (c_smaller : PySem.W.codeIn K cd_smaller "Asker.smaller" = true)
    (k_smaller : PySem.W.keepIn K (.ref f_smaller) = true)
    (z_list : PySem.W.nsIn K mainGlobals "list" = some none)
    (z_range : PySem.W.nsIn K mainGlobals "range" = some none)
    (z_enumerate : PySem.W.nsIn K mainGlobals "enumerate" = some none)
    (z_dict : PySem.W.nsIn K mainGlobals "dict" = some none)
    (z_zip : PySem.W.nsIn K mainGlobals "zip" = some none)
    (z_len : PySem.W.nsIn K mainGlobals "len" = some none)
    (z_int : PySem.W.nsIn K mainGlobals "int" = some none)
    (z_tuple : PySem.W.nsIn K mainGlobals "tuple" = some none)
    (z_isinstance : PySem.W.nsIn K mainGlobals "isinstance" = some none)
    (z_bool : PySem.W.nsIn K mainGlobals "bool" = some none)
    (z_str : PySem.W.nsIn K mainGlobals "str" = some none)
    (z_all : PySem.W.nsIn K mainGlobals "all" = some none)
    (z_sorted : PySem.W.nsIn K mainGlobals "sorted" = some none) :
    ∃ fd : FuncData, (∀ (s : Shared) (v : Value), BindsTo s fd ⟨[v], []⟩ [("_law_script", v)]) ∧ ∀ base : Heap, K.In base → base.Ns mainGlobals mg → FnOk l.prog w K mg base CX0 10 fa fd ["_law_script"] (spLaw K) := by
  have e := hfa.symm.trans (PySem.W.mg_of X G a_law)
  cases e
  have m_list := PySem.W.mg_none_of X G z_list
  have m_range := PySem.W.mg_none_of X G z_range
  have m_enumerate := PySem.W.mg_none_of X G z_enumerate
  have m_dict := PySem.W.mg_none_of X G z_dict
  have m_zip := PySem.W.mg_none_of X G z_zip
  have m_len := PySem.W.mg_none_of X G z_len
  have m_int := PySem.W.mg_none_of X G z_int
  have m_tuple := PySem.W.mg_none_of X G z_tuple
  have m_isinstance := PySem.W.mg_none_of X G z_isinstance
  have m_bool := PySem.W.mg_none_of X G z_bool
  have m_str := PySem.W.mg_none_of X G z_str
  have m_all := PySem.W.mg_none_of X G z_all
  have m_sorted := PySem.W.mg_none_of X G z_sorted
  have F_things := fun_mk (st := sThings) l_things c_things k_things
  have g_things := PySem.W.mg_of X G a_things
  have F_numbers := fun_mk (st := sNumbers) l_numbers c_numbers k_numbers
  have g_numbers := PySem.W.mg_of X G a_numbers
  have F_unlike := fun_mk (st := sUnlike) l_unlike c_unlike k_unlike
  have g_unlike := PySem.W.mg_of X G a_unlike
  have F_run := fun_mk (st := sRun) l_run c_run k_run
  have g_run := PySem.W.mg_of X G a_run
  have F_mark := fun_mk (st := sMark) l_mark c_mark k_mark
  have g_mark := PySem.W.mg_of X G a_mark
  have F_marks := fun_mk (st := sMarks) l_marks c_marks k_marks
  have g_marks := PySem.W.mg_of X G a_marks
  have F_stand := fun_mk (st := sStand) l_stand c_stand k_stand
  have g_stand := PySem.W.mg_of X G a_stand
  have F_vb := fun_mk (st := sVerdictBy) l_vb c_vb k_vb
  have g_vb := PySem.W.mg_of X G a_vb
  have F_verdict := fun_mk (st := sVerdict) l_verdict c_verdict k_verdict
  have g_verdict := PySem.W.mg_of X G a_verdict
  have F_ut := fun_mk (st := sUnlikeThings) l_ut c_ut k_ut
  have g_ut := PySem.W.mg_of X G a_ut
  have F_narrowed := fun_mk (st := sNarrowed) l_narrowed c_narrowed k_narrowed
  have g_narrowed := PySem.W.mg_of X G a_narrowed
  have F_less := fun_mk (st := sLessened) l_less c_less k_less
  have g_less := PySem.W.mg_of X G a_less
  have F_ismix := fun_mk (st := sIsMix) l_ismix c_ismix k_ismix
  have g_ismix := PySem.W.mg_of X G a_ismix
  have F_asking := fun_mk (st := sIsAsking) l_asking c_asking k_asking
  have g_asking := PySem.W.mg_of X G a_asking
  have F_isnarrowed := fun_mk (st := sIsNarrowed) l_isnarrowed c_isnarrowed k_isnarrowed
  have g_isnarrowed := PySem.W.mg_of X G a_isnarrowed
  have F_bare := fun_mk (st := sIsBare) l_bare c_bare k_bare
  have g_bare := PySem.W.mg_of X G a_bare
  have F_tape := fun_mk (st := sTape) l_tape c_tape k_tape
  have g_tape := PySem.W.mg_of X G a_tape
  have F_draw := fun_mk (st := sDraw) l_draw c_draw k_draw
  have g_draw := PySem.W.mg_of X G a_draw
  have F_lone := fun_mk (st := sLone) l_lone c_lone k_lone
  have g_lone := PySem.W.mg_of X G a_lone
  have F_halv := fun_mk (st := sHalv) l_halv c_halv k_halv
  have g_halv := PySem.W.mg_of X G a_halv
  have F_law := fun_mk (st := sLaw) l_law c_law k_law
  have F_rinit := fun_mk (st := sRInit) l_rinit c_rinit k_rinit
  have F_step := fun_mk (st := sStep) l_step c_step k_step
  have M_step : Meth K C_R "step" f_step := ⟨a_step, i_step, k_step⟩
  have F_outcome := fun_mk (st := sOutcome) l_outcome c_outcome k_outcome
  have M_outcome : Meth K C_R "outcome" f_outcome := ⟨a_outcome, i_outcome, k_outcome⟩
  have F_along := fun_mk (st := sAlong) l_along c_along k_along
  have M_along : Meth K C_R "go_along" f_along := ⟨a_along, i_along, k_along⟩
  have F_ainit := fun_mk (st := sAInit) l_ainit c_ainit k_ainit
  have F_cause := fun_mk (st := sIsCause) l_cause c_cause k_cause
  have M_cause : Meth K C_A "is_cause" f_cause := ⟨a_cause, i_cause, k_cause⟩
  have F_smaller := fun_mk (st := sSmaller) l_smaller c_smaller k_smaller
  have M_smaller : Meth K C_A "smaller" f_smaller := ⟨a_smaller, i_smaller, k_smaller⟩
  have b_things := F_things.binds (ps := ["plan"]) fun _ _ _ _ _ _ us hl => match us, hl with | [_], _ => rfl
  have b_numbers := F_numbers.binds (ps := ["stand"]) fun _ _ _ _ _ _ us hl => match us, hl with | [_], _ => rfl
  have b_unlike := F_unlike.binds (ps := ["plan", "one", "other"]) fun _ _ _ _ _ _ us hl => match us, hl with | [_, _, _], _ => rfl
  have b_run := F_run.binds (ps := ["plan", "stand", "most"]) fun _ _ _ _ _ _ us hl => match us, hl with | [_, _, _], _ => rfl
  have b_mark := F_mark.binds (ps := ["plan", "stand", "most"]) fun _ _ _ _ _ _ us hl => match us, hl with | [_, _, _], _ => rfl
  have b_marks := F_marks.binds (ps := ["case"]) fun _ _ _ _ _ _ us hl => match us, hl with | [_], _ => rfl
  have b_stand := F_stand.binds (ps := ["plan", "sound", "faulty", "some"]) fun _ _ _ _ _ _ us hl => match us, hl with | [_, _, _, _], _ => rfl
  have b_vb := F_vb.binds (ps := ["both", "number"]) fun _ _ _ _ _ _ us hl => match us, hl with | [_, _], _ => rfl
  have b_verdict := F_verdict.binds (ps := ["case", "mix"]) fun _ _ _ _ _ _ us hl => match us, hl with | [_, _], _ => rfl
  have b_ut := F_ut.binds (ps := ["case"]) fun _ _ _ _ _ _ us hl => match us, hl with | [_], _ => rfl
  have b_narrowed := F_narrowed.binds (ps := ["case"]) fun _ _ _ _ _ _ us hl => match us, hl with | [_], _ => rfl
  have b_less := F_less.binds (ps := ["mix"]) fun _ _ _ _ _ _ us hl => match us, hl with | [_], _ => rfl
  have b_ismix := F_ismix.binds (ps := ["case", "thing"]) fun _ _ _ _ _ _ us hl => match us, hl with | [_, _], _ => rfl
  have b_asking := F_asking.binds (ps := ["case", "thing"]) fun _ _ _ _ _ _ us hl => match us, hl with | [_, _], _ => rfl
  have b_isnarrowed := F_isnarrowed.binds (ps := ["case", "thing"]) fun _ _ _ _ _ _ us hl => match us, hl with | [_, _], _ => rfl
  have b_bare := F_bare.binds (ps := ["case", "mix"]) fun _ _ _ _ _ _ us hl => match us, hl with | [_, _], _ => rfl
  have b_tape := F_tape.binds (ps := ["_law_script"]) fun _ _ _ _ _ _ us hl => match us, hl with | [_], _ => rfl
  have b_draw := F_draw.binds (ps := ["_law_tape_here", "_law_many"]) fun _ _ _ _ _ _ us hl => match us, hl with | [_, _], _ => rfl
  have b_lone := F_lone.binds (ps := ["_law_tape_here"]) fun _ _ _ _ _ _ us hl => match us, hl with | [_], _ => rfl
  have b_halv := F_halv.binds (ps := ["_law_many"]) fun _ _ _ _ _ _ us hl => match us, hl with | [_], _ => rfl
  have b_rinit := F_rinit.binds (ps := ["self", "plan", "stand", "most"]) fun _ _ _ _ _ _ us hl => match us, hl with | [_, _, _, _], _ => rfl
  have b_step := F_step.binds (ps := ["self", "place", "number"]) fun _ _ _ _ _ _ us hl => match us, hl with | [_, _, _], _ => rfl
  have b_outcome := F_outcome.binds (ps := ["self", "row"]) fun _ _ _ _ _ _ us hl => match us, hl with | [_, _], _ => rfl
  have b_along := F_along.binds (ps := ["self", "rows", "place"]) fun _ _ _ _ _ _ us hl => match us, hl with | [_, _, _], _ => rfl
  have b_ainit := F_ainit.binds (ps := ["self", "case"]) fun _ _ _ _ _ _ us hl => match us, hl with | [_, _], _ => rfl
  have b_cause := F_cause.binds (ps := ["self", "mix"]) fun _ _ _ _ _ _ us hl => match us, hl with | [_, _], _ => rfl
  have b_smaller := F_smaller.binds (ps := ["self", "mix", "many"]) fun _ _ _ _ _ _ us hl => match us, hl with | [_, _, _], _ => rfl
  have MR : Mk K C_R f_rinit := ⟨mk_R, a_rinit, i_rinit, kc_R⟩
  have MA : Mk K C_A f_ainit := ⟨mk_A, a_ainit, i_ainit, kc_A⟩
  have TR : RTxt K mg C_R := ⟨⟨pg_R, hd_R, po_R, sa_R⟩, nR_plan, nR_numbers, nR_pieces, nR_most, nR_steps, nR_over, PySem.W.mg_of X G aC_R, m_dict, m_zip, m_len, m_int, m_enumerate, m_tuple⟩
  have TA : ATxt K mg C_A := ⟨⟨pg_A, hd_A, po_A, sa_A⟩, nA_case, nA_known, nA_askings, PySem.W.mg_of X G aC_A, m_tuple, m_list, m_len, m_range⟩
  have TI : ITxt mg := ⟨m_isinstance, m_list, m_bool, m_str, m_int, m_tuple, m_len⟩
  have RF : RFns K C_R := ⟨⟨_, _, MR, F_rinit, b_rinit⟩, ⟨_, _, M_step, F_step, b_step⟩, ⟨_, _, M_outcome, F_outcome, b_outcome⟩, ⟨_, _, M_along, F_along, b_along⟩⟩
  refine ⟨PySem.W.fnOf "law" "law" (defArgs sLaw) (defBody sLaw) (defScope sLaw) .none kV_law dc_law pm_law an_law cd_law ct_law, fun s v => .of_eq rfl, fun base _ _ => ?_⟩
  have G_things : FnOk l.prog w K mg base CX0 1 f_things _ ["plan"] (spThings K) := ok_things F_things m_list m_range
  have G_numbers : FnOk l.prog w K mg base CX0 1 f_numbers _ ["stand"] (spNumbers K) := ok_numbers F_numbers m_list
  have G_unlike : FnOk l.prog w K mg base CX0 2 f_unlike _ ["plan", "one", "other"] (spUnlike K) := ok_unlike F_unlike F_things F_numbers b_things b_numbers g_things g_numbers m_list m_range m_enumerate
  have G_mark : FnOk l.prog w K mg base CX0 4 f_mark _ ["plan", "stand", "most"] (spMark K) := ok_mark F_mark TR RF F_run b_run g_run
  have G_marks : FnOk l.prog w K mg base CX0 5 f_marks _ ["case"] (spMarks K) := ok_marks F_marks G_mark F_mark b_mark g_mark
  have G_vb : FnOk l.prog w K mg base CX0 1 f_vb _ ["both", "number"] (spVB K) := ok_vb F_vb
  have G_ut : FnOk l.prog w K mg base CX0 3 f_ut _ ["case"] (spUT K) := ok_ut F_ut G_unlike F_unlike b_unlike g_unlike
  have G_stand : FnOk l.prog w K mg base CX0 1 f_stand _ ["plan", "sound", "faulty", "some"] (spStand K) := ok_stand F_stand m_enumerate m_range m_tuple
  have G_verdict : FnOk l.prog w K mg base CX0 6 f_verdict _ ["case", "mix"] (spVerdict K) := ok_verdict F_verdict G_marks F_marks b_marks g_marks G_mark F_mark b_mark g_mark G_stand F_stand b_stand g_stand G_vb F_vb b_vb g_vb
  have G_ainit : FnOk l.prog w K mg base CX0 1 f_ainit _ ["self", "case"] (spAInit C_A) := ok_ainit F_ainit TA
  have G_cause : FnOk l.prog w K mg base CX0 7 f_cause _ ["self", "mix"] (spCause K C_A) := ok_cause F_cause TA G_verdict F_verdict b_verdict g_verdict
  have G_smaller : FnOk l.prog w K mg base CX0 8 f_smaller _ ["self", "mix", "many"] (spSmaller K C_A) := ok_smaller F_smaller TA G_cause F_cause b_cause M_cause
  have G_narrowed : FnOk l.prog w K mg base CX0 9 f_narrowed _ ["case"] (spNarrowed K) := ok_narrowed F_narrowed TA G_marks F_marks b_marks g_marks G_ut F_ut b_ut g_ut MA G_ainit b_ainit G_cause b_cause M_cause G_smaller b_smaller M_smaller
  have G_less : FnOk l.prog w K mg base CX0 1 f_less _ ["mix"] (spLess K) := ok_less F_less m_len m_range
  have G_bare : FnOk l.prog w K mg base CX0 7 f_bare _ ["case", "mix"] (spBare K) := ok_bare F_bare G_verdict F_verdict b_verdict g_verdict G_less F_less b_less g_less m_all m_list
  have G_ismix : FnOk l.prog w K mg base CX0 4 f_ismix _ ["case", "thing"] (spIsMix K) := ok_ismix F_ismix TI G_ut F_ut b_ut g_ut
  have G_asking : FnOk l.prog w K mg base CX0 7 f_asking _ ["case", "thing"] (spIsAsking K) := ok_asking F_asking TI G_ismix F_ismix b_ismix g_ismix G_verdict F_verdict b_verdict g_verdict
  have G_isnarrowed : FnOk l.prog w K mg base CX0 8 f_isnarrowed _ ["case", "thing"] (spIsNarrowed K) := ok_isnarrowed F_isnarrowed TI m_all m_dict G_marks F_marks b_marks g_marks G_ismix F_ismix b_ismix g_ismix G_asking F_asking b_asking g_asking G_ut F_ut b_ut g_ut G_less F_less b_less g_less
  have G_tape : FnOk l.prog w K mg base CX0 1 f_tape _ ["_law_script"] (spTape K) := ok_tape F_tape m_list
  have G_draw : FnOk l.prog w K mg base CX0 1 f_draw _ ["_law_tape_here", "_law_many"] spDraw := ok_draw F_draw m_len
  have G_halv : FnOk l.prog w K mg base CX0 1 f_halv _ ["_law_many"] spHalv := ok_halv F_halv
  have G_lone : FnOk l.prog w K mg base CX0 2 f_lone _ ["_law_tape_here"] (spLone K) := ok_lone F_lone m_range m_tuple G_draw F_draw b_draw g_draw
  exact ok_law F_law m_len m_sorted m_list m_range G_tape F_tape b_tape g_tape G_lone F_lone b_lone g_lone G_narrowed F_narrowed b_narrowed g_narrowed G_halv F_halv b_halv g_halv G_isnarrowed F_isnarrowed b_isnarrowed g_isnarrowed G_bare F_bare b_bare g_bare G_draw F_draw b_draw g_draw
theorem walk {l : PySem.W.OpenLaw} {q : Program} {loose : List Str} {XP : (Str → Option Value) → Heap → Prop} {YP : World → Heap → Prop} {d : DefRec} {K : Params → PySem.W.Frag} (hn : l.most = some 63) (hdf : d.params.defaults = [])
    (hY : ∀ (w : World) (h : Heap), YP w h → (K w.params).In h)
    (F : ∀ (w : World) (mg : Str → Option Value) (fa : Addr) (h : Heap), (K w.params).In h → h.Ns mainGlobals mg → mg d.name = some (.ref fa) →
      ∃ fd : FuncData, (∀ (s : Shared) (u : Value), BindsTo s fd ⟨[u], []⟩ [("_law_script", u)]) ∧ ∀ base : Heap, (K w.params).In base → base.Ns mainGlobals mg → FnOk l.prog w (K w.params) mg base CX0 10 fa fd ["_law_script"] (spLaw (K w.params))) :
    PySem.W.WalkO q loose XP YP l.row.toRowW d [] (fun f vs => PySem.call f vs) :=
  L2.walk_of (n := 63) (k := 10) (x := "_law_script") (CX := fun _ => CX0) (sp := fun w => spLaw (K w.params)) hn (by decide) hdf ⟨rfl, by decide, by decide⟩ hY F (fun _ _ a ns _ _ hS => ⟨a, ns, rfl, hS, fun _ => rfl⟩) fun _ _ _ _ _ z => z
end K67
open PySem PySem.W PyProof.Rows in
set_option maxRecDepth 100000 in
set_option maxHeartbeats 0 in
theorem PySem.Challenge.cw_twinstride_k67_whole_lone_things_holds : PySem.Challenge.rw_twinstride_k67_whole_lone_things.Holds := by
  w_on; o_law; k_head; (case hw => w_witness2)
  k_fill
  refine K67.walk (l := PySem.Challenge.rw_twinstride_k67_whole_lone_things) rfl rfl (fun w h Y => PySem.W.kIn_of Y) ?F
  case F =>
    intro w mg fa h KX G hmg
    refine' K67.all_mk KX G hmg ?aC_R ?pg_R ?hd_R ?po_R ?sa_R ?mk_R ?kc_R ?nR_plan ?nR_numbers ?nR_pieces ?nR_most ?nR_steps ?nR_over ?aC_A ?pg_A ?hd_A ?po_A ?sa_A ?mk_A ?kc_A ?nA_case ?nA_known ?nA_askings ?a_things ?l_things ?c_things ?k_things ?a_numbers ?l_numbers ?c_numbers ?k_numbers ?a_unlike ?l_unlike ?c_unlike ?k_unlike ?a_run ?l_run ?c_run ?k_run ?a_mark ?l_mark ?c_mark ?k_mark ?a_marks ?l_marks ?c_marks ?k_marks ?a_stand ?l_stand ?c_stand ?k_stand ?a_vb ?l_vb ?c_vb ?k_vb ?a_verdict ?l_verdict ?c_verdict ?k_verdict ?a_ut ?l_ut ?c_ut ?k_ut ?a_narrowed ?l_narrowed ?c_narrowed ?k_narrowed ?a_less ?l_less ?c_less ?k_less ?a_ismix ?l_ismix ?c_ismix ?k_ismix ?a_asking ?l_asking ?c_asking ?k_asking ?a_isnarrowed ?l_isnarrowed ?c_isnarrowed ?k_isnarrowed ?a_bare ?l_bare ?c_bare ?k_bare ?a_tape ?l_tape ?c_tape ?k_tape ?a_draw ?l_draw ?c_draw ?k_draw ?a_lone ?l_lone ?c_lone ?k_lone ?a_halv ?l_halv ?c_halv ?k_halv ?a_law ?l_law ?c_law ?k_law ?a_rinit ?i_rinit ?l_rinit ?c_rinit ?k_rinit ?a_step ?i_step ?l_step ?c_step ?k_step ?a_outcome ?i_outcome ?l_outcome ?c_outcome ?k_outcome ?a_along ?i_along ?l_along ?c_along ?k_along ?a_ainit ?i_ainit ?l_ainit ?c_ainit ?k_ainit ?a_cause ?i_cause ?l_cause ?c_cause ?k_cause ?a_smaller ?i_smaller ?l_smaller ?c_smaller ?k_smaller ?z_list ?z_range ?z_enumerate ?z_dict ?z_zip ?z_len ?z_int ?z_tuple ?z_isinstance ?z_bool ?z_str ?z_all ?z_sorted
    (case aC_R => k_is)
    (case pg_R => k_is)
    (case hd_R => k_is)
    (case po_R => k_is)
    (case sa_R => k_is)
    (case mk_R => k_is)
    (case kc_R => k_is)
    (case nR_plan => k_is)
    (case nR_numbers => k_is)
    (case nR_pieces => k_is)
    (case nR_most => k_is)
    (case nR_steps => k_is)
    (case nR_over => k_is)
    (case aC_A => k_is)
    (case pg_A => k_is)
    (case hd_A => k_is)
    (case po_A => k_is)
    (case sa_A => k_is)
    (case mk_A => k_is)
    (case kc_A => k_is)
    (case nA_case => k_is)
    (case nA_known => k_is)
    (case nA_askings => k_is)
    (case a_things => k_is)
    (case l_things => k_is)
    (case c_things => k_is)
    (case k_things => k_is)
    (case a_numbers => k_is)
    (case l_numbers => k_is)
    (case c_numbers => k_is)
    (case k_numbers => k_is)
    (case a_unlike => k_is)
    (case l_unlike => k_is)
    (case c_unlike => k_is)
    (case k_unlike => k_is)
    (case a_run => k_is)
    (case l_run => k_is)
    (case c_run => k_is)
    (case k_run => k_is)
    (case a_mark => k_is)
    (case l_mark => k_is)
    (case c_mark => k_is)
    (case k_mark => k_is)
    (case a_marks => k_is)
    (case l_marks => k_is)
    (case c_marks => k_is)
    (case k_marks => k_is)
    (case a_stand => k_is)
    (case l_stand => k_is)
    (case c_stand => k_is)
    (case k_stand => k_is)
    (case a_vb => k_is)
    (case l_vb => k_is)
    (case c_vb => k_is)
    (case k_vb => k_is)
    (case a_verdict => k_is)
    (case l_verdict => k_is)
    (case c_verdict => k_is)
    (case k_verdict => k_is)
    (case a_ut => k_is)
    (case l_ut => k_is)
    (case c_ut => k_is)
    (case k_ut => k_is)
    (case a_narrowed => k_is)
    (case l_narrowed => k_is)
    (case c_narrowed => k_is)
    (case k_narrowed => k_is)
    (case a_less => k_is)
    (case l_less => k_is)
    (case c_less => k_is)
    (case k_less => k_is)
    (case a_ismix => k_is)
    (case l_ismix => k_is)
    (case c_ismix => k_is)
    (case k_ismix => k_is)
    (case a_asking => k_is)
    (case l_asking => k_is)
    (case c_asking => k_is)
    (case k_asking => k_is)
    (case a_isnarrowed => k_is)
    (case l_isnarrowed => k_is)
    (case c_isnarrowed => k_is)
    (case k_isnarrowed => k_is)
    (case a_bare => k_is)
    (case l_bare => k_is)
    (case c_bare => k_is)
    (case k_bare => k_is)
    (case a_tape => k_is)
    (case l_tape => k_is)
    (case c_tape => k_is)
    (case k_tape => k_is)
    (case a_draw => k_is)
    (case l_draw => k_is)
    (case c_draw => k_is)
    (case k_draw => k_is)
    (case a_lone => k_is)
    (case l_lone => k_is)
    (case c_lone => k_is)
    (case k_lone => k_is)
    (case a_halv => k_is)
    (case l_halv => k_is)
    (case c_halv => k_is)
    (case k_halv => k_is)
    (case a_law => k_is)
    (case l_law => k_is)
    (case c_law => k_is)
    (case k_law => k_is)
    (case a_rinit => k_is)
    (case i_rinit => k_is)
    (case l_rinit => k_is)
    (case c_rinit => k_is)
    (case k_rinit => k_is)
    (case a_step => k_is)
    (case i_step => k_is)
    (case l_step => k_is)
    (case c_step => k_is)
    (case k_step => k_is)
    (case a_outcome => k_is)
    (case i_outcome => k_is)
    (case l_outcome => k_is)
    (case c_outcome => k_is)
    (case k_outcome => k_is)
    (case a_along => k_is)
    (case i_along => k_is)
    (case l_along => k_is)
    (case c_along => k_is)
    (case k_along => k_is)
    (case a_ainit => k_is)
    (case i_ainit => k_is)
    (case l_ainit => k_is)
    (case c_ainit => k_is)
    (case k_ainit => k_is)
    (case a_cause => k_is)
    (case i_cause => k_is)
    (case l_cause => k_is)
    (case c_cause => k_is)
    (case k_cause => k_is)
    (case a_smaller => k_is)
    (case i_smaller => k_is)
    (case l_smaller => k_is)
    (case c_smaller => k_is)
    (case k_smaller => k_is)
    (case z_list => k_is)
    (case z_range => k_is)
    (case z_enumerate => k_is)
    (case z_dict => k_is)
    (case z_zip => k_is)
    (case z_len => k_is)
    (case z_int => k_is)
    (case z_tuple => k_is)
    (case z_isinstance => k_is)
    (case z_bool => k_is)
    (case z_str => k_is)
    (case z_all => k_is)
    (case z_sorted => k_is)
#print axioms PySem.Challenge.cw_twinstride_k67_whole_lone_things_holds
