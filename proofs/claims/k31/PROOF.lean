import PyProof.Rows.All
import Wide.All
import OpenK.AllK
import Wide.FinOn
import HandS.ForMost
import HandS.WordsExc
import HandS.Walk
import KE.GoesEnum
import HandS.Strs
import HandS.EndBits
import HandS.Defaults
import HandS.Wide
import HandS.TupAny
import HandS.Style
import HandS.IsInst
import HandS.Deep
import HandS.Conv
import HandS.SortInts
import HandS.More
import HandS.Zip
import HandS.ExcOwn
import HandS.DictComp
import PyProof.CollectIter
import PyProof.ReprRoads
import HandS.RaiseMore
import PyProof.StrLawsRepr
import PyProof.Rows.RegStrFacts
import KE.KDictZip
import HandS.Finally
import HandS.DictEq
import HandS.OwnEq
import KE.KEqNest
import HandS.Codes
import HandS.ListItems
import HandS.Flow
import PySem.Challenge.RW_goersay_k31_least_slips_that_do_alike
set_option Elab.async false
set_option linter.all false
set_option maxRecDepth 100000
set_option maxHeartbeats 4000000
/-! enumerate of a tuple -/
namespace GE
open PySem
theorem meets_enum1 {v : Value} {o : Obj} {H : Heap → Prop} (B : Begins v o H) :
    Meets (Builtin.«enumerate.__new__» ⟨[.type "enumerate", v], []⟩) (fun _ R s => H s.heap ∧
      R (.ok (.ret (.ref (s.heap.push o).objs.size))) { s with heap := (s.heap.push o).push { cls := .type "enumerate", data := .fields #[.none, .bool false, .ref s.heap.objs.size, rawInt 0, .none, .none] } }) :=
  .of_wp fun prog w A R s h => by
    obtain ⟨hp, g, d, tk, os⟩ := s; obtain ⟨h1, h⟩ := h
    have hsub := sub_enumerate
    have q1 : ∀ {A' : Around} {E : Value → Shared → Prop} {Q : Value → Shared → Prop}, Q (.ref hp.objs.size) ⟨hp.push o, g, d, tk, os⟩ → wpAny (model prog w) A' (pyIter v) Q E ⟨hp, g, d, tk, os⟩ :=
      fun q => B.iter prog w _ _ ⟨hp, g, d, tk, os⟩ _ h1 q
    wp_walk using q1
    refine wpAny_stack_any fun st => wpAny_pure ?_
    split
    · rename_i c _ _ _ _ _
      cases (c == Value.type "enumerate")
      · wp_walk using q1
        exact ⟨_, rfl, h⟩
      · wp_walk using q1
        exact ⟨_, rfl, h⟩
    · wp_walk using q1
      exact ⟨_, rfl, h⟩
section
variable {prog : Program} {w : World} {A : Around} {E : Value → Shared → Prop} {s : Shared}
theorem enum_begins1 {v : Value} {o : Obj} {H : Heap → Prop} {Q : Value → Shared → Prop} (B : Begins v o H) (h1 : H s.heap)
    (h : ∀ h', IsEnum h' (s.heap.objs.size + 1) s.heap.objs.size 0 .none → h'.get? s.heap.objs.size = some o → h'.objs.size = s.heap.objs.size + 2 →
      (∀ b o, s.heap.get? b = some o → h'.get? b = some o) → Q (.ref (s.heap.objs.size + 1)) { s with heap := h' }) :
    wpAny (model prog w) A (call (.type "enumerate") [v]) Q E s := by
  refine callType_new F.called_enumerate (by decide) (F.typeCall_enumerate_1 _) (F.newCall_enumerate_1 _) (fun obj => F.args_object_init_2 obj _) F.entry_enumerate_new
    (meets_enum1 B) ⟨h1, ?_⟩
  have hz : (s.heap.push o).objs.size = s.heap.objs.size + 1 := Heap.size_push ..
  show _ ∧ _
  rw [hz]
  have he : IsEnum ((s.heap.push o).push { cls := .type "enumerate", data := .fields #[.none, .bool false, .ref s.heap.objs.size, rawInt 0, .none, .none] }) (s.heap.objs.size + 1) s.heap.objs.size 0 .none := by
    have := Heap.get?_push_size (s.heap.push o) (o := { cls := .type "enumerate", data := .fields #[.none, .bool false, .ref s.heap.objs.size, rawInt 0, .none, .none] }) rfl
    rw [hz] at this; exact this
  refine ⟨⟨_, he, rfl⟩, h _ he (Heap.get?_push_of_some _ (Heap.get?_push_size _ B.free)) (by rw [Heap.size_push, hz]) fun b o x => Heap.get?_push_of_some _ (Heap.get?_push_of_some _ x)⟩
end
open L2 PyProof.Rows
/-- the tuple at a, each item in a new pair -/
def IteT (K : PySem.W.Frag) (a : Addr) : It :=
  ⟨fun i H => ∃ (xs : List V) (x : V), SqT K H a xs ∧ xs[i]? = some x, fun i H v H' => ∃ T x, v = .ref T ∧ H T = none ∧ H' = upd H T (.tup [.int (i : Nat), x]) ∧ ∀ xs, SqT K H a xs → xs[i]? = some x, fun i H => ∃ xs : List V, SqT K H a xs ∧ xs.length ≤ i⟩
theorem turn_enumT {P : Program} {w : World} {K : PySem.W.Frag} {elts : List Expr} {kk : Nat} {tpos : Pos} (a e it : Addr) :
    Turn P w K (.Tuple elts kk tpos) (IteT K a) [e, it] e (fun i h => (∃ old, IsEnum h e it ((i : Nat) : Int) old) ∧ h.IsTupleIter it a i ∧ e ≠ it ∧ a ≠ it ∧ a ≠ e) where
  mem := by simp
  obj := fun i h st b hb => by
    obtain ⟨⟨old, he⟩, ⟨o, ho, hc, hd⟩, _⟩ := st
    have e' : b = e ∨ b = it := by simpa using hb
    rcases e' with z | z
    · rw [z]; exact ⟨_, he, fun v q => nomatch q⟩
    · rw [z]; exact ⟨o, ho, fun v q => by rw [hd] at q; cases q⟩
  keep := fun i h h' st k => let ⟨⟨old, he⟩, hi, hne⟩ := st; ⟨⟨old, k e (by simp) _ he⟩, hi.at fun o q => k it (by simp) o q, hne⟩
  item := by
    intro X hP hw hK hc i pins s σ H E I hf st hg
    subst hP hw hK
    obtain ⟨⟨old, he⟩, hit, hne, hai, hae⟩ := st
    obtain ⟨xs, x, hq, hx⟩ := hg
    obtain ⟨its, rv, p, hz⟩ := I.tuple hq
    obtain ⟨u, hu, ru⟩ := rv.get hx
    have hel : e < s.heap.objs.size := Heap.lt_size he
    have hil : it < s.heap.objs.size := by obtain ⟨_, q, _⟩ := hit; exact Heap.lt_size q
    have hi : i < its.toArray.size := by
      have := (List.getElem?_eq_some_iff.mp hu).1
      simpa using this
    refine wpAny_pyNext_enum_itemD (Draws.tuple (A := X.A.in1) (show X.A.in1.handled = none from I.ok.hd hc) it a hai its.toArray) he ⟨hit, p⟩ hi hne (by simp; exact ⟨hne, Ne.symm hae⟩) fun u' h' tk hu' ho st' hT hsz hk => ?_
    have : u' = u := by
      have := hu'.symm.trans (show its.toArray[i]? = some u by simpa using hu)
      exact Option.some.inj this
    subst this
    refine ⟨_, rfl, wpAny_letOwnedTupleGo_enum (s := { s with heap := h', toks := tk + 1 }) ho fun h'' he' sb => ?_⟩
    have hT2 : h''.get? s.heap.objs.size = some { cls := .type "tuple", data := .seq #[.int i tk, u'] } := (sb.2 _ (Nat.ne_of_gt hel)).trans hT
    have new : ObjOk X.prog X.w (upd H s.heap.objs.size (.tup [.int (i : Nat), x])) h'' s.heap.objs.size (.tup [.int (i : Nat), x]) :=
      ⟨by show 2 ≤ sizeLine; decide, [.int i tk, u'], .cons ⟨_, rfl⟩ (.cons ru .nil), ⟨_, hT2, rfl, _, rfl⟩⟩
    have I1 : Inv X pins σ (upd H s.heap.objs.size (.tup [.int (i : Nat), x])) { s with heap := h'', toks := tk + 1 } :=
      I.turnedNew (ch := [e, it]) (fun b ob hb q => (sb.2 b (fun z => hb (by simp [z]))).trans (hk b ob (fun z => hb (by simp [z])) (fun z => hb (by simp [z])) q)) hf (Nat.le_refl _) new
    refine ⟨.ref s.heap.objs.size, _, I1, rfl, ⟨_, x, rfl, I.hok.fresh (Nat.le_refl _), rfl, fun ys hy => by rw [I.tuple_inj hy hq]; exact hx⟩, ⟨⟨u', ?_⟩, st'.1.at fun o q => (sb.2 it (Ne.symm hne)).trans q, hne, hai, hae⟩, fun b hb => ?_⟩
    · have e1 : ((i + 1 : Nat) : Int) = (i : Int) + 1 := by omega
      rw [e1]; exact he'
    · have hb' : b < s.heap.objs.size := by
        have e' : b = e ∨ b = it := by simpa using hb
        rcases e' with z | z
        · rw [z]; exact hel
        · rw [z]; exact hil
      rw [upd_ne (Nat.ne_of_lt hb')]
      exact (hf b hb).1
  done := by
    intro X hP hw hK hc i pins s σ H E I hf st hg
    subst hP hw hK
    obtain ⟨⟨old, he⟩, hit, hne, hai, hae⟩ := st
    obtain ⟨xs, hq, hx⟩ := hg
    obtain ⟨its, rv, p, hz⟩ := I.tuple hq
    obtain ⟨f0, f1, f2, f3, f4, f5⟩ := hf it (by simp)
    have hl := rv.length
    unfold pyNext
    refine wpAny_bind (wpAny_attempt (wpAny_callSpecial?_slot (name := Str.ofString "__next__") (show s.TypeIs (.ref e) "enumerate" from ⟨_, he, rfl⟩) F.slot_enumerate_next
      (wpAny_call_entry F.slot_enumerate_next ⟨_, he, rfl⟩ F.entry_enumerate_next ?_ (F.args_enumerate_next_1 _))))
    show wpAny _ _ (field (.ref e) 2 >>= _) _ _ _
    refine wpAny_bind (wpAny_field he rfl (x := .ref it) rfl ?_)
    refine wpAny_bind (wpAny_nextOf_tuple_end (I.ok.hd hc) hit p (by simp; omega) fun h' x he' hx' => ?_)
    obtain ⟨o, ho, hc'⟩ := hx'
    refine wpAny_bind (wpAny_isInstance (T := "StopIteration") (b := true) ⟨o, ho, hc'⟩ isSubtype_stop ?_)
    exact wpAny_pure ⟨rfl, I.turned (t' := s.toks) (fun b o hb q => he' b o hb q) f0 f1 f3 f4 f5⟩
  self := fun A i s Q E st h => let ⟨⟨_, he⟩, _⟩ := st; wpAny_pyIter_enum he h
def iEnumT (K : PySem.W.Frag) (ta : TA) : TI := fun σ H R => ta σ H fun vs H1 => ∃ a xs, vs = [.ref a] ∧ SqT K H1 a xs ∧ R (IteT K a) H1
theorem pi_enumT {X : Cx} {e : Expr} {ta : TA} {p pos tpos : Pos} {elts : List Expr} {kk : Nat} (hg : Gl X "enumerate") (hm : X.mg "enumerate" = none) (ha : PA X [e] ta) (hs : starEach [e] X.env = [(false, eval e X.env)] := by rfl) :
    PI X (.Tuple elts kk tpos) (.Call (.Name "enumerate" p) [e] [] pos) (iEnumT X.K ta) := by
  refine ⟨fun pins s σ H R I h => ?_⟩
  refine Call_ (ld_blt I hg hm boot_enumerate (PyProof.Rows.callWith_type1 (thn (ha.run pos pins s σ H _ I h) fun us s1 ⟨vs, H1, I1, r1, q1⟩ => ?_) hs rfl))
  obtain ⟨a, xs, ex, hq, q⟩ := q1
  subst ex
  cases r1 with
  | cons r rr =>
    cases rr
    cases r
    obtain ⟨its, rv, p', hz⟩ := I1.tuple hq
    refine enum_begins1 (begins_tuple a its.toArray) p' fun h' he hit hsz hk => wpAny_pyIter_enum he ?_
    have I2 : Inv X pins σ H1 { s1 with heap := h' } := I1.kept (t' := s1.toks) hk
    have hal : a < s1.heap.objs.size := by obtain ⟨o, ho, _⟩ := p'; exact Heap.lt_size ho
    refine ⟨s1.heap.objs.size + 1, [s1.heap.objs.size + 1, s1.heap.objs.size], _, _, H1, rfl, I2, turn_enumT a (s1.heap.objs.size + 1) s1.heap.objs.size, ⟨⟨.none, he⟩, ⟨_, hit, rfl, rfl⟩, Nat.succ_ne_self _, Nat.ne_of_lt hal, Nat.ne_of_lt (Nat.lt_succ_of_lt hal)⟩, fun b hb => ?_, q⟩
    have e' : b = s1.heap.objs.size + 1 ∨ b = s1.heap.objs.size := by simpa using hb
    have hle : s1.heap.objs.size ≤ b := by
      rcases e' with z | z
      · rw [z]; exact Nat.le_add_right _ _
      · rw [z]; exact Nat.le_refl _
    exact I1.fpOk hle (I1.hok.fresh hle)
variable {K : PySem.W.Frag} {a : Addr} {xs : List V}
theorem walk_enumT : Walk (IteT K a) xs.length (fun H => SqT K H a xs) (YPair (fun i => some (.int (i : Nat))) (fun i => xs[i]?)) := by
  refine ⟨fun i _ hi q => ⟨xs, xs[i], q, by simp [hi]⟩, fun _ q => ⟨xs, q, Nat.le_refl _⟩, fun i H v H' _ q y => ?_⟩
  obtain ⟨T, x, h1, h2, h3, h4⟩ := y
  exact ⟨T, .int (i : Nat), x, h1, h2, h3, rfl, h4 xs q⟩
end GE
set_option maxRecDepth 100000
set_option maxHeartbeats 4000000
/-! how many unlike texts -/
namespace GS
open PySem
def dd : List Str → List Str → List Str
  | acc, [] => acc
  | acc, x :: r => dd (if x ∈ acc then acc else acc ++ [x]) r
def cnt (l : List Str) : Nat := (dd [] l).length
theorem dd_app : ∀ (l : List Str) (acc : List Str) (k : Str), dd acc (l ++ [k]) = if k ∈ dd acc l then dd acc l else dd acc l ++ [k]
  | [], acc, k => by
    by_cases h : k ∈ acc <;> simp [dd, h]
  | x :: r, acc, k => by rw [List.cons_append, dd, dd]; exact dd_app r _ k
theorem dd_mem : ∀ (l : List Str) (acc : List Str) (k : Str), k ∈ dd acc l ↔ k ∈ acc ∨ k ∈ l
  | [], acc, k => by simp [dd]
  | x :: r, acc, k => by
    rw [dd, dd_mem r, List.mem_cons]
    split
    · rename_i h
      constructor
      · rintro (q | q)
        · exact .inl q
        · exact .inr (.inr q)
      · rintro (q | q | q)
        · exact .inl q
        · subst q; exact .inl h
        · exact .inr q
    · rw [List.mem_append, List.mem_singleton, or_assoc]
theorem cnt_app (l : List Str) (k : Str) : cnt (l ++ [k]) = if k ∈ l then cnt l else cnt l + 1 := by
  unfold cnt
  rw [dd_app]
  have e : k ∈ dd [] l ↔ k ∈ l := by rw [dd_mem]; simp
  by_cases h : k ∈ l
  · rw [if_pos (e.mpr h), if_pos h]
  · rw [if_neg (fun q => h (e.mp q)), if_neg h, List.length_append]; rfl
theorem cnt_le (l : List Str) : cnt l ≤ l.length := by
  have : ∀ (l acc : List Str), (dd acc l).length ≤ acc.length + l.length := by
    intro l
    induction l with
    | nil => intro acc; exact Nat.le_refl _
    | cons x r ih =>
      intro acc
      rw [dd, List.length_cons]
      have := ih (if x ∈ acc then acc else acc ++ [x])
      split at this
      · rename_i h; rw [if_pos h]; omega
      · rename_i h; rw [if_neg h]; rw [List.length_append] at this; simp at this; omega
  have h := this l []
  unfold cnt
  simpa using h
theorem dd_nodup : ∀ (l acc : List Str), (acc ++ l).Nodup → dd acc l = acc ++ l
  | [], acc, _ => by simp [dd]
  | x :: r, acc, h => by
    rw [dd, if_neg, dd_nodup r (acc ++ [x]) (by simpa using h)]; · simp
    intro q
    exact (List.nodup_append.mp h).2.2 x q x List.mem_cons_self rfl
theorem cnt_nodup {l : List Str} (h : l.Nodup) : cnt l = l.length := by
  unfold cnt; rw [dd_nodup l [] (by simpa using h)]; rfl
theorem dd_lt : ∀ (l acc : List Str), acc.Nodup → ¬ (acc ++ l).Nodup → (dd acc l).length < acc.length + l.length
  | [], acc, h, n => (n (by simpa using h)).elim
  | x :: r, acc, h, n => by
    rw [dd, List.length_cons]
    by_cases hx : x ∈ acc
    · rw [if_pos hx]
      have : ∀ (l acc : List Str), (dd acc l).length ≤ acc.length + l.length := by
        intro l
        induction l with
        | nil => intro acc; exact Nat.le_refl _
        | cons y r ih =>
          intro acc
          rw [dd, List.length_cons]
          by_cases h : y ∈ acc
          · rw [if_pos h]; have := ih acc; omega
          · rw [if_neg h]; have := ih (acc ++ [y]); rw [List.length_append] at this; simp at this; omega
      have := this r acc
      omega
    · rw [if_neg hx]
      have h2 : (acc ++ [x]).Nodup := by
        rw [List.nodup_append]
        exact ⟨h, by simp, fun a ha b hb e => hx (by rw [List.mem_singleton] at hb; rw [← hb, ← e]; exact ha)⟩
      have := dd_lt r (acc ++ [x]) h2 (by simpa using n)
      rw [List.length_append] at this
      simp at this
      omega
theorem cnt_lt {l : List Str} (h : ¬ l.Nodup) : cnt l < l.length := by
  have := dd_lt l [] List.nodup_nil (by simpa using h)
  unfold cnt
  simpa using this
section
open PyProof.Rows
variable {P : Program} {w : World} {A : Around} {R : Result → Shared → Prop} {J : Addr} {fp wr : List Addr} {G : Array GenState → Array GenState → Prop} {n : Nat} {Pv : Nat → Value → Prop} {St : Nat → Shared → Prop}
/-- the texts are laid into the set one by one -/
theorem fill (Wk : WalksS P w A.in1 J fp wr G n Pv St) (D : Addr) (nD : D ∉ fp) (xs : List Str) (len : xs.length = n) (few : n + 1 < scanBound)
    (item : ∀ i v, Pv i v → ∃ t, v = .str (xs.getD i Str.empty) t) : ∀ (k i : Nat) (st : Shared), n - i = k → i ≤ n → St i st →
      st.heap.SetOf (PySem.strKind P w) D (fun y => decide (y ∈ xs.take i)) (cnt (xs.take i)) →
      (∀ st', Moved (D :: wr) G st st' → st'.heap.SetOf (PySem.strKind P w) D (fun y => decide (y ∈ xs)) (cnt xs) → R (.ok (.ret .none)) st') →
      codeAny (model P w) A (.builtin "set.update.loop" ⟨[.ref D, .ref J], []⟩) R st := by
  have nw : D ∉ wr := fun q => nD (Wk.sub _ q)
  have sb : ∀ b ∈ wr, b ∈ D :: wr := fun b q => List.mem_cons_of_mem _ q
  intro k
  induction k with
  | zero =>
    intro i st hk hi h1 h2 h3
    have e : i = n := by omega
    subst e
    refine codeAny_builtin F.entry_set_update_loop ?_
    rw [Around.under_plainId F.plain_set_update_loop _]
    show wpAny _ A.in1 (pyNext (.ref J) >>= _) _ _ st
    refine wpAny_bind (Wk.done st _ _ h1 fun st' mv => ?_)
    show wpAny _ A.in1 (ret Value.none) _ _ st'
    refine wpAny_pure (h3 st' (mv.mono sb) ?_)
    rw [List.take_of_length_le (by omega)] at h2
    obtain ⟨o, es, ep, t, ho, rest⟩ := h2
    exact ⟨o, es, ep, t, mv.heap D _ nw ho, rest⟩
  | succ k ih =>
    intro i st hk hi h1 h2 h3
    have lt : i < n := by omega
    refine codeAny_builtin F.entry_set_update_loop ?_
    rw [Around.under_plainId F.plain_set_update_loop _]
    show wpAny _ A.in1 (pyNext (.ref J) >>= _) _ _ st
    refine wpAny_bind (Wk.item i st _ _ lt h1 fun v st' hv h1' mv => ?_)
    obtain ⟨t, rfl⟩ := item i v hv
    have h2' : st'.heap.SetOf (PySem.strKind P w) D (fun y => decide (y ∈ xs.take i)) (cnt (xs.take i)) := by
      obtain ⟨o, es, ep, tb, ho, rest⟩ := h2
      exact ⟨o, es, ep, tb, mv.heap D _ nw ho, rest⟩
    show wpAny _ A.in1 (holding [Value.str (xs.getD i Str.empty) t] (setAdd D (.str (xs.getD i Str.empty) t)) >>= _) _ _ st'
    refine wpAny_bind (wpAny_holding ?_)
    unfold setAdd
    refine wpAny_holding (wpAny_bind ((PySem.strKind P w).pyHash (k := xs.getD i Str.empty) (strKind_is _ _ _ _) ?_))
    have room : cnt (xs.take i) + 1 < scanBound := by
      have := cnt_le (xs.take i)
      rw [List.length_take] at this
      omega
    refine wpAny_setAddHashed_of (knd := PySem.strKind P w) (s := { st' with toks := st'.toks + 1 }) (strKind_is _ _ _ _) rfl h2' room fun h' same new => ?_
    have tk : xs.take (i + 1) = xs.take i ++ [xs.getD i Str.empty] := by
      rw [List.take_succ_eq_append_getElem (by omega)]
      congr 2
      rw [List.getD_eq_getElem?_getD, List.getElem?_eq_getElem (by omega)]; rfl
    have new' : h'.SetOf (PySem.strKind P w) D (fun y => decide (y ∈ xs.take (i + 1))) (cnt (xs.take (i + 1))) := by
      rw [tk, cnt_app]
      refine SetOf_congr new (fun y => ?_) ?_
      · exact Bool.eq_iff_iff.mpr (by simp)
      · by_cases q : xs.getD i Str.empty ∈ xs.take i
        · simp only [q, decide_true, if_true]
        · simp only [q, decide_false, if_false]; rfl
    refine wpAny_pure ⟨plainId_quiet F.plain_set_update_loop _, ih (i + 1) _ (by omega) lt (Wk.frame _ st' _ _ h1' (Nat.le_succ _) fun b hb o q => ?_) new' fun st2 mv2 f2 => ?_⟩
    · rw [same.2 b (fun q : b = D => nD (q ▸ hb))]; exact q
    · refine h3 st2 (Moved.trans Wk.gtrans ((mv.mono sb).then_heap (Nat.le_succ _) fun b o hb q => ?_) mv2) f2
      rw [same.2 b (fun q : b = D => hb (by rw [q]; exact List.mem_cons_self))]; exact q
end
section
open PyProof.Rows
variable {P : Program} {w : World} {A : Around} {E : Value → Shared → Prop} {s : Shared}
theorem set_List {l : Addr} {us : Array Value} {xs : List Str} {Q : Value → Shared → Prop} (calm : A.handled = none) (hl : s.heap.IsList l us) (hi : StrsAre us.toList xs) (few : xs.length + 1 < scanBound)
    (h : ∀ (h' : Heap) (tk : Nat), h'.SetOf (PySem.strKind P w) s.heap.objs.size (fun y => decide (y ∈ xs)) (cnt xs) → (∀ b o, b < s.heap.objs.size → s.heap.get? b = some o → h'.get? b = some o) → Q (.ref s.heap.objs.size) { s with heap := h', toks := tk }) :
    wpAny (model P w) A (call (.type "set") [.ref l]) Q E s := by
  obtain ⟨c, tl, hmro⟩ := F.called_set.mro
  have made := F.called_set.made
  have sub := F.called_set.sub
  refine wpAny_call (codeAny_of_tree ?_)
  show wpAny _ _ (callAny (.type "set") _) _ _ _
  refine wpAny_pure ⟨Code.quiet_builtin _ (by decide +kernel), codeAny_builtin F.entry_type_call ?_⟩
  rw [Around.under_plain (weight_type_call_type "set" [.ref l] []) rfl]
  have c1 := F.called_set.notType
  have c2 := F.called_set.canCreate
  have c3 := F.typeCall_set_1 (.ref l)
  repeat (any_goals (first | assumption | wp_step))
  refine codeAny_mono (code_set_new_1 (.ref l) (E := E) (Q₁ := fun ob s₁ => ∃ ld : Bool, ob = .ref s.heap.objs.size ∧ s₁ = { s with heap := s.heap.push { cls := .type "set", dict := none, data := .set #[] 0 (.fresh 0 0 ld) } }) fun ld => ⟨ld, rfl, rfl⟩) fun r s₁ hr => ?_
  cases r with
  | error e => exact hr
  | ok fl =>
    cases fl with
    | ret ob =>
      obtain ⟨ld, rfl, rfl⟩ := hr
      have at0 : (s.heap.push { cls := .type "set", dict := none, data := .set #[] 0 (.fresh 0 0 ld) }).get? s.heap.objs.size = some { cls := .type "set", dict := none, data := .set #[] 0 (.fresh 0 0 ld) } := Heap.get?_push_size _ rfl
      have ty : Shared.TypeIs { s with heap := s.heap.push { cls := .type "set", dict := none, data := .set #[] 0 (.fresh 0 0 ld) } } (.ref s.heap.objs.size) "set" := ⟨_, at0, rfl⟩
      have i1 := F.called_set.init.lookup
      have i2 := F.called_set.init.bind (.ref s.heap.objs.size)
      repeat (any_goals (first | assumption | wp_step))
      refine codeAny_mono (codeAny_call_builtin (R := wants (fun r s₂ => r = .none ∧ ∃ h' tk, s₂ = { s with heap := h', toks := tk } ∧
          h'.SetOf (PySem.strKind P w) s.heap.objs.size (fun y => decide (y ∈ xs)) (cnt xs) ∧ (∀ b o, b < s.heap.objs.size → s.heap.get? b = some o → h'.get? b = some o)) E) F.called_set.init.plain F.entry_set_init (check_set_init_1 ty ?_)) fun r2 s2 hr2 => ?_
      · obtain ⟨⟨ocls, odict, odata, oslots⟩, hol, hcl, nl, hdl⟩ := hl
        simp only at hcl hdl
        subst hcl hdl
        have hol' : (s.heap.push { cls := .type "set", dict := none, data := .set #[] 0 (.fresh 0 0 ld) }).get? l = some { cls := .type "list", dict := odict, data := .seq us nl, slots := oslots } := Heap.get?_push_of_some _ hol
        have t1 := F.sub_list_set
        have t2 := F.sub_list_frozenset
        have t3 : (Value.type "list" == Value.type "dict") = false := by decide
        have hl1 : (s.heap.push { cls := .type "set", dict := none, data := .set #[] 0 (.fresh 0 0 ld) }).IsList l us := ⟨_, hol', rfl, nl, rfl⟩
        unfold Builtin.«set.__init__» noKeywords Builtin.Frozenset.updateFrom
        generalize hPI : pyIter = PI
        wp_walk
        subst hPI
        refine wpAny_pyIter_list hl1 (wpAny_bind (wpAny_runValue ?_))
        have ll : l < s.heap.objs.size := Heap.lt_size hol
        have n1 : l ≠ (s.heap.push { cls := .type "set", dict := none, data := .set #[] 0 (.fresh 0 0 ld) }).objs.size := by rw [Heap.size_push]; exact Nat.ne_of_lt (Nat.lt_succ_of_lt ll)
        have n2 : s.heap.objs.size ∉ [(s.heap.push { cls := .type "set", dict := none, data := .set #[] 0 (.fresh 0 0 ld) }).objs.size, l] := by
          rw [Heap.size_push]
          simp only [List.mem_cons, List.mem_singleton, List.not_mem_nil, or_false, not_or]
          exact ⟨Nat.ne_of_lt (Nat.lt_succ_self _), Nat.ne_of_gt ll⟩
        have sz : xs.length = us.size := by rw [← StrsAre.len_eq hi, Array.length_toList]
        refine fill ((Walks.list (show A.in1.in1.in1.handled = none by simp [calm]) _ l n1 us).toS) s.heap.objs.size n2 xs sz (by rw [← sz]; exact few) (fun i v hv => SS.strs_at hi i v (by rw [Array.getElem?_toList]; exact hv)) (us.size - 0) 0 _ (by omega) (Nat.zero_le _)
          ⟨⟨_, Heap.get?_push_size _ rfl, rfl, rfl⟩, (hl1.push _)⟩ ?f0 ?f1
        case f0 => exact SetOf_congr ((setObjOf_fresh (knd := PySem.strKind P w) ld).setOf (Heap.get?_push_of_some _ at0) (by unfold scanBound; omega)) (fun _ => rfl) rfl
        case f1 =>
          rintro ⟨h', g', d', tk', os'⟩ mv fin
          cases (show g' = s.gens from mv.gens)
          cases (show d' = s.drawn from mv.drawn)
          cases (show os' = s.os from mv.os)
          show wpAny _ _ _ _ _ _
          refine wpAny_pure ?_
          show wpAny _ _ (ret Value.none) _ _ _
          refine wpAny_pure ⟨rfl, h', tk', rfl, fin, fun b o hb e => ?_⟩
          refine mv.heap b o ?_ (Heap.get?_push_of_some _ (Heap.get?_push_of_some _ e))
          rw [Heap.size_push]
          simp only [List.mem_cons, List.mem_singleton, List.not_mem_nil, or_false, not_or]
          exact ⟨Nat.ne_of_lt hb, Nat.ne_of_lt (Nat.lt_succ_of_lt hb)⟩
      · cases r2 with
        | error e => exact hr2
        | ok fl2 =>
          cases fl2 with
          | ret r =>
            obtain ⟨rfl, h', tk, rfl, fin, kp⟩ := hr2
            repeat (any_goals (first | assumption | wp_step))
            exact h _ _ fin kp
          | _ => exact hr2.elim
    | _ => exact hr.elim
end
section
open PyProof.Rows
variable {P : Program} {w : World} {A : Around} {E : Value → Shared → Prop} {s : Shared}
theorem set_Tuple {l : Addr} {us : Array Value} {xs : List Str} {Q : Value → Shared → Prop} (calm : A.handled = none) (hl : s.heap.IsTuple l us) (hi : StrsAre us.toList xs) (few : xs.length + 1 < scanBound)
    (h : ∀ (h' : Heap) (tk : Nat), h'.SetOf (PySem.strKind P w) s.heap.objs.size (fun y => decide (y ∈ xs)) (cnt xs) → (∀ b o, b < s.heap.objs.size → s.heap.get? b = some o → h'.get? b = some o) → Q (.ref s.heap.objs.size) { s with heap := h', toks := tk }) :
    wpAny (model P w) A (call (.type "set") [.ref l]) Q E s := by
  obtain ⟨c, tl, hmro⟩ := F.called_set.mro
  have made := F.called_set.made
  have sub := F.called_set.sub
  refine wpAny_call (codeAny_of_tree ?_)
  show wpAny _ _ (callAny (.type "set") _) _ _ _
  refine wpAny_pure ⟨Code.quiet_builtin _ (by decide +kernel), codeAny_builtin F.entry_type_call ?_⟩
  rw [Around.under_plain (weight_type_call_type "set" [.ref l] []) rfl]
  have c1 := F.called_set.notType
  have c2 := F.called_set.canCreate
  have c3 := F.typeCall_set_1 (.ref l)
  repeat (any_goals (first | assumption | wp_step))
  refine codeAny_mono (code_set_new_1 (.ref l) (E := E) (Q₁ := fun ob s₁ => ∃ ld : Bool, ob = .ref s.heap.objs.size ∧ s₁ = { s with heap := s.heap.push { cls := .type "set", dict := none, data := .set #[] 0 (.fresh 0 0 ld) } }) fun ld => ⟨ld, rfl, rfl⟩) fun r s₁ hr => ?_
  cases r with
  | error e => exact hr
  | ok fl =>
    cases fl with
    | ret ob =>
      obtain ⟨ld, rfl, rfl⟩ := hr
      have at0 : (s.heap.push { cls := .type "set", dict := none, data := .set #[] 0 (.fresh 0 0 ld) }).get? s.heap.objs.size = some { cls := .type "set", dict := none, data := .set #[] 0 (.fresh 0 0 ld) } := Heap.get?_push_size _ rfl
      have ty : Shared.TypeIs { s with heap := s.heap.push { cls := .type "set", dict := none, data := .set #[] 0 (.fresh 0 0 ld) } } (.ref s.heap.objs.size) "set" := ⟨_, at0, rfl⟩
      have i1 := F.called_set.init.lookup
      have i2 := F.called_set.init.bind (.ref s.heap.objs.size)
      repeat (any_goals (first | assumption | wp_step))
      refine codeAny_mono (codeAny_call_builtin (R := wants (fun r s₂ => r = .none ∧ ∃ h' tk, s₂ = { s with heap := h', toks := tk } ∧
          h'.SetOf (PySem.strKind P w) s.heap.objs.size (fun y => decide (y ∈ xs)) (cnt xs) ∧ (∀ b o, b < s.heap.objs.size → s.heap.get? b = some o → h'.get? b = some o)) E) F.called_set.init.plain F.entry_set_init (check_set_init_1 ty ?_)) fun r2 s2 hr2 => ?_
      · obtain ⟨⟨ocls, odict, odata, oslots⟩, hol, hcl, nl, hdl⟩ := hl
        simp only at hcl hdl
        subst hcl hdl
        have hol' : (s.heap.push { cls := .type "set", dict := none, data := .set #[] 0 (.fresh 0 0 ld) }).get? l = some { cls := .type "tuple", dict := odict, data := .seq us nl, slots := oslots } := Heap.get?_push_of_some _ hol
        have t1 := F.sub_tuple_set
        have t2 := F.sub_tuple_frozenset
        have t3 : (Value.type "tuple" == Value.type "dict") = false := by decide
        have hl1 : (s.heap.push { cls := .type "set", dict := none, data := .set #[] 0 (.fresh 0 0 ld) }).IsTuple l us := ⟨_, hol', rfl, nl, rfl⟩
        unfold Builtin.«set.__init__» noKeywords Builtin.Frozenset.updateFrom
        generalize hPI : pyIter = PI
        wp_walk
        subst hPI
        refine wpAny_pyIter_tuple hl1 (wpAny_bind (wpAny_runValue ?_))
        have ll : l < s.heap.objs.size := Heap.lt_size hol
        have n1 : l ≠ (s.heap.push { cls := .type "set", dict := none, data := .set #[] 0 (.fresh 0 0 ld) }).objs.size := by rw [Heap.size_push]; exact Nat.ne_of_lt (Nat.lt_succ_of_lt ll)
        have n2 : s.heap.objs.size ∉ [(s.heap.push { cls := .type "set", dict := none, data := .set #[] 0 (.fresh 0 0 ld) }).objs.size, l] := by
          rw [Heap.size_push]
          simp only [List.mem_cons, List.mem_singleton, List.not_mem_nil, or_false, not_or]
          exact ⟨Nat.ne_of_lt (Nat.lt_succ_self _), Nat.ne_of_gt ll⟩
        have sz : xs.length = us.size := by rw [← StrsAre.len_eq hi, Array.length_toList]
        refine fill ((Walks.tuple (show A.in1.in1.in1.handled = none by simp [calm]) _ l n1 us).toS) s.heap.objs.size n2 xs sz (by rw [← sz]; exact few) (fun i v hv => SS.strs_at hi i v (by rw [Array.getElem?_toList]; exact hv)) (us.size - 0) 0 _ (by omega) (Nat.zero_le _)
          ⟨⟨_, Heap.get?_push_size _ rfl, rfl, rfl⟩, (hl1.push _)⟩ ?f0 ?f1
        case f0 => exact SetOf_congr ((setObjOf_fresh (knd := PySem.strKind P w) ld).setOf (Heap.get?_push_of_some _ at0) (by unfold scanBound; omega)) (fun _ => rfl) rfl
        case f1 =>
          rintro ⟨h', g', d', tk', os'⟩ mv fin
          cases (show g' = s.gens from mv.gens)
          cases (show d' = s.drawn from mv.drawn)
          cases (show os' = s.os from mv.os)
          show wpAny _ _ _ _ _ _
          refine wpAny_pure ?_
          show wpAny _ _ (ret Value.none) _ _ _
          refine wpAny_pure ⟨rfl, h', tk', rfl, fin, fun b o hb e => ?_⟩
          refine mv.heap b o ?_ (Heap.get?_push_of_some _ (Heap.get?_push_of_some _ e))
          rw [Heap.size_push]
          simp only [List.mem_cons, List.mem_singleton, List.not_mem_nil, or_false, not_or]
          exact ⟨Nat.ne_of_lt hb, Nat.ne_of_lt (Nat.lt_succ_of_lt hb)⟩
      · cases r2 with
        | error e => exact hr2
        | ok fl2 =>
          cases fl2 with
          | ret r =>
            obtain ⟨rfl, h', tk, rfl, fin, kp⟩ := hr2
            repeat (any_goals (first | assumption | wp_step))
            exact h _ _ fin kp
          | _ => exact hr2.elim
    | _ => exact hr.elim
end
open L2 PyProof.Rows
def tCnt (K : PySem.W.Frag) (ta : TE) : TE := fun σ H Q => ta σ H fun x H1 => ∃ l, ∃ xs : List Str, x = .ref l ∧ (SqL K H1 l (xs.map V.str) ∨ SqT K H1 l (xs.map V.str)) ∧ xs.length ≤ 1000 ∧ Q (.int (cnt xs)) H1
theorem pe_cnt {X : Cx} {a : Expr} {ta : TE} {p p2 q pos : Pos} (hc : X.calm = true) (hg : Gl X "len") (hm : X.mg "len" = none) (hg2 : Gl X "set") (hm2 : X.mg "set" = none) (ha : PE X a ta)
    (na : starEach [a] X.env = (false, eval a X.env) :: starEach [] X.env := by rfl) : PE X (.Call (.Name "len" p) [.Call (.Name "set" p2) [a] [] q] [] pos) (tCnt X.K ta) := by
  refine ⟨fun pins s σ H Q I h => ?_⟩
  refine Call_ (ld_blt I hg hm boot_len (callWith_builtin1 (args_cons (Call_ (ld_blt I hg2 hm2 boot_set (callWith_type1 (args_cons (thn (ha.run pins s σ H _ I h) fun v s1 ⟨x, H1, I1, r1, q1⟩ => args_nil ?_) na) na rfl))) rfl) rfl rfl))
  obtain ⟨l, xs, rfl, hq, hb, q1⟩ := q1
  cases r1
  have few : xs.length + 1 < scanBound := by unfold scanBound; omega
  have fin : ∀ (h' : Heap) (tk : Nat), h'.SetOf (PySem.strKind X.prog X.w) s1.heap.objs.size (fun y => decide (y ∈ xs)) (cnt xs) → (∀ b o, b < s1.heap.objs.size → s1.heap.get? b = some o → h'.get? b = some o) →
      wpAny (model X.prog X.w) X.A (spliced (backTo pos (starEach [] X.env))) (fun vs s₂ => wpAny (model X.prog X.w) X.A (call (.builtin "len") (Value.ref s1.heap.objs.size :: vs)) (EP X pins σ Q) X.xe s₂) X.xe { s1 with heap := h', toks := tk } := fun h' tk hS kp => by
    refine args_nil ?_
    obtain ⟨o, es, ep, t, ho, hex, hd, _, _, _, hf, hn⟩ := hS
    have I2 : Inv X pins σ H1 { s1 with heap := h', toks := tk } := I1.kept fun b o e => kp b o (Heap.lt_size e) e
    have := cnt_le xs
    exact call_len_set ho hex hd hf (by rw [hn]; omega) ⟨.int (cnt xs), H1, I2.tok _, ⟨_, by rw [hn]⟩, q1⟩
  rcases hq with hq | hq
  · obtain ⟨its, r, pl, hz⟩ := I1.list hq
    exact set_List (I1.ok.hd hc) pl.isList (by simpa using strsAre_of r) few fin
  · obtain ⟨its, r, pl, hz⟩ := I1.tuple hq
    exact set_Tuple (I1.ok.hd hc) pl (by simpa using strsAre_of r) few fin
end GS
set_option maxRecDepth 100000
set_option maxHeartbeats 4000000
/-! defs that run where no repr is under way: the promise of a call with that known of the surroundings -/
namespace G
open PySem PySem.Spec PyProof.Rows L2
def noGd (A : Around) : Prop := A.guards = some []
/-- as FnOk, in surroundings without guards -/
structure FnG (P : Program) (w : World) (K : PySem.W.Frag) (mg : Str → Option Value) (base : Heap) (cx : CXT) (k : Nat) (f : Addr) (fd : FuncData) (ps : List Str) (sp : Sp) : Prop where
  len : ∀ vs H Q E, sp vs H Q E → vs.length = ps.length
  run : ∀ (A : Around) (outer : List PySem.Env) (s : Shared) (H : Hp) (args : Args) (us : List Value) (vs : List V) (Q : VK) (E : XK), Room k A → noGd A → Env0 P w K mg base A outer s H → BindsTo s fd args (ps.zip us) → Vals vs us → sp vs H Q E →
    codeAny (model P w) A (.call (.ref f) args) (CR cx outer P w H s Q E) s
section
variable {P : Program} {w : World} {K : PySem.W.Frag} {mg : Str → Option Value} {base : Heap} {cx : CXT} {j k : Nat} {f : Addr} {fd : FuncData} {ps : List Str} {sp : Sp}
theorem FnG.mono (F : FnG P w K mg base cx j f fd ps sp) (h : j ≤ k) : FnG P w K mg base cx k f fd ps sp :=
  ⟨F.len, fun A o s H ar us vs Q E r => F.run A o s H ar us vs Q E (r.mono h)⟩
end
section
variable {X : Cx} {cx : CXT} {k n : Nat} {f C : Addr} {fd : FuncData} {ps ks : List Str} {sp : Sp} {E : XK} {x m : Str} {p pos apos : Pos} {e o : Expr} {es : List Expr} {kws : List Keyword} {ta : TE} {t tk : TA}
variable {pins : List (Addr × Obj)} {σ : L2.St} {H : Hp} {s : Shared} {Q : VK} {us ws : List Value} {vs zs : List V} {gg : List Value → List Value → List Value} {gV : List V → List V → List V}
/-- the callee runs: what it returns is what is wanted here -/
theorem FnG.call (F : FnG X.prog X.w X.K X.mg X.base cx k f fd ps sp) (hr : Room k X.A) (gd : noGd X.A) (hx : Passes cx X E) (I : Inv X pins σ H s) {kw : List (Str × Value)} {bs : List Value} (hb : BindsTo s fd ⟨us, kw⟩ (ps.zip bs)) (r : Vals vs bs) (h : sp vs H Q E) :
    wpAny (model X.prog X.w) X.A (PySem.call (.ref f) us kw) (EP X pins σ Q) X.xe s := by
  refine wpAny_call (codeAny_mono (F.run X.A X.stack s H _ bs vs Q E hr gd I.env0 hb r h) ?_)
  rintro (er | fl) s' hq
  · exact hx pins σ H s er s' I hq
  · cases fl <;> first | exact I.after hq | exact False.elim hq
theorem FnG.call0 (F : FnG X.prog X.w X.K X.mg X.base cx k f fd ps sp) (hr : Room k X.A) (gd : noGd X.A) (hx : Passes cx X E) (hb : Binds X.K fd ps []) (I : Inv X pins σ H s) (r : Vals vs us) (h : sp (vs ++ []) H Q E) :
    wpAny (model X.prog X.w) X.A (PySem.call (.ref f) us) (EP X pins σ Q) X.xe s := by
  rw [List.append_nil] at h
  have hl : us.length = ps.length := by rw [← r.length]; exact F.len _ _ _ _ h
  have b := hb s us I.kIn (by rw [List.append_nil]; exact hl)
  rw [List.append_nil] at b
  exact F.call hr gd hx I b r h
theorem ge_call (F : FnG X.prog X.w X.K X.mg X.base cx k f fd ps sp) (hr : Room k X.A) (gd : noGd X.A) (hg : Gl X x) (hm : X.mg x = some (.ref f)) (hk : PySem.W.keepIn X.K (.ref f) = true) (hb : Binds X.K fd ps []) (hx : Passes cx X E)
    (ha : PA X (e :: es) t) (hdb : (x == ("__debug__" : Str)) = false) (s1 : starEach (e :: es) X.env = (false, eval e X.env) :: starEach es X.env) (s2 : (backTo pos (starEach es X.env)).any (·.1) = false) :
    PE X (.Call (.Name x p) (e :: es) [] pos) (tCall sp [] E t) :=
  ⟨fun pins s σ H Q I h => wpAny_Call_Name_kw (ld_glob I hg hm (PySem.W.callWith_K (h₀ := X.base) I.ok.mod.kin hk (thn (ha.run pos pins s σ H _ I h) fun us _ ⟨vs, _, I1, r, q⟩ => ⟨I1.kIn, F.call0 hr gd hx hb I1 r q⟩) s1 s2) hdb)⟩
theorem ge_call0 (F : FnG X.prog X.w X.K X.mg X.base cx k f fd ps sp) (hr : Room k X.A) (gd : noGd X.A) (hg : Gl X x) (hm : X.mg x = some (.ref f)) (hk : PySem.W.keepIn X.K (.ref f) = true) (hb : Binds X.K fd ps []) (hx : Passes cx X E)
    (hdb : (x == ("__debug__" : Str)) = false) : PE X (.Call (.Name x p) [] [] pos) (tCall sp [] E tNil) :=
  ⟨fun pins s σ H Q I h => wpAny_Call_Name_kw (ld_glob I hg hm (PySem.W.callWith_K0 I.kIn hk (F.call0 (us := []) hr gd hx hb I .nil h)) hdb)⟩
theorem ge_callN (F : FnG X.prog X.w X.K X.mg X.base cx k f fd ps sp) (hr : Room k X.A) (gd : noGd X.A) (hg : Gl X x) (hm : X.mg x = some (.ref f)) (hk : PySem.W.keepIn X.K (.ref f) = true) (hb : KBn X.K fd ps n ks gg gV) (hx : Passes cx X E)
    (ha : PA X (e :: es) t) (hkw : PK X kws tk) (k1 : (backToKw pos (keywordEach kws X.env)).all (·.1.isSome) = true) (k2 : (backToKw pos (keywordEach kws X.env)).filterMap (·.1) = ks)
    (hdb : (x == ("__debug__" : Str)) = false) (s1 : starEach (e :: es) X.env = (false, eval e X.env) :: starEach es X.env) (s2 : ((backTo pos (starEach (e :: es) X.env)).any (·.1) || (backToKw pos (keywordEach kws X.env)).any (·.1.isNone)) = false) :
    PE X (.Call (.Name x p) (e :: es) kws pos) (tCallN n ks.length sp gV E t tk) := by
  refine ⟨fun pins s σ H Q I h => wpAny_Call_Name_kw (ld_glob I hg hm (PySem.W.callWith_KW (h₀ := X.base) I.ok.mod.kin hk k1 (thn (ha.run pos pins s σ H _ I h) fun us s3 ⟨vs, H1, I1, r, q⟩ => thn (hkw.run pos pins s3 σ H1 _ I1 q) fun ws s4 ⟨zs, H2, I2, rz, l1, l2, q2⟩ => ⟨I2.kIn, ?_⟩) s2 s1) hdb)⟩
  rw [k2]
  exact F.call hr gd hx I2 (hb.to _ us ws I2.kIn (r.length.symm.trans l1) (rz.length.symm.trans l2)) (hb.rel r rz) q2
theorem ge_callN0 (F : FnG X.prog X.w X.K X.mg X.base cx k f fd ps sp) (hr : Room k X.A) (gd : noGd X.A) (hg : Gl X x) (hm : X.mg x = some (.ref f)) (hk : PySem.W.keepIn X.K (.ref f) = true) (hb : KBn X.K fd ps 0 ks gg gV) (hx : Passes cx X E)
    (hkw : PK X kws tk) (k1 : (backToKw pos (keywordEach kws X.env)).all (·.1.isSome) = true) (k2 : (backToKw pos (keywordEach kws X.env)).filterMap (·.1) = ks) (k3 : (backToKw pos (keywordEach kws X.env)).any (·.1.isNone) = false) (hdb : (x == ("__debug__" : Str)) = false) :
    PE X (.Call (.Name x p) [] kws pos) (tCallN 0 ks.length sp gV E tNil tk) := by
  refine ⟨fun pins s σ H Q I h => wpAny_Call_Name_kw (ld_glob I hg hm (PySem.W.callWith_KW0 (h₀ := X.base) I.ok.mod.kin hk k1 (thn (hkw.run pos pins s σ H _ I h) fun ws s4 ⟨zs, H2, I2, rz, l1, l2, q2⟩ => ⟨I2.kIn, ?_⟩) (by show (false || _) = false; rw [k3]; rfl)) hdb)⟩
  rw [k2]
  exact F.call (vs := gV [] zs) hr gd hx I2 (hb.to _ [] ws I2.kIn rfl (rz.length.symm.trans l2)) (hb.rel .nil rz) q2
/-- the receiver found, its method taken -/
theorem ge_recv {pl : Sem Bool} {args : List Expr} {to : TE} (ho : PE X o to) (c : Cls X.K C) (hm : Meth X.K C m f)
    (ht : eval (.Call (.Attribute o m apos) args kws pos) X.env = (do
      let ov ← eval o X.env
      standAt apos.atName
      let (fn, first) ← holding [ov] (getMethod ov m pl)
      callWith pos fn first (backTo pos (starEach args X.env)) (backToKw pos (keywordEach kws X.env))))
    (I : Inv X pins σ H s) {Pv : VK} (h : to σ H Pv) (hP : ∀ v H1 s1, Inv X pins σ H1 s1 → Pv v H1 → ∃ a dx fs, v = .ref a ∧ H1 a = some (.ins C dx fs) ∧ fs.lookup m = none ∧ wpAny (model X.prog X.w) X.A (callWith pos (.ref f) [.ref a] (backTo pos (starEach args X.env)) (backToKw pos (keywordEach kws X.env))) (EP X pins σ Q) X.xe s1) :
    wpAny (model X.prog X.w) X.A (eval (.Call (.Attribute o m apos) args kws pos) X.env) (EP X pins σ Q) X.xe s := by
  refine PySem.W.methodCall_KW (pl := pl) (thn (ho.run pins s σ H _ I h) fun u s1 ⟨v, H1, I1, rv, q⟩ => ?_) ht
  obtain ⟨a, dx, fs, ev, ea, hl, q2⟩ := hP v H1 s1 I1 q
  subst ev
  obtain rfl : u = Value.ref a := rv
  exact getmeth_ok I1 ea c hm hl q2
theorem ge_meth {pl : Sem Bool} {to : TE} (ho : PE X o to) (c : Cls X.K C) (hm : Meth X.K C m f) (F : FnG X.prog X.w X.K X.mg X.base cx k f fd ps sp) (hr : Room k X.A) (gd : noGd X.A) (hb : Binds X.K fd ps []) (hx : Passes cx X E) (ha : PA X (e :: es) t)
    (s1 : starEach (e :: es) X.env = (false, eval e X.env) :: starEach es X.env) (s2 : (backTo pos (starEach es X.env)).any (·.1) = false)
    (ht : eval (.Call (.Attribute o m apos) (e :: es) [] pos) X.env = (do
      let ov ← eval o X.env
      standAt apos.atName
      let (fn, first) ← holding [ov] (getMethod ov m pl)
      callWith pos fn first (backTo pos (starEach (e :: es) X.env)) (backToKw pos (keywordEach [] X.env)))) :
    PE X (.Call (.Attribute o m apos) (e :: es) [] pos) (tMeth C m sp [] E to t) := by
  refine ⟨fun pins s σ H Q I h => ge_recv (pl := pl) ho c hm ht I h fun v H1 s3 I1 ⟨a, dx, fs, ev, ea, hl, q⟩ => ⟨a, dx, fs, ev, ea, hl, ?_⟩⟩
  subst ev
  exact PySem.W.callWith_K (first := [.ref a]) (h₀ := X.base) I1.ok.mod.kin hm.kp (thn (ha.run pos pins s3 σ H1 _ I1 q) fun us _ ⟨vs, _, I2, r, q2⟩ => ⟨I2.kIn, F.call0 (us := .ref a :: us) (vs := .ref a :: vs) hr gd hx hb I2 (.cons rfl r) q2⟩) s1 s2
theorem ge_meth0 {pl : Sem Bool} {to : TE} (ho : PE X o to) (c : Cls X.K C) (hm : Meth X.K C m f) (F : FnG X.prog X.w X.K X.mg X.base cx k f fd ps sp) (hr : Room k X.A) (gd : noGd X.A) (hb : Binds X.K fd ps []) (hx : Passes cx X E)
    (ht : eval (.Call (.Attribute o m apos) [] [] pos) X.env = (do
      let ov ← eval o X.env
      standAt apos.atName
      let (fn, first) ← holding [ov] (getMethod ov m pl)
      callWith pos fn first (backTo pos (starEach [] X.env)) (backToKw pos (keywordEach [] X.env)))) :
    PE X (.Call (.Attribute o m apos) [] [] pos) (tMeth C m sp [] E to tNil) := by
  refine ⟨fun pins s σ H Q I h => ge_recv (pl := pl) ho c hm ht I h fun v H1 s3 I1 ⟨a, dx, fs, ev, ea, hl, q⟩ => ⟨a, dx, fs, ev, ea, hl, ?_⟩⟩
  subst ev
  exact PySem.W.callWith_K0 (first := [.ref a]) I1.kIn hm.kp (F.call0 (us := [.ref a]) (vs := [.ref a]) hr gd hx hb I1 (.cons rfl .nil) q)
def tMethG (C : Addr) (m : Str) (n l : Nat) (sp : Sp) (gV : List V → List V → List V) (E : XK) (to : TE) (t tk : TA) : TE := fun σ H Q => to σ H fun x H1 => ∃ a dx fs, x = .ref a ∧ H1 a = some (.ins C dx fs) ∧ fs.lookup m = none ∧ t σ H1 fun vs H2 => tk σ H2 fun zs H3 => vs.length = n ∧ zs.length = l ∧ sp (gV (x :: vs) zs) H3 Q E
theorem ge_methN0 {pl : Sem Bool} {to : TE} (ho : PE X o to) (c : Cls X.K C) (hm : Meth X.K C m f) (F : FnG X.prog X.w X.K X.mg X.base cx k f fd ps sp) (hr : Room k X.A) (gd : noGd X.A) (hb : KBn X.K fd ps 1 ks gg gV) (hx : Passes cx X E)
    (hkw : PK X kws tk) (k1 : (backToKw pos (keywordEach kws X.env)).all (·.1.isSome) = true) (k2 : (backToKw pos (keywordEach kws X.env)).filterMap (·.1) = ks) (k3 : (backToKw pos (keywordEach kws X.env)).any (·.1.isNone) = false)
    (ht : eval (.Call (.Attribute o m apos) [] kws pos) X.env = (do
      let ov ← eval o X.env
      standAt apos.atName
      let (fn, first) ← holding [ov] (getMethod ov m pl)
      callWith pos fn first (backTo pos (starEach [] X.env)) (backToKw pos (keywordEach kws X.env)))) :
    PE X (.Call (.Attribute o m apos) [] kws pos) (tMethG C m 0 ks.length sp gV E to tNil tk) := by
  refine ⟨fun pins s σ H Q I h => ge_recv (pl := pl) ho c hm ht I h fun v H1 s3 I1 ⟨a, dx, fs, ev, ea, hl, q⟩ => ⟨a, dx, fs, ev, ea, hl, ?_⟩⟩
  subst ev
  refine PySem.W.callWith_KW0 (first := [.ref a]) (h₀ := X.base) I1.ok.mod.kin hm.kp k1 (thn (hkw.run pos pins s3 σ H1 _ I1 q) fun ws s4 ⟨zs, H2, I2, rz, l1, l2, q2⟩ => ⟨I2.kIn, ?_⟩) (by show (false || _) = false; rw [k3]; rfl)
  rw [k2]
  exact F.call (us := [.ref a]) (vs := gV [.ref a] zs) hr gd hx I2 (hb.to _ [.ref a] ws I2.kIn rfl (rz.length.symm.trans l2)) (hb.rel (.cons rfl .nil) rz) q2
/-! making -/
theorem noGd_make {A : Around} (h : noGd A) (C : Addr) (us : List Value) (kw : List (Str × Value)) : noGd (A.under (.builtin "type.__call__" ⟨.ref C :: us, kw⟩)) := by
  unfold noGd at *
  simp [Around.under, Code.guards, Code.isGuard, guardIds, pushGuards, h]
theorem FnG.make (M : Mk X.K C f) (F : FnG X.prog X.w X.K X.mg X.base cx k f fd ps sp) (hr : Room (k + 1) X.A) (gd : noGd X.A) (hb : Binds X.K fd ps []) (hx : Passes cx X E) (I : Inv X pins σ H s) (r : Vals vs us)
    (h : ∀ x dx, H x = none → H dx = none → dx ≠ x → sp (.ref x :: (vs ++ [])) (upd (upd H dx (.own x)) x (.ins C dx [])) (fun v H2 => v = .non ∧ Q (.ref x) H2) E) :
    wpAny (model X.prog X.w) X.A (PySem.call (.ref C) us) (EP X pins σ Q) X.xe s := by
  have q := h (s.heap.objs.size + 1) s.heap.objs.size (I.hok.fresh (Nat.le_succ _)) (I.hok.fresh (Nat.le_refl _)) (Nat.ne_of_lt (Nat.lt_succ_self _))
  rw [List.append_nil] at q
  have J := Inv.made (C := C) I
  have rr : Vals (V.ref (s.heap.objs.size + 1) :: vs) (Value.ref (s.heap.objs.size + 1) :: us) := .cons rfl r
  have hl : (Value.ref (s.heap.objs.size + 1) :: us).length = ps.length := by rw [← rr.length]; exact F.len _ _ _ _ q
  have b := hb _ (Value.ref (s.heap.objs.size + 1) :: us) J.kIn (by rw [List.append_nil]; exact hl)
  rw [List.append_nil] at b
  refine wpAny_call (make_map (f := f) I.kIn M.makes M.init (beq_iff_eq.mp M.fn) (codeAny_mono (F.run _ X.stack _ _ ⟨Value.ref (s.heap.objs.size + 1) :: us, []⟩ _ _ _ E (hr.make C us []) (noGd_make gd C us []) (J.env0.make C us []) b rr q) ?_))
  rintro (er | fl) s' hq
  · exact hx pins σ _ _ er s' J hq
  · cases fl <;> first | exact False.elim hq | skip
    obtain ⟨v, H', I3, rv, ev, q3⟩ := J.after hq
    subst ev
    exact ⟨rv, .ref (s.heap.objs.size + 1), H', I3, rfl, q3⟩
theorem ge_make (M : Mk X.K C f) (F : FnG X.prog X.w X.K X.mg X.base cx k f fd ps sp) (hr : Room (k + 1) X.A) (gd : noGd X.A) (hg : Gl X x) (hm : X.mg x = some (.ref C)) (hb : Binds X.K fd ps []) (hx : Passes cx X E)
    (ha : PA X (e :: es) t) (hdb : (x == ("__debug__" : Str)) = false) (s1 : starEach (e :: es) X.env = (false, eval e X.env) :: starEach es X.env) (s2 : (backTo pos (starEach es X.env)).any (·.1) = false) :
    PE X (.Call (.Name x p) (e :: es) [] pos) (tMake C sp [] E t) :=
  ⟨fun pins s σ H Q I h => wpAny_Call_Name_kw (ld_glob I hg hm (PySem.W.callWith_K (h₀ := X.base) I.ok.mod.kin M.kp (thn (ha.run pos pins s σ H _ I h) fun us _ ⟨vs, _, I1, r, q⟩ => ⟨I1.kIn, F.make M hr gd hb hx I1 r q⟩) s1 s2) hdb)⟩
theorem ge_make0 (M : Mk X.K C f) (F : FnG X.prog X.w X.K X.mg X.base cx k f fd ps sp) (hr : Room (k + 1) X.A) (gd : noGd X.A) (hg : Gl X x) (hm : X.mg x = some (.ref C)) (hb : Binds X.K fd ps []) (hx : Passes cx X E)
    (hdb : (x == ("__debug__" : Str)) = false) : PE X (.Call (.Name x p) [] [] pos) (tMake C sp [] E tNil) :=
  ⟨fun pins s σ H Q I h => wpAny_Call_Name_kw (ld_glob I hg hm (PySem.W.callWith_K0 I.kIn M.kp (F.make (us := []) M hr gd hb hx I .nil h)) hdb)⟩
end
/-! ### a def by its body -/
section
variable {P : Program} {w : World} {K : PySem.W.Frag} {mg : Str → Option Value} {base : Heap} {k : Nat}
theorem fun_okG {x qual : Str} {st : Stmt} {f : Addr} {fd : FuncData} {N ps : List Str} {sp : Sp} (F : Fun K x qual st f fd) (S : FnScope N ps (defScope st)) (len : ∀ vs H Q E, sp vs H Q E → vs.length = ps.length)
    (body : ∀ (cdv : Value) (A : Around) (outer : List PySem.Env) (s : Shared) (H : Hp) (vs : List V) (Q : VK) (E : XK), Room k (A.deeper (envOfC qual (defScope st) s.heap.objs.size f cdv)) → noGd A → sp vs H Q E →
      ∃ t, PSs (cxOf (L2.CX P w) P w K mg base N qual (defScope st) f cdv A outer s H E) (defBody st) t ∧ t { nx := fun _ H' => Q .non H', rt := Q } (L2.start N vs) H) : FnG P w K mg base (L2.CX P w) (k + 1) f fd ps sp := by
  obtain ⟨oc, od, kV, doc, pm, an, cdv, ct, osl, rfl, lk, hcd⟩ := F.ex
  refine ⟨len, ?_⟩
  intro A outer s H args us vs Q E hr gd e0 hb r hs
  have old : ∀ b o, base.get? b = some o → s.heap.get? b = some o := fun b o e => (e0.bs b o e).1
  have kin : K.In s.heap := e0.mod.kin.keeps old
  have kinds : ∀ y ∈ ps.zip us, (defScope st).names.lookup y.1 = some .local ∨ ((defScope st).names.lookup y.1 = some .cell ∧ ((cellsFrom (s.heap.objs.size + 1) (defScope st).names []).lookup y.1).isSome = true) := by
    rintro ⟨a, b⟩ hy
    exact (S.par a (List.of_mem_zip hy).1).imp id fun q => ⟨q, PySem.W.cellsFrom_some _ _ _ (.inl q)⟩
  refine codeAny_call_function hr.depth (kin _ _ lk) rfl S.co S.gen rfl (PySem.W.codeRec_of kin hcd) (hb _ _ _ _ (wpAny_newFunctionEnv_cells S.kind kinds fun env he s1 x => ?_))
  subst he
  obtain ⟨t, pt, ht⟩ := body cdv A outer s H vs Q E (hr.deeper _) gd hs
  have J : Inv (cxOf (L2.CX P w) P w K mg base N qual (defScope st) f cdv A outer s H E) [] (L2.start N vs) H s1 := inv_start S hr.hd e0 (len _ _ _ _ hs) r x
  refine ⟨(e0.mod.nolimit.keeps old).keeps x.toInCall.keep, codeAny_func (wpAny_mono (pt.run [] s1 _ H _ J ht) ?_ fun _ _ q => q)⟩
  rintro (_ | _ | _ | u) s' hs'
  · obtain ⟨σ', H', I, q⟩ := hs'
    exact ⟨.non, H', I.os, I.bare, I.base, I.hok, rfl, q⟩
  · obtain ⟨_, _, _, q⟩ := hs'
    exact q.elim
  · obtain ⟨_, _, _, q⟩ := hs'
    exact q.elim
  · obtain ⟨v, σ', H', I, rv, q⟩ := hs'
    exact ⟨v, H', I.os, I.bare, I.base, I.hok, rv, q⟩
end
end G
set_option maxRecDepth 100000
set_option maxHeartbeats 4000000
/-! the law's call, and the walk, for such promises -/
namespace G
open PySem PySem.Spec PyProof.Rows L2
section
variable {P : Program} {w : World} {K : PySem.W.Frag} {mg mb : Str → Option Value} {cx : CXT} {k : Nat} {fa a : Addr} {fd : FuncData} {x : Str} {sp : Sp} {s₁ : Shared} {vs : List Value} {ns : List Int}
/-- what is asked of the end -/
def LawEnd (s₁ : Shared) (r : Result) (s' : Shared) : Prop := r = .ok (.ret (.bool true)) ∧ OldK s₁.heap s'.heap ∧ s'.os = s₁.os ∧ AllBare s'.gens
/-- one way to track the script -/
structure Trk (P : Program) (w : World) (K : PySem.W.Frag) (s₁ : Shared) (a : Addr) (ns : List Int) (H : Hp) : Prop where
  only : Only H
  seq : SqL K H a (ns.map V.int)
  hok : HOk P w H s₁.heap
  here : ∀ b, H b ≠ none → b = a
  free : H a ≠ none → K.lookup a = none
theorem law_at {H : Hp} (T : Trk P w K s₁ a ns H) (KX : K.In s₁.heap) (g1 : s₁.heap.Ns mainGlobals mg) (g2 : s₁.heap.Ns builtinsNs mb) (g3 : ∀ x : Str, x ≠ "__name__" → mb x = bootBuiltins x) (lim : s₁.heap.NoLimit) (gens : s₁.gens = #[])
    (ha : s₁.heap.get? a = some { cls := .type "list", data := .seq vs.toArray }) (hr : Room k callerA)
    (F : ∀ b : Heap, K.In b → b.Ns mainGlobals mg → FnG P w K mg b cx k fa fd [x] sp) (hbind : ∀ (s : Shared) (u : Value), BindsTo s fd ⟨[u], []⟩ [(x, u)])
    (hsp : sp [.ref a] H (fun v _ => v = .bl true) fun _ _ _ => False) (hcx : ∀ H e s', cx [] H s₁ (fun _ _ _ => False) e s' → False) :
    codeAny (model P w) callerA (.call (.ref fa) ⟨[.ref a], []⟩) (LawEnd s₁) s₁ := by
  have isA : ∀ {b : Addr} {u : HO}, H b = some u → b = a := fun {b u} q => T.here b (by rw [q]; exact fun z => by cases z)
  have dictFree : ∀ {b : Addr} {o : Obj} {es : Array DictEntry} {n : Nat}, s₁.heap.get? b = some o → o.data = .dict es n → H b = none := by
    intro b o es n e d
    cases q : H b with
    | none => rfl
    | some u =>
      cases isA q
      rw [ha] at e
      cases e
      have d' : (.seq vs.toArray 0 : Data) = .dict es n := d
      cases d'
  have hid : ∀ {b : Addr} {m : Str → Option Value}, s₁.heap.Ns b m → (hidT s₁.heap H).Ns b m := by
    rintro b m ⟨o, es, n, e, d, r⟩
    exact ⟨o, es, n, hidT_get e (dictFree e d), d, r⟩
  have kin : K.In (hidT s₁.heap H) := by
    intro b o e
    refine hidT_get (KX b o e) ?_
    cases q : H b with
    | none => rfl
    | some u =>
      cases isA q
      rw [T.free (by rw [q]; exact fun z => by cases z)] at e
      cases e
  have lim' : (hidT s₁.heap H).NoLimit := by
    obtain ⟨mc, h1, h2⟩ := lim
    exact ⟨mc, hid h1, h2⟩
  have none0 : ∀ b : Addr, b ∈ frs [] → H b = none := fun b hb => by cases hb
  have E0 : Env0 P w K mg (hidT s₁.heap H) callerA [] s₁ H := ⟨rfl, ⟨kin, hid g1, ⟨mb, hid g2, g3⟩, lim'⟩, fun b o e => of_hidT e, Nat.le_of_eq (hidT_size _ _), trivial, none0, T.hok, .of_eq gens⟩
  refine codeAny_mono ((F _ kin (hid g1)).run callerA [] s₁ H ⟨[.ref a], []⟩ [.ref a] [.ref a] _ _ hr rfl E0 (hbind s₁ (.ref a)) (.cons rfl .nil) hsp) ?_
  rintro (er | fl) s' h
  · exact (hcx H er s' h).elim
  · cases fl <;> first | exact False.elim h | skip
    obtain ⟨v, H', h1, h2, un, hok', rv, hv⟩ := h
    have hv' : v = .bl true := hv
    subst hv'
    cases (show _ = Value.bool true from rv)
    refine ⟨rfl, OldK.of_keep fun b o e => ?_, h1, h2⟩
    cases q : H b with
    | none => exact un.keep b o e q (fun z => by cases z) (by simp)
    | some u =>
      rcases T.only b with z | ⟨ob, xs, z⟩
      · rw [q] at z; cases z
      · obtain ⟨w1, _⟩ := T.hok b _ z
        obtain ⟨w2, _⟩ := hok' b _ (un.frzs b ob _ z)
        rw [e] at w1
        cases w1
        exact w2
theorem law_callG (KX : K.In s₁.heap) (g1 : s₁.heap.Ns mainGlobals mg) (g2 : s₁.heap.Ns builtinsNs mb) (g3 : ∀ x : Str, x ≠ "__name__" → mb x = bootBuiltins x) (lim : s₁.heap.NoLimit) (gens : s₁.gens = #[])
    (ha : s₁.heap.get? a = some { cls := .type "list", data := .seq vs.toArray }) (hi : IntsAre vs ns) (hl : ns.length ≤ sizeLine) (hr : Room k callerA)
    (F : ∀ b : Heap, K.In b → b.Ns mainGlobals mg → FnG P w K mg b cx k fa fd [x] sp) (hbind : ∀ (s : Shared) (u : Value), BindsTo s fd ⟨[u], []⟩ [(x, u)])
    (hsp : ∀ H : Hp, Only H → SqL K H a (ns.map V.int) → sp [.ref a] H (fun v _ => v = .bl true) fun _ _ _ => False) (hcx : ∀ H e s', cx [] H s₁ (fun _ _ _ => False) e s' → False) :
    codeAny (model P w) callerA (.call (.ref fa) ⟨[.ref a], []⟩) (LawEnd s₁) s₁ := by
  have rv := vals_ints hi
  have go : ∀ H, Trk P w K s₁ a ns H → codeAny (model P w) callerA (.call (.ref fa) ⟨[.ref a], []⟩) (LawEnd s₁) s₁ := fun H T => law_at T KX g1 g2 g3 lim gens ha hr F hbind (hsp H T.only T.seq) hcx
  cases hk : K.lookup a with
  | some o =>
    have e := KX a o hk
    rw [ha] at e
    cases e
    refine go (fun _ => none) ⟨fun _ => .inl rfl, .inr ⟨_, vs.toArray, _, hk, rfl, rfl, rfl, ?_, by simpa using rv⟩, ?_, fun b z => (z rfl).elim, fun z => (z rfl).elim⟩
    · rw [List.size_toArray, hi.length]
      exact hl
    · intro b u z
      cases (show (none : Option HO) = some u from z)
  | none =>
    have at1 : ∀ {b : Addr} {u : HO}, (if b = a then some (HO.frz { cls := .type "list", data := .seq vs.toArray } (.lst (ns.map V.int))) else none) = some u → b = a ∧ u = .frz { cls := .type "list", data := .seq vs.toArray } (.lst (ns.map V.int)) := by
      intro b u z
      by_cases hb : b = a
      · rw [if_pos hb] at z
        exact ⟨hb, (Option.some.inj z).symm⟩
      · rw [if_neg hb] at z
        cases z
    refine go (fun b => if b = a then some (.frz { cls := .type "list", data := .seq vs.toArray } (.lst (ns.map V.int))) else none) ⟨fun b => ?_, .inl (.inr ⟨_, if_pos rfl⟩), fun b u z => ?_, fun b z => ?_, fun _ => hk⟩
    · by_cases hb : b = a
      · exact .inr ⟨_, _, if_pos hb⟩
      · exact .inl (if_neg hb)
    · obtain ⟨rfl, rfl⟩ := at1 z
      exact ⟨ha, by rw [List.length_map]; exact hl, vs, _, rv, ha⟩
    · by_cases hb : b = a
      · exact hb
      · exact (z (if_neg hb)).elim
end
theorem walkG {l : PySem.W.OpenLaw} {n k : Nat} {q : Program} {loose : List Str} {XP : (Str → Option Value) → Heap → Prop} {YP : World → Heap → Prop} {d : DefRec} {K : Params → PySem.W.Frag} {cx : World → CXT} {sp : World → Sp} {x : Str}
    (hn : l.most = some n) (hn2 : n ≤ sizeLine) (hdf : d.params.defaults = []) (hr : Room k callerA) (hY : ∀ (w : World) (h : Heap), YP w h → (K w.params).In h)
    (F : ∀ (w : World) (mg : Str → Option Value) (fa : Addr) (h : Heap), (K w.params).In h → h.Ns mainGlobals mg → mg d.name = some (.ref fa) →
      ∃ fd : FuncData, (∀ (s : Shared) (u : Value), BindsTo s fd ⟨[u], []⟩ [(x, u)]) ∧ ∀ base : Heap, (K w.params).In base → base.Ns mainGlobals mg → FnG l.prog w (K w.params) mg base (cx w) k fa fd [x] (sp w))
    (hsp : ∀ (w : World) (H : Hp) (a : Addr) (ns : List Int), ns.length ≤ n → (∀ z ∈ ns, Builtin.Int.intBits z ≤ 1048576) → Only H → SqL (K w.params) H a (ns.map V.int) → sp w [.ref a] H (fun v _ => v = .bl true) fun _ _ _ => False)
    (hcx : ∀ (w : World) (H : Hp) (s : Shared) (e : Value) (s' : Shared), cx w [] H s (fun _ _ _ => False) e s' → False) :
    PySem.W.WalkO q loose XP YP l.row.toRowW d [] (fun f vs => PySem.call f vs) := by
  refine Att.attach_callB hn hdf fun w _ s₁ mg mb fa _ _ _ _ a vs ns G Y _ _ _ hmg hob hin hlen hbits hg => ?_
  obtain ⟨fd, hb, hF⟩ := F w mg fa _ (hY w _ Y) G.T.g hmg
  exact law_callG (hY w _ Y) G.T.g G.T.b G.T.builtins G.T.nolimit hg hob hin (Nat.le_trans hlen hn2) hr hF hb (fun H hO hS => hsp w H a ns hlen hbits hO hS) fun H e s' => hcx w H s₁ e s'
end G
set_option maxRecDepth 100000
set_option maxHeartbeats 4000000
namespace G
open PySem PySem.Spec PyProof.Rows L2

/-! ### data -/
abbrev St := L2.St
inductive D where
  | non | bl (b : Bool) | int (i : Int) | str (s : Str)
  | lst (xs : List D) | tup (xs : List D) | dic (kvs : List (Key × D)) | ins (c : Str) (fs : List (Str × D)) | st (l : Nat) | stc (l : Nat) | scr (ns : List Int)
structure Wd where
  P : Program
  w : World
  K : PySem.W.Frag
  mg : Str → Option Value
  base : Heap
  cl : Str → Option Addr
  sa : Option (Addr × Addr)
  cn : Nat
  me : Option Addr := none
/-- the class called c stands at C; the object that is being made is called @ -/
def ClA (W : Wd) (c : Str) (C a : Addr) : Prop := W.cl c = some C ∧ (c = ("@" : Str) → W.me = some a)
section
variable (W : Wd) (H : Hp)
mutual
def Rep : D → V → Prop
  | .non, v => v = .non
  | .bl b, v => v = .bl b
  | .int i, v => v = .int i
  | .str s, v => v = .str s ∧ PyData.strOk s = true
  | .lst ds, v => ∃ a vs, v = .ref a ∧ H a = some (.lst vs) ∧ RepL ds vs
  | .tup ds, v => ∃ a vs, v = .ref a ∧ SqT W.K H a vs ∧ RepL ds vs
  | .dic kds, v => ∃ a kvs, v = .ref a ∧ Rd H a (.dK kvs) ∧ RepK kds kvs
  | .ins c fds, v => ∃ a C dx fs, v = .ref a ∧ ClA W c C a ∧ H a = some (.ins C dx fs) ∧ RepF fds fs
  | .st l, v => ∃ a c, v = .ref a ∧ W.sa = some (a, c) ∧ W.cn = l
  | .stc l, v => ∃ a c, v = .ref c ∧ W.sa = some (a, c) ∧ W.cn = l
  | .scr ns, v => ∃ a, v = .ref a ∧ SqL W.K H a (ns.map V.int)
def RepL : List D → List V → Prop
  | [], vs => vs = []
  | d :: ds, vs => ∃ v r, vs = v :: r ∧ Rep d v ∧ RepL ds r
def RepK : List (Key × D) → List (Key × V) → Prop
  | [], vs => vs = []
  | (k, d) :: ds, vs => ∃ v r, vs = (k, v) :: r ∧ Rep d v ∧ RepK ds r
def RepF : List (Str × D) → List (Str × V) → Prop
  | [], vs => vs = []
  | (k, d) :: ds, vs => ∃ v r, vs = (k, v) :: r ∧ Rep d v ∧ RepF ds r
end
end

/-! ### heaps -/
def pl : HO → Bool
  | .frz _ _ => false
  | _ => true
def hard : HO → Bool
  | .lst _ => true
  | .ins _ _ _ => true
  | .own _ => true
  | .xd _ => true
  | _ => false
def Ex (H H' : Hp) : Prop := ∀ z, (∀ u, pl u = true → Rd H z u → Rd H' z u) ∧ ∀ o, hard o = true → H z = some o → H' z = some o
def Kp (H H' : Hp) : Prop := ∀ z o, H z = some o → H' z = some o
theorem Kp.refl (H : Hp) : Kp H H := fun _ _ h => h
theorem Kp.trans {H H1 H2 : Hp} (a : Kp H H1) (b : Kp H1 H2) : Kp H H2 := fun z o h => b z o (a z o h)
theorem Kp.rd {H H' : Hp} {z : Addr} {u : HO} (e : Kp H H') (h : Rd H z u) : Rd H' z u := by
  rcases h with h | ⟨o, h⟩
  · exact .inl (e z _ h)
  · exact .inr ⟨o, e z _ h⟩
theorem Kp.ex {H H' : Hp} (e : Kp H H') : Ex H H' := fun z => ⟨fun _ _ h => e.rd h, fun o _ h => e z o h⟩
theorem Ex.refl (H : Hp) : Ex H H := (Kp.refl H).ex
theorem Ex.trans {H H1 H2 : Hp} (a : Ex H H1) (b : Ex H1 H2) : Ex H H2 := fun z => ⟨fun u p h => (b z).1 u p ((a z).1 u p h), fun o p h => (b z).2 o p ((a z).2 o p h)⟩
theorem Ex.l {K : PySem.W.Frag} {H H' : Hp} {a : Addr} {xs : List V} (e : Ex H H') (h : SqL K H a xs) : SqL K H' a xs := by
  rcases h with h | h
  · exact .inl ((e a).1 _ rfl h)
  · exact .inr h
theorem Ex.t {K : PySem.W.Frag} {H H' : Hp} {a : Addr} {xs : List V} (e : Ex H H') (h : SqT K H a xs) : SqT K H' a xs := by
  rcases h with h | h
  · exact .inl ((e a).1 _ rfl h)
  · exact .inr h
theorem Ex.new {H : Hp} {p : Addr} {o : HO} (h : H p = none) : Kp H (upd H p o) := fun a u e => by
  rw [upd_ne (ne_of_none e h)]
  exact e
section
variable {W : Wd} {H H' : Hp}
mutual
theorem Rep.mono (e : Ex H H') : ∀ (d : D) {v : V}, Rep W H d v → Rep W H' d v
  | .non, _, h => by rw [Rep] at h ⊢; exact h
  | .bl _, _, h => by rw [Rep] at h ⊢; exact h
  | .int _, _, h => by rw [Rep] at h ⊢; exact h
  | .str _, _, h => by rw [Rep] at h ⊢; exact h
  | .lst ds, _, h => by
    rw [Rep] at h ⊢
    obtain ⟨a, vs, e1, e2, e3⟩ := h
    exact ⟨a, vs, e1, (e a).2 _ rfl e2, RepL.mono e ds e3⟩
  | .tup ds, _, h => by
    rw [Rep] at h ⊢
    obtain ⟨a, vs, e1, e2, e3⟩ := h
    exact ⟨a, vs, e1, e.t e2, RepL.mono e ds e3⟩
  | .dic ds, _, h => by
    rw [Rep] at h ⊢
    obtain ⟨a, vs, e1, e2, e3⟩ := h
    exact ⟨a, vs, e1, (e a).1 _ rfl e2, RepK.mono e ds e3⟩
  | .ins c ds, _, h => by
    rw [Rep] at h ⊢
    obtain ⟨a, C, dx, fs, e1, e2, e3, e5⟩ := h
    exact ⟨a, C, dx, fs, e1, e2, (e a).2 _ rfl e3, RepF.mono e ds e5⟩
  | .st _, _, h => by rw [Rep] at h ⊢; exact h
  | .stc _, _, h => by rw [Rep] at h ⊢; exact h
  | .scr ns, _, h => by
    rw [Rep] at h ⊢
    obtain ⟨a, e1, e2⟩ := h
    exact ⟨a, e1, e.l e2⟩
theorem RepL.mono (e : Ex H H') : ∀ (ds : List D) {vs : List V}, RepL W H ds vs → RepL W H' ds vs
  | [], _, h => by rw [RepL] at h ⊢; exact h
  | d :: ds, _, h => by
    rw [RepL] at h ⊢
    obtain ⟨v, r, e1, e2, e3⟩ := h
    exact ⟨v, r, e1, Rep.mono e d e2, RepL.mono e ds e3⟩
theorem RepK.mono (e : Ex H H') : ∀ (ds : List (Key × D)) {vs : List (Key × V)}, RepK W H ds vs → RepK W H' ds vs
  | [], _, h => by rw [RepK] at h ⊢; exact h
  | (k, d) :: ds, _, h => by
    rw [RepK] at h ⊢
    obtain ⟨v, r, e1, e2, e3⟩ := h
    exact ⟨v, r, e1, Rep.mono e d e2, RepK.mono e ds e3⟩
theorem RepF.mono (e : Ex H H') : ∀ (ds : List (Str × D)) {vs : List (Str × V)}, RepF W H ds vs → RepF W H' ds vs
  | [], _, h => by rw [RepF] at h ⊢; exact h
  | (k, d) :: ds, _, h => by
    rw [RepF] at h ⊢
    obtain ⟨v, r, e1, e2, e3⟩ := h
    exact ⟨v, r, e1, Rep.mono e d e2, RepF.mono e ds e3⟩
end
theorem RepL.length : ∀ {ds : List D} {vs : List V}, RepL W H ds vs → vs.length = ds.length
  | [], _, h => by rw [RepL] at h; rw [h]; rfl
  | d :: ds, _, h => by
    rw [RepL] at h
    obtain ⟨v, r, e1, e2, e3⟩ := h
    rw [e1, List.length_cons, List.length_cons, RepL.length e3]
theorem RepL.get : ∀ {ds : List D} {vs : List V} {i : Nat} {d : D}, RepL W H ds vs → ds[i]? = some d → ∃ v, vs[i]? = some v ∧ Rep W H d v
  | [], _, _, _, _, e => by simp at e
  | d :: ds, _, 0, _, h, e => by
    rw [RepL] at h
    obtain ⟨v, r, e1, e2, e3⟩ := h
    cases e
    exact ⟨v, by rw [e1]; rfl, e2⟩
  | d :: ds, _, i + 1, x, h, e => by
    rw [RepL] at h
    obtain ⟨v, r, e1, e2, e3⟩ := h
    obtain ⟨u, h1, h2⟩ := RepL.get (i := i) (d := x) e3 (by simpa using e)
    exact ⟨u, by rw [e1]; simpa using h1, h2⟩
theorem RepL.getV : ∀ {ds : List D} {vs : List V} {i : Nat} {v : V}, RepL W H ds vs → vs[i]? = some v → ∃ d, ds[i]? = some d ∧ Rep W H d v := fun {ds vs i v} h e => by
  have hl := h.length
  have hi : i < ds.length := by rw [← hl]; exact (List.getElem?_eq_some_iff.mp e).1
  obtain ⟨u, h1, h2⟩ := h.get (List.getElem?_eq_getElem hi)
  rw [e] at h1
  cases h1
  exact ⟨_, List.getElem?_eq_getElem hi, h2⟩
theorem RepL.append : ∀ {ds es : List D} {vs ws : List V}, RepL W H ds vs → RepL W H es ws → RepL W H (ds ++ es) (vs ++ ws)
  | [], _, _, _, h, q => by rw [RepL] at h; rw [h]; exact q
  | d :: ds, _, _, _, h, q => by
    rw [RepL] at h
    obtain ⟨v, r, e1, e2, e3⟩ := h
    rw [e1, List.cons_append, List.cons_append, RepL]
    exact ⟨v, _, rfl, e2, RepL.append e3 q⟩
theorem RepL.one {d : D} {v : V} (h : Rep W H d v) : RepL W H [d] [v] := by
  rw [RepL]
  exact ⟨v, [], rfl, h, by rw [RepL]⟩
theorem RepL.nil : RepL W H [] [] := by rw [RepL]
theorem RepL.cons {d : D} {ds : List D} {v : V} {vs : List V} (h : Rep W H d v) (t : RepL W H ds vs) : RepL W H (d :: ds) (v :: vs) := by
  rw [RepL]
  exact ⟨v, vs, rfl, h, t⟩
theorem RepL.take : ∀ {ds : List D} {vs : List V} (n : Nat), RepL W H ds vs → RepL W H (ds.take n) (vs.take n)
  | _, _, 0, _ => by simp [RepL]
  | [], _, n + 1, h => by rw [RepL] at h; rw [h]; simp [RepL]
  | d :: ds, _, n + 1, h => by
    rw [RepL] at h
    obtain ⟨v, r, e1, e2, e3⟩ := h
    rw [e1, List.take_succ_cons, List.take_succ_cons]
    exact .cons e2 (RepL.take n e3)
theorem RepL.drop : ∀ {ds : List D} {vs : List V} (n : Nat), RepL W H ds vs → RepL W H (ds.drop n) (vs.drop n)
  | _, _, 0, h => h
  | [], _, n + 1, h => by rw [RepL] at h; rw [h]; simp [RepL]
  | d :: ds, _, n + 1, h => by
    rw [RepL] at h
    obtain ⟨v, r, e1, e2, e3⟩ := h
    rw [e1, List.drop_succ_cons, List.drop_succ_cons]
    exact RepL.drop n e3
theorem RepL.set : ∀ {ds : List D} {vs : List V} (i : Nat) {d : D} {v : V}, RepL W H ds vs → Rep W H d v → RepL W H (ds.set i d) (vs.set i v)
  | [], _, i, _, _, h, _ => by rw [RepL] at h; rw [h]; simp [RepL]
  | d :: ds, _, 0, _, _, h, q => by
    rw [RepL] at h
    obtain ⟨v, r, e1, e2, e3⟩ := h
    rw [e1, List.set_cons_zero, List.set_cons_zero]
    exact .cons q e3
  | d :: ds, _, i + 1, _, _, h, q => by
    rw [RepL] at h
    obtain ⟨v, r, e1, e2, e3⟩ := h
    rw [e1, List.set_cons_succ, List.set_cons_succ]
    exact .cons e2 (RepL.set i e3 q)
theorem RepL.eraseIdx : ∀ {ds : List D} {vs : List V} (i : Nat), RepL W H ds vs → RepL W H (ds.eraseIdx i) (vs.eraseIdx i)
  | [], _, i, h => by rw [RepL] at h; rw [h]; simp [RepL]
  | d :: ds, _, 0, h => by
    rw [RepL] at h
    obtain ⟨v, r, e1, e2, e3⟩ := h
    rw [e1, List.eraseIdx_cons_zero, List.eraseIdx_cons_zero]
    exact e3
  | d :: ds, _, i + 1, h => by
    rw [RepL] at h
    obtain ⟨v, r, e1, e2, e3⟩ := h
    rw [e1, List.eraseIdx_cons_succ, List.eraseIdx_cons_succ]
    exact .cons e2 (RepL.eraseIdx i e3)
theorem RepL.reverse : ∀ {ds : List D} {vs : List V}, RepL W H ds vs → RepL W H ds.reverse vs.reverse
  | [], _, h => by rw [RepL] at h; rw [h]; simp [RepL]
  | d :: ds, _, h => by
    rw [RepL] at h
    obtain ⟨v, r, e1, e2, e3⟩ := h
    rw [e1, List.reverse_cons, List.reverse_cons]
    exact RepL.append (RepL.reverse e3) (.one e2)
theorem RepL.rep {ds : List D} {vs : List V} (h : RepL W H ds vs) : ∀ k : Nat, RepL W H (List.replicate k ds).flatten (List.replicate k vs).flatten
  | 0 => by simp [RepL]
  | k + 1 => by
    rw [List.replicate_succ, List.replicate_succ, List.flatten_cons, List.flatten_cons]
    exact RepL.append h (RepL.rep h k)
end

/-! ### the draws' state -/
def inSa (W : Wd) (z : Addr) : Prop := match W.sa with
  | none => False
  | some (a, c) => z = a ∨ z = c
structure StAt (l : Nat) (a c : Addr) (H : Hp) : Prop where
  ne : a ≠ c
  ex : ∃ (n h : Int) (cells : List Int), H a = some (.lst [.ref c, .int n, .int h]) ∧ H c = some (.lst (cells.map V.int)) ∧ 0 ≤ n ∧ 0 ≤ h ∧ h < 2147483647 ∧ cells.length = l ∧ 1 ≤ l ∧ l ≤ 63 ∧
    ∀ z ∈ cells, 0 ≤ z ∧ z.natAbs < 2 ^ 1048577
def StOk (W : Wd) (H : Hp) : Prop := match W.sa with
  | none => True
  | some (a, c) => StAt W.cn a c H
theorem StOk.some {W : Wd} {H : Hp} (h : StOk W H) {z : Addr} (hz : inSa W z) : ∃ o, H z = Option.some o := by
  unfold StOk at h
  unfold inSa at hz
  split at hz
  · exact hz.elim
  · rename_i a c e
    rw [e] at h
    obtain ⟨_, _, _, cells, h1, h2, _⟩ := h
    rcases hz with rfl | rfl
    · exact ⟨_, h1⟩
    · exact ⟨_, h2⟩

theorem StOk.at {W : Wd} {H : Hp} {a c : Addr} (h : StOk W H) (e : W.sa = Option.some (a, c)) : StAt W.cn a c H := by
  unfold StOk at h
  rw [e] at h
  exact h
/-! ### the part of the heap that stands still -/
open Classical in
noncomputable def fz (S : Addr → Prop) (H : Hp) : Hp := fun z => if S z then none else H z
theorem fz_some {S : Addr → Prop} {H : Hp} {z : Addr} {o : HO} (h : fz S H z = some o) : ¬ S z ∧ H z = some o := by
  unfold fz at h
  split at h
  · cases h
  · rename_i n
    exact ⟨n, h⟩
theorem fz_of {S : Addr → Prop} {H : Hp} {z : Addr} {o : HO} (n : ¬ S z) (h : H z = some o) : fz S H z = some o := by
  unfold fz
  rw [if_neg n]
  exact h
theorem fz_none {S : Addr → Prop} {H : Hp} {z : Addr} (h : S z) : fz S H z = none := by
  unfold fz
  rw [if_pos h]
theorem fz_kp {S S' : Addr → Prop} {H H' : Hp} (k : ∀ z o, ¬ S z → H z = some o → ¬ S' z ∧ H' z = some o) : Kp (fz S H) (fz S' H') := fun z o h => by
  obtain ⟨n, e⟩ := fz_some h
  obtain ⟨n', e'⟩ := k z o n e
  exact fz_of n' e'
theorem fz_le {S : Addr → Prop} {H : Hp} : Kp (fz S H) H := fun _ _ h => (fz_some h).2

/-- everything but the draws' state is kept -/
def Kx (W : Wd) (H H' : Hp) : Prop := ∀ z o, ¬ inSa W z → H z = some o → H' z = some o
theorem Kx.refl {W : Wd} (H : Hp) : Kx W H H := fun _ _ _ h => h
theorem Kx.trans {W : Wd} {H H1 H2 : Hp} (a : Kx W H H1) (b : Kx W H1 H2) : Kx W H H2 := fun z o n h => b z o n (a z o n h)
theorem Kp.kx {W : Wd} {H H' : Hp} (k : Kp H H') : Kx W H H' := fun z o _ h => k z o h
theorem Kx.fresh {W : Wd} {H H' : Hp} (k : Kx W H H') (s : StOk W H') {p : Addr} (h : H' p = none) : H p = none := by
  cases e : H p with
  | none => rfl
  | some o =>
    by_cases n : inSa W p
    · obtain ⟨o', e'⟩ := s.some n
      rw [h] at e'; cases e'
    · rw [k p o n e] at h; cases h
theorem StOk.kp {W : Wd} {H H' : Hp} (h : StOk W H) (k : Kp H H') : StOk W H' := by
  unfold StOk at h ⊢
  split at h
  · trivial
  · obtain ⟨ne, n, hh, cells, h1, h2, r⟩ := h
    exact ⟨ne, n, hh, cells, k _ _ h1, k _ _ h2, r⟩
theorem StOk.upd {W : Wd} {H : Hp} {p : Addr} {o : HO} (h : StOk W H) (n : ¬ inSa W p) : StOk W (upd H p o) := by
  unfold StOk at h ⊢
  unfold inSa at n
  split at h
  · trivial
  · rename_i a c e
    rw [e] at n
    obtain ⟨ne, m, hh, cells, h1, h2, r⟩ := h
    refine ⟨ne, m, hh, cells, ?_, ?_, r⟩
    · rw [upd_ne (fun z => n (.inl z.symm))]; exact h1
    · rw [upd_ne (fun z => n (.inr z.symm))]; exact h2

/-! ### environments -/
inductive Sl where
  | un | fz (d : D) | ow (d : D)
abbrev Env := List Sl
/-- the container at a, its parts in F -/
def Top (W : Wd) (F H : Hp) : D → Addr → Prop
  | .lst ds, a => ∃ vs, H a = some (.lst vs) ∧ RepL W F ds vs
  | .dic ds, a => ∃ vs, H a = some (.dK vs) ∧ RepK W F ds vs
  | .ins c ds, a => ∃ C dx fs, ClA W c C a ∧ H a = some (.ins C dx fs) ∧ RepF W F ds fs
  | _, _ => False
theorem Top.some {W : Wd} {F H : Hp} {d : D} {a : Addr} (h : Top W F H d a) : ∃ o, H a = Option.some o := by
  cases d with
  | lst ds => obtain ⟨vs, h, _⟩ := h; exact ⟨_, h⟩
  | dic ds => obtain ⟨vs, h, _⟩ := h; exact ⟨_, h⟩
  | ins c ds => obtain ⟨C, dx, fs, _, h, _⟩ := h; exact ⟨_, h⟩
  | _ => exact h.elim
theorem Top.mono {W : Wd} {F F' H H' : Hp} {d : D} {a : Addr} (h : Top W F H d a) (e : Ex F F') (k : ∀ o, H a = Option.some o → H' a = Option.some o) : Top W F' H' d a := by
  cases d with
  | lst ds => obtain ⟨vs, h, r⟩ := h; exact ⟨vs, k _ h, r.mono e⟩
  | dic ds => obtain ⟨vs, h, r⟩ := h; exact ⟨vs, k _ h, r.mono e⟩
  | ins c ds => obtain ⟨C, dx, fs, hc, h, r⟩ := h; exact ⟨C, dx, fs, hc, k _ h, r.mono e⟩
  | _ => exact h.elim
/-- as data, where F has it -/
theorem Top.rep {W : Wd} {F H G : Hp} {d : D} {a : Addr} (h : Top W F H d a) (e : Ex F G) (k : ∀ o, H a = Option.some o → G a = Option.some o) : Rep W G d (.ref a) := by
  cases d with
  | lst ds => obtain ⟨vs, h, r⟩ := h; rw [Rep]; exact ⟨a, vs, rfl, k _ h, r.mono e⟩
  | dic ds => obtain ⟨vs, h, r⟩ := h; rw [Rep]; exact ⟨a, vs, rfl, .inl (k _ h), r.mono e⟩
  | ins c ds => obtain ⟨C, dx, fs, hc, h, r⟩ := h; rw [Rep]; exact ⟨a, C, dx, fs, rfl, hc, k _ h, r.mono e⟩
  | _ => exact h.elim
def Rsv (W : Wd) (Hd : Addr → Prop) (A : Nat → Option Addr) (z : Addr) : Prop := inSa W z ∨ Hd z ∨ ∃ i, A i = some z
def SlotOk (W : Wd) (F H : Hp) (av : Option Addr) (v : Option V) : Sl → Prop
  | .un => av = none
  | .fz d => av = none ∧ ∃ x, v = some x ∧ Rep W F d x
  | .ow d => ∃ a, av = some a ∧ v = some (.ref a) ∧ Top W F H d a
structure EnvOk (W : Wd) (Hd : Addr → Prop) (H0 : Hp) (A : Nat → Option Addr) (H : Hp) (σ : St) (δ : Env) : Prop where
  b0 : Kx W H0 H
  st : StOk W H
  len : σ.length = δ.length
  sl : ∀ i s, δ[i]? = some s → SlotOk W (fz (Rsv W Hd A) H) H (A i) (σ[i]?.join) s
  inj : ∀ i j a, A i = some a → A j = some a → i = j
  new : ∀ i a, A i = some a → H0 a = none ∧ ¬ inSa W a ∧ ¬ Hd a
  hid : ∀ a, Hd a → ∃ o, H a = some o
  out : ∀ i, δ.length ≤ i → A i = none
theorem EnvOk.keep {W : Wd} {Hd : Addr → Prop} {H0 H H' : Hp} {A : Nat → Option Addr} {σ : St} {δ : Env} (e : EnvOk W Hd H0 A H σ δ) (k : Kx W H H') (s : StOk W H') : EnvOk W Hd H0 A H' σ δ := by
  refine ⟨e.b0.trans k, s, e.len, fun i x hx => ?_, e.inj, e.new, fun a h => ?_, e.out⟩
  case refine_2 =>
    by_cases n : inSa W a
    · exact s.some n
    · obtain ⟨o, q⟩ := e.hid a h
      exact ⟨o, k a o n q⟩
  have m : Kp (fz (Rsv W Hd A) H) (fz (Rsv W Hd A) H') := fz_kp fun z o n h => ⟨n, k z o (fun q => n (.inl q)) h⟩
  have q := e.sl i x hx
  cases x with
  | un => exact q
  | fz d =>
    obtain ⟨q1, v, q2, q3⟩ := q
    exact ⟨q1, v, q2, q3.mono m.ex⟩
  | ow d =>
    obtain ⟨a, q1, q2, q3⟩ := q
    exact ⟨a, q1, q2, q3.mono m.ex fun o h => k a o (e.new i a q1).2.1 h⟩
theorem EnvOk.rsvSome {W : Wd} {Hd : Addr → Prop} {H0 H : Hp} {A : Nat → Option Addr} {σ : St} {δ : Env} (e : EnvOk W Hd H0 A H σ δ) {z : Addr} (h : Rsv W Hd A z) : ∃ o, H z = some o := by
  rcases h with h | h | ⟨i, h⟩
  · exact e.st.some h
  · exact e.hid z h
  · by_cases hi : δ.length ≤ i
    · rw [e.out i hi] at h; cases h
    · have hx : δ[i]? = some (δ[i]'(by omega)) := List.getElem?_eq_getElem (by omega)
      have q := e.sl i _ hx
      generalize δ[i]'(by omega) = x at q
      cases x with
      | un =>
        have q' : A i = none := q
        rw [q'] at h; cases h
      | fz d =>
        obtain ⟨q1, _⟩ := q
        rw [q1] at h; cases h
      | ow d =>
        obtain ⟨a, q1, q2, q3⟩ := q
        rw [q1] at h; cases h
        exact q3.some

/-! ### results -/
inductive R where
  | v (d : D) | own (d : D) | sl (i : Nat) (d : D)
def R.d : R → D
  | .v d => d
  | .own d => d
  | .sl _ d => d
def RepR (W : Wd) (Hd : Addr → Prop) (A : Nat → Option Addr) (Hs H : Hp) (δ : Env) (v : V) : R → Prop
  | .v d => Rep W (fz (Rsv W Hd A) H) d v
  | .own d => ∃ a, v = .ref a ∧ Hs a = none ∧ ¬ Rsv W Hd A a ∧ Top W (fz (fun z => Rsv W Hd A z ∨ z = a) H) H d a
  | .sl i d => ∃ a, A i = some a ∧ v = .ref a ∧ δ[i]? = some (.ow d) ∧ Top W (fz (Rsv W Hd A) H) H d a
abbrev emp : Hp := fun _ => none
section
variable {W : Wd} {Hd : Addr → Prop} {H0 Hs H H' : Hp} {A : Nat → Option Addr} {σ : St} {δ : Env} {v : V} {r : R} {K : PySem.W.Frag}
theorem RepR.keep (e : EnvOk W Hd H0 A H σ δ) (h : RepR W Hd A Hs H δ v r) (k : Kx W H H') : RepR W Hd A Hs H' δ v r := by
  have m : Kp (fz (Rsv W Hd A) H) (fz (Rsv W Hd A) H') := fz_kp fun z o n h => ⟨n, k z o (fun q => n (.inl q)) h⟩
  cases r with
  | v d => exact Rep.mono m.ex d h
  | own d =>
    obtain ⟨a, h1, h2, h3, h4⟩ := h
    refine ⟨a, h1, h2, h3, h4.mono (fz_kp fun z o n h => ⟨n, k z o (fun q => n (.inl (.inl q))) h⟩).ex fun o q => k a o (fun z => h3 (.inl z)) q⟩
  | sl i d =>
    obtain ⟨a, h1, h2, h3, h4⟩ := h
    exact ⟨a, h1, h2, h3, h4.mono m.ex fun o q => k a o (e.new i a h1).2.1 q⟩
theorem RepR.opn (h : RepR W Hd A Hs H δ v r) : RepR W Hd A emp H δ v r := by
  cases r with
  | v d => exact h
  | own d =>
    obtain ⟨a, h1, h2, h3⟩ := h
    exact ⟨a, h1, rfl, h3⟩
  | sl i d => exact h
theorem RepR.back (h : RepR W Hd A H' H δ v r) (f : ∀ p, H' p = none → Hs p = none) : RepR W Hd A Hs H δ v r := by
  cases r with
  | v d => exact h
  | own d =>
    obtain ⟨a, h1, h2, h3⟩ := h
    exact ⟨a, h1, f a h2, h3⟩
  | sl i d => exact h
/-- to be read -/
theorem RepR.rd (h : RepR W Hd A Hs H δ v r) : Rep W H r.d v := by
  cases r with
  | v d => exact Rep.mono fz_le.ex d h
  | own d =>
    obtain ⟨a, h1, h2, h3, h4⟩ := h
    rw [h1]
    exact h4.rep fz_le.ex fun _ q => q
  | sl i d =>
    obtain ⟨a, h1, h2, h3, h4⟩ := h
    rw [h2]
    exact h4.rep fz_le.ex fun _ q => q
/-- frozen: no slot's own -/
def R.fr : R → Bool
  | .sl _ _ => false
  | _ => true
theorem RepR.frz (h : RepR W Hd A Hs H δ v r) (n : r.fr = true) : Rep W (fz (Rsv W Hd A) H) r.d v := by
  cases r with
  | v d => exact h
  | own d =>
    obtain ⟨a, h1, h2, h3, h4⟩ := h
    rw [h1]
    exact h4.rep (fz_kp fun z o n h => ⟨fun q => n (.inl q), h⟩).ex fun o q => fz_of h3 q
  | sl i d => cases n
theorem RepR.lst (h : RepR W Hd A Hs H δ v r) {ds : List D} (e : r.d = .lst ds) : ∃ a vs, v = .ref a ∧ H a = some (.lst vs) ∧ RepL W (fz (Rsv W Hd A) H) ds vs := by
  cases r with
  | v d =>
    cases (show d = .lst ds from e)
    have h' : Rep W (fz (Rsv W Hd A) H) (.lst ds) v := h
    rw [Rep] at h'
    obtain ⟨a, vs, h1, h2, h3⟩ := h'
    exact ⟨a, vs, h1, fz_le _ _ h2, h3⟩
  | own d =>
    cases (show d = .lst ds from e)
    obtain ⟨a, h1, h2, h3, vs, h4, h5⟩ := h
    exact ⟨a, vs, h1, h4, h5.mono (fz_kp fun z o n h => ⟨fun q => n (.inl q), h⟩).ex⟩
  | sl i d =>
    cases (show d = .lst ds from e)
    obtain ⟨a, h1, h2, h3, vs, h4, h5⟩ := h
    exact ⟨a, vs, h2, h4, h5⟩
theorem RepR.tup (h : RepR W Hd A Hs H δ v r) {ds : List D} (e : r.d = .tup ds) : ∃ a vs, v = .ref a ∧ SqT W.K H a vs ∧ RepL W (fz (Rsv W Hd A) H) ds vs := by
  cases r with
  | v d =>
    cases (show d = .tup ds from e)
    have h' : Rep W (fz (Rsv W Hd A) H) (.tup ds) v := h
    rw [Rep] at h'
    obtain ⟨a, vs, h1, h2, h3⟩ := h'
    exact ⟨a, vs, h1, fz_le.ex.t h2, h3⟩
  | own d =>
    cases (show d = .tup ds from e)
    obtain ⟨a, h1, h2, h3, h4⟩ := h
    exact h4.elim
  | sl i d =>
    cases (show d = .tup ds from e)
    obtain ⟨a, h1, h2, h3, h4⟩ := h
    exact h4.elim
theorem RepR.tupF (h : RepR W Hd A Hs H δ v r) {ds : List D} (e : r.d = .tup ds) : Rep W (fz (Rsv W Hd A) H) (.tup ds) v := by
  cases r with
  | v d =>
    cases (show d = .tup ds from e)
    exact h
  | own d =>
    cases (show d = .tup ds from e)
    obtain ⟨a, h1, h2, h3, h4⟩ := h
    exact h4.elim
  | sl i d =>
    cases (show d = .tup ds from e)
    obtain ⟨a, h1, h2, h3, h4⟩ := h
    exact h4.elim
theorem RepR.dic (h : RepR W Hd A Hs H δ v r) {ds : List (Key × D)} (e : r.d = .dic ds) : ∃ a vs, v = .ref a ∧ Rd H a (.dK vs) ∧ RepK W (fz (Rsv W Hd A) H) ds vs := by
  cases r with
  | v d =>
    cases (show d = .dic ds from e)
    have h' : Rep W (fz (Rsv W Hd A) H) (.dic ds) v := h
    rw [Rep] at h'
    obtain ⟨a, vs, h1, h2, h3⟩ := h'
    exact ⟨a, vs, h1, fz_le.rd h2, h3⟩
  | own d =>
    cases (show d = .dic ds from e)
    obtain ⟨a, h1, h2, h3, vs, h4, h5⟩ := h
    exact ⟨a, vs, h1, .inl h4, h5.mono (fz_kp fun z o n h => ⟨fun q => n (.inl q), h⟩).ex⟩
  | sl i d =>
    cases (show d = .dic ds from e)
    obtain ⟨a, h1, h2, h3, vs, h4, h5⟩ := h
    exact ⟨a, vs, h2, .inl h4, h5⟩
theorem RepR.ins (h : RepR W Hd A Hs H δ v r) {c : Str} {ds : List (Str × D)} (e : r.d = .ins c ds) : ∃ a C dx fs, v = .ref a ∧ ClA W c C a ∧ H a = some (.ins C dx fs) ∧ RepF W (fz (Rsv W Hd A) H) ds fs := by
  cases r with
  | v d =>
    cases (show d = .ins c ds from e)
    have h' : Rep W (fz (Rsv W Hd A) H) (.ins c ds) v := h
    rw [Rep] at h'
    obtain ⟨a, C, dx, fs, h1, h2, h3, h4⟩ := h'
    exact ⟨a, C, dx, fs, h1, h2, fz_le _ _ h3, h4⟩
  | own d =>
    cases (show d = .ins c ds from e)
    obtain ⟨a, h1, h2, h3, C, dx, fs, h4, h5, h6⟩ := h
    exact ⟨a, C, dx, fs, h1, h4, h5, h6.mono (fz_kp fun z o n h => ⟨fun q => n (.inl q), h⟩).ex⟩
  | sl i d =>
    cases (show d = .ins c ds from e)
    obtain ⟨a, h1, h2, h3, C, dx, fs, h4, h5, h6⟩ := h
    exact ⟨a, C, dx, fs, h2, h4, h5, h6⟩
theorem RepR.int (h : RepR W Hd A Hs H δ v r) {i : Int} (e : r.d = .int i) : v = .int i := by
  have h' := h.rd
  rw [e, Rep] at h'
  exact h'
theorem RepR.bl (h : RepR W Hd A Hs H δ v r) {i : Bool} (e : r.d = .bl i) : v = .bl i := by
  have h' := h.rd
  rw [e, Rep] at h'
  exact h'
theorem RepR.str (h : RepR W Hd A Hs H δ v r) {i : Str} (e : r.d = .str i) : v = .str i ∧ PyData.strOk i = true := by
  have h' := h.rd
  rw [e, Rep] at h'
  exact h'
theorem RepR.non (h : RepR W Hd A Hs H δ v r) (e : r.d = .non) : v = .non := by
  have h' := h.rd
  rw [e, Rep] at h'
  exact h'
end
/-- a new container, its parts standing still -/
theorem RepR.newL {W : Wd} {Hd : Addr → Prop} {H0 H : Hp} {A : Nat → Option Addr} {σ : St} {δ : Env} {ds : List D} {vs : List V} {p : Addr} (e : EnvOk W Hd H0 A H σ δ) (hp : H p = none) (h : RepL W (fz (Rsv W Hd A) H) ds vs) :
    RepR W Hd A H (upd H p (.lst vs)) δ (.ref p) (.own (.lst ds)) := by
  have np : ¬ Rsv W Hd A p := fun z => by
    obtain ⟨o, q⟩ := e.rsvSome z
    rw [hp] at q; cases q
  refine ⟨p, rfl, hp, np, vs, upd_same, h.mono (fz_kp fun z o n q => ?_).ex⟩
  have zp : z ≠ p := ne_of_none q hp
  exact ⟨fun r => r.elim n zp, by rw [upd_ne zp]; exact q⟩
theorem RepR.newD {W : Wd} {Hd : Addr → Prop} {H0 H : Hp} {A : Nat → Option Addr} {σ : St} {δ : Env} {ds : List (Key × D)} {vs : List (Key × V)} {p : Addr} (e : EnvOk W Hd H0 A H σ δ) (hp : H p = none) (h : RepK W (fz (Rsv W Hd A) H) ds vs) :
    RepR W Hd A H (upd H p (.dK vs)) δ (.ref p) (.own (.dic ds)) := by
  have np : ¬ Rsv W Hd A p := fun z => by
    obtain ⟨o, q⟩ := e.rsvSome z
    rw [hp] at q; cases q
  refine ⟨p, rfl, hp, np, vs, upd_same, h.mono (fz_kp fun z o n q => ?_).ex⟩
  have zp : z ≠ p := ne_of_none q hp
  exact ⟨fun r => r.elim n zp, by rw [upd_ne zp]; exact q⟩
theorem RepR.newT {W : Wd} {Hd : Addr → Prop} {H0 H : Hp} {A : Nat → Option Addr} {σ : St} {δ : Env} {ds : List D} {vs : List V} {p : Addr} (e : EnvOk W Hd H0 A H σ δ) (hp : H p = none) (h : RepL W (fz (Rsv W Hd A) H) ds vs) :
    RepR W Hd A H (upd H p (.tup vs)) δ (.ref p) (.v (.tup ds)) := by
  have np : ¬ Rsv W Hd A p := fun z => by
    obtain ⟨o, q⟩ := e.rsvSome z
    rw [hp] at q; cases q
  show Rep W _ (.tup ds) _
  rw [Rep]
  refine ⟨p, vs, rfl, .inl (.inl (fz_of np upd_same)), h.mono (fz_kp fun z o n q => ?_).ex⟩
  have zp : z ≠ p := ne_of_none q hp
  exact ⟨n, by rw [upd_ne zp]; exact q⟩
end G
set_option maxRecDepth 100000
set_option maxHeartbeats 4000000
namespace G
open PySem PySem.Spec PyProof.Rows L2

/-! ### exceptions, transformers -/
structure Xn where
  c : Str
  fs : List (Str × D)
def XnOk (W : Wd) (Hd : Addr → Prop) (H : Hp) (cls : Value) (d : Option Addr) (x : Xn) : Prop :=
  ∃ C, W.cl x.c = some C ∧ cls = .ref C ∧ ((x.fs = [] ∧ d = none) ∨ ∃ a fs, d = some a ∧ H a = some (.xd fs) ∧ RepF W (fz (fun z => inSa W z ∨ Hd z) H) x.fs fs)
abbrev WE := Env → (R → Prop) → (Xn → Prop) → Prop
abbrev WA := Env → (List R → Prop) → (Xn → Prop) → Prop
abbrev WT := Env → (Bool → Prop) → (Xn → Prop) → Prop
def QOk (W : Wd) (Hd : Addr → Prop) (A : Nat → Option Addr) (H : Hp) (δ : Env) (K : R → Prop) (Q : VK) : Prop := ∀ v H' r, Kx W H H' → StOk W H' → RepR W Hd A H H' δ v r → K r → Q v H'
def XOk (W : Wd) (Hd : Addr → Prop) (H : Hp) (X : Xn → Prop) (E : XK) : Prop := ∀ x cls d H', Kx W H H' → StOk W H' → XnOk W Hd H' cls d x → X x → E cls d H'
theorem XOk.keep {W : Wd} {Hd : Addr → Prop} {H H1 : Hp} {X : Xn → Prop} {E : XK} (h : XOk W Hd H X E) (k : Kx W H H1) : XOk W Hd H1 X E := fun x cls d H' k' s o hx => h x cls d H' (k.trans k') s o hx
theorem XOk.none {W : Wd} {Hd : Addr → Prop} {H : Hp} {E : XK} : XOk W Hd H (fun _ => False) E := fun _ _ _ _ _ _ _ h => h.elim
def EvE (W : Wd) (E : XK) (te : TE) (w : WE) : Prop := ∀ (Hd : Addr → Prop) (H0 : Hp) (A : Nat → Option Addr) (H : Hp) (σ : St) (δ : Env) (K : R → Prop) (X : Xn → Prop) (Q : VK), EnvOk W Hd H0 A H σ δ → w δ K X → QOk W Hd A H δ K Q → XOk W Hd H X E → te σ H Q
def EvT (W : Wd) (E : XK) (te : TT) (w : WT) : Prop := ∀ (Hd : Addr → Prop) (H0 : Hp) (A : Nat → Option Addr) (H : Hp) (σ : St) (δ : Env) (K : Bool → Prop) (X : Xn → Prop) (Q : Bool → Hp → Prop), EnvOk W Hd H0 A H σ δ → w δ K X →
  (∀ b H', Kx W H H' → StOk W H' → K b → Q b H') → XOk W Hd H X E → te σ H Q
inductive RepRs (W : Wd) (Hd : Addr → Prop) (A : Nat → Option Addr) (H : Hp) (δ : Env) : List V → List R → Prop
  | nil : RepRs W Hd A H δ [] []
  | cons {v : V} {vs : List V} {r : R} {rs : List R} : RepR W Hd A emp H δ v r → RepRs W Hd A H δ vs rs → RepRs W Hd A H δ (v :: vs) (r :: rs)
theorem RepRs.keep {W : Wd} {Hd : Addr → Prop} {H0 H H' : Hp} {A : Nat → Option Addr} {σ : St} {δ : Env} {vs : List V} {rs : List R} (h : RepRs W Hd A H δ vs rs) (e : EnvOk W Hd H0 A H σ δ) (k : Kx W H H') : RepRs W Hd A H' δ vs rs := by
  induction h with
  | nil => exact .nil
  | cons r _ ih => exact .cons (r.keep e k) ih
def EvA (W : Wd) (E : XK) (te : TA) (w : WA) : Prop := ∀ (Hd : Addr → Prop) (H0 : Hp) (A : Nat → Option Addr) (H : Hp) (σ : St) (δ : Env) (K : List R → Prop) (X : Xn → Prop) (Q : List V → Hp → Prop), EnvOk W Hd H0 A H σ δ → w δ K X →
  (∀ vs H' rs, Kx W H H' → StOk W H' → RepRs W Hd A H' δ vs rs → K rs → Q vs H') → XOk W Hd H X E → te σ H Q
def PEW (W : Wd) (E : XK) (X : Cx) (e : Expr) (w : WE) : Prop := ∃ te, PE X e te ∧ EvE W E te w
def PTW (W : Wd) (E : XK) (X : Cx) (e : Expr) (w : WT) : Prop := ∃ te, PT X e te ∧ EvT W E te w
def PAW (W : Wd) (E : XK) (X : Cx) (es : List Expr) (w : WA) : Prop := ∃ te, PA X es te ∧ EvA W E te w

/-! ### contexts -/
def visB (sc : Scope) (x : Str) : Bool := match sc.names.lookup x with
  | some .local => true
  | some .cell => true
  | some .free => true
  | _ => false
def locB (sc : Scope) (x : Str) : Bool := match sc.names.lookup x with
  | some .local => true
  | some .cell => true
  | _ => false
def glB (sc : Scope) (x : Str) : Bool := match sc.names.lookup x with
  | some .globalImplicit => true
  | _ => false
structure Good (W : Wd) (N : List Str) (sc : Scope) (k : Nat) (E : XK) (X : Cx) : Prop where
  hP : X.prog = W.P
  hw : X.w = W.w
  hK : X.K = W.K
  hm : X.mg = W.mg
  hb : X.base = W.base
  hN : X.N = N
  nd : N.Nodup
  vis : ∀ x, visB sc x = true → Vis X.env.scope x
  loc : ∀ x, locB sc x = true → Loc X.env.scope x ∧ (X.fn x = true ∨ X.env.scope.names.lookup x = some .local)
  lcl : ∀ x, sc.names.lookup x = some .local → X.env.scope.names.lookup x = some .local
  gl : ∀ x, glB sc x = true → Gl X x
  cf : ∀ x, (sc.names.lookup x = some .cell ∨ sc.names.lookup x = some .free) → (X.env.scope.names.lookup x = some .cell ∨ X.env.scope.names.lookup x = some .free)
  kind : X.env.scope.kind = .function
  calm : X.calm = true
  room : Room k X.A
  gd : noGd X.A
  po : PassesOwn (model X.prog X.w) X.A X.env X.xe
  px : Passes (L2.CX X.prog X.w) X E
  tk : Takes X fun c d _ H => E c d H

section
variable {W : Wd} {Hd : Addr → Prop} {H0 H : Hp} {A : Nat → Option Addr} {σ : St} {δ : Env} {K : R → Prop} {Q : VK} {X : Cx} {E : XK} {N : List Str} {sc : Scope} {k : Nat}
theorem QOk.int {i : Int} (q : QOk W Hd A H δ K Q) (e : EnvOk W Hd H0 A H σ δ) (h : K (.v (.int i))) : Q (.int i) H := q _ _ (.v (.int i)) (Kx.refl H) e.st (by show Rep W (fz (Rsv W Hd A) H) (.int i) _; rw [Rep]) h
theorem QOk.bl {i : Bool} (q : QOk W Hd A H δ K Q) (e : EnvOk W Hd H0 A H σ δ) (h : K (.v (.bl i))) : Q (.bl i) H := q _ _ (.v (.bl i)) (Kx.refl H) e.st (by show Rep W (fz (Rsv W Hd A) H) (.bl i) _; rw [Rep]) h
theorem QOk.non (q : QOk W Hd A H δ K Q) (e : EnvOk W Hd H0 A H σ δ) (h : K (.v .non)) : Q .non H := q _ _ (.v .non) (Kx.refl H) e.st (by show Rep W (fz (Rsv W Hd A) H) .non _; rw [Rep]) h
theorem QOk.str {i : Str} (q : QOk W Hd A H δ K Q) (e : EnvOk W Hd H0 A H σ δ) (ok : PyData.strOk i = true) (h : K (.v (.str i))) : Q (.str i) H := q _ _ (.v (.str i)) (Kx.refl H) e.st (by show Rep W (fz (Rsv W Hd A) H) (.str i) _; rw [Rep]; exact ⟨rfl, ok⟩) h
theorem QOk.at {v : V} {d : D} (q : QOk W Hd A H δ K Q) (e : EnvOk W Hd H0 A H σ δ) (r : Rep W (fz (Rsv W Hd A) H) d v) (h : K (.v d)) : Q v H := q _ _ _ (Kx.refl H) e.st (show RepR W Hd A H H δ v (.v d) from r) h
theorem QOk.newL {ds : List D} {vs : List V} {p : Addr} (q : QOk W Hd A H δ K Q) (e : EnvOk W Hd H0 A H σ δ) (r : RepL W (fz (Rsv W Hd A) H) ds vs) (h : K (.own (.lst ds))) (hp : H p = none) : Q (.ref p) (upd H p (.lst vs)) :=
  q _ _ _ (Ex.new hp).kx (e.st.kp (Ex.new hp)) (RepR.newL e hp r) h
theorem QOk.newD {ds : List (Key × D)} {vs : List (Key × V)} {p : Addr} (q : QOk W Hd A H δ K Q) (e : EnvOk W Hd H0 A H σ δ) (r : RepK W (fz (Rsv W Hd A) H) ds vs) (h : K (.own (.dic ds))) (hp : H p = none) : Q (.ref p) (upd H p (.dK vs)) :=
  q _ _ _ (Ex.new hp).kx (e.st.kp (Ex.new hp)) (RepR.newD e hp r) h
theorem QOk.newT {ds : List D} {vs : List V} {p : Addr} (q : QOk W Hd A H δ K Q) (e : EnvOk W Hd H0 A H σ δ) (r : RepL W (fz (Rsv W Hd A) H) ds vs) (h : K (.v (.tup ds))) (hp : H p = none) : Q (.ref p) (upd H p (.tup vs)) :=
  q _ _ _ (Ex.new hp).kx (e.st.kp (Ex.new hp)) (RepR.newT e hp r) h

/-! ### names, constants -/
def wVar (i : Nat) : WE := fun δ K _ => match δ[i]? with
  | some (.fz d) => K (.v d)
  | some (.ow d) => K (.sl i d)
  | _ => False
theorem slot_get {σ : St} {i : Nat} {v : V} (h : σ[i]?.join = some v) : σ[i]? = some (some v) := by
  cases q : σ[i]? with
  | none => rw [q] at h; cases h
  | some o => rw [q] at h; rw [show o = some v from h]
theorem ev_var {i : Nat} : EvE W E (tVar i) (wVar i) := by
  intro Hd H0 A H σ δ K X Q e hw q x
  unfold wVar at hw
  split at hw
  · rename_i d hd
    obtain ⟨q1, v, q2, q3⟩ := e.sl i _ hd
    exact ⟨v, slot_get q2, q.at e q3 hw⟩
  · rename_i d hd
    obtain ⟨a, q1, q2, q3⟩ := e.sl i _ hd
    exact ⟨.ref a, slot_get q2, q _ _ (.sl i d) (Kx.refl H) e.st ⟨a, q1, rfl, hd, q3⟩ hw⟩
  · exact hw.elim
theorem ew_var {i : Nat} {x : Str} {pos : Pos} (g : Good W N sc k E X) (hi : N[i]? = some x) (hv : visB sc x = true) (hd : (x == ("__debug__" : Str)) = false) (hcd : (x == ("__classdict__" : Str)) = false) : PEW W E X (.Name x pos) (wVar i) :=
  ⟨_, pe_var (by rw [g.hN]; exact hi) (g.vis x hv) hd hcd, ev_var⟩
def wC (d : D) : WE := fun _ K _ => K (.v d)
theorem ew_int {i : Int} {j : Nat} {pos : Pos} : PEW W E X (.Constant (.int i) j pos) (wC (.int i)) := ⟨_, pe_int, fun _ _ _ _ _ _ _ _ _ e hw q _ => q.int e hw⟩
theorem ew_bl {i : Bool} {j : Nat} {pos : Pos} : PEW W E X (.Constant (.bool i) j pos) (wC (.bl i)) := ⟨_, pe_bl, fun _ _ _ _ _ _ _ _ _ e hw q _ => q.bl e hw⟩
theorem ew_non {j : Nat} {pos : Pos} : PEW W E X (.Constant .none j pos) (wC .non) := ⟨_, pe_non, fun _ _ _ _ _ _ _ _ _ e hw q _ => q.non e hw⟩
theorem ew_str {i : Str} {j : Nat} {pos : Pos} (ok : PyData.strOk i = true) : PEW W E X (.Constant (.str i) j pos) (wC (.str i)) := ⟨_, pe_str, fun _ _ _ _ _ _ _ _ _ e hw q _ => q.str e ok hw⟩
def GOk (W : Wd) (x : Str) (d : D) : Prop := ∃ v u, W.mg x = some u ∧ RelV v u ∧ ∀ H, Rep W H d v
theorem ew_glob {x : Str} {d : D} {pos : Pos} (g : Good W N sc k E X) (hx : glB sc x = true) (hd : (x == ("__debug__" : Str)) = false) (h : GOk W x d) : PEW W E X (.Name x pos) (wC d) := by
  obtain ⟨v, u, h1, h2, h3⟩ := h
  exact ⟨_, pe_glob (g.gl x hx) (by rw [g.hm]; exact h1) h2 hd, fun _ _ _ _ _ _ _ _ _ e hw q _ => q.at e (h3 _) hw⟩

/-! ### two operands -/
def OpS (W : Wd) (r : R2) (sem : R → R → (R → Prop) → Prop) : Prop := ∀ (Hd : Addr → Prop) (H0 : Hp) (A : Nat → Option Addr) (H : Hp) (σ : St) (δ : Env) (x y : R) (vx vy : V) (K : R → Prop) (Q : VK),
  EnvOk W Hd H0 A H σ δ → RepR W Hd A emp H δ vx x → RepR W Hd A emp H δ vy y → sem x y K → QOk W Hd A H δ K Q → r vx vy H Q
def wOp (sem : R → R → (R → Prop) → Prop) (wa wb : WE) : WE := fun δ K X => wa δ (fun x => wb δ (fun y => sem x y K) X) X
theorem QOk.from {H1 : Hp} (q : QOk W Hd A H δ K Q) (k : Kx W H H1) (s1 : StOk W H1) : QOk W Hd A H1 δ K Q := fun v H' r k' s' rr hk => q v H' r (k.trans k') s' (rr.back fun p hp => k.fresh s1 hp) hk
theorem ev_op {r : R2} {sem : R → R → (R → Prop) → Prop} {ta tb : TE} {wa wb : WE} (hs : OpS W r sem) (ha : EvE W E ta wa) (hb : EvE W E tb wb) : EvE W E (tOp r ta tb) (wOp sem wa wb) := by
  intro Hd H0 A H σ δ K X Q e hw q x
  refine ha Hd H0 A H σ δ _ X _ e hw (fun v H1 rx k1 s1 r1 h1 => ?_) x
  have e1 := e.keep k1 s1
  refine hb Hd H0 A H1 σ δ _ X _ e1 h1 (fun u H2 ry k2 s2 r2 h2 => ?_) (x.keep k1)
  exact hs Hd H0 A H2 σ δ rx ry v u K Q (e1.keep k2 s2) (r1.opn.keep e1 k2) r2.opn h2 (q.from (k1.trans k2) s2)
theorem ew_bin {op : Operator} {r : R2} {sem : R → R → (R → Prop) → Prop} {a b : Expr} {wa wb : WE} {pos : Pos} (ho : OpR X (binaryOp op) r) (hs : OpS W r sem) (ha : PEW W E X a wa) (hb : PEW W E X b wb) : PEW W E X (.BinOp a op b pos) (wOp sem wa wb) := by
  obtain ⟨ta, pa, ea⟩ := ha
  obtain ⟨tb, pb, eb⟩ := hb
  exact ⟨_, pe_op ho pa pb, ev_op hs ea eb⟩
theorem ew_cmp {op : CmpOp} {r : R2} {sem : R → R → (R → Prop) → Prop} {a b : Expr} {wa wb : WE} {pos : Pos} (ho : OpR X (compareOp op) r) (hs : OpS W r sem) (hm : behindInMarks op b = false) (ha : PEW W E X a wa) (hb : PEW W E X b wb) : PEW W E X (.Compare a [op] [b] pos) (wOp sem wa wb) := by
  obtain ⟨ta, pa, ea⟩ := ha
  obtain ⟨tb, pb, eb⟩ := hb
  exact ⟨_, pe_cmpR ho pa pb hm, ev_op hs ea eb⟩

abbrev big : Nat := 1000000
theorem big_le {n : Nat} (h : n ≤ big) : n ≤ sizeLine := Nat.le_trans h (by decide)
theorem big_lt {n : Nat} (h : n ≤ big) : n < sizeLine := Nat.lt_of_le_of_lt h (by decide)
theorem strOk_append {a b : Str} (ha : PyData.strOk a = true) (hb : PyData.strOk b = true) : PyData.strOk (a ++ b) = true := by
  unfold PyData.strOk at *
  show (a.cps ++ b.cps).all _ = true
  rw [Array.all_append, ha, hb]; rfl

/-! a + b -/
def addS : R → R → (R → Prop) → Prop := fun x y K => match x.d, y.d with
  | .int i, .int j => K (.v (.int (i + j)))
  | .str s, .str t => s.length + t.length ≤ big ∧ K (.v (.str (s ++ t)))
  | .lst xs, .lst ys => xs.length + ys.length ≤ big ∧ K (.own (.lst (xs ++ ys)))
  | .tup xs, .tup ys => xs.length + ys.length ≤ big ∧ K (.v (.tup (xs ++ ys)))
  | _, _ => False
def rStrCat : R2 := fun x y H Q => ∃ i j, x = .str i ∧ y = .str j ∧ i.length + j.length ≤ sizeLine ∧ Q (.str (i ++ j)) H
theorem op_addA : OpR X (binaryOp .Add) (fun x y H Q => rI0 (fun i j => .int (i + j)) x y H Q ∨ rStrCat x y H Q ∨ rCat x y H Q ∨ rCatA X.K x y H Q) := op_add.or (op_add_str.or (op_cat.or op_catA))
theorem os_add : OpS W (fun x y H Q => rI0 (fun i j => .int (i + j)) x y H Q ∨ rStrCat x y H Q ∨ rCat x y H Q ∨ rCatA W.K x y H Q) addS := by
  intro Hd H0 A H σ δ x y vx vy K Q e rx ry hs q
  unfold addS at hs
  split at hs
  · rename_i i j h1 h2
    exact .inl ⟨i, j, rx.int h1, ry.int h2, q.int e hs⟩
  · rename_i s t h1 h2
    obtain ⟨a1, a2⟩ := rx.str h1
    obtain ⟨b1, b2⟩ := ry.str h2
    exact .inr (.inl ⟨s, t, a1, b1, big_le hs.1, q.str e (strOk_append a2 b2) hs.2⟩)
  · rename_i xs ys h1 h2
    obtain ⟨a, vs, a1, a2, a3⟩ := rx.lst h1
    obtain ⟨b, us, b1, b2, b3⟩ := ry.lst h2
    exact .inr (.inr (.inl ⟨a, b, vs, us, a1, b1, a2, b2, by rw [a3.length, b3.length]; exact big_le hs.1, fun p hp => q.newL e (a3.append b3) hs.2 hp⟩))
  · rename_i xs ys h1 h2
    obtain ⟨a, vs, a1, a2, a3⟩ := rx.tup h1
    obtain ⟨b, us, b1, b2, b3⟩ := ry.tup h2
    have l1 := a3.length
    have l2 := b3.length
    have fx := rx.tupF h1
    have fy := ry.tupF h2
    refine .inr (.inr (.inr ⟨a, b, vs, us, a1, b1, a2, b2, by rw [l1, l2]; exact big_le hs.1, fun z => ?_, fun z1 z2 => ?_, fun _ _ p hp => q.newT e (a3.append b3) hs.2 hp⟩))
    · have : xs = [] := List.eq_nil_of_length_eq_zero (by rw [← l1, z]; rfl)
      subst this
      rw [← b1]; exact q.at e fy (by simpa using hs.2)
    · have : ys = [] := List.eq_nil_of_length_eq_zero (by rw [← l2, z2]; rfl)
      subst this
      rw [← a1]; exact q.at e fx (by simpa using hs.2)
  · exact hs.elim
/-! a - b, a * b, a // b, a % b, a ** b, shifts -/
def subS : R → R → (R → Prop) → Prop := fun x y K => match x.d, y.d with
  | .int i, .int j => K (.v (.int (i - j)))
  | _, _ => False
theorem os_sub : OpS W (rI0 fun i j => .int (i - j)) subS := by
  intro Hd H0 A H σ δ x y vx vy K Q e rx ry hs q
  unfold subS at hs
  split at hs
  · rename_i i j h1 h2
    exact ⟨i, j, rx.int h1, ry.int h2, q.int e hs⟩
  · exact hs.elim
def MulOk (i j : Int) : Prop := CMul i j ∨ CMulW i j
def mulS : R → R → (R → Prop) → Prop := fun x y K => match x.d, y.d with
  | .int i, .int j => MulOk i j ∧ K (.v (.int (i * j)))
  | .lst xs, .int j => j < 2 ^ 62 ∧ -(2 ^ 62) ≤ j ∧ xs.length * j.toNat ≤ big ∧ K (.own (.lst (List.replicate j.toNat xs).flatten))
  | _, _ => False
theorem op_mulA : OpR X (binaryOp .Mult) (fun x y H Q => rI CMul (fun i j => .int (i * j)) x y H Q ∨ rI CMulW (fun i j => .int (i * j)) x y H Q ∨ rRep x y H Q) := op_mul.or (op_mulW.or op_rep)
theorem os_mul : OpS W (fun x y H Q => rI CMul (fun i j => .int (i * j)) x y H Q ∨ rI CMulW (fun i j => .int (i * j)) x y H Q ∨ rRep x y H Q) mulS := by
  intro Hd H0 A H σ δ x y vx vy K Q e rx ry hs q
  unfold mulS at hs
  split at hs
  · rename_i i j h1 h2
    rcases hs.1 with c | c
    · exact .inl ⟨i, j, rx.int h1, ry.int h2, c, q.int e hs.2⟩
    · exact .inr (.inl ⟨i, j, rx.int h1, ry.int h2, c, q.int e hs.2⟩)
  · rename_i xs j h1 h2
    obtain ⟨a, vs, a1, a2, a3⟩ := rx.lst h1
    refine .inr (.inr ⟨a, j, vs, a1, ry.int h2, a2, by omega, by omega, by rw [a3.length]; exact big_le hs.2.2.1, fun p hp => q.newL e (a3.rep _) hs.2.2.2 hp⟩)
  · exact hs.elim
def DivOk (i j : Int) : Prop := CDiv i j ∨ CDivW i j
def divS : R → R → (R → Prop) → Prop := fun x y K => match x.d, y.d with
  | .int i, .int j => DivOk i j ∧ K (.v (.int (i / j)))
  | _, _ => False
theorem op_divA : OpR X (binaryOp .FloorDiv) (fun x y H Q => rI CDiv (fun i j => .int (i / j)) x y H Q ∨ rI CDivW (fun i j => .int (i / j)) x y H Q) := op_fdiv.or op_fdivW
theorem os_div : OpS W (fun x y H Q => rI CDiv (fun i j => .int (i / j)) x y H Q ∨ rI CDivW (fun i j => .int (i / j)) x y H Q) divS := by
  intro Hd H0 A H σ δ x y vx vy K Q e rx ry hs q
  unfold divS at hs
  split at hs
  · rename_i i j h1 h2
    rcases hs.1 with c | c
    · exact .inl ⟨i, j, rx.int h1, ry.int h2, c, q.int e hs.2⟩
    · exact .inr ⟨i, j, rx.int h1, ry.int h2, c, q.int e hs.2⟩
  · exact hs.elim
def intS (C : Int → Int → Prop) (f : Int → Int → Int) : R → R → (R → Prop) → Prop := fun x y K => match x.d, y.d with
  | .int i, .int j => C i j ∧ K (.v (.int (f i j)))
  | _, _ => False
theorem os_int {C : Int → Int → Prop} {f : Int → Int → Int} : OpS W (rI C fun i j => .int (f i j)) (intS C f) := by
  intro Hd H0 A H σ δ x y vx vy K Q e rx ry hs q
  unfold intS at hs
  split at hs
  · rename_i i j h1 h2
    exact ⟨i, j, rx.int h1, ry.int h2, hs.1, q.int e hs.2⟩
  · exact hs.elim
def intS0 (f : Int → Int → Int) : R → R → (R → Prop) → Prop := fun x y K => match x.d, y.d with
  | .int i, .int j => K (.v (.int (f i j)))
  | _, _ => False
theorem os_int0 {f : Int → Int → Int} : OpS W (rI0 fun i j => .int (f i j)) (intS0 f) := by
  intro Hd H0 A H σ δ x y vx vy K Q e rx ry hs q
  unfold intS0 at hs
  split at hs
  · rename_i i j h1 h2
    exact ⟨i, j, rx.int h1, ry.int h2, q.int e hs⟩
  · exact hs.elim
def cmpS (f : Int → Int → Bool) : R → R → (R → Prop) → Prop := fun x y K => match x.d, y.d with
  | .int i, .int j => K (.v (.bl (f i j)))
  | _, _ => False
theorem os_cmp {f : Int → Int → Bool} : OpS W (rI0 fun i j => .bl (f i j)) (cmpS f) := by
  intro Hd H0 A H σ δ x y vx vy K Q e rx ry hs q
  unfold cmpS at hs
  split at hs
  · rename_i i j h1 h2
    exact ⟨i, j, rx.int h1, ry.int h2, q.bl e hs⟩
  · exact hs.elim

/-! equality of data -/
mutual
def pyD : D → PyData
  | .bl b => .bool b
  | .int i => .int i
  | .str s => .str s
  | .lst xs => .list (pyL xs)
  | .tup xs => .tuple (pyL xs)
  | _ => .none
def pyL : List D → List PyData
  | [] => []
  | x :: xs => pyD x :: pyL xs
end
mutual
/-- data that == reads, of depth at most n -/
def sh : Nat → D → Bool
  | _, .non => true
  | _, .bl _ => true
  | _, .int _ => true
  | _, .str _ => true
  | n, .lst xs => match n with
    | 0 => false
    | m + 1 => shL m xs
  | n, .tup xs => match n with
    | 0 => false
    | m + 1 => shL m xs
  | _, .dic _ => false
  | _, .ins _ _ => false
  | _, .st _ => false
  | _, .stc _ => false
  | _, .scr _ => false
def shL : Nat → List D → Bool
  | _, [] => true
  | n, x :: xs => sh n x && shL n xs
end

mutual
theorem dp_of : ∀ (n : Nat) (d : D) {v : V}, sh n d = true → Rep W H d v → Dp W.K H v (pyD d) ∧ (pyD d).canLay0 = true ∧ (pyD d).depth ≤ n
  | n, .non, v, _, h => by
    rw [Rep] at h; subst h
    exact ⟨.non, rfl, Nat.zero_le _⟩
  | n, .bl b, v, _, h => by
    rw [Rep] at h; subst h
    exact ⟨.bl b, rfl, Nat.zero_le _⟩
  | n, .int b, v, _, h => by
    rw [Rep] at h; subst h
    exact ⟨.int b, rfl, Nat.zero_le _⟩
  | n, .str b, v, _, h => by
    rw [Rep] at h
    obtain ⟨rfl, h⟩ := h
    exact ⟨.str b, by rw [pyD, PyData.canLay0]; exact h, Nat.zero_le _⟩
  | 0, .lst xs, v, hs, h => by rw [sh] at hs; cases hs
  | n + 1, .lst xs, v, hs, h => by
    rw [sh] at hs
    rw [Rep] at h
    obtain ⟨a, vs, rfl, h1, h2⟩ := h
    obtain ⟨q1, q2, q3⟩ := dpL_of n xs hs h2
    rw [pyD]
    exact ⟨.lst (.of h1) q1, by rw [PyData.canLay0]; exact q2, by rw [PyData.depth]; omega⟩
  | 0, .tup xs, v, hs, h => by rw [sh] at hs; cases hs
  | n + 1, .tup xs, v, hs, h => by
    rw [sh] at hs
    rw [Rep] at h
    obtain ⟨a, vs, rfl, h1, h2⟩ := h
    obtain ⟨q1, q2, q3⟩ := dpL_of n xs hs h2
    rw [pyD]
    exact ⟨.tup h1 q1, by rw [PyData.canLay0]; exact q2, by rw [PyData.depth]; omega⟩
  | n, .dic _, v, hs, _ => by rw [sh] at hs; cases hs
  | n, .ins _ _, v, hs, _ => by rw [sh] at hs; cases hs
  | n, .st _, v, hs, _ => by rw [sh] at hs; cases hs
  | n, .stc _, v, hs, _ => by rw [sh] at hs; cases hs
  | n, .scr _, v, hs, _ => by rw [sh] at hs; cases hs
theorem dpL_of : ∀ (n : Nat) (ds : List D) {vs : List V}, shL n ds = true → RepL W H ds vs → DpAll W.K H vs (pyL ds) ∧ PyData.canLayAll0 (pyL ds) = true ∧ PyData.depthAll (pyL ds) ≤ n
  | n, [], vs, _, h => by
    rw [RepL] at h; subst h
    exact ⟨.nil, rfl, Nat.zero_le _⟩
  | n, d :: ds, vs, hs, h => by
    rw [shL, Bool.and_eq_true] at hs
    rw [RepL] at h
    obtain ⟨v, r, rfl, h1, h2⟩ := h
    obtain ⟨q1, q2, q3⟩ := dp_of n d hs.1 h1
    obtain ⟨p1, p2, p3⟩ := dpL_of n ds hs.2 h2
    rw [pyL]
    refine ⟨.cons q1 p1, ?_, ?_⟩
    · rw [PyData.canLayAll0, q2, p2]; rfl
    · rw [PyData.depthAll]; omega
end
def eqD (x y : D) : Bool := PyData.eqv (pyD x) (pyD y)
def eqS (neg : Bool) : R → R → (R → Prop) → Prop := fun x y K => sh 60 x.d = true ∧ sh 60 y.d = true ∧ K (.v (.bl (neg != eqD x.d y.d)))
theorem shaped_of {n : Nat} {d : D} {v : V} (hs : sh n d = true) (hn : n ≤ 64) (h : Rep W H d v) : SeqAt.shaped (pyD d) = true := by
  obtain ⟨_, h2, h3⟩ := dp_of n d hs h
  unfold SeqAt.shaped
  rw [h2, decide_eq_true (by omega : (pyD d).depth ≤ 64)]; rfl
theorem os_eq : OpS W (rEqD W.K) (eqS false) := by
  intro Hd H0 A H σ δ x y vx vy K Q e rx ry hs q
  obtain ⟨h1, h2, hk⟩ := hs
  refine ⟨pyD x.d, pyD y.d, (dp_of _ _ h1 rx.rd).1, (dp_of _ _ h2 ry.rd).1, shaped_of h1 (by decide) rx.rd, shaped_of h2 (by decide) ry.rd, q.bl e ?_⟩
  simpa [eqD] using hk
theorem os_ne : OpS W (rNeD W.K) (eqS true) := by
  intro Hd H0 A H σ δ x y vx vy K Q e rx ry hs q
  obtain ⟨h1, h2, hk⟩ := hs
  refine ⟨pyD x.d, pyD y.d, (dp_of _ _ h1 rx.rd).1, (dp_of _ _ h2 ry.rd).1, shaped_of h1 (by decide) rx.rd, shaped_of h2 (by decide) ry.rd, q.bl e ?_⟩
  simpa [eqD] using hk

/-! in, not in -/
def flatD : D → Bool
  | .non => true
  | .bl _ => true
  | .int _ => true
  | .str _ => true
  | _ => false
/-- == of flat data -/
theorem flat_of {d : D} {v : V} (f : flatD d = true) (h : Rep W H d v) : flatV v = true := by
  cases d <;> first | (rw [Rep] at h; subst h; rfl) | (rw [Rep] at h; obtain ⟨rfl, _⟩ := h; rfl) | cases f
theorem eqV_of {d e : D} {v u : V} (f : flatD d = true) (g : flatD e = true) (h : Rep W H d v) (h' : Rep W H e u) : eqV v u = eqD d e := by
  cases d <;> cases f <;> (rw [Rep] at h) <;> cases e <;> cases g <;> (rw [Rep] at h') <;> simp_all [eqV, eqD, pyD, PyData.eqv]
def inD (x : D) (ys : List D) : Bool := ys.any fun y => eqD y x
theorem inV_of {x : D} {v : V} (f : flatD x = true) (h : Rep W H x v) : ∀ {ys : List D} {us : List V}, (ys.all flatD) = true → RepL W H ys us → us.all flatV = true ∧ inV v us = inD x ys
  | [], _, _, h' => by
    rw [RepL] at h'; subst h'
    exact ⟨rfl, rfl⟩
  | y :: ys, _, g, h' => by
    rw [RepL] at h'
    obtain ⟨u, r, rfl, h1, h2⟩ := h'
    rw [List.all_cons, Bool.and_eq_true] at g
    obtain ⟨q1, q2⟩ := inV_of f h g.2 h2
    refine ⟨?_, ?_⟩
    · rw [List.all_cons, flat_of g.1 h1, q1]; rfl
    · have q2' : (r.any fun y => eqV y v) = ys.any fun y => eqD y x := q2
      show ((u :: r).any fun y => eqV y v) = ((y :: ys).any fun y => eqD y x)
      rw [List.any_cons, List.any_cons, q2', eqV_of g.1 f h1 h]
def keyD : D → Option Key
  | .int i => some (.inl i)
  | .str s => some (.inr s)
  | _ => none
theorem keyD_of {d : D} {v : V} {k : Key} (h : Rep W H d v) (e : keyD d = some k) : v = kV k := by
  cases d <;> cases e
  · rw [Rep] at h; exact h
  · rw [Rep] at h; exact h.1
def getK (kds : List (Key × D)) (k : Key) : Option D := (kds.find? fun kv => decide (kv.1 = k)).map (·.2)
theorem getK_none {kds : List (Key × D)} {kvs : List (Key × V)} (h : RepK W H kds kvs) (k : Key) : (valV kvs k = none ↔ getK kds k = none) ∧ ∀ v, valV kvs k = some v → ∃ d, getK kds k = some d ∧ Rep W H d v := by
  induction kds generalizing kvs with
  | nil => rw [RepK] at h; subst h; exact ⟨by simp [valV, getK], by simp [valV]⟩
  | cons p r ih =>
    obtain ⟨k', d⟩ := p
    rw [RepK] at h
    obtain ⟨v, r', rfl, h1, h2⟩ := h
    by_cases e : k' = k
    · rw [valV_pos (p := (k', v)) e]
      have g : getK ((k', d) :: r) k = some d := by simp [getK, e]
      rw [g]
      exact ⟨by simp, fun u hu => by cases hu; exact ⟨d, rfl, h1⟩⟩
    · rw [valV_neg (p := (k', v)) e]
      have g : getK ((k', d) :: r) k = getK r k := by simp [getK, e]
      rw [g]
      exact ih h2
theorem getK_some {kds : List (Key × D)} {kvs : List (Key × V)} {k : Key} {d : D} (h : RepK W H kds kvs) (e : getK kds k = some d) : ∃ v, valV kvs k = some v ∧ Rep W H d v := by
  obtain ⟨h1, h2⟩ := getK_none h k
  cases q : valV kvs k with
  | none => rw [h1.mp q] at e; cases e
  | some v =>
    obtain ⟨d', e', r⟩ := h2 v q
    rw [e] at e'; cases e'
    exact ⟨v, rfl, r⟩
theorem getK_isSome {kds : List (Key × D)} {kvs : List (Key × V)} (h : RepK W H kds kvs) (k : Key) : (valV kvs k).isSome = (getK kds k).isSome := by
  obtain ⟨h1, h2⟩ := getK_none h k
  cases q : valV kvs k with
  | none => rw [h1.mp q]; rfl
  | some v =>
    obtain ⟨d', e', r⟩ := h2 v q
    rw [e']; rfl
def inStr (s t : Str) : Bool := !(Builtin.Str.occurrences t s 0 t.length 1).isEmpty
def inS (neg : Bool) : R → R → (R → Prop) → Prop := fun x y K => match y.d with
  | .lst ys => flatD x.d = true ∧ ys.all flatD = true ∧ K (.v (.bl (neg != inD x.d ys)))
  | .tup ys => flatD x.d = true ∧ ys.all flatD = true ∧ K (.v (.bl (neg != inD x.d ys)))
  | .dic kds => ∃ k, keyD x.d = some k ∧ K (.v (.bl (neg != (getK kds k).isSome)))
  | .str t => ∃ s, x.d = .str s ∧ K (.v (.bl (neg != inStr s t)))
  | _ => False
def rDIn (neg : Bool) : R2 := fun x y H Q => ∃ a o, y = .ref a ∧ DGet H a x o ∧ Q (.bl (neg != o.isSome)) H
theorem op_dIn (hu : X.A.units + 1 < cLine) : OpR X (compareOp .In) (rDIn false) := by
  intro pins s σ H x y v u Q I rx ry h
  obtain ⟨a, o, rfl, g, q⟩ := h
  cases ry
  exact d_in hu I g rx fun s' I' => ⟨.bl o.isSome, H, I', rfl, by simpa using q⟩
theorem op_dNotIn (hu : X.A.units + 1 < cLine) : OpR X (compareOp .NotIn) (rDIn true) := by
  intro pins s σ H x y v u Q I rx ry h
  obtain ⟨a, o, rfl, g, q⟩ := h
  cases ry
  exact d_notIn hu I g rx fun s' I' => ⟨.bl (!o.isSome), H, I', rfl, by simpa using q⟩
def rInA (K : PySem.W.Frag) (neg : Bool) : R2 := fun x y H Q => rIn K neg x y H Q ∨ rDIn neg x y H Q ∨ ∃ i j, x = .str i ∧ y = .str j ∧ Q (.bl (neg != inStr i j)) H
theorem op_inA (hu : X.A.units + 1 < cLine) : OpR X (compareOp .In) (rInA X.K false) := by
  refine op_in_seq.or ((op_dIn hu).or ?_)
  intro pins s σ H x y v u Q I rx ry h
  obtain ⟨i, j, h1, h2, h3⟩ := h
  exact op_in_str pins s σ H x y v u Q I rx ry ⟨i, j, h1, h2, by simpa [inStr] using h3⟩
theorem op_notInA (hu : X.A.units + 1 < cLine) : OpR X (compareOp .NotIn) (rInA X.K true) := by
  refine op_notIn_seq.or ((op_dNotIn hu).or ?_)
  intro pins s σ H x y v u Q I rx ry h
  obtain ⟨i, j, h1, h2, h3⟩ := h
  exact op_notin_str pins s σ H x y v u Q I rx ry ⟨i, j, h1, h2, by simpa [inStr] using h3⟩
theorem os_in {neg : Bool} : OpS W (rInA W.K neg) (inS neg) := by
  intro Hd H0 A H σ δ x y vx vy K Q e rx ry hs q
  unfold inS at hs
  split at hs
  · rename_i ys h1
    obtain ⟨f1, f2, hk⟩ := hs
    obtain ⟨a, vs, a1, a2, a3⟩ := ry.lst h1
    obtain ⟨b1, b2⟩ := inV_of f1 rx.rd f2 (a3.mono fz_le.ex)
    refine .inl ⟨a, vs, a1, .inl (.of a2), flat_of f1 rx.rd, b1, q.bl e ?_⟩
    rw [b2]
    cases neg <;> simpa using hk
  · rename_i ys h1
    obtain ⟨f1, f2, hk⟩ := hs
    obtain ⟨a, vs, a1, a2, a3⟩ := ry.tup h1
    obtain ⟨b1, b2⟩ := inV_of f1 rx.rd f2 (a3.mono fz_le.ex)
    refine .inl ⟨a, vs, a1, .inr a2, flat_of f1 rx.rd, b1, q.bl e ?_⟩
    rw [b2]
    cases neg <;> simpa using hk
  · rename_i kds h1
    obtain ⟨k, hk, hk2⟩ := hs
    obtain ⟨a, vs, a1, a2, a3⟩ := ry.dic h1
    refine .inr (.inl ⟨a, _, a1, .inl ⟨vs, k, a2, keyD_of rx.rd hk, rfl⟩, q.bl e ?_⟩)
    rw [getK_isSome a3]
    exact hk2
  · rename_i t h1
    obtain ⟨s, hs, hk⟩ := hs
    exact .inr (.inr ⟨s, t, (rx.str hs).1, (ry.str h1).1, q.bl e hk⟩)
  · exact hs.elim
/-! is, is not: None, truths -/
def isNon : D → Bool
  | .non => true
  | _ => false
theorem isNon_of {d : D} {v : V} (h : Rep W H d v) : decide (v = .non) = isNon d := by
  cases d <;> rw [Rep] at h
  · subst h; rfl
  · subst h; rfl
  · subst h; rfl
  · obtain ⟨rfl, _⟩ := h; rfl
  · obtain ⟨a, _, rfl, _⟩ := h; rfl
  · obtain ⟨a, _, rfl, _⟩ := h; rfl
  · obtain ⟨a, _, rfl, _⟩ := h; rfl
  · obtain ⟨a, _, _, _, rfl, _⟩ := h; rfl
  · obtain ⟨a, _, rfl, _⟩ := h; rfl
  · obtain ⟨a, _, rfl, _⟩ := h; rfl
  · obtain ⟨a, rfl, _⟩ := h; rfl
def isS (neg : Bool) : R → R → (R → Prop) → Prop := fun x y K => match y.d with
  | .non => K (.v (.bl (neg != isNon x.d)))
  | .bl b => ∃ a, x.d = .bl a ∧ K (.v (.bl (neg != (a == b))))
  | _ => False
def rIsA (neg : Bool) : R2 := fun x y H Q => (y = .non ∧ Q (.bl (neg != decide (x = .non))) H) ∨ ∃ a b : Bool, x = .bl a ∧ y = .bl b ∧ Q (.bl (neg != (a == b))) H
theorem op_isA : OpR X (compareOp .Is) (rIsA false) := by
  intro pins s σ H x y v u Q I rx ry h
  rcases h with ⟨h1, h2⟩ | ⟨a, b, h1, h2, h3⟩
  · exact op_isN pins s σ H x y v u Q I rx ry ⟨h1, by simpa using h2⟩
  · refine op_isBl pins s σ H x y v u Q I rx ry ⟨a, b, h1, h2, ?_⟩
    cases a <;> cases b <;> exact h3
theorem op_isnotA : OpR X (compareOp .IsNot) (rIsA true) := by
  intro pins s σ H x y v u Q I rx ry h
  rcases h with ⟨h1, h2⟩ | ⟨a, b, h1, h2, h3⟩
  · exact op_notN pins s σ H x y v u Q I rx ry ⟨h1, by simpa using h2⟩
  · refine op_notBl pins s σ H x y v u Q I rx ry ⟨a, b, h1, h2, ?_⟩
    cases a <;> cases b <;> exact h3
theorem os_is {neg : Bool} : OpS W (rIsA neg) (isS neg) := by
  intro Hd H0 A H σ δ x y vx vy K Q e rx ry hs q
  unfold isS at hs
  split at hs
  · rename_i h1
    refine .inl ⟨ry.non h1, q.bl e ?_⟩
    rw [isNon_of rx.rd]; exact hs
  · rename_i b h1
    obtain ⟨a, h2, hk⟩ := hs
    exact .inr ⟨a, b, rx.bl h2, ry.bl h1, q.bl e hk⟩
  · exact hs.elim

/-! ### the table of operators -/
def binS : Operator → R → R → (R → Prop) → Prop
  | .Add => addS
  | .Sub => subS
  | .Mult => mulS
  | .FloorDiv => divS
  | .Mod => intS (fun _ j => 0 < j) fun i j => i % j
  | .Pow => intS CPow fun i j => i ^ j.toNat
  | .LShift => intS CPow fun i j => i * 2 ^ j.toNat
  | .RShift => intS (fun _ j => 0 ≤ j) fun i j => i / 2 ^ j.toNat
  | .BitAnd => intS0 Builtin.bitAnd
  | .BitOr => intS0 Builtin.bitOr
  | _ => fun _ _ _ => False
def opOkB : Operator → Bool
  | .Add | .Sub | .Mult | .FloorDiv | .Mod | .Pow | .LShift | .RShift | .BitAnd | .BitOr => true
  | _ => false
theorem bin_all (g : Good W N sc k E X) {op : Operator} (h : opOkB op = true) : ∃ r, OpR X (binaryOp op) r ∧ OpS W r (binS op) := by
  cases op <;> first | cases h | skip
  · exact ⟨_, op_addA, by rw [g.hK]; exact os_add⟩
  · exact ⟨_, op_sub, os_sub⟩
  · exact ⟨_, op_mulA, os_mul⟩
  · exact ⟨_, op_mod, os_int⟩
  · exact ⟨_, op_pow, os_int⟩
  · exact ⟨_, op_shl, os_int⟩
  · exact ⟨_, op_shr, os_int⟩
  · exact ⟨_, op_or, os_int0⟩
  · exact ⟨_, op_and, os_int0⟩
  · exact ⟨_, op_divA, os_div⟩
def relS : CmpOp → R → R → (R → Prop) → Prop
  | .Eq => eqS false
  | .NotEq => eqS true
  | .Lt => cmpS fun i j => decide (i < j)
  | .LtE => cmpS fun i j => decide (i ≤ j)
  | .Gt => cmpS fun i j => decide (j < i)
  | .GtE => cmpS fun i j => decide (j ≤ i)
  | .Is => isS false
  | .IsNot => isS true
  | .In => inS false
  | .NotIn => inS true
theorem rel_all (g : Good W N sc k E X) (op : CmpOp) : ∃ r, OpR X (compareOp op) r ∧ OpS W r (relS op) := by
  cases op
  · exact ⟨_, op_eqD g.room.units, by rw [g.hK]; exact os_eq⟩
  · exact ⟨_, op_neD g.room.units, by rw [g.hK]; exact os_ne⟩
  · exact ⟨_, op_lt, os_cmp⟩
  · exact ⟨_, op_le, os_cmp⟩
  · exact ⟨_, op_gt, os_cmp⟩
  · exact ⟨_, op_ge, os_cmp⟩
  · exact ⟨_, op_isA, os_is⟩
  · exact ⟨_, op_isnotA, os_is⟩
  · exact ⟨_, op_inA (hu_of g.room), by rw [g.hK]; exact os_in⟩
  · exact ⟨_, op_notInA (hu_of g.room), by rw [g.hK]; exact os_in⟩
end
end G
set_option maxRecDepth 100000
set_option maxHeartbeats 4000000
namespace G
open PySem PySem.Spec PyProof.Rows L2
section
variable {W : Wd} {Hd : Addr → Prop} {H0 H : Hp} {A : Nat → Option Addr} {σ : St} {δ : Env} {K : R → Prop} {Q : VK} {X : Cx} {E : XK} {N : List Str} {sc : Scope} {k : Nat}
variable {a b c : Expr} {wa wb wc : WE} {pos : Pos}

/-! ### one operand -/
def wNeg (wa : WE) : WE := fun δ K X => wa δ (fun x => ∃ i, x.d = .int i ∧ K (.v (.int (-i)))) X
theorem ew_neg (ha : PEW W E X a wa) : PEW W E X (.UnaryOp .USub a pos) (wNeg wa) := by
  obtain ⟨ta, pa, ea⟩ := ha
  refine ⟨_, pe_un un_neg pa, ?_⟩
  intro Hd H0 A H σ δ K X Q e hw q x
  refine ea Hd H0 A H σ δ _ X _ e hw (fun v H1 rx k1 s1 r1 h1 => ?_) x
  obtain ⟨i, hi, hk⟩ := h1
  exact ⟨i, r1.int hi, (q.from k1 s1).int (e.keep k1 s1) hk⟩

/-! ### chains -/
def wChain (o1 o2 : CmpOp) (wa wb wc : WE) : WE := fun δ K X => wa δ (fun x => wb δ (fun y => relS o1 x y fun z => ∃ t, z.d = .bl t ∧ if t = true then wc δ (fun u => relS o2 y u K) X else K (.v (.bl false))) X) X
theorem ev_chain {r r' : R2} {o1 o2 : CmpOp} {ta tb tc : TE} (h1 : OpS W r (relS o1)) (h2 : OpS W r' (relS o2)) (ea : EvE W E ta wa) (eb : EvE W E tb wb) (ec : EvE W E tc wc) : EvE W E (tChain r r' ta tb tc) (wChain o1 o2 wa wb wc) := by
  intro Hd H0 A H σ δ K X Q e hw q x
  refine ea Hd H0 A H σ δ _ X _ e hw (fun v H1 rx k1 s1 r1 g1 => ?_) x
  have e1 := e.keep k1 s1
  refine eb Hd H0 A H1 σ δ _ X _ e1 g1 (fun u H2 ry k2 s2 r2 g2 => ?_) (x.keep k1)
  have e2 := e1.keep k2 s2
  refine h1 Hd H0 A H2 σ δ rx ry v u _ _ e2 (r1.opn.keep e1 k2) r2.opn g2 (fun z H3 rz k3 s3 r3 g3 => ?_)
  have e3 := e2.keep k3 s3
  obtain ⟨t, ht, g3⟩ := g3
  refine ⟨t, r3.bl ht, ?_⟩
  cases t with
  | false => exact (q.from ((k1.trans k2).trans k3) s3).bl e3 g3
  | true =>
    refine ec Hd H0 A H3 σ δ _ X _ e3 g3 (fun w' H4 rw' k4 s4 r4 g4 => ?_) (x.keep ((k1.trans k2).trans k3))
    exact h2 Hd H0 A H4 σ δ ry rw' u w' K Q (e3.keep k4 s4) ((r2.opn.keep e2 k3).keep e3 k4) r4.opn g4 (q.from (((k1.trans k2).trans k3).trans k4) s4)
theorem nomark2 {o1 o2 : CmpOp} (h : behindInMarks o2 c = false) : lastMarks [o1, o2] [b, c] = false := h
theorem ew_chain {o1 o2 : CmpOp} (g : Good W N sc k E X) (hm : behindInMarks o2 c = false) (ha : PEW W E X a wa) (hb : PEW W E X b wb) (hc : PEW W E X c wc) : PEW W E X (.Compare a [o1, o2] [b, c] pos) (wChain o1 o2 wa wb wc) := by
  obtain ⟨ta, pa, ea⟩ := ha
  obtain ⟨tb, pb, eb⟩ := hb
  obtain ⟨tc, pc, ec⟩ := hc
  obtain ⟨r, h1, h2⟩ := rel_all g o1
  obtain ⟨r', h3, h4⟩ := rel_all g o2
  exact ⟨_, pe_chain h1 h3 pa pb pc (nomark2 hm), ev_chain h2 h4 ea eb ec⟩

/-! ### tests -/
def wT (w : WE) : WT := fun δ K X => w δ (fun r => ∃ b, r.d = .bl b ∧ K b) X
theorem et_test {te : TE} {w : WE} (h : EvE W E te w) : EvT W E (tTest te) (wT w) := by
  intro Hd H0 A H σ δ K X Q e hw q x
  refine h Hd H0 A H σ δ _ X _ e hw (fun v H1 rx k1 s1 r1 h1 => ?_) x
  obtain ⟨b, hb, hk⟩ := h1
  exact ⟨b, r1.bl hb, q b H1 k1 s1 hk⟩
theorem et_B {te : TE} {w : WE} (h : EvE W E te w) : EvT W E (tB te) (wT w) := et_test h
def plainT : Expr → Bool
  | .UnaryOp .Not _ _ => false
  | .BoolOp _ _ _ => false
  | .IfExp _ _ _ _ => false
  | .Compare _ _ _ _ => false
  | _ => true
theorem plainT_is {e : Expr} {env : PySem.Env} (h : plainT e = true) : ∀ whole, isTrue e env whole = (do let v ← whole; standAt e.pos; holding [v] (truthy v)) := by
  intro whole
  cases e with
  | UnaryOp op x p => cases op <;> first | rfl | cases h
  | BoolOp _ _ _ => cases h
  | IfExp _ _ _ _ => cases h
  | Compare _ _ _ _ => cases h
  | _ => rfl
theorem tw_val {e : Expr} {w : WE} (hp : plainT e = true) (h : PEW W E X e w) : PTW W E X e (wT w) := by
  obtain ⟨te, pe, ev⟩ := h
  exact ⟨_, pt_val pe (plainT_is hp), et_B ev⟩
theorem tw_cmp {op : CmpOp} (g : Good W N sc k E X) (hm : behindInMarks op b = false) (ha : PEW W E X a wa) (hb : PEW W E X b wb) : PTW W E X (.Compare a [op] [b] pos) (wT (wOp (relS op) wa wb)) := by
  obtain ⟨ta, pa, ea⟩ := ha
  obtain ⟨tb, pb, eb⟩ := hb
  obtain ⟨r, h1, h2⟩ := rel_all g op
  exact ⟨_, pt_cmpR h1 pa pb hm, et_test (ev_op h2 ea eb)⟩
theorem tw_chain {o1 o2 : CmpOp} (g : Good W N sc k E X) (hm : behindInMarks o2 c = false) (ha : PEW W E X a wa) (hb : PEW W E X b wb) (hc : PEW W E X c wc) : PTW W E X (.Compare a [o1, o2] [b, c] pos) (wT (wChain o1 o2 wa wb wc)) := by
  obtain ⟨ta, pa, ea⟩ := ha
  obtain ⟨tb, pb, eb⟩ := hb
  obtain ⟨tc, pc, ec⟩ := hc
  obtain ⟨r, h1, h2⟩ := rel_all g o1
  obtain ⟨r', h3, h4⟩ := rel_all g o2
  exact ⟨_, pt_chain h1 h3 pa pb pc (nomark2 hm), et_test (ev_chain h2 h4 ea eb ec)⟩
def wNot (w : WE) : WE := fun δ K X => w δ (fun r => ∃ b, r.d = .bl b ∧ K (.v (.bl (!b)))) X
def wAnd (wa wb : WE) : WE := fun δ K X => wa δ (fun r => ∃ t, r.d = .bl t ∧ if t = true then wb δ K X else K (.v (.bl false))) X
def wOr (wa wb : WE) : WE := fun δ K X => wa δ (fun r => ∃ t, r.d = .bl t ∧ if t = true then K (.v (.bl true)) else wb δ K X) X
theorem tw_not (ha : PTW W E X a (wT wa)) : PTW W E X (.UnaryOp .Not a pos) (wT (wNot wa)) := by
  obtain ⟨ta, pa, ea⟩ := ha
  refine ⟨_, pt_not pa, ?_⟩
  intro Hd H0 A H σ δ K X Q e hw q x
  refine ea Hd H0 A H σ δ (fun b => K (!b)) X _ e ?_ (fun v H1 k1 s1 h1 => q _ H1 k1 s1 h1) x
  have : wNot wa δ (fun r => ∃ b, r.d = .bl b ∧ K b) X = wa δ (fun r => ∃ b, r.d = .bl b ∧ K (!b)) X := by
    unfold wNot
    congr 1
    funext r
    apply propext
    constructor
    · rintro ⟨b, h1, b', h2, h3⟩
      cases h2
      exact ⟨b, h1, h3⟩
    · rintro ⟨b, h1, h3⟩
      exact ⟨b, h1, !b, rfl, h3⟩
  show wa δ _ X
  rw [← this]
  exact hw
theorem ew_not (ha : PEW W E X a wa) : PEW W E X (.UnaryOp .Not a pos) (wNot wa) := by
  obtain ⟨ta, pa, ea⟩ := ha
  refine ⟨_, pe_not pa, ?_⟩
  intro Hd H0 A H σ δ K X Q e hw q x
  refine ea Hd H0 A H σ δ _ X _ e hw (fun v H1 rx k1 s1 r1 h1 => ?_) x
  obtain ⟨b, hb, hk⟩ := h1
  exact ⟨b, r1.bl hb, (q.from k1 s1).bl (e.keep k1 s1) hk⟩
/-- a test of and, or, whatever the whole is -/
def PWW (W : Wd) (E : XK) (X : Cx) (e : Expr) (w : WT) : Prop := ∃ te, PW X e te ∧ EvT W E te w
theorem ww_one {op : BoolOp} (ha : PTW W E X a (wT wa)) : PWW W E X (.BoolOp op [a] pos) (wT wa) := by
  obtain ⟨ta, pa, ea⟩ := ha
  cases op
  · exact ⟨_, pw_and1 pa, ea⟩
  · exact ⟨_, pw_or1 pa, ea⟩
theorem ww_and {rest : List Expr} (ha : PTW W E X a (wT wa)) (hb : PWW W E X (.BoolOp .And (b :: rest) pos) (wT wb)) : PWW W E X (.BoolOp .And (a :: b :: rest) pos) (wT (wAnd wa wb)) := by
  obtain ⟨ta, pa, ea⟩ := ha
  obtain ⟨tb, pb, eb⟩ := hb
  refine ⟨_, pw_and pa pb, ?_⟩
  intro Hd H0 A H σ δ K X Q e hw q x
  refine ea Hd H0 A H σ δ (fun t => if t = true then wT wb δ K X else K false) X _ e ?_ (fun v H1 k1 s1 h1 => ?_) x
  · have : ∀ r : R, (∃ t, r.d = .bl t ∧ if t = true then wb δ (fun r => ∃ b, r.d = .bl b ∧ K b) X else (fun r : R => ∃ b, r.d = .bl b ∧ K b) (.v (.bl false))) = (∃ t, r.d = .bl t ∧ if t = true then wT wb δ K X else K false) := by
      intro r
      apply propext
      constructor
      · rintro ⟨t, h1, h2⟩
        refine ⟨t, h1, ?_⟩
        cases t with
        | true => exact h2
        | false =>
          obtain ⟨b, e1, e2⟩ := h2
          cases e1
          exact e2
      · rintro ⟨t, h1, h2⟩
        refine ⟨t, h1, ?_⟩
        cases t with
        | true => exact h2
        | false => exact ⟨false, rfl, h2⟩
    show wa δ _ X
    rw [← funext this]
    exact hw
  · cases v with
    | true => exact eb Hd H0 A H1 σ δ K X Q (e.keep k1 s1) h1 (fun b H2 k2 s2 h2 => q b H2 (k1.trans k2) s2 h2) (x.keep k1)
    | false => exact q false H1 k1 s1 h1
theorem ww_or {rest : List Expr} (ha : PTW W E X a (wT wa)) (hb : PWW W E X (.BoolOp .Or (b :: rest) pos) (wT wb)) : PWW W E X (.BoolOp .Or (a :: b :: rest) pos) (wT (wOr wa wb)) := by
  obtain ⟨ta, pa, ea⟩ := ha
  obtain ⟨tb, pb, eb⟩ := hb
  refine ⟨_, pw_or pa pb, ?_⟩
  intro Hd H0 A H σ δ K X Q e hw q x
  refine ea Hd H0 A H σ δ (fun t => if t = true then K true else wT wb δ K X) X _ e ?_ (fun v H1 k1 s1 h1 => ?_) x
  · have : ∀ r : R, (∃ t, r.d = .bl t ∧ if t = true then (fun r : R => ∃ b, r.d = .bl b ∧ K b) (.v (.bl true)) else wb δ (fun r => ∃ b, r.d = .bl b ∧ K b) X) = (∃ t, r.d = .bl t ∧ if t = true then K true else wT wb δ K X) := by
      intro r
      apply propext
      constructor
      · rintro ⟨t, h1, h2⟩
        refine ⟨t, h1, ?_⟩
        cases t with
        | false => exact h2
        | true =>
          obtain ⟨b, e1, e2⟩ := h2
          cases e1
          exact e2
      · rintro ⟨t, h1, h2⟩
        refine ⟨t, h1, ?_⟩
        cases t with
        | false => exact h2
        | true => exact ⟨true, rfl, h2⟩
    show wa δ _ X
    rw [← funext this]
    exact hw
  · cases v with
    | false => exact eb Hd H0 A H1 σ δ K X Q (e.keep k1 s1) h1 (fun b H2 k2 s2 h2 => q b H2 (k1.trans k2) s2 h2) (x.keep k1)
    | true => exact q true H1 k1 s1 h1
theorem PWW.pt {e : Expr} {w : WT} (h : PWW W E X e w) : PTW W E X e w := by
  obtain ⟨te, pe, ev⟩ := h
  exact ⟨te, pe.pt, ev⟩
theorem ew_one {op : BoolOp} (ha : PEW W E X a wa) : PEW W E X (.BoolOp op [a] pos) wa := by
  obtain ⟨ta, pa, ea⟩ := ha
  exact ⟨_, pe_one pa, ea⟩
theorem ew_and {rest : List Expr} (ha : PEW W E X a wa) (hb : PEW W E X (.BoolOp .And (b :: rest) pos) wb) : PEW W E X (.BoolOp .And (a :: b :: rest) pos) (wAnd wa wb) := by
  obtain ⟨ta, pa, ea⟩ := ha
  obtain ⟨tb, pb, eb⟩ := hb
  refine ⟨_, pe_and pa pb, ?_⟩
  intro Hd H0 A H σ δ K X Q e hw q x
  refine ea Hd H0 A H σ δ _ X _ e hw (fun v H1 rx k1 s1 r1 h1 => ?_) x
  obtain ⟨t, ht, h1⟩ := h1
  refine ⟨t, r1.bl ht, ?_⟩
  cases t with
  | true => exact eb Hd H0 A H1 σ δ K X Q (e.keep k1 s1) h1 (q.from k1 s1) (x.keep k1)
  | false => exact (q.from k1 s1).bl (e.keep k1 s1) h1
theorem ew_or {rest : List Expr} (ha : PEW W E X a wa) (hb : PEW W E X (.BoolOp .Or (b :: rest) pos) wb) : PEW W E X (.BoolOp .Or (a :: b :: rest) pos) (wOr wa wb) := by
  obtain ⟨ta, pa, ea⟩ := ha
  obtain ⟨tb, pb, eb⟩ := hb
  refine ⟨_, pe_or pa pb, ?_⟩
  intro Hd H0 A H σ δ K X Q e hw q x
  refine ea Hd H0 A H σ δ _ X _ e hw (fun v H1 rx k1 s1 r1 h1 => ?_) x
  obtain ⟨t, ht, h1⟩ := h1
  refine ⟨t, r1.bl ht, ?_⟩
  cases t with
  | true => exact (q.from k1 s1).bl (e.keep k1 s1) h1
  | false => exact eb Hd H0 A H1 σ δ K X Q (e.keep k1 s1) h1 (q.from k1 s1) (x.keep k1)
def wIf (wt wa wb : WE) : WE := fun δ K X => wt δ (fun r => ∃ t, r.d = .bl t ∧ if t = true then wa δ K X else wb δ K X) X
theorem ew_ife (ht : PTW W E X c (wT wc)) (ha : PEW W E X a wa) (hb : PEW W E X b wb) : PEW W E X (.IfExp c a b pos) (wIf wc wa wb) := by
  obtain ⟨tc, pc, ec⟩ := ht
  obtain ⟨ta, pa, ea⟩ := ha
  obtain ⟨tb, pb, eb⟩ := hb
  refine ⟨_, pe_ifExp pc pa pb, ?_⟩
  intro Hd H0 A H σ δ K X Q e hw q x
  refine ec Hd H0 A H σ δ (fun t => if t = true then wa δ K X else wb δ K X) X _ e hw (fun t H1 k1 s1 h1 => ?_) x
  cases t with
  | true => exact ea Hd H0 A H1 σ δ K X Q (e.keep k1 s1) h1 (q.from k1 s1) (x.keep k1)
  | false => exact eb Hd H0 A H1 σ δ K X Q (e.keep k1 s1) h1 (q.from k1 s1) (x.keep k1)

/-! ### arguments, displays -/
def wNil : WA := fun _ K _ => K []
def wCons (wa : WE) (wr : WA) : WA := fun δ K X => wa δ (fun x => wr δ (fun rs => K (x :: rs)) X) X
def noStar : Expr → Bool
  | .Starred _ _ => false
  | _ => true
theorem star_is {e : Expr} {es : List Expr} {env : PySem.Env} (h : noStar e = true) : starEach (e :: es) env = (false, eval e env) :: starEach es env := by
  cases e <;> first | rfl | cases h
theorem aw_nil : PAW W E X [] wNil := ⟨_, pa_nil, fun _ _ _ H _ _ _ _ _ e hw q _ => q [] H [] (Kx.refl H) e.st .nil hw⟩
theorem aw_cons {es : List Expr} {wr : WA} (hn : noStar a = true) (ha : PEW W E X a wa) (hr : PAW W E X es wr) : PAW W E X (a :: es) (wCons wa wr) := by
  obtain ⟨ta, pa, ea⟩ := ha
  obtain ⟨tr, pr, er⟩ := hr
  refine ⟨_, pa_cons pa pr (star_is hn), ?_⟩
  intro Hd H0 A H σ δ K X Q e hw q x
  refine ea Hd H0 A H σ δ _ X _ e hw (fun v H1 rx k1 s1 r1 h1 => ?_) x
  have e1 := e.keep k1 s1
  refine er Hd H0 A H1 σ δ _ X _ e1 h1 (fun vs H2 rs k2 s2 r2 h2 => ?_) (x.keep k1)
  exact q _ H2 _ (k1.trans k2) s2 (.cons (r1.opn.keep e1 k2) r2) h2
def allFr (rs : List R) : Bool := rs.all R.fr
def dsOf (rs : List R) : List D := rs.map R.d
theorem RepRs.frz {vs : List V} {rs : List R} (h : RepRs W Hd A H δ vs rs) (f : allFr rs = true) : RepL W (fz (Rsv W Hd A) H) (dsOf rs) vs := by
  induction h with
  | nil => exact .nil
  | cons r _ ih =>
    unfold allFr at f
    rw [List.all_cons, Bool.and_eq_true] at f
    exact .cons (r.frz f.1) (ih f.2)
theorem RepRs.len {vs : List V} {rs : List R} (h : RepRs W Hd A H δ vs rs) : vs.length = rs.length := by
  induction h with
  | nil => rfl
  | cons _ _ ih => rw [List.length_cons, List.length_cons, ih]
def wTup (wr : WA) : WE := fun δ K X => wr δ (fun rs => allFr rs = true ∧ rs.length ≤ big ∧ K (.v (.tup (dsOf rs)))) X
def wLst (wr : WA) : WE := fun δ K X => wr δ (fun rs => allFr rs = true ∧ rs.length ≤ big ∧ K (.own (.lst (dsOf rs)))) X
theorem ew_tup {es : List Expr} {wr : WA} {j : Nat} (h : PAW W E X es wr) : PEW W E X (.Tuple es j pos) (wTup wr) := by
  obtain ⟨tr, pr, er⟩ := h
  refine ⟨_, pe_tup pr, ?_⟩
  intro Hd H0 A H σ δ K X Q e hw q x
  refine er Hd H0 A H σ δ _ X _ e hw (fun vs H1 rs k1 s1 r1 h1 => ?_) x
  obtain ⟨f, hl, hk⟩ := h1
  exact ⟨by rw [r1.len]; exact big_le hl, fun p hp => (q.from k1 s1).newT (e.keep k1 s1) (r1.frz f) hk hp⟩
theorem ew_lst {es : List Expr} {wr : WA} (h : PAW W E X es wr) : PEW W E X (.List es pos) (wLst wr) := by
  obtain ⟨tr, pr, er⟩ := h
  refine ⟨_, pe_lst pr, ?_⟩
  intro Hd H0 A H σ δ K X Q e hw q x
  refine er Hd H0 A H σ δ _ X _ e hw (fun vs H1 rs k1 s1 r1 h1 => ?_) x
  obtain ⟨f, hl, hk⟩ := h1
  exact ⟨by rw [r1.len]; exact big_le hl, fun p hp => (q.from k1 s1).newL (e.keep k1 s1) (r1.frz f) hk hp⟩

/-! ### subscripts -/
def rIxD : R2 := fun x y H Q => ∃ a v, x = .ref a ∧ DGet H a y (some v) ∧ Q v H
theorem ix_dict (hu : X.A.units + 1 < cLine) : IxR X rIxD := by
  intro value slice pins s σ H x y v u Q I rx ry h hs
  obtain ⟨a, z, rfl, g, q⟩ := h
  obtain rfl : v = Value.ref a := rx
  exact tail_any (ops := [.ref a, u]) (dict_typeIs I g) PySem.F.slot_dict_getitem.lookup (d_getItem hu I g ry fun w' s3 I3 rw' => ⟨z, H, I3, rw', q⟩) hs
def ixS : R → R → (R → Prop) → Prop := fun x y K => match x.d with
  | .lst xs => ∃ i d, y.d = .int i ∧ atI xs i = some d ∧ K (.v d)
  | .tup xs => ∃ i d, y.d = .int i ∧ atI xs i = some d ∧ K (.v d)
  | .str s => ∃ i c, y.d = .int i ∧ s.length ≤ big ∧ atI s.cps.toList i = some c ∧ K (.v (.str ⟨#[c]⟩))
  | .dic kds => ∃ k d, keyD y.d = some k ∧ getK kds k = some d ∧ K (.v d)
  | .st l => (y.d = .int 0 ∧ K (.v (.stc l))) ∨ (y.d = .int 1 ∧ ∀ n : Int, 0 ≤ n → K (.v (.int n))) ∨ (y.d = .int 2 ∧ ∀ n : Int, 0 ≤ n → n < 2147483647 → K (.v (.int n)))
  | .stc l => 1 ≤ l → l ≤ 63 → ∃ i : Int, y.d = .int i ∧ 0 ≤ i ∧ i < l ∧ ∀ z : Int, 0 ≤ z → z.natAbs < 2 ^ 1048577 → K (.v (.int z))
  | _ => False
theorem atI_rep {F : Hp} {xs : List D} {vs : List V} {i : Int} {d : D} (h : RepL W F xs vs) (e : atI xs i = some d) : ∃ v, atI vs i = some v ∧ Rep W F d v := by
  unfold atI at e ⊢
  rw [h.length]
  cases q : ixN xs.length i with
  | none => rw [q] at e; cases e
  | some j =>
    rw [q] at e
    exact h.get e
theorem strOk_at {s : Str} {c : Nat} (h : PyData.strOk s = true) (hc : c ∈ s.cps.toList) : PyData.strOk ⟨#[c]⟩ = true := by
  unfold PyData.strOk at *
  rw [← Array.all_toList, List.all_eq_true] at h
  have := h c hc
  simpa using this
theorem atI_mem {α : Type} {xs : List α} {i : Int} {v : α} (h : atI xs i = some v) : v ∈ xs := by
  obtain ⟨j, _, h2, _⟩ := atI_get h
  exact List.mem_of_getElem? h2
theorem os_ix : OpS W (fun x y H Q => rIx W.K x y H Q ∨ rIxD x y H Q) ixS := by
  intro Hd H0 A H σ δ x y vx vy K Q e rx ry hs q
  unfold ixS at hs
  split at hs
  · rename_i xs h1
    obtain ⟨i, d, h2, h3, hk⟩ := hs
    obtain ⟨a, vs, a1, a2, a3⟩ := rx.lst h1
    obtain ⟨v, b1, b2⟩ := atI_rep a3 h3
    exact .inl (.inl ⟨a, vs, i, v, a1, ry.int h2, .of a2, b1, q.at e b2 hk⟩)
  · rename_i xs h1
    obtain ⟨i, d, h2, h3, hk⟩ := hs
    obtain ⟨a, vs, a1, a2, a3⟩ := rx.tup h1
    obtain ⟨v, b1, b2⟩ := atI_rep a3 h3
    exact .inl (.inr (.inl ⟨a, vs, i, v, a1, ry.int h2, a2, b1, q.at e b2 hk⟩))
  · rename_i s h1
    obtain ⟨i, c, h2, hl, h3, hk⟩ := hs
    obtain ⟨a1, a2⟩ := rx.str h1
    exact .inl (.inr (.inr ⟨s, i, c, a1, ry.int h2, big_le hl, h3, q.str e (strOk_at a2 (atI_mem h3)) hk⟩))
  · rename_i kds h1
    obtain ⟨kk, d, h2, h3, hk⟩ := hs
    obtain ⟨a, vs, a1, a2, a3⟩ := rx.dic h1
    obtain ⟨v, b1, b2⟩ := getK_some a3 h3
    exact .inr ⟨a, v, a1, .inl ⟨vs, kk, a2, keyD_of ry.rd h2, b1.symm⟩, q.at e b2 hk⟩
  · rename_i l h1
    have h' := rx.rd
    rw [h1, Rep] at h'
    obtain ⟨a, c, rfl, a2, a3⟩ := h'
    obtain ⟨_, n, h, cells, b1, b2, b3, b4, b5, _⟩ := e.st.at a2
    rcases hs with ⟨h2, hk⟩ | ⟨h2, hk⟩ | ⟨h2, hk⟩
    · exact .inl (.inl ⟨a, _, 0, .ref c, rfl, ry.int h2, .of b1, rfl, q.at e (by rw [Rep]; exact ⟨a, c, rfl, a2, a3⟩) hk⟩)
    · exact .inl (.inl ⟨a, _, 1, .int n, rfl, ry.int h2, .of b1, rfl, q.int e (hk n b3)⟩)
    · exact .inl (.inl ⟨a, _, 2, .int h, rfl, ry.int h2, .of b1, rfl, q.int e (hk h b4 b5)⟩)
  · rename_i l h1
    have h' := rx.rd
    rw [h1, Rep] at h'
    obtain ⟨a, c, rfl, a2, a3⟩ := h'
    obtain ⟨_, n, h, cells, b1, b2, b3, b4, b5, b6, b7, b8, b9⟩ := e.st.at a2
    obtain ⟨i, h2, h3, h4, hk⟩ := hs (by omega) (by omega)
    have hi : i.toNat < cells.length := by omega
    have hz := List.getElem?_eq_getElem hi
    obtain ⟨z1, z2⟩ := b9 _ (List.getElem_mem hi)
    refine .inl (.inl ⟨c, _, i, .int cells[i.toNat], rfl, ry.int h2, .of b2, ?_, q.int e (hk _ z1 z2)⟩)
    have ix : ixN (cells.map V.int).length i = some i.toNat := by
      rw [List.length_map]
      unfold ixN
      rw [if_pos h3, if_pos (by omega)]
    unfold atI
    rw [ix]
    show (cells.map V.int)[i.toNat]? = _
    rw [List.getElem?_map, hz]; rfl
  · exact hs.elim
def noSlice : Expr → Bool
  | .Slice _ _ _ _ => false
  | _ => true
theorem plainIx_of {e : Expr} (h : noSlice e = true) : PlainIx e := by
  intro o i
  cases e <;> first | rfl | cases h
theorem ew_ix (g : Good W N sc k E X) (hn : noSlice b = true) (ha : PEW W E X a wa) (hb : PEW W E X b wb) : PEW W E X (.Subscript a b pos) (wOp ixS wa wb) := by
  obtain ⟨ta, pa, ea⟩ := ha
  obtain ⟨tb, pb, eb⟩ := hb
  refine ⟨_, pe_ix (ix_seq.or (ix_dict (hu_of g.room))) pa pb (plainIx_of hn), ?_⟩
  rw [g.hK]
  exact ev_op os_ix ea eb

/-! slices -/
abbrev WO := Env → (Option Int → Prop) → (Xn → Prop) → Prop
def EvO (W : Wd) (E : XK) (te : TO) (w : WO) : Prop := ∀ (Hd : Addr → Prop) (H0 : Hp) (A : Nat → Option Addr) (H : Hp) (σ : St) (δ : Env) (K : Option Int → Prop) (X : Xn → Prop) (Q : Option Int → Hp → Prop), EnvOk W Hd H0 A H σ δ → w δ K X →
  (∀ o H', Kx W H H' → StOk W H' → K o → Q o H') → XOk W Hd H X E → te σ H Q
def POW (W : Wd) (E : XK) (X : Cx) (e : Option Expr) (w : WO) : Prop := ∃ te, PO X e te ∧ EvO W E te w
def wNoPart : WO := fun _ K _ => K none
def wPart (wa : WE) : WO := fun δ K X => wa δ (fun x => ∃ i, x.d = .int i ∧ K (some i)) X
theorem ow_none : POW W E X none wNoPart := ⟨_, po_none, fun _ _ _ H _ _ _ _ _ e hw q _ => q none H (Kx.refl H) e.st hw⟩
theorem ow_some (ha : PEW W E X a wa) : POW W E X (some a) (wPart wa) := by
  obtain ⟨ta, pa, ea⟩ := ha
  refine ⟨_, po_some pa, ?_⟩
  intro Hd H0 A H σ δ K X Q e hw q x
  refine ea Hd H0 A H σ δ _ X _ e hw (fun v H1 rx k1 s1 r1 h1 => ?_) x
  obtain ⟨i, hi, hk⟩ := h1
  exact ⟨i, r1.int hi, q _ H1 k1 s1 hk⟩
def cutL {α : Type} (xs : List α) (lo hi : Option Int) : List α := (xs.drop (HT.sIx xs.length 0 lo)).take (HT.sIx xs.length xs.length hi - HT.sIx xs.length 0 lo)
theorem cut_rep {F : Hp} {xs : List D} {vs : List V} (h : RepL W F xs vs) (lo hi : Option Int) : RepL W F (cutL xs lo hi) (cutV vs lo hi) := by
  unfold cutL cutV
  rw [h.length]
  exact (h.drop _).take _
def slS : R → Option Int → Option Int → (R → Prop) → Prop := fun x lo hi K => match x.d with
  | .lst xs => K (.own (.lst (cutL xs lo hi)))
  | .tup xs => K (.v (.tup (cutL xs lo hi)))
  | .str s => s.length ≤ big ∧ K (.v (.str (cutS s lo hi)))
  | .scr ns => K (.own (.lst ((cutL ns lo hi).map D.int)))
  | _ => False
def wSl (wa : WE) (wl wh : WO) : WE := fun δ K X => wa δ (fun x => wl δ (fun lo => wh δ (fun hi => slS x lo hi K) X) X) X
theorem RepL.ints {F : Hp} : ∀ ns : List Int, RepL W F (ns.map D.int) (ns.map V.int)
  | [] => .nil
  | n :: ns => .cons (by rw [Rep]) (RepL.ints ns)
theorem strOk_cut {s : Str} (h : PyData.strOk s = true) (lo hi : Option Int) : PyData.strOk (cutS s lo hi) = true := by
  unfold PyData.strOk cutS at *
  rw [← Array.all_toList, List.all_eq_true] at h
  rw [← Array.all_toList, List.all_eq_true]
  intro x hx
  exact h x (List.mem_of_mem_drop (List.mem_of_mem_take (by simpa using hx)))
theorem ew_sl {lo hi : Option Expr} {wl wh : WO} {p2 : Pos} (g : Good W N sc k E X) (ha : PEW W E X a wa) (hl : POW W E X lo wl) (hh : POW W E X hi wh) : PEW W E X (.Subscript a (.Slice lo hi none p2) pos) (wSl wa wl wh) := by
  obtain ⟨ta, pa, ea⟩ := ha
  obtain ⟨tl, pl, el⟩ := hl
  obtain ⟨th, ph, eh⟩ := hh
  refine ⟨_, pe_slice (sl_list.or (sl_tupA.or sl_str)) pa pl ph, ?_⟩
  rw [g.hK]
  intro Hd H0 A H σ δ K X Q e hw q x
  refine ea Hd H0 A H σ δ _ X _ e hw (fun v H1 rx k1 s1 r1 h1 => ?_) x
  have e1 := e.keep k1 s1
  refine el Hd H0 A H1 σ δ _ X _ e1 h1 (fun l H2 k2 s2 h2 => ?_) (x.keep k1)
  have e2 := e1.keep k2 s2
  refine eh Hd H0 A H2 σ δ _ X _ e2 h2 (fun u H3 k3 s3 h3 => ?_) (x.keep (k1.trans k2))
  have e3 := e2.keep k3 s3
  have rx3 := (r1.opn.keep e1 k2).keep e2 k3
  have q3 := q.from ((k1.trans k2).trans k3) s3
  unfold slS at h3
  split at h3
  · rename_i xs h
    obtain ⟨a, vs, a1, a2, a3⟩ := rx3.lst h
    exact .inl ⟨a, vs, a1, .of a2, fun p hp => q3.newL e3 (cut_rep a3 l u) h3 hp⟩
  · rename_i xs h
    obtain ⟨a, vs, a1, a2, a3⟩ := rx3.tup h
    refine .inr (.inl ⟨a, vs, a1, a2, fun z => ?_, fun _ p hp => q3.newT e3 (cut_rep a3 l u) h3 hp⟩)
    have : cutL xs l u = xs := by
      unfold cutL
      rw [a3.length] at z
      rw [z.1, z.2]
      simp
    rw [this] at h3
    rw [← a1]
    exact q3.at e3 (rx3.tupF h) h3
  · rename_i s h
    obtain ⟨a1, a2⟩ := rx3.str h
    exact .inr (.inr ⟨s, a1, big_le h3.1, q3.str e3 (strOk_cut a2 l u) h3.2⟩)
  · rename_i ns h
    have h' := rx3.rd
    rw [h, Rep] at h'
    obtain ⟨a, a1, a2⟩ := h'
    refine .inl ⟨a, _, a1, a2, fun p hp => q3.newL e3 ?_ h3 hp⟩
    have : cutV (ns.map V.int) l u = (cutL ns l u).map V.int := by
      unfold cutV cutL
      rw [List.length_map, List.map_take, List.map_drop]
    rw [this]
    exact .ints _
  · exact h3.elim
end
end G
set_option maxRecDepth 100000
set_option maxHeartbeats 4000000
namespace G
open PySem PySem.Spec PyProof.Rows L2
section
variable {W : Wd} {Hd : Addr → Prop} {H0 H : Hp} {A : Nat → Option Addr} {σ : St} {δ : Env} {K : R → Prop} {Q : VK} {X : Cx} {E : XK} {N : List Str} {sc : Scope} {k : Nat}
variable {a b c : Expr} {wa wb wc : WE} {pos p : Pos}

/-! ### built-ins by name -/
def CallS (W : Wd) (r : List V → Hp → VK → Prop) (sem : List R → (R → Prop) → Prop) : Prop := ∀ (Hd : Addr → Prop) (H0 : Hp) (A : Nat → Option Addr) (H : Hp) (σ : St) (δ : Env) (rs : List R) (vs : List V) (K : R → Prop) (Q : VK),
  EnvOk W Hd H0 A H σ δ → RepRs W Hd A H δ vs rs → sem rs K → QOk W Hd A H δ K Q → r vs H Q
def wBlt (sem : List R → (R → Prop) → Prop) (wr : WA) : WE := fun δ K X => wr δ (fun rs => sem rs K) X
theorem ev_blt {r : List V → Hp → VK → Prop} {sem : List R → (R → Prop) → Prop} {ta : TA} {wr : WA} (hs : CallS W r sem) (ha : EvA W E ta wr) : EvE W E (tCB r ta) (wBlt sem wr) := by
  intro Hd H0 A H σ δ K X Q e hw q x
  refine ha Hd H0 A H σ δ _ X _ e hw (fun vs H1 rs k1 s1 r1 h1 => ?_) x
  exact hs Hd H0 A H1 σ δ rs vs K Q (e.keep k1 s1) r1 h1 (q.from k1 s1)
theorem star_none {es : List Expr} {env : PySem.Env} (h : es.all noStar = true) : (backTo pos (starEach es env)).any (·.1) = false := by
  induction es with
  | nil => rfl
  | cons e es ih =>
    rw [List.all_cons, Bool.and_eq_true] at h
    rw [star_is h.1]
    show (_ || (backTo pos (starEach es env)).any (·.1)) = false
    rw [ih h.2]; rfl
inductive Bv where
  | f (id : String) | t (id : String)
def Bv.val : Bv → Value
  | .f id => .builtin id
  | .t id => .type id
theorem ew_blt {es : List Expr} {x : Str} {v : Bv} {r : List V → Hp → VK → Prop} {sem : List R → (R → Prop) → Prop} {wr : WA} (g : Good W N sc k E X) (hx : glB sc x = true) (hm : W.mg x = none) (hv : bootBuiltins x = some v.val) (hn : x ≠ "__name__") (hdb : (x == ("__debug__" : Str)) = false)
    (hc : CallR X v.val r) (hs : CallS W r sem) (st : (a :: es).all noStar = true) (ha : PAW W E X (a :: es) wr) : PEW W E X (.Call (.Name x p) (a :: es) [] pos) (wBlt sem wr) := by
  obtain ⟨ta, pa, ea⟩ := ha
  rw [List.all_cons, Bool.and_eq_true] at st
  cases v with
  | f id => exact ⟨_, pe_callB hc (g.gl x hx) (by rw [g.hm]; exact hm) hv pa hn hdb (star_is st.1) (star_none st.2), ev_blt hs ea⟩
  | t id => exact ⟨_, pe_callTy hc (g.gl x hx) (by rw [g.hm]; exact hm) hv pa hn hdb (star_is st.1) (star_none st.2), ev_blt hs ea⟩

theorem RepRs.one {r : R} {vs : List V} (h : RepRs W Hd A H δ vs [r]) : ∃ v, vs = [v] ∧ RepR W Hd A emp H δ v r := by
  cases h with
  | cons h t => cases t; exact ⟨_, rfl, h⟩
theorem RepRs.two {r r' : R} {vs : List V} (h : RepRs W Hd A H δ vs [r, r']) : ∃ v v', vs = [v, v'] ∧ RepR W Hd A emp H δ v r ∧ RepR W Hd A emp H δ v' r' := by
  cases h with
  | cons h t =>
    cases t with
    | cons h' t => cases t; exact ⟨_, _, rfl, h, h'⟩
/-! len -/
def lenS : List R → (R → Prop) → Prop := fun rs K => ∃ x, rs = [x] ∧ match x.d with
  | .lst xs => K (.v (.int xs.length))
  | .tup xs => K (.v (.int xs.length))
  | .str s => s.length ≤ big ∧ K (.v (.int s.length))
  | .dic xs => K (.v (.int xs.length))
  | .scr xs => K (.v (.int xs.length))
  | .stc l => 1 ≤ l → l ≤ 63 → K (.v (.int l))
  | _ => False
def rLenD : List V → Hp → VK → Prop := fun xs H Q => ∃ a kvs, xs = [.ref a] ∧ Rd H a (.dK kvs) ∧ Q (.int kvs.length) H
theorem call_lenR : CallR X (.builtin "len") rLenD := by
  intro pins s σ H xs us Q I r h
  obtain ⟨a, kvs, rfl, h1, q⟩ := h
  obtain ⟨u, rfl, rx⟩ := vals1 r
  cases rx
  exact d_len I h1 fun t s' I' => ⟨.int _, H, I', ⟨t, rfl⟩, q⟩
theorem RepK.length : ∀ {ds : List (Key × D)} {vs : List (Key × V)}, RepK W H ds vs → vs.length = ds.length
  | [], _, h => by rw [RepK] at h; rw [h]; rfl
  | (_, d) :: ds, _, h => by
    rw [RepK] at h
    obtain ⟨v, r, e1, e2, e3⟩ := h
    rw [e1, List.length_cons, List.length_cons, RepK.length e3]
theorem cs_len : CallS W (fun xs H Q => (∃ x n, xs = [x] ∧ LenV W.K x H n ∧ Q (.int n) H) ∨ rLenD xs H Q) lenS := by
  intro Hd H0 A H σ δ rs vs K Q e rr hs q
  obtain ⟨x, rfl, hs⟩ := hs
  obtain ⟨v, rfl, r⟩ := rr.one
  split at hs
  · rename_i xs h1
    obtain ⟨a, vs, rfl, a2, a3⟩ := r.lst h1
    exact .inl ⟨_, xs.length, rfl, .inl ⟨vs, .of a2, a3.length.symm⟩, q.int e hs⟩
  · rename_i xs h1
    obtain ⟨a, vs, rfl, a2, a3⟩ := r.tup h1
    exact .inl ⟨_, xs.length, rfl, .inr ⟨vs, a2, a3.length.symm⟩, q.int e hs⟩
  · rename_i s h1
    obtain ⟨rfl, a2⟩ := r.str h1
    exact .inl ⟨_, s.length, rfl, ⟨big_le hs.1, rfl⟩, q.int e hs.2⟩
  · rename_i xs h1
    obtain ⟨a, vs, rfl, a2, a3⟩ := r.dic h1
    refine .inr ⟨a, vs, rfl, a2, ?_⟩
    rw [a3.length]
    exact q.int e hs
  · rename_i xs h1
    have h' := r.rd
    rw [h1, Rep] at h'
    obtain ⟨a, rfl, a2⟩ := h'
    exact .inl ⟨_, xs.length, rfl, .inl ⟨_, a2, by rw [List.length_map]⟩, q.int e hs⟩
  · rename_i l h1
    have h' := r.rd
    rw [h1, Rep] at h'
    obtain ⟨a, c, rfl, a2, a3⟩ := h'
    obtain ⟨_, n, h, cells, b1, b2, b3, b4, b5, b6, b7, b8, b9⟩ := e.st.at a2
    exact .inl ⟨_, l, rfl, .inl ⟨_, .of b2, by rw [List.length_map]; omega⟩, q.int e (hs (by omega) (by omega))⟩
  · exact hs.elim
/-! abs, min, max -/
def absS : List R → (R → Prop) → Prop := fun rs K => ∃ x i, rs = [x] ∧ x.d = .int i ∧ K (.v (.int i.natAbs))
theorem cs_abs : CallS W (fun xs H Q => ∃ i, xs = [.int i] ∧ Q (.int (if i < 0 then -i else i)) H) absS := by
  intro Hd H0 A H σ δ rs vs K Q e rr hs q
  obtain ⟨x, i, rfl, h1, hk⟩ := hs
  obtain ⟨v, rfl, r⟩ := rr.one
  cases r.int h1
  refine ⟨i, rfl, ?_⟩
  have : (if i < 0 then -i else i) = (i.natAbs : Int) := by split <;> omega
  rw [this]
  exact q.int e hk
def mnmxS (mx : Bool) : List R → (R → Prop) → Prop := fun rs K => ∃ x y i j, rs = [x, y] ∧ x.d = .int i ∧ y.d = .int j ∧ K (.v (.int (if mx then max i j else min i j)))
theorem cs_max : CallS W (fun xs H Q => ∃ i j, xs = [.int i, .int j] ∧ Q (.int (if j > i then j else i)) H) (mnmxS true) := by
  intro Hd H0 A H σ δ rs vs K Q e rr hs q
  obtain ⟨x, y, i, j, rfl, h1, h2, hk⟩ := hs
  obtain ⟨v, v', rfl, r, r'⟩ := rr.two
  cases r.int h1
  cases r'.int h2
  refine ⟨i, j, rfl, ?_⟩
  have : (if j > i then j else i) = max i j := by split <;> omega
  rw [this]
  exact q.int e hk
theorem cs_min : CallS W (fun xs H Q => ∃ i j, xs = [.int i, .int j] ∧ Q (.int (if j < i then j else i)) H) (mnmxS false) := by
  intro Hd H0 A H σ δ rs vs K Q e rr hs q
  obtain ⟨x, y, i, j, rfl, h1, h2, hk⟩ := hs
  obtain ⟨v, v', rfl, r, r'⟩ := rr.two
  cases r.int h1
  cases r'.int h2
  refine ⟨i, j, rfl, ?_⟩
  have : (if j < i then j else i) = min i j := by split <;> omega
  rw [this]
  exact q.int e hk
/-! sum, all, any of a list -/
theorem RepL.toInts {F : Hp} : ∀ {ns : List Int} {vs : List V}, RepL W F (ns.map D.int) vs → vs = ns.map V.int
  | [], _, h => by rw [List.map_nil, RepL] at h; exact h
  | n :: ns, _, h => by
    rw [List.map_cons, RepL] at h
    obtain ⟨v, r, rfl, h1, h2⟩ := h
    rw [Rep] at h1
    rw [h1, RepL.toInts h2]; rfl
theorem RepL.toBls {F : Hp} : ∀ {ns : List Bool} {vs : List V}, RepL W F (ns.map D.bl) vs → vs = ns.map V.bl
  | [], _, h => by rw [List.map_nil, RepL] at h; exact h
  | n :: ns, _, h => by
    rw [List.map_cons, RepL] at h
    obtain ⟨v, r, rfl, h1, h2⟩ := h
    rw [Rep] at h1
    rw [h1, RepL.toBls h2]; rfl
theorem RepL.toStrs {F : Hp} : ∀ {ns : List Str} {vs : List V}, RepL W F (ns.map D.str) vs → vs = ns.map V.str ∧ ∀ s ∈ ns, PyData.strOk s = true
  | [], _, h => by rw [List.map_nil, RepL] at h; exact ⟨h, fun s hs => by cases hs⟩
  | n :: ns, _, h => by
    rw [List.map_cons, RepL] at h
    obtain ⟨v, r, rfl, h1, h2⟩ := h
    rw [Rep] at h1
    obtain ⟨q1, q2⟩ := RepL.toStrs h2
    rw [h1.1, q1]
    refine ⟨rfl, fun s hs => ?_⟩
    rcases List.mem_cons.mp hs with rfl | hs
    · exact h1.2
    · exact q2 s hs
theorem RepL.ofStrs {F : Hp} : ∀ {ns : List Str}, (∀ s ∈ ns, PyData.strOk s = true) → RepL W F (ns.map D.str) (ns.map V.str)
  | [], _ => .nil
  | n :: ns, h => .cons (by rw [Rep]; exact ⟨rfl, h n List.mem_cons_self⟩) (RepL.ofStrs fun s hs => h s (List.mem_cons_of_mem _ hs))
def sumS : List R → (R → Prop) → Prop := fun rs K => ∃ (x : R) (ns : List Int), rs = [x] ∧ x.d = .lst (ns.map D.int) ∧ K (.v (.int ns.sum))
theorem cs_sum : CallS W (rSum W.K) sumS := by
  intro Hd H0 A H σ δ rs vs K Q e rr hs q
  obtain ⟨x, ns, rfl, h1, hk⟩ := hs
  obtain ⟨v, rfl, r⟩ := rr.one
  obtain ⟨a, vs, rfl, a2, a3⟩ := r.lst h1
  cases a3.toInts
  exact ⟨a, ns, rfl, .of a2, q.int e hk⟩
def allS (any : Bool) : List R → (R → Prop) → Prop := fun rs K => ∃ (x : R) (bs : List Bool), rs = [x] ∧ x.d = .lst (bs.map D.bl) ∧ K (.v (.bl (if any then bs.any id else bs.all id)))
theorem cs_all : CallS W (rAll W.K) (allS false) := by
  intro Hd H0 A H σ δ rs vs K Q e rr hs q
  obtain ⟨x, ns, rfl, h1, hk⟩ := hs
  obtain ⟨v, rfl, r⟩ := rr.one
  obtain ⟨a, vs, rfl, a2, a3⟩ := r.lst h1
  cases a3.toBls
  exact ⟨a, ns, rfl, .of a2, q.bl e hk⟩
theorem cs_any : CallS W (rAny W.K) (allS true) := by
  intro Hd H0 A H σ δ rs vs K Q e rr hs q
  obtain ⟨x, ns, rfl, h1, hk⟩ := hs
  obtain ⟨v, rfl, r⟩ := rr.one
  obtain ⟨a, vs, rfl, a2, a3⟩ := r.lst h1
  cases a3.toBls
  exact ⟨a, ns, rfl, .of a2, q.bl e hk⟩
/-! list, tuple -/
def listS : List R → (R → Prop) → Prop := fun rs K => ∃ x, rs = [x] ∧ match x.d with
  | .lst xs => K (.own (.lst xs))
  | .tup xs => K (.own (.lst xs))
  | _ => False
theorem cs_list : CallS W (fun xs H Q => ∃ p ys, xs = [.ref p] ∧ (SqL W.K H p ys ∨ SqT W.K H p ys) ∧ ∀ l, H l = none → Q (.ref l) (upd H l (.lst ys))) listS := by
  intro Hd H0 A H σ δ rs vs K Q e rr hs q
  obtain ⟨x, rfl, hs⟩ := hs
  obtain ⟨v, rfl, r⟩ := rr.one
  split at hs
  · rename_i xs h1
    obtain ⟨a, vs, rfl, a2, a3⟩ := r.lst h1
    exact ⟨a, vs, rfl, .inl (.of a2), fun l hl => q.newL e a3 hs hl⟩
  · rename_i xs h1
    obtain ⟨a, vs, rfl, a2, a3⟩ := r.tup h1
    exact ⟨a, vs, rfl, .inr a2, fun l hl => q.newL e a3 hs hl⟩
  · exact hs.elim
def tupleS : List R → (R → Prop) → Prop := fun rs K => ∃ x, rs = [x] ∧ match x.d with
  | .lst xs => K (.v (.tup xs))
  | .tup xs => K (.v (.tup xs))
  | _ => False
theorem cs_tuple : CallS W (fun xs H Q => ∃ p ys, xs = [.ref p] ∧ ((SqL W.K H p ys ∧ ∀ l, H l = none → Q (.ref l) (upd H l (.tup ys))) ∨ (SqT W.K H p ys ∧ Q (.ref p) H))) tupleS := by
  intro Hd H0 A H σ δ rs vs K Q e rr hs q
  obtain ⟨x, rfl, hs⟩ := hs
  obtain ⟨v, rfl, r⟩ := rr.one
  split at hs
  · rename_i xs h1
    obtain ⟨a, vs, rfl, a2, a3⟩ := r.lst h1
    exact ⟨a, vs, rfl, .inl ⟨.of a2, fun l hl => q.newT e a3 hs hl⟩⟩
  · rename_i xs h1
    obtain ⟨a, vs, rfl, a2, a3⟩ := r.tup h1
    exact ⟨a, vs, rfl, .inr ⟨a2, q.at e (r.tupF h1) hs⟩⟩
  · exact hs.elim
/-! sorted -/
def sortS : List R → (R → Prop) → Prop := fun rs K => ∃ x, rs = [x] ∧
  ((∃ ns : List Int, x.d = .lst (ns.map D.int) ∧ ∀ ms : List Int, ms.Perm ns → ms.Pairwise (· ≤ ·) → K (.own (.lst (ms.map D.int)))) ∨
   (∃ ns : List Str, x.d = .lst (ns.map D.str) ∧ ns.length < 64 ∧ ∀ ms : List Str, ms.Perm ns → sortedS ms = true → K (.own (.lst (ms.map D.str)))) ∨
   (∃ (kds : List (Key × D)) (ns : List Int), x.d = .dic kds ∧ kds.map (·.1) = ns.map Sum.inl ∧ ∀ ms : List Int, ms.Perm ns → ms.Pairwise (· ≤ ·) → K (.own (.lst (ms.map D.int)))) ∨
   (∃ ns : List Str, x.d = .tup (ns.map D.str) ∧ ns.length < 64 ∧ ∀ ms : List Str, ms.Perm ns → sortedS ms = true → K (.own (.lst (ms.map D.str)))) ∨
   (∃ (kds : List (Key × D)) (ns : List Str), x.d = .dic kds ∧ kds.map (·.1) = ns.map Sum.inr ∧ ns.length < 64 ∧ (∀ n ∈ ns, PyData.strOk n = true) ∧ ∀ ms : List Str, ms.Perm ns → sortedS ms = true → K (.own (.lst (ms.map D.str)))))
def rSortedDI : List V → Hp → VK → Prop := fun xs H Q => ∃ (a : Addr) (kvs : List (Key × V)) (ks : List Int), xs = [.ref a] ∧ Rd H a (.dK kvs) ∧ kvs.map (·.1) = ks.map Sum.inl ∧
    ∀ (ys : List Int) (p : Addr), ys.Perm ks → ys.Pairwise (· ≤ ·) → H p = none → Q (.ref p) (upd H p (.lst (ys.map V.int)))
theorem call_sortedDA (hcalm : X.calm = true) : CallR X (.builtin "sorted") rSortedDI := by
  intro pins s σ H xs us Q I r q
  obtain ⟨a, kvs, ks, ex, hd, hks, q⟩ := q
  subst ex
  obtain ⟨u, eu, rx⟩ := vals1 r
  subst eu
  cases rx
  obtain ⟨z, lo, vs, rel, dd⟩ := dk_rd I.hok hd
  obtain ⟨ep, hat⟩ := dd.dictAt
  have hkeys : vs.map (·.1) = ks.map Sum.inl := rel.keys.symm.trans hks
  have hl : vs.length = ks.length := by
    have e := congrArg List.length hkeys
    rw [List.length_map, List.length_map] at e
    exact e
  have h16 : vs.length ≤ sizeLine := by rw [← rel.length]; exact z
  refine Calls.call_function_entry PyProof.Rows.kind_sorted PyProof.Rows.plain_sorted PyProof.Rows.entry_sorted (PyProof.Rows.args_sorted1 _) ?_
  unfold Builtin.«sorted»
  refine wpAny_bind (m := checkCount "sorted" 1 1 _) (wpAny_pure ?_)
  refine wpAny_bind (PySem.W.kdu_collect (A := X.A.in1) (PySem.W.kdl_dict (knd := mixKind X.prog X.w) (kvs := vs) (ep := ep) lo) (I.ok.hd hcalm) hat h16 fun h' tk acc hk hacc => ?_)
  have hal : acc.toList.length = ks.length := by rw [Array.length_toList, hacc.1, hl]
  have hS : IntsAre acc.toList ks := ints_each hal fun j v e => by
    obtain ⟨k, x, e1, e2⟩ := hacc.2 j v (by rw [← Array.getElem?_toList]; exact e)
    have e3 : (vs.map (·.1))[j]? = some k := by rw [List.getElem?_map, e1]; rfl
    rw [hkeys, List.getElem?_map] at e3
    cases e4 : ks[j]? with
    | none => rw [e4] at e3; cases e3
    | some y =>
      rw [e4] at e3
      have e5 : Sum.inl y = k := Option.some.inj e3
      subst e5
      rcases keyIs_shape (show keyIs (Sum.inl y) v = true from e2) with ⟨i, t, ek, ev⟩ | ⟨z, t, ek, ev⟩
      · cases ek
        exact ⟨y, t, rfl, ev⟩
      · cases ek
  have I1 : Inv X pins σ H { s with heap := h', toks := tk } := I.kept hk
  have hz2 : acc.toList.length ≤ sizeLine := by rw [hal, ← hl]; exact h16
  refine wpAny_bind (wpAny_newList ?_ hz2)
  have hoL : (h'.push (seqObj "list" acc.toList.toArray 0)).get? h'.objs.size = some (seqObj "list" acc.toList.toArray 0) := Heap.get?_push_size _ rfl
  show wpAny _ _ _ _ _ { s with heap := h'.push (seqObj "list" acc.toList.toArray 0), toks := tk }
  refine wpAny_bind (wpAny_holding (wpAny_call_entry PyProof.Rows.slot_list_sort ⟨_, hoL, rfl⟩ PyProof.Rows.entry_list_sort
    (SrtO.list_sort_ord (s := { s with heap := h'.push (seqObj "list" acc.toList.toArray 0), toks := tk }) SrtO.swo_int hoL hz2 (fun h2 => SrtO.ints_sortable hS h2) fun out g1 g2 => ⟨_, rfl, ?_⟩) (PyProof.Rows.args_list_sort _)))
  obtain ⟨k1, k2, k3⟩ := SrtO.ints_out hS g1 g2
  obtain ⟨e', he'⟩ := PyProof.Rows.sortedHeap_at (vs := acc.toList) (out := out.toArray) hoL
  have hlen : ((out.map SrtO.iv).map V.int).length ≤ sizeLine := by
    rw [List.length_map, k2.length_eq, ← hal]
    exact hz2
  refine wpAny_pure ⟨_, rfl, .ref h'.objs.size, upd H h'.objs.size (.lst ((out.map SrtO.iv).map V.int)), I1.laid (t' := tk) (fun b u e => ?_) (Nat.le_refl _)
    ⟨hlen, out, e', vals_of_ints k1, he'⟩, rfl, q _ _ k2 k3 (I1.hok.fresh (Nat.le_refl _))⟩
  have old : b < h'.objs.size := Heap.lt_size e
  rw [PyProof.Rows.sortedHeap_old (Nat.ne_of_lt old) (by rw [size_push']; exact Nat.lt_succ_of_lt old)]
  exact Heap.get?_push_of_some _ e
/-- sorted of a tuple of texts -/
def rSortedTS (K : PySem.W.Frag) : List V → Hp → VK → Prop := fun vs H Q => ∃ (a : Addr) (xs : List Str), vs = [V.ref a] ∧ SqT K H a (xs.map V.str) ∧ xs.length < 64 ∧
  ∀ (ys : List Str) (p : Addr), ys.Perm xs → sortedS ys = true → H p = none → Q (.ref p) (upd H p (.lst (ys.map V.str)))
theorem call_sortedT : CallR X (.builtin "sorted") (rSortedTS X.K) := by
  intro pins s σ H xs us Q I r q
  obtain ⟨a, ks, ex, hd, h64, q⟩ := q
  subst ex
  obtain ⟨u, eu, rx⟩ := vals1 r
  subst eu
  cases rx
  obtain ⟨its, rv, ⟨o, ho, hc, n, hdt⟩, hz⟩ := I.tuple hd
  have hal : its.length = ks.length := by rw [← rv.length, List.length_map]
  have hS : StrsAre its ks := rv.strs
  refine Calls.call_function_entry PyProof.Rows.kind_sorted PyProof.Rows.plain_sorted PyProof.Rows.entry_sorted (PyProof.Rows.args_sorted1 _) ?_
  unfold Builtin.«sorted»
  refine wpAny_bind (m := checkCount "sorted" 1 1 _) (wpAny_pure ?_)
  refine wpAny_bind (wpAny_collect_seq (A := X.A.in1) a (.inr rfl) ho hc hdt (fun h' hk => ?_) (by rw [List.size_toArray, hal, sizeLine_eq]; omega))
  have I1 : Inv X pins σ H { s with heap := h' } := I.kept hk
  refine wpAny_bind (wpAny_newList ?_ (by show its.length ≤ _; rw [hal, sizeLine_eq]; omega))
  have hoL : (h'.push (seqObj "list" its.toArray 0)).get? h'.objs.size = some (seqObj "list" its.toArray 0) := Heap.get?_push_size _ rfl
  show wpAny _ _ _ _ _ { s with heap := h'.push (seqObj "list" its.toArray 0) }
  refine wpAny_bind (wpAny_holding (wpAny_call_entry PyProof.Rows.slot_list_sort ⟨_, hoL, rfl⟩ PyProof.Rows.entry_list_sort
    (list_sort_treeK strKind_oneLt (s := { s with heap := h'.push (seqObj "list" its.toArray 0) }) hoL hS.keysOf (fun v₁ v₂ rest e => keyKind_strs (by rw [← e]; exact hS)) (by rw [hal]; exact h64) fun st' hp hs => ⟨_, rfl, ?_⟩)
    (PyProof.Rows.args_list_sort _)))
  obtain ⟨ys, g1, g2, g3⟩ := sorted_out_str hS hp hs
  obtain ⟨e', he'⟩ := PyProof.Rows.sortedHeap_at (vs := its) (out := (arrOf st').map (·.2)) hoL
  have hlen : (ys.map V.str).length ≤ sizeLine := by
    rw [List.length_map, g2.length_eq]
    exact Nat.le_trans (Nat.le_of_lt h64) (by decide)
  refine wpAny_pure ⟨_, rfl, .ref h'.objs.size, upd H h'.objs.size (.lst (ys.map V.str)), I1.laid (t' := s.toks) (fun b u e => ?_) (Nat.le_refl _)
    (show ObjOk X.prog X.w _ _ _ (.lst (ys.map V.str)) from ⟨hlen, ((arrOf st').map (·.2)).toList, e', vals_of_strs g1, by rw [Array.toArray_toList]; exact he'⟩), rfl, q ys _ g2 g3 (I1.hok.fresh (Nat.le_refl _))⟩
  have hb : b < h'.objs.size := Heap.lt_size e
  rw [PyProof.Rows.sortedHeap_old (Nat.ne_of_lt hb) (by rw [size_push']; exact Nat.lt_succ_of_lt hb)]
  exact Heap.get?_push_of_some _ e
/-- sorted of a dict whose keys are texts -/
def rSortedDS : List V → Hp → VK → Prop := fun xs H Q => ∃ (a : Addr) (kvs : List (Key × V)) (ks : List Str), xs = [.ref a] ∧ Rd H a (.dK kvs) ∧ kvs.map (·.1) = ks.map Sum.inr ∧ ks.length < 64 ∧
    ∀ ys p, ys.Perm ks → sortedS ys = true → H p = none → Q (.ref p) (upd H p (.lst (ys.map V.str)))
theorem RepK.keys : ∀ {ds : List (Key × D)} {vs : List (Key × V)}, RepK W H ds vs → vs.map (·.1) = ds.map (·.1)
  | [], _, h => by rw [RepK] at h; rw [h]; rfl
  | (kk, d) :: ds, _, h => by
    rw [RepK] at h
    obtain ⟨v, r, e1, e2, e3⟩ := h
    rw [e1, List.map_cons, List.map_cons, RepK.keys e3]
theorem cs_sorted : CallS W (fun xs H Q => rSortedI W.K xs H Q ∨ rSortedS W.K xs H Q ∨ rSortedDI xs H Q ∨ rSortedTS W.K xs H Q ∨ rSortedDS xs H Q) sortS := by
  intro Hd H0 A H σ δ rs vs K Q e rr hs q
  obtain ⟨x, rfl, hs⟩ := hs
  obtain ⟨v, rfl, r⟩ := rr.one
  rcases hs with ⟨ns, h1, hk⟩ | ⟨ns, h1, h2, hk⟩ | ⟨kds, ns, h1, h2, hk⟩ | ⟨ns, h1, h2, hk⟩ | ⟨kds, ns, h1, h2, h3, h4, hk⟩
  · obtain ⟨a, vs, rfl, a2, a3⟩ := r.lst h1
    cases a3.toInts
    exact .inl ⟨a, ns, rfl, .of a2, fun ms p hp hs hpn => q.newL e (.ints ms) (hk ms hp hs) hpn⟩
  · obtain ⟨a, vs, rfl, a2, a3⟩ := r.lst h1
    obtain ⟨rfl, ok⟩ := a3.toStrs
    exact .inr (.inl ⟨a, ns, rfl, .of a2, h2, fun ms p hp hs hpn => q.newL e (.ofStrs fun s hs => ok s (hp.mem_iff.mp hs)) (hk ms hp hs) hpn⟩)
  · obtain ⟨a, vs, rfl, a2, a3⟩ := r.dic h1
    exact .inr (.inr (.inl ⟨a, vs, ns, rfl, a2, a3.keys.trans h2, fun ms p hp hs hpn => q.newL e (.ints ms) (hk ms hp hs) hpn⟩))
  · obtain ⟨a, vs, rfl, a2, a3⟩ := r.tup h1
    obtain ⟨rfl, ok⟩ := a3.toStrs
    exact .inr (.inr (.inr (.inl ⟨a, ns, rfl, a2, h2, fun ms p hp hs hpn => q.newL e (.ofStrs fun s hs => ok s (hp.mem_iff.mp hs)) (hk ms hp hs) hpn⟩)))
  · obtain ⟨a, vs, rfl, a2, a3⟩ := r.dic h1
    exact .inr (.inr (.inr (.inr ⟨a, vs, ns, rfl, a2, a3.keys.trans h2, h3, fun ms p hp hs hpn => q.newL e (.ofStrs fun s hs => h4 s (hp.mem_iff.mp hs)) (hk ms hp hs) hpn⟩)))

/-! the table -/
inductive Bn where
  | len | abs | min | max | sum | all | any | list | tuple | sorted
  deriving DecidableEq
def Bn.nm : Bn → Str
  | .len => "len" | .abs => "abs" | .min => "min" | .max => "max" | .sum => "sum" | .all => "all" | .any => "any" | .list => "list" | .tuple => "tuple" | .sorted => "sorted"
def Bn.sem : Bn → List R → (R → Prop) → Prop
  | .len => lenS | .abs => absS | .min => mnmxS false | .max => mnmxS true | .sum => sumS | .all => allS false | .any => allS true | .list => listS | .tuple => tupleS | .sorted => sortS
theorem ew_bn {es : List Expr} {wr : WA} (bn : Bn) (g : Good W N sc k E X) (hx : glB sc bn.nm = true) (hm : W.mg bn.nm = none) (st : (a :: es).all noStar = true) (ha : PAW W E X (a :: es) wr) : PEW W E X (.Call (.Name bn.nm p) (a :: es) [] pos) (wBlt bn.sem wr) := by
  have hc := g.calm
  cases bn
  · exact ew_blt (v := .f "len") g hx hm boot_len (by decide) (by decide) (call_len.or call_lenR) (by rw [g.hK]; exact cs_len) st ha
  · exact ew_blt (v := .f "abs") g hx hm (by decide +kernel) (by decide) (by decide) call_abs cs_abs st ha
  · exact ew_blt (v := .f "min") g hx hm boot_min (by decide) (by decide) (call_min2 hc) cs_min st ha
  · exact ew_blt (v := .f "max") g hx hm boot_max (by decide) (by decide) (call_max2 hc) cs_max st ha
  · exact ew_blt (v := .f "sum") g hx hm boot_sum (by decide) (by decide) (cr_sum hc) (by rw [g.hK]; exact cs_sum) st ha
  · exact ew_blt (v := .f "all") g hx hm boot_all (by decide) (by decide) (cr_all hc) (by rw [g.hK]; exact cs_all) st ha
  · exact ew_blt (v := .f "any") g hx hm boot_any (by decide) (by decide) (cr_any hc) (by rw [g.hK]; exact cs_any) st ha
  · exact ew_blt (v := .t "list") g hx hm boot_list (by decide) (by decide) call_list_of (by rw [g.hK]; exact cs_list) st ha
  · exact ew_blt (v := .t "tuple") g hx hm boot_tuple (by decide) (by decide) call_tuple_of (by rw [g.hK]; exact cs_tuple) st ha
  · exact ew_blt (v := .f "sorted") g hx hm boot_sorted (by decide) (by decide) (cr_sortedI.or (cr_sortedS.or ((call_sortedDA hc).or (call_sortedT.or (call_sortedD hc))))) (by rw [g.hK]; exact cs_sorted) st ha


end
end G
set_option maxRecDepth 100000
set_option maxHeartbeats 4000000
namespace G
open PySem PySem.Spec PyProof.Rows L2
section
variable {W : Wd} {Hd : Addr → Prop} {H0 H : Hp} {A : Nat → Option Addr} {σ : St} {δ : Env} {K : R → Prop} {Q : VK} {X : Cx} {E : XK} {N : List Str} {sc : Scope} {k : Nat}
variable {a b c : Expr} {wa wb wc : WE} {pos p : Pos}

/-! ### range -/
def rgL (i c : Int) (n : Nat) : List Int := (List.range n).map fun (m : Nat) => i + (m : Int) * c
def rgN (i j c : Int) : Nat := (Builtin.Range.rangeSize i j c).toNat
/-- the written arguments of range, as start, stop, step -/
def rg3 : List Int → Option (Int × Int × Int)
  | [j] => some (0, j, 1)
  | [i, j] => some (i, j, 1)
  | [i, j, c] => some (i, j, c)
  | _ => none
def intsOf : List R → Option (List Int)
  | [] => some []
  | x :: r => match x.d with
    | .int i => (intsOf r).map (i :: ·)
    | _ => none
def rgArgs (rs : List R) : Option (Int × Int × Int) := (intsOf rs).bind rg3
def RgIn (i j c : Int) : Prop := 0 < c ∧ c < 1073741824 ∧ -(2 ^ 60) ≤ i ∧ i < 2 ^ 60 ∧ -(2 ^ 60) ≤ j ∧ j < 2 ^ 60
theorem rg_size {i j c : Int} (h : 0 < c) : 0 ≤ Builtin.Range.rangeSize i j c ∧ (i < j → Builtin.Range.rangeSize i j c ≤ j - i) ∧ (¬ i < j → Builtin.Range.rangeSize i j c = 0) := by
  unfold Builtin.Range.rangeSize
  rw [if_pos h]
  by_cases hij : i < j
  · rw [if_pos hij]
    have h1 : 0 ≤ (j - i - 1) / c := Int.ediv_nonneg (by omega) (by omega)
    have h2 : (j - i - 1) / c ≤ j - i - 1 := Int.ediv_le_self _ (by omega)
    exact ⟨by omega, fun _ => by omega, fun z => absurd hij z⟩
  · rw [if_neg hij]
    exact ⟨by omega, fun z => absurd z hij, fun _ => rfl⟩
theorem rgC_of {i j c : Int} (h : RgIn i j c) : RgC i j c (rgN i j c) := by
  obtain ⟨h1, h2, h3, h4, h5, h6⟩ := h
  obtain ⟨s1, s2, s3⟩ := rg_size (i := i) (j := j) h1
  refine ⟨by omega, by omega, ?_, by unfold rgN; omega⟩
  unfold Builtin.Range.small Builtin.Range.rangeFitsLong
  rw [if_pos h1]
  by_cases hij : i < j
  · have := s2 hij
    simp only [Bool.and_eq_true, Bool.or_eq_true, decide_eq_true_eq, beq_iff_eq]
    omega
  · have := s3 hij
    simp only [Bool.and_eq_true, Bool.or_eq_true, decide_eq_true_eq, beq_iff_eq]
    omega
def rRg (vs : List V) (t : Int × Int × Int) : Prop := ∃ ns, vs = ns.map V.int ∧ rg3 ns = some t
theorem intsOf_vs : ∀ {rs : List R} {vs : List V} {ns : List Int}, RepRs W Hd A H δ vs rs → intsOf rs = some ns → vs = ns.map V.int
  | [], _, _, .nil, e => by cases e; rfl
  | x :: r, _, ns, .cons h t, e => by
    rw [intsOf] at e
    split at e
    · rename_i i hi
      cases q : intsOf r with
      | none => rw [q] at e; cases e
      | some ms =>
        rw [q] at e
        cases e
        rw [h.int hi, intsOf_vs t q]; rfl
    · cases e
theorem rRg_of {vs : List V} {rs : List R} {t : Int × Int × Int} (h : RepRs W Hd A H δ vs rs) (e : rgArgs rs = some t) : rRg vs t := by
  unfold rgArgs at e
  cases q : intsOf rs with
  | none => rw [q] at e; cases e
  | some ns =>
    rw [q] at e
    exact ⟨ns, intsOf_vs h q, e⟩
/-- a range object has come: its parts -/
def PRn (X : Cx) (e : Expr) (ta : TA) : Prop :=
  ∀ (pins : List (Addr × Obj)) (s : Shared) (σ : L2.St) (H : Hp) (Q : Int → Int → Int → Hp → Prop), Inv X pins σ H s → ta σ H (fun vs H1 => ∃ i j c, rRg vs (i, j, c) ∧ RgIn i j c ∧ Q i j c H1) →
    wpAny (model X.prog X.w) X.A (eval e X.env) (fun x s' => ∃ r i j c t u v H', x = .ref r ∧ IsRange s'.heap r i j c t u v ∧ RgIn i j c ∧ Inv X pins σ H' s' ∧ Q i j c H') X.xe s
theorem prn_of {es : List Expr} {ta : TA} (hg : Gl X "range") (hm : X.mg "range" = none) (st : (a :: es).all noStar = true) (ha : PA X (a :: es) ta) : PRn X (.Call (.Name "range" p) (a :: es) [] pos) ta := by
  intro pins s σ H Q I h
  rw [List.all_cons, Bool.and_eq_true] at st
  refine Call_ (ld_blt I hg hm boot_range (PyProof.Rows.callWith_type1 (thn (ha.run pos pins s σ H _ I h) fun us s1 ⟨vs, H1, I1, r1, q1⟩ => ?_) (star_is st.1) (star_none st.2)))
  obtain ⟨i, j, c, ⟨ns, rfl, e⟩, hin, q⟩ := q1
  rcases ns with _ | ⟨n1, _ | ⟨n2, _ | ⟨n3, _ | ⟨n4, rest⟩⟩⟩⟩
  · cases e
  · cases e
    obtain ⟨u1, rfl, t, rfl⟩ := vals1 r1
    exact call_range_1 ⟨_, _, _, _, _, _, _, H1, rfl, IsRange.new _ _ _ _ _ _ _, hin, I1.kept fun b u e => Heap.get?_push_of_some _ e, q⟩
  · cases e
    obtain ⟨u1, u2, rfl, ⟨t, rfl⟩, t', rfl⟩ := vals2 r1
    exact call_range_2 ⟨_, _, _, _, _, _, _, H1, rfl, IsRange.new _ _ _ _ _ _ _, hin, I1.kept fun b u e => Heap.get?_push_of_some _ e, q⟩
  · cases e
    cases r1 with
    | cons q1 r1 =>
      obtain ⟨u1, u2, rfl, ⟨t, rfl⟩, t', rfl⟩ := vals2 r1
      obtain ⟨t'', rfl⟩ := q1
      exact call_range_3 (by have := hin.1; omega) ⟨_, _, _, _, _, _, _, H1, rfl, IsRange.new _ _ _ _ _ _ _, hin, I1.kept (t' := s1.toks) fun b u e => Heap.get?_push_of_some _ e, q⟩ (.inl (PyProof.noPylong_small (by have := hin.1; have := hin.2.1; omega)))
  · cases e
def tLRn (ta : TA) : TE := fun σ H Q => ta σ H fun vs H1 => ∃ i j c, rRg vs (i, j, c) ∧ RgIn i j c ∧ rgN i j c ≤ big ∧ ∀ q, H1 q = none → Q (.ref q) (upd H1 q (.lst ((rgL i c (rgN i j c)).map V.int)))
theorem vals_rgL {i c : Int} {n : Nat} {acc : Array Value} (h : ItemsOf (fun m v => ∃ t, v = .int (i + m * c) t) acc n) : Vals ((rgL i c n).map V.int) acc.toList := by
  have e : acc.toList.length = n := by rw [Array.length_toList]; exact h.1
  unfold rgL
  rw [← e, List.map_map]
  refine vals_of_get acc.toList _ fun j u hj => ?_
  obtain ⟨t, rfl⟩ := h.2 j u (by rw [← hj, Array.getElem?_toList])
  exact ⟨t, rfl⟩
theorem pe_lRn {e : Expr} {ta : TA} {p' pos' : Pos} (hc : X.calm = true) (hg : Gl X "list") (hm : X.mg "list" = none) (hn : noStar e = true) (he : PRn X e ta) : PE X (.Call (.Name "list" p') [e] [] pos') (tLRn ta) := by
  refine ⟨fun pins s σ H Q I h => ?_⟩
  refine Call_ (ld_blt I hg hm boot_list (PyProof.Rows.callWith_type1 (args_cons (thn (he pins s σ H (fun i j c H1 => rgN i j c ≤ big ∧ ∀ q, H1 q = none → Q (.ref q) (upd H1 q (.lst ((rgL i c (rgN i j c)).map V.int)))) I h) fun x s1 ⟨r, i, j, c, t, u, v, H1, ex, hr, hin, I1, hb, q⟩ => args_nil ?_) (star_is hn)) (star_is hn)))
  subst ex
  obtain ⟨c1, c2, c3, c4⟩ := rgC_of hin
  refine call_list_range (n := rgN i j c) (I1.ok.hd hc) hr c3 c4 (Nat.le_trans hb (by decide)) fun h' tk acc c' hk e' hi => ?_
  refine ⟨.ref s1.heap.objs.size, upd H1 s1.heap.objs.size (.lst ((rgL i c (rgN i j c)).map V.int)), I1.laid hk (Nat.le_refl _) (show ObjOk X.prog X.w _ _ _ (.lst _) from ⟨?_, acc.toList, c', vals_rgL hi, ?_⟩), rfl, q _ (I1.hok.fresh (Nat.le_refl _))⟩
  · unfold rgL
    rw [List.length_map, List.length_map, List.length_range]
    exact big_le hb
  · rw [Array.toArray_toList]; exact e'
def wLRange (wr : WA) : WE := fun δ K X => wr δ (fun rs => ∃ i j c, rgArgs rs = some (i, j, c) ∧ RgIn i j c ∧ rgN i j c ≤ big ∧ K (.own (.lst ((rgL i c (rgN i j c)).map D.int)))) X
theorem ew_lrange {es : List Expr} {wr : WA} {p' pos' : Pos} (g : Good W N sc k E X) (hl : glB sc "list" = true) (hr : glB sc "range" = true) (ml : W.mg "list" = none) (mr : W.mg "range" = none) (st : (a :: es).all noStar = true) (ha : PAW W E X (a :: es) wr) :
    PEW W E X (.Call (.Name "list" p') [.Call (.Name "range" p) (a :: es) [] pos] [] pos') (wLRange wr) := by
  obtain ⟨ta, pa, ea⟩ := ha
  refine ⟨_, pe_lRn g.calm (g.gl _ hl) (by rw [g.hm]; exact ml) rfl (prn_of (g.gl _ hr) (by rw [g.hm]; exact mr) st pa), ?_⟩
  intro Hd H0 A H σ δ K X Q e hw q x
  refine ea Hd H0 A H σ δ _ X _ e hw (fun vs H1 rs k1 s1 r1 h1 => ?_) x
  obtain ⟨i, j, c, h2, h3, h4, hk⟩ := h1
  exact ⟨i, j, c, rRg_of r1 h2, h3, h4, fun p hp => (q.from k1 s1).newL (e.keep k1 s1) (.ints _) hk hp⟩

/-! ### isinstance with built-in classes -/
def tyN : D → String
  | .non => "NoneType" | .bl _ => "bool" | .int _ => "int" | .str _ => "str" | .lst _ => "list" | .tup _ => "tuple" | .dic _ => "dict" | _ => ""
abbrev tyAll : List String := ["NoneType", "bool", "int", "str", "list", "tuple", "dict"]
def isaB (d : D) (T : String) : Option Bool := if tyAll.contains T && tyAll.contains (tyN d) && T != "NoneType" then some (tyN d == T || (tyN d == "bool" && T == "int")) else none
theorem isaB_kit {d : D} {T : String} {r : Bool} (h : isaB d T = some r) : kitB (tyN d) T = some r := by
  have tab : ∀ n ∈ tyAll, ∀ T ∈ tyAll, T ≠ "NoneType" → kitB n T = some (n == T || (n == "bool" && T == "int")) := by decide +kernel
  unfold isaB at h
  split at h
  · rename_i hc
    rw [Bool.and_eq_true, Bool.and_eq_true] at hc
    rw [tab _ (List.contains_iff_mem.mp hc.1.2) _ (List.contains_iff_mem.mp hc.1.1) (by simpa using hc.2)]
    exact h
  · cases h
theorem tyX_of {d : D} {v : V} {T : String} {r : Bool} (h : isaB d T = some r) (hr : Rep W H d v) : TyX W.K H v (.type (tyN d)) := by
  cases d <;> rw [Rep] at hr
  · subst hr; exact .base .non
  · subst hr; exact .base (.bl _)
  · subst hr; exact .base (.int _)
  · obtain ⟨rfl, _⟩ := hr; exact .base (.str _)
  · obtain ⟨a, vs, rfl, h1, _⟩ := hr; exact .base (.lst h1)
  · obtain ⟨a, vs, rfl, h1, _⟩ := hr
    rcases h1 with (h1 | ⟨o, h1⟩) | ⟨o, its, n, h1, h2, _⟩
    · exact .base (.tup h1)
    · exact .fTuple h1
    · exact .kTuple h1 h2
  · obtain ⟨a, vs, rfl, h1, _⟩ := hr
    rcases h1 with h1 | ⟨o, h1⟩
    · exact .base (.dK h1)
    · exact .fDict h1
  · simp [isaB, tyN] at h
  · simp [isaB, tyN] at h
  · simp [isaB, tyN] at h
  · simp [isaB, tyN] at h
def wIsin (T : String) (wa : WE) : WE := fun δ K X => wa δ (fun x => ∃ r, isaB x.d T = some r ∧ K (.v (.bl r))) X
theorem ew_isin {T : String} {x : Str} {p1 p2 : Pos} (g : Good W N sc k E X) (hi : glB sc "isinstance" = true) (mi : W.mg "isinstance" = none) (hx : glB sc x = true) (mx : W.mg x = none) (hv : bootBuiltins x = some (.type T)) (hn : x ≠ "__name__") (hdb : (x == ("__debug__" : Str)) = false)
    (st : noStar a = true) (ha : PEW W E X a wa) : PEW W E X (.Call (.Name "isinstance" p1) [a, .Name x p2] [] pos) (wIsin T wa) := by
  obtain ⟨ta, pa, ea⟩ := ha
  refine ⟨_, pe_callB call_isi (g.gl _ hi) (by rw [g.hm]; exact mi) boot_isinstance (pa_cons pa (pa_cons (pe_bltn (v := .ty T) (g.gl _ hx) (by rw [g.hm]; exact mx) hv rfl hn hdb) pa_nil (star_is rfl)) (star_is st)) (by decide) (by decide) (star_is st) (star_none rfl), ?_⟩
  rw [g.hK]
  intro Hd H0 A H σ δ K X Q e hw q x
  refine ea Hd H0 A H σ δ _ X _ e hw (fun v H1 rx k1 s1 r1 h1 => ?_) x
  obtain ⟨r, h2, hk⟩ := h1
  exact ⟨v, .ty T, .type (tyN rx.d), .type T, r, rfl, .ty T, tyX_of h2 r1.rd, kit_ty (isaB_kit h2), (q.from k1 s1).bl (e.keep k1 s1) hk⟩
/-- two classes in a written tuple -/
def wIsin2 (T T' : String) (wa : WE) : WE := fun δ K X => wa δ (fun x => ∃ r r', isaB x.d T = some r ∧ isaB x.d T' = some r' ∧ K (.v (.bl (r || r')))) X
theorem ew_isin2 {T T' : String} {x x' : Str} {p1 p2 p3 p4 : Pos} {j : Nat} (g : Good W N sc k E X) (hi : glB sc "isinstance" = true) (mi : W.mg "isinstance" = none) (hx : glB sc x = true) (mx : W.mg x = none) (hv : bootBuiltins x = some (.type T)) (hn : x ≠ "__name__") (hdb : (x == ("__debug__" : Str)) = false)
    (hx' : glB sc x' = true) (mx' : W.mg x' = none) (hv' : bootBuiltins x' = some (.type T')) (hn' : x' ≠ "__name__") (hdb' : (x' == ("__debug__" : Str)) = false)
    (st : noStar a = true) (ha : PEW W E X a wa) : PEW W E X (.Call (.Name "isinstance" p1) [a, .Tuple [.Name x p2, .Name x' p3] j p4] [] pos) (wIsin2 T T' wa) := by
  obtain ⟨ta, pa, ea⟩ := ha
  refine ⟨_, pe_callB call_isiT (g.gl _ hi) (by rw [g.hm]; exact mi) boot_isinstance (pa_cons pa (pa_cons (pe_tup (pa_cons (pe_bltn (v := .ty T) (g.gl _ hx) (by rw [g.hm]; exact mx) hv rfl hn hdb) (pa_cons (pe_bltn (v := .ty T') (g.gl _ hx') (by rw [g.hm]; exact mx') hv' rfl hn' hdb') pa_nil (star_is rfl)) (star_is rfl))) pa_nil (star_is rfl)) (star_is st)) (by decide) (by decide) (star_is st) (star_none rfl), ?_⟩
  rw [g.hK]
  intro Hd H0 A H σ δ K X Q e hw q x
  refine ea Hd H0 A H σ δ _ X _ e hw (fun v H1 rx k1 s1 r1 h1 => ?_) x
  obtain ⟨r, r', h2, h3, hk⟩ := h1
  refine ⟨by show 2 ≤ sizeLine; decide, fun t ht => ?_⟩
  have k2 : Kx W H H1 := k1
  have kn := Ex.new (o := .tup [V.ty T, V.ty T']) ht
  have e1 := e.keep k1 s1
  refine ⟨v, t, [.ty T, .ty T'], .type (tyN rx.d), [.type T, .type T'], r || r', rfl, upd_same, .cons (.ty T) (.cons (.ty T') .nil), tyX_of h2 (Rep.mono kn.ex _ r1.rd), ?_, (q.from (k1.trans kn.kx) (s1.kp kn)).bl (e1.keep kn.kx (s1.kp kn)) hk⟩
  refine kitAny_cons (kit_ty (isaB_kit h2)) (fun hf => ?_) (fun ht => by rw [ht]; rfl)
  rw [hf]
  exact kitAny_cons (kit_ty (isaB_kit h3)) (fun hf' => by rw [hf']; exact kitAny_nil) (fun ht => by rw [ht]; rfl)

/-! ### own defs -/
abbrev Spc := List D → (Bool → D → Prop) → (Xn → Prop) → Prop
structure FSpec where
  ar : Nat
  wp : Spc
def RepT (W : Wd) (Hd : Addr → Prop) (Hs H : Hp) (v : V) (o : Bool) (d : D) : Prop := match o with
  | false => Rep W (fz (fun z => inSa W z ∨ Hd z) H) d v
  | true => ∃ a, v = .ref a ∧ Hs a = none ∧ ¬ inSa W a ∧ ¬ Hd a ∧ Top W (fz (fun z => inSa W z ∨ Hd z ∨ z = a) H) H d a
def spOf (W : Wd) (S : FSpec) : Sp := fun vs H Q E => ∃ (Hd : Addr → Prop) (ds : List D) (K : Bool → D → Prop) (X : Xn → Prop), StOk W H ∧ (∀ a, Hd a → ∃ o, H a = some o) ∧ RepL W (fz (fun z => inSa W z ∨ Hd z) H) ds vs ∧ ds.length = S.ar ∧ S.wp ds K X ∧
  (∀ o d, K o d → ∀ v H', Kx W H H' → StOk W H' → RepT W Hd H H' v o d → Q v H') ∧ ∀ x, X x → ∀ cls d H', Kx W H H' → StOk W H' → XnOk W Hd H' cls d x → E cls d H'
def FOk (W : Wd) (k : Nat) (f : Str) (S : FSpec) : Prop := ∃ (fa : Addr) (fd : FuncData) (ps : List Str), FnG W.P W.w W.K W.mg W.base (L2.CX W.P W.w) k fa fd ps (spOf W S) ∧ W.mg f = some (.ref fa) ∧ PySem.W.keepIn W.K (.ref fa) = true ∧ Binds W.K fd ps []
theorem FOk.mono {j : Nat} {f : Str} {S : FSpec} (h : FOk W j f S) (hj : j ≤ k) : FOk W k f S := by
  obtain ⟨fa, fd, ps, h1, h2⟩ := h
  exact ⟨fa, fd, ps, h1.mono hj, h2⟩
mutual
/-- scalars and tuples of such -/
def imm : D → Bool
  | .non => true
  | .bl _ => true
  | .int _ => true
  | .str _ => true
  | .tup xs => immL xs
  | .lst _ => false
  | .dic _ => false
  | .ins _ _ => false
  | .st _ => false
  | .stc _ => false
  | .scr _ => false
def immL : List D → Bool
  | [] => true
  | x :: xs => imm x && immL xs
end
def immK : List (Key × D) → Bool
  | [] => true
  | (_, d) :: r => imm d && immK r
def safe (o : Bool) (d : D) : Bool := match o, d with
  | false, d => imm d
  | true, .lst xs => immL xs
  | true, .dic kvs => immK kvs
  | true, _ => false
mutual
theorem imm_rep {S S' : Addr → Prop} (hS : ∀ z, ¬ S z → S' z → ∀ xs, ¬ Rd H z (.tup xs)) : ∀ (d : D) {v : V}, imm d = true → Rep W (fz S H) d v → Rep W (fz S' H) d v
  | .non, _, _, h => by rw [Rep] at h ⊢; exact h
  | .bl _, _, _, h => by rw [Rep] at h ⊢; exact h
  | .int _, _, _, h => by rw [Rep] at h ⊢; exact h
  | .str _, _, _, h => by rw [Rep] at h ⊢; exact h
  | .tup xs, _, hi, h => by
    rw [imm] at hi
    rw [Rep] at h ⊢
    obtain ⟨a, vs, h1, h2, h3⟩ := h
    refine ⟨a, vs, h1, ?_, immL_rep hS xs hi h3⟩
    rcases h2 with (h2 | ⟨o, h2⟩) | h2
    · obtain ⟨n, q⟩ := fz_some h2
      exact .inl (.inl (fz_of (fun z => hS a n z vs (.inl q)) q))
    · obtain ⟨n, q⟩ := fz_some h2
      exact .inl (.inr ⟨o, fz_of (fun z => hS a n z vs (.inr ⟨o, q⟩)) q⟩)
    · exact .inr h2
  | .lst _, _, hi, _ => by rw [imm] at hi; cases hi
  | .dic _, _, hi, _ => by rw [imm] at hi; cases hi
  | .ins _ _, _, hi, _ => by rw [imm] at hi; cases hi
  | .st _, _, hi, _ => by rw [imm] at hi; cases hi
  | .stc _, _, hi, _ => by rw [imm] at hi; cases hi
  | .scr _, _, hi, _ => by rw [imm] at hi; cases hi
theorem immL_rep {S S' : Addr → Prop} (hS : ∀ z, ¬ S z → S' z → ∀ xs, ¬ Rd H z (.tup xs)) : ∀ (ds : List D) {vs : List V}, immL ds = true → RepL W (fz S H) ds vs → RepL W (fz S' H) ds vs
  | [], _, _, h => by rw [RepL] at h ⊢; exact h
  | d :: ds, _, hi, h => by
    rw [immL, Bool.and_eq_true] at hi
    rw [RepL] at h ⊢
    obtain ⟨v, r, e1, e2, e3⟩ := h
    exact ⟨v, r, e1, imm_rep hS d hi.1 e2, immL_rep hS ds hi.2 e3⟩
end
theorem immK_rep {S S' : Addr → Prop} (hS : ∀ z, ¬ S z → S' z → ∀ xs, ¬ Rd H z (.tup xs)) : ∀ (ds : List (Key × D)) {vs : List (Key × V)}, immK ds = true → RepK W (fz S H) ds vs → RepK W (fz S' H) ds vs
  | [], _, _, h => by rw [RepK] at h ⊢; exact h
  | (_, d) :: ds, _, hi, h => by
    rw [immK, Bool.and_eq_true] at hi
    rw [RepK] at h ⊢
    obtain ⟨v, r, e1, e2, e3⟩ := h
    exact ⟨v, r, e1, imm_rep hS d hi.1 e2, immK_rep hS ds hi.2 e3⟩
theorem imm_top {S S' : Addr → Prop} (hS : ∀ z, ¬ S z → S' z → ∀ xs, ¬ Rd H z (.tup xs)) {d : D} {z : Addr} (hi : safe true d = true) (h : Top W (fz S H) H d z) : Top W (fz S' H) H d z := by
  cases d with
  | lst xs => obtain ⟨vs, h1, h2⟩ := h; exact ⟨vs, h1, immL_rep hS xs hi h2⟩
  | dic xs => obtain ⟨vs, h1, h2⟩ := h; exact ⟨vs, h1, immK_rep hS xs hi h2⟩
  | _ => cases hi
/-- what is hidden from a callee: what is hidden here, and the owned slots that are not handed over -/
def slotsOf : List R → List Nat
  | [] => []
  | .sl i _ :: r => i :: slotsOf r
  | _ :: r => slotsOf r
def HdC (Hd : Addr → Prop) (A : Nat → Option Addr) (J : List Nat) : Addr → Prop := fun z => Hd z ∨ ∃ i, A i = some z ∧ i ∉ J
theorem slotsOf_fr : ∀ {rs : List R}, allFr rs = true → slotsOf rs = []
  | [], _ => rfl
  | .v _ :: r, h => slotsOf_fr (rs := r) (by unfold allFr at *; simpa [R.fr] using h)
  | .own _ :: r, h => slotsOf_fr (rs := r) (by unfold allFr at *; simpa [R.fr] using h)
  | .sl _ _ :: r, h => by unfold allFr at h; simp [R.fr] at h
theorem args_rep (e : EnvOk W Hd H0 A H σ δ) (J : List Nat) : ∀ {vs : List V} {rs : List R}, RepRs W Hd A H δ vs rs → (∀ i ∈ slotsOf rs, i ∈ J) → RepL W (fz (fun z => inSa W z ∨ HdC Hd A J z) H) (dsOf rs) vs := by
  intro vs rs h
  have sub : Kp (fz (Rsv W Hd A) H) (fz (fun z => inSa W z ∨ HdC Hd A J z) H) := fz_kp fun z o n q => ⟨fun r => by
    rcases r with r | r | ⟨i, r, _⟩
    · exact n (.inl r)
    · exact n (.inr (.inl r))
    · exact n (.inr (.inr ⟨i, r⟩)), q⟩
  induction h with
  | nil => intro _; exact .nil
  | @cons v vs r rs h _ ih =>
    intro hJ
    cases r with
    | v d => exact .cons (Rep.mono sub.ex _ h) (ih hJ)
    | own d => exact .cons (Rep.mono sub.ex _ (h.frz rfl)) (ih hJ)
    | sl i d =>
      obtain ⟨z, h1, h2, h3, h4⟩ := h
      refine .cons ?_ (ih fun j hj => hJ j (List.mem_cons_of_mem _ hj))
      show Rep W _ d v
      rw [h2]
      refine h4.rep sub.ex fun o q => fz_of (fun r => ?_) q
      obtain ⟨n1, n2, n3⟩ := e.new i z h1
      rcases r with r | r | ⟨j, r, nj⟩
      · exact n2 r
      · exact n3 r
      · rw [e.inj i j z h1 r] at hJ
        exact nj (hJ j List.mem_cons_self)
def callK (rs : List R) (K : R → Prop) : Bool → D → Prop := fun o d => (allFr rs = true ∨ safe o d = true) ∧ K (if o then .own d else .v d)
def callS (S : FSpec) (rs : List R) (K : R → Prop) (X : Xn → Prop) : Prop := rs.length = S.ar ∧ S.wp (dsOf rs) (callK rs K) X
def wCall (S : FSpec) (wr : WA) : WE := fun δ K X => wr δ (fun rs => callS S rs K X) X
theorem own_notup (e : EnvOk W Hd H0 A H σ δ) {H' : Hp} (kx : Kx W H H') {J : List Nat} {T : Addr → Prop} : ∀ z, ¬ (inSa W z ∨ HdC Hd A J z ∨ T z) → (Rsv W Hd A z ∨ T z) → ∀ xs, ¬ Rd H' z (.tup xs) := by
  intro z n r xs hr
  rcases r with (r | r | ⟨i, r⟩) | r
  · exact n (.inl r)
  · exact n (.inr (.inl (.inl r)))
  · obtain ⟨n1, n2, n3⟩ := e.new i z r
    have hi : ¬ δ.length ≤ i := fun h => by rw [e.out i h] at r; cases r
    have hx : δ[i]? = some (δ[i]'(by omega)) := List.getElem?_eq_getElem (by omega)
    have q := e.sl i _ hx
    generalize δ[i]'(by omega) = s at q
    cases s with
    | un => rw [show A i = none from q] at r; cases r
    | fz d => obtain ⟨q1, _⟩ := q; rw [q1] at r; cases r
    | ow d =>
      obtain ⟨a, q1, q2, q3⟩ := q
      rw [q1] at r; cases r
      have no : ∀ o, H z = some o → (∀ ys, o ≠ .tup ys) → (∀ ob u, o ≠ .frz ob u) → False := fun o h h1 h2 => by
        have := kx z o n2 h
        rcases hr with hr | ⟨ob, hr⟩
        · rw [this] at hr; exact h1 xs (Option.some.inj hr)
        · rw [this] at hr; exact h2 _ _ (Option.some.inj hr)
      cases d with
      | lst ds => obtain ⟨vs, h1, _⟩ := q3; exact no _ h1 (fun _ z => by cases z) (fun _ _ z => by cases z)
      | dic ds => obtain ⟨vs, h1, _⟩ := q3; exact no _ h1 (fun _ z => by cases z) (fun _ _ z => by cases z)
      | ins c ds => obtain ⟨C, dx, fs, _, h1, _⟩ := q3; exact no _ h1 (fun _ z => by cases z) (fun _ _ z => by cases z)
      | _ => exact q3.elim
  · exact n (.inr (.inr r))
/-- a callee's result, here -/
theorem res_of (e : EnvOk W Hd H0 A H σ δ) {H' : Hp} (kx : Kx W H H') (s' : StOk W H') {rs : List R} {v : V} {o : Bool} {d : D} (hs : allFr rs = true ∨ safe o d = true) (h : RepT W (HdC Hd A (slotsOf rs)) H H' v o d) :
    RepR W Hd A H H' δ v (if o then .own d else .v d) := by
  have back : ∀ T : Addr → Prop, allFr rs = true → Kp (fz (fun z => inSa W z ∨ HdC Hd A (slotsOf rs) z ∨ T z) H') (fz (fun z => Rsv W Hd A z ∨ T z) H') := fun T f => fz_kp fun z ob n q => ⟨fun r => by
    rcases r with (r | r | ⟨i, r⟩) | r
    · exact n (.inl r)
    · exact n (.inr (.inl (.inl r)))
    · exact n (.inr (.inl (.inr ⟨i, r, by rw [slotsOf_fr f]; simp⟩)))
    · exact n (.inr (.inr r)), q⟩
  cases o with
  | false =>
    have h' : Rep W (fz (fun z => inSa W z ∨ HdC Hd A (slotsOf rs) z) H') d v := h
    show Rep W (fz (Rsv W Hd A) H') d v
    rcases hs with hs | hs
    · have m1 : Kp (fz (fun z => inSa W z ∨ HdC Hd A (slotsOf rs) z) H') (fz (fun z => inSa W z ∨ HdC Hd A (slotsOf rs) z ∨ False) H') := fz_kp fun z ob n q => ⟨fun r => n (by rcases r with r | r | r; exact .inl r; exact .inr r; exact r.elim), q⟩
      have m2 : Kp (fz (fun z => Rsv W Hd A z ∨ False) H') (fz (Rsv W Hd A) H') := fz_kp fun z ob n q => ⟨fun r => n (.inl r), q⟩
      exact h'.mono ((m1.trans (back (fun _ => False) hs)).trans m2).ex
    · refine imm_rep (fun z n r => ?_) d hs h'
      exact own_notup e kx (T := fun _ => False) z (fun q => n (by rcases q with q | q | q; exact .inl q; exact .inr q; exact q.elim)) (.inl r)
  | true =>
    obtain ⟨z, h1, h2, h3, h4, h5⟩ := h
    have nz : ¬ Rsv W Hd A z := fun q => by
      obtain ⟨ob, q⟩ := e.rsvSome q
      rw [h2] at q; cases q
    refine ⟨z, h1, h2, nz, ?_⟩
    rcases hs with hs | hs
    · exact h5.mono (back (fun y => y = z) hs).ex fun _ q => q
    · exact imm_top (fun y n r => own_notup e kx (T := fun y => y = z) y n r) hs h5
theorem xn_of {H' : Hp} {J : List Nat} {cls : Value} {d : Option Addr} {x : Xn} (h : XnOk W (HdC Hd A J) H' cls d x) : XnOk W Hd H' cls d x := by
  obtain ⟨C, h1, h2, h3⟩ := h
  refine ⟨C, h1, h2, ?_⟩
  rcases h3 with h3 | ⟨a, fs, h3, h4, h5⟩
  · exact .inl h3
  · exact .inr ⟨a, fs, h3, h4, h5.mono (fz_kp fun z o n q => ⟨fun r => n (by rcases r with r | r; exact .inl r; exact .inr (.inl r)), q⟩).ex⟩
theorem sp_call {S : FSpec} {rs : List R} {vs : List V} {K : R → Prop} {X : Xn → Prop} {Q : VK} (e : EnvOk W Hd H0 A H σ δ) (r1 : RepRs W Hd A H δ vs rs) (h1 : callS S rs K X) (q : QOk W Hd A H δ K Q) (x : XOk W Hd H X E) : spOf W S vs H Q E := by
  obtain ⟨h2, h3⟩ := h1
  refine ⟨HdC Hd A (slotsOf rs), dsOf rs, callK rs K, X, e.st, fun z hz => e.rsvSome ?_, args_rep e _ r1 fun i hi => hi, by unfold dsOf; rw [List.length_map]; exact h2, h3, fun o d hp v H2 k2 s2 hr => ?_, fun y hy cls d H2 k2 s2 hr => ?_⟩
  · rcases hz with hz | ⟨i, hz, _⟩
    · exact .inr (.inl hz)
    · exact .inr (.inr ⟨i, hz⟩)
  · obtain ⟨hsafe, hk⟩ := hp
    exact q v H2 _ k2 s2 (res_of e k2 s2 hsafe hr) hk
  · exact x y cls d H2 k2 s2 (xn_of hr) hy
theorem ev_call {S : FSpec} {ta : TA} {wr : WA} (ea : EvA W E ta wr) : EvE W E (tCall (spOf W S) [] E ta) (wCall S wr) := by
  intro Hd H0 A H σ δ K X Q e hw q x
  refine ea Hd H0 A H σ δ _ X _ e hw (fun vs H1 rs k1 s1 r1 h1 => ?_) x
  rw [List.append_nil]
  exact sp_call (e.keep k1 s1) r1 h1 (q.from k1 s1) (x.keep k1)
theorem ew_call {es : List Expr} {x : Str} {S : FSpec} {wr : WA} (g : Good W N sc k E X) (hx : glB sc x = true) (hdb : (x == ("__debug__" : Str)) = false) (F : FOk W k x S) (st : (a :: es).all noStar = true) (ha : PAW W E X (a :: es) wr) : PEW W E X (.Call (.Name x p) (a :: es) [] pos) (wCall S wr) := by
  obtain ⟨ta, pa, ea⟩ := ha
  obtain ⟨fa, fd, ps, F, hm, hk, hb⟩ := F
  rw [List.all_cons, Bool.and_eq_true] at st
  refine ⟨_, ge_call (E := E) (by rw [g.hP, g.hw, g.hK, g.hm, g.hb]; exact F) g.room g.gd (g.gl x hx) (by rw [g.hm]; exact hm) (by rw [g.hK]; exact hk) (by rw [g.hK]; exact hb) (by have := g.px; rw [g.hP, g.hw] at this; exact this) pa hdb (star_is st.1) (star_none st.2), ev_call ea⟩
end
end G
set_option maxRecDepth 100000
set_option maxHeartbeats 4000000
namespace G
open PySem PySem.Spec PyProof.Rows L2
section
variable {W : Wd} {N : List Str} {sc : Scope} {k : Nat} {E : XK} {X : Cx} {Hd : Addr → Prop} {H0 H : Hp} {A : Nat → Option Addr} {σ : St} {δ : Env} {a o : Expr} {pos p apos : Pos} {wa wo : WE}
/-! ### objects of own classes: fields, methods, making -/
theorem RepF.look {F : Hp} {f : Str} : ∀ {ds : List (Str × D)} {vs : List (Str × V)}, RepF W F ds vs → (∀ d, ds.lookup f = some d → ∃ v, vs.lookup f = some v ∧ Rep W F d v) ∧ (ds.lookup f = none → vs.lookup f = none)
  | [], vs, h => by
    rw [RepF] at h; subst h
    exact ⟨fun d e => (by cases e), fun _ => rfl⟩
  | (g, d) :: ds, vs, h => by
    rw [RepF] at h
    obtain ⟨v, r, rfl, h1, h2⟩ := h
    obtain ⟨i1, i2⟩ := RepF.look (f := f) h2
    rw [List.lookup_cons, List.lookup_cons]
    cases f == g with
    | true => exact ⟨fun d' e => by cases e; exact ⟨v, rfl, h1⟩, fun e => by cases e⟩
    | false => exact ⟨i1, i2⟩
def FldOk (W : Wd) (c f : Str) : Prop := ∃ C, W.cl c = some C ∧ Cls W.K C ∧ NoAttr W.K C f
def wFld (c f : Str) (wa : WE) : WE := fun δ K X => wa δ (fun r => ∃ fs d, r.d = .ins c fs ∧ fs.lookup f = some d ∧ K (.v d)) X
theorem ev_fld {c f : Str} {ta : TE} (hf : FldOk W c f) (ea : EvE W E ta wa) : EvE W E (tFld W.K ta f) (wFld c f wa) := by
  intro Hd H0 A H σ δ K Xp Q e hw q x
  refine ea Hd H0 A H σ δ _ Xp _ e hw (fun v H1 r k1 s1 rr ⟨fs, d, hd, hl, hk⟩ => ?_) x
  obtain ⟨z, C, dx, vs, rfl, hc, hz, hF⟩ := rr.ins hd
  obtain ⟨C', h1, h2, h3⟩ := hf
  have : C' = C := by have := hc.1; rw [h1] at this; exact Option.some.inj this
  subst this
  obtain ⟨u, hu, hr⟩ := (hF.look (f := f)).1 d hl
  exact ⟨z, C', dx, vs, u, rfl, hz, h2, h3, hu, (q.from k1 s1).at (e.keep k1 s1) hr hk⟩
/-- no name of a super call -/
def baseOk (a : Expr) : Bool := match a with
  | .Name _ _ => true
  | .Attribute _ _ _ => true
  | .Subscript _ _ _ => true
  | .Call (.Attribute _ _ _) _ _ _ => true
  | .Call (.Name _ _) (_ :: _) _ _ => true
  | _ => false
theorem base_of {f : Str} {env : PySem.Env} (h : baseOk a = true) : attributeBase a f env (eval a env) = eval a env := by
  unfold baseOk at h
  split at h
  · rfl
  · rfl
  · rfl
  · rfl
  · rfl
  · cases h
theorem starEach_all {es : List Expr} {env : PySem.Env} {cp : Pos} (h : es.all noStar = true) : ((backTo cp (starEach es env)).all fun x => !x.1) = true := by
  induction es with
  | nil => rfl
  | cons e es ih =>
    rw [List.all_cons, Bool.and_eq_true] at h
    rw [star_is h.1]
    show (_ && (backTo cp (starEach es env)).all fun x => !x.1) = true
    rw [ih h.2]; rfl
theorem few_is {es : List Expr} {env : PySem.Env} {cp : Pos} (h : es.all noStar = true) (hl : es.length < 20) : ((backTo cp (starEach es env)).all (fun x => !x.1) && (backToKw cp (keywordEach [] env)).all (fun x => x.1.isSome)
      && decide (es.length + ([] : List Keyword).length + (if ([] : List Keyword).isEmpty then 0 else 1) < 30)) = true := by
  rw [starEach_all h]
  have : es.length + ([] : List Keyword).length + (if ([] : List Keyword).isEmpty then 0 else 1) < 30 := by show es.length + 0 + 0 < 30; omega
  rw [decide_eq_true this]
  rfl
theorem meth_tree {o : Expr} {m : Str} {apos pos : Pos} {args : List Expr} {env : PySem.Env} (hbase : attributeBase o m env (eval o env) = eval o env)
    (hfew : ((backTo pos (starEach args env)).all (fun x => !x.1) && (backToKw pos (keywordEach [] env)).all (fun x => x.1.isSome)
      && decide (args.length + ([] : List Keyword).length + (if ([] : List Keyword).isEmpty then 0 else 1) < 30)) = true)
    (hline : (apos.endLine == pos.line) = true) : eval (.Call (.Attribute o m apos) args [] pos) env = (do
      let ov ← eval o env
      standAt apos.atName
      let (f, first) ← holding [ov] (getMethod ov m (do return (← importBound o env).getD true))
      callWith pos f first (backTo pos (starEach args env)) (backToKw pos (keywordEach [] env))) := by
  rw [arm_eval_Call, hbase]
  have hform : methodCallForm (args.length + ([] : List Keyword).length) (backTo pos (starEach args env)) (backToKw pos (keywordEach [] env)) = true := hfew
  have hpos : methodCallPos true o env apos pos = pure pos := by unfold methodCallPos; simp [hline]
  unfold methodCall
  rw [hform]
  simp only [hpos, calleeOf]
  rfl
theorem ew_fld {c f : Str} (g : Good W N sc k E X) (hb : baseOk a = true) (hf : FldOk W c f) (ha : PEW W E X a wa) : PEW W E X (.Attribute a f pos) (wFld c f wa) := by
  obtain ⟨ta, pa, ea⟩ := ha
  refine ⟨_, pe_fld pa (base_of hb), ?_⟩
  rw [g.hK]
  exact ev_fld hf ea
/-- a method keeps its promise -/
def MOk (W : Wd) (k : Nat) (c m : Str) (S : FSpec) : Prop := ∃ (C fa : Addr) (fd : FuncData) (ps : List Str), W.cl c = some C ∧ Cls W.K C ∧ Meth W.K C m fa ∧ FnG W.P W.w W.K W.mg W.base (L2.CX W.P W.w) k fa fd ps (spOf W S) ∧ Binds W.K fd ps []
theorem MOk.mono {j : Nat} {c m : Str} {S : FSpec} (h : MOk W j c m S) (hj : j ≤ k) : MOk W k c m S := by
  obtain ⟨C, fa, fd, ps, h1, h2, h3, h4, h5⟩ := h
  exact ⟨C, fa, fd, ps, h1, h2, h3, h4.mono hj, h5⟩
def wMeth (c m : Str) (S : FSpec) (wo : WE) (wr : WA) : WE := fun δ K X => wo δ (fun r => (∃ fs, r.d = .ins c fs ∧ fs.lookup m = none) ∧ wr δ (fun rs => callS S (r :: rs) K X) X) X
theorem ev_meth {c m : Str} {S : FSpec} {C : Addr} {to : TE} {ta : TA} {wr : WA} (hC : W.cl c = some C) (eo : EvE W E to wo) (ea : EvA W E ta wr) : EvE W E (tMeth C m (spOf W S) [] E to ta) (wMeth c m S wo wr) := by
  intro Hd H0 A H σ δ K Xp Q e hw q x
  refine eo Hd H0 A H σ δ _ Xp _ e hw (fun v H1 r k1 s1 rr ⟨⟨fs, hd, hl⟩, h1⟩ => ?_) x
  obtain ⟨z, C', dx, vs, rfl, hc, hz, hF⟩ := rr.ins hd
  have : C = C' := by have := hc.1; rw [hC] at this; exact Option.some.inj this
  subst this
  refine ⟨z, dx, vs, rfl, hz, (hF.look (f := m)).2 hl, ?_⟩
  have e1 := e.keep k1 s1
  refine ea Hd H0 A H1 σ δ _ Xp _ e1 h1 (fun us H2 rs k2 s2 r2 h2 => ?_) (x.keep k1)
  rw [List.append_nil]
  exact sp_call (e1.keep k2 s2) (.cons (rr.opn.keep e1 k2) r2) h2 ((q.from k1 s1).from k2 s2) ((x.keep k1).keep k2)
theorem ew_meth {c m : Str} {S : FSpec} {es : List Expr} {wr : WA} (g : Good W N sc k E X) (hb : baseOk o = true) (hln : (apos.endLine == pos.line) = true) (M : MOk W k c m S) (st : (a :: es).all noStar = true) (hl : (a :: es).length < 20) (ho : PEW W E X o wo) (ha : PAW W E X (a :: es) wr) :
    PEW W E X (.Call (.Attribute o m apos) (a :: es) [] pos) (wMeth c m S wo wr) := by
  obtain ⟨to, po, eo⟩ := ho
  obtain ⟨ta, pa, ea⟩ := ha
  obtain ⟨C, fa, fd, ps, h1, h2, h3, F, hbn⟩ := M
  have st' := st
  rw [List.all_cons, Bool.and_eq_true] at st'
  refine ⟨_, ge_meth (E := E) po (by rw [g.hK]; exact h2) (by rw [g.hK]; exact h3) (by rw [g.hP, g.hw, g.hK, g.hm, g.hb]; exact F) g.room g.gd (by rw [g.hK]; exact hbn) (by have := g.px; rw [g.hP, g.hw] at this; exact this) pa (star_is st'.1) (star_none st'.2) (meth_tree (base_of hb) (few_is st hl) hln), ev_meth h1 eo ea⟩
theorem ew_meth0 {c m : Str} {S : FSpec} (g : Good W N sc k E X) (hb : baseOk o = true) (hln : (apos.endLine == pos.line) = true) (M : MOk W k c m S) (ho : PEW W E X o wo) :
    PEW W E X (.Call (.Attribute o m apos) [] [] pos) (wMeth c m S wo wNil) := by
  obtain ⟨to, po, eo⟩ := ho
  obtain ⟨C, fa, fd, ps, h1, h2, h3, F, hbn⟩ := M
  refine ⟨_, ge_meth0 (E := E) po (by rw [g.hK]; exact h2) (by rw [g.hK]; exact h3) (by rw [g.hP, g.hw, g.hK, g.hm, g.hb]; exact F) g.room g.gd (by rw [g.hK]; exact hbn) (by have := g.px; rw [g.hP, g.hw] at this; exact this) (meth_tree (base_of hb) rfl hln), ev_meth h1 eo ?_⟩
  intro Hd H0 A H σ δ K Xp Q e hw q x
  exact q [] H [] (Kx.refl H) e.st .nil hw
/-! ### making: the promise of __init__ -/
/-- everything but x and the draws' state is kept -/
def Kxx (W : Wd) (x : Addr) (H H' : Hp) : Prop := ∀ z o, z ≠ x → ¬ inSa W z → H z = some o → H' z = some o
def spInit (W : Wd) (c : Str) (S : FSpec) : Sp := fun vs H Q E => ∃ (x C dx : Addr) (us : List V) (Hd : Addr → Prop) (ds : List D) (K : Bool → D → Prop) (X : Xn → Prop), vs = .ref x :: us ∧ W.cl c = some C ∧ H x = some (.ins C dx []) ∧ ¬ inSa W x ∧ ¬ Hd x ∧ StOk W H ∧ (∀ a, Hd a → ∃ o, H a = some o) ∧
  RepL W (fz (fun z => inSa W z ∨ Hd z ∨ z = x) H) ds us ∧ ds.length = S.ar ∧ S.wp ds K X ∧
  (∀ d, K true d → ∀ H', Kxx W x H H' → StOk W H' → Top W (fz (fun z => inSa W z ∨ Hd z ∨ z = x) H') H' d x → Q .non H') ∧
  ∀ y, X y → ∀ cls d H', Kxx W x H H' → StOk W H' → XnOk W Hd H' cls d y → E cls d H'
def MkOk (W : Wd) (k : Nat) (c : Str) (S : FSpec) : Prop := ∃ (j : Nat) (C fa : Addr) (fd : FuncData) (ps : List Str), k = j + 1 ∧ W.cl c = some C ∧ W.mg c = some (.ref C) ∧ Mk W.K C fa ∧ FnG W.P W.w W.K W.mg W.base (L2.CX W.P W.w) j fa fd ps (spInit W c S) ∧ Binds W.K fd ps []
theorem MkOk.mono {j : Nat} {c : Str} {S : FSpec} (h : MkOk W j c S) (hj : j ≤ k) : MkOk W k c S := by
  obtain ⟨i, C, fa, fd, ps, h0, h1, h2, h3, h4, h5⟩ := h
  exact ⟨k - 1, C, fa, fd, ps, by omega, h1, h2, h3, h4.mono (by omega), h5⟩
theorem ev_mk {c : Str} {S : FSpec} {C : Addr} {ta : TA} {wr : WA} (hC : W.cl c = some C) (ea : EvA W E ta wr) : EvE W E (tMake C (spInit W c S) [] E ta) (wCall S wr) := by
  intro Hd H0 A H σ δ K Xp Q e hw q x
  refine ea Hd H0 A H σ δ _ Xp _ e hw (fun vs H1 rs k1 s1 r1 h1 => ?_) x
  have e1 := e.keep k1 s1
  obtain ⟨h2, h3⟩ := h1
  intro z dx hz hdx hne
  rw [List.append_nil]
  have nS : ∀ y, H1 y = none → ¬ Rsv W Hd A y := fun y hy r => by
    obtain ⟨o, q⟩ := e1.rsvSome r
    rw [hy] at q; cases q
  have nHd : ∀ y, HdC Hd A (slotsOf rs) y → Rsv W Hd A y := fun y r => by
    rcases r with r | ⟨i, r, _⟩
    · exact .inr (.inl r)
    · exact .inr (.inr ⟨i, r⟩)
  have kp : Kp H1 (upd (upd H1 dx (.own z)) z (.ins C dx [])) := fun y o h => by
    rw [upd_ne (ne_of_none h hz), upd_ne (ne_of_none h hdx)]; exact h
  refine ⟨z, C, dx, vs, HdC Hd A (slotsOf rs), dsOf rs, callK rs K, Xp, rfl, hC, upd_same, fun r => nS z hz (.inl r), fun r => nS z hz (nHd z r), s1.kp kp, fun y hy => ?_, ?_, by unfold dsOf; rw [List.length_map]; exact h2, h3, fun d hp H2 k2 s2 ht => ⟨rfl, ?_⟩, fun y hy cls d H2 k2 s2 hr => ?_⟩
  · obtain ⟨o, h⟩ := e1.rsvSome (nHd y hy)
    exact ⟨o, kp y o h⟩
  · refine (args_rep e1 _ r1 fun i hi => hi).mono (fz_kp fun y o n h => ⟨fun r => ?_, kp y o h⟩).ex
    rcases r with r | r | r
    · exact n (.inl r)
    · exact n (.inr r)
    · subst r; rw [hz] at h; cases h
  · obtain ⟨hsafe, hk⟩ := hp
    have kx : Kx W H1 H2 := fun y o n h => k2 y o (ne_of_none h hz) n (kp y o h)
    exact (q.from k1 s1) _ H2 _ kx s2 (res_of e1 kx s2 hsafe ⟨z, rfl, hz, fun r => nS z hz (.inl r), fun r => nS z hz (nHd z r), ht⟩) hk
  · have kx : Kx W H1 H2 := fun y o n h => k2 y o (ne_of_none h hz) n (kp y o h)
    exact x y cls d H2 (k1.trans kx) s2 (xn_of hr) hy
theorem ew_mk {es : List Expr} {c : Str} {S : FSpec} {wr : WA} (g : Good W N sc k E X) (hx : glB sc c = true) (hdb : (c == ("__debug__" : Str)) = false) (M : MkOk W k c S) (st : (a :: es).all noStar = true) (ha : PAW W E X (a :: es) wr) : PEW W E X (.Call (.Name c p) (a :: es) [] pos) (wCall S wr) := by
  obtain ⟨ta, pa, ea⟩ := ha
  obtain ⟨j, C, fa, fd, ps, rfl, hC, hm, mk, F, hb⟩ := M
  rw [List.all_cons, Bool.and_eq_true] at st
  refine ⟨_, ge_make (E := E) (by rw [g.hK]; exact mk) (by rw [g.hP, g.hw, g.hK, g.hm, g.hb]; exact F) g.room g.gd (g.gl c hx) (by rw [g.hm]; exact hm) (by rw [g.hK]; exact hb) (by have := g.px; rw [g.hP, g.hw] at this; exact this) pa hdb (star_is st.1) (star_none st.2), ev_mk hC ea⟩
end
end G
set_option maxRecDepth 100000
set_option maxHeartbeats 4000000
namespace G
open PySem PySem.Spec PyProof.Rows L2
section
variable {W : Wd} {Hd : Addr → Prop} {H0 H : Hp} {A : Nat → Option Addr} {σ : St} {δ : Env} {X : Cx} {E : XK} {N : List Str} {sc : Scope} {k : Nat}
variable {a b c : Expr} {wa wb wc : WE} {pos p : Pos}

/-! ### storing in slots -/
def dropL (A : Nat → Option Addr) (is : List Nat) : Nat → Option Addr := fun j => if j ∈ is then none else A j
theorem dropL_some {is : List Nat} {j : Nat} {z : Addr} (h : dropL A is j = some z) : j ∉ is ∧ A j = some z := by
  unfold dropL at h
  split at h
  · cases h
  · rename_i n; exact ⟨n, h⟩
theorem dropL_nil : dropL A [] = A := by
  funext j
  unfold dropL
  rw [if_neg (by simp)]
theorem dropL_cons {i : Nat} {is : List Nat} : dropL (dropL A [i]) is = dropL A (i :: is) := by
  funext j
  unfold dropL
  by_cases h1 : j ∈ is
  · rw [if_pos h1, if_pos (List.mem_cons_of_mem _ h1)]
  · rw [if_neg h1]
    by_cases h2 : j = i
    · rw [if_pos (by simp [h2]), if_pos (by simp [h2])]
    · rw [if_neg (by simp [h2]), if_neg (by simp [h1, h2])]
theorem rsv_drop {is : List Nat} {z : Addr} (h : Rsv W Hd (dropL A is) z) : Rsv W Hd A z := by
  rcases h with h | h | ⟨i, h⟩
  · exact .inl h
  · exact .inr (.inl h)
  · exact .inr (.inr ⟨i, (dropL_some h).2⟩)
theorem fz_drop {is : List Nat} : Kp (fz (Rsv W Hd A) H) (fz (Rsv W Hd (dropL A is)) H) := fz_kp fun z o n q => ⟨fun r => n (rsv_drop r), q⟩
theorem join_set {σ : St} {i j : Nat} {v : Option V} : ((σ.set i v)[j]?).join = if i = j ∧ i < σ.length then v else (σ[j]?).join := by
  rw [List.getElem?_set]
  by_cases h : i = j
  · subst h
    by_cases h2 : i < σ.length
    · rw [if_pos rfl, if_pos h2, if_pos ⟨rfl, h2⟩]; rfl
    · rw [if_pos rfl, if_neg h2, if_neg (fun z => h2 z.2)]
      rw [List.getElem?_eq_none (by omega)]
  · rw [if_neg h, if_neg (fun z => h z.1)]
theorem SlotOk.drop {is : List Nat} {i : Nat} {v : Option V} {s : Sl} (h : SlotOk W (fz (Rsv W Hd A) H) H (A i) v s) (hi : i ∉ is) : SlotOk W (fz (Rsv W Hd (dropL A is)) H) H (dropL A is i) v s := by
  have e : dropL A is i = A i := by unfold dropL; rw [if_neg hi]
  rw [e]
  cases s with
  | un => exact h
  | fz d => obtain ⟨h1, x, h2, h3⟩ := h; exact ⟨h1, x, h2, h3.mono fz_drop.ex⟩
  | ow d => obtain ⟨a, h1, h2, h3⟩ := h; exact ⟨a, h1, h2, h3.mono fz_drop.ex fun _ q => q⟩
theorem EnvOk.setF {i : Nat} {d : D} {v : V} (e : EnvOk W Hd H0 A H σ δ) (h : Rep W (fz (Rsv W Hd A) H) d v) : EnvOk W Hd H0 (dropL A [i]) H (σ.set i (some v)) (δ.set i (.fz d)) := by
  refine ⟨e.b0, e.st, by simp [e.len], fun j s hs => ?_, fun j l z h1 h2 => e.inj j l z (dropL_some h1).2 (dropL_some h2).2, fun j z h1 => e.new j z (dropL_some h1).2, e.hid, fun j hj => ?_⟩
  · rw [List.getElem?_set] at hs
    by_cases hij : i = j
    · subst hij
      rw [if_pos rfl] at hs
      split at hs
      · rename_i hl
        cases hs
        refine ⟨by unfold dropL; rw [if_pos (by simp)], v, ?_, h.mono fz_drop.ex⟩
        rw [join_set, if_pos ⟨rfl, by rw [e.len]; exact hl⟩]
      · cases hs
    · rw [if_neg hij] at hs
      have := (e.sl j s hs).drop (is := [i]) (by simp; exact fun z => hij z.symm)
      rw [join_set, if_neg (fun z => hij z.1)]
      exact this
  · unfold dropL
    split
    · rfl
    · exact e.out j (by simpa using hj)
def putA (A : Nat → Option Addr) (i : Nat) (z : Addr) : Nat → Option Addr := fun j => if j = i then some z else A j
theorem putA_some {i j : Nat} {z y : Addr} (h : putA A i z j = some y) : (j = i ∧ y = z) ∨ (j ≠ i ∧ A j = some y) := by
  unfold putA at h
  split at h
  · rename_i e; cases h; exact .inl ⟨e, rfl⟩
  · rename_i e; exact .inr ⟨e, h⟩
theorem putA_ne {i j : Nat} {z : Addr} (h : j ≠ i) : putA A i z j = A j := by unfold putA; rw [if_neg h]
theorem putA_eq {i : Nat} {z : Addr} : putA A i z i = some z := by unfold putA; rw [if_pos rfl]
/-- a slot takes over a new container -/
theorem EnvOk.setO {Hs : Hp} {i : Nat} {d : D} {z : Addr} (es : EnvOk W Hd H0 A Hs σ δ) (k : Kx W Hs H) (s : StOk W H) (hz : Hs z = none) (nz : ¬ Rsv W Hd A z) (h : Top W (fz (fun y => Rsv W Hd A y ∨ y = z) H) H d z) (hi : i < δ.length) :
    EnvOk W Hd H0 (putA A i z) H (σ.set i (some (.ref z))) (δ.set i (.ow d)) := by
  have e := es.keep k s
  have sub : Kp (fz (fun y => Rsv W Hd A y ∨ y = z) H) (fz (Rsv W Hd (putA A i z)) H) := fz_kp fun y o n q => ⟨fun r => by
    rcases r with r | r | ⟨j, r⟩
    · exact n (.inl (.inl r))
    · exact n (.inl (.inr (.inl r)))
    · rcases putA_some r with ⟨_, r⟩ | ⟨_, r⟩
      · exact n (.inr r)
      · exact n (.inl (.inr (.inr ⟨j, r⟩))), q⟩
  -- what stood in the slots ahead is not at z
  have old : Kp (fz (Rsv W Hd A) Hs) (fz (fun y => Rsv W Hd A y ∨ y = z) H) := fz_kp fun y o n q => ⟨fun r => r.elim n fun w => (by rw [w, hz] at q; cases q), k y o (fun r => n (.inl r)) q⟩
  have hz0 : H0 z = none := es.b0.fresh es.st hz
  refine ⟨e.b0, s, by simp [e.len], fun j x hx => ?_, fun j l y h1 h2 => ?_, fun j y h1 => ?_, e.hid, fun j hj => ?_⟩
  · rw [List.getElem?_set] at hx
    by_cases hij : i = j
    · subst hij
      rw [if_pos rfl, if_pos hi] at hx
      cases hx
      refine ⟨z, putA_eq, ?_, h.mono sub.ex fun _ q => q⟩
      rw [join_set, if_pos ⟨rfl, by rw [e.len]; exact hi⟩]
    · rw [if_neg hij] at hx
      have q := es.sl j x hx
      rw [join_set, if_neg (fun w => hij w.1), putA_ne (fun w => hij w.symm)]
      cases x with
      | un => exact q
      | fz d => obtain ⟨h1, x, h2, h3⟩ := q; exact ⟨h1, x, h2, h3.mono (old.trans sub).ex⟩
      | ow d =>
        obtain ⟨y, h1, h2, h3⟩ := q
        exact ⟨y, h1, h2, h3.mono (old.trans sub).ex fun o q => k y o (es.new j y h1).2.1 q⟩
  · have ni : ∀ l, A l = some z → False := fun l h => nz (.inr (.inr ⟨l, h⟩))
    rcases putA_some h1 with ⟨a1, a2⟩ | ⟨a1, a2⟩ <;> rcases putA_some h2 with ⟨b1, b2⟩ | ⟨b1, b2⟩
    · rw [a1, b1]
    · rw [a2] at b2; exact (ni _ b2).elim
    · rw [b2] at a2; exact (ni _ a2).elim
    · exact e.inj j l y a2 b2
  · rcases putA_some h1 with ⟨a1, a2⟩ | ⟨a1, a2⟩
    · rw [a2]; exact ⟨hz0, fun q => nz (.inl q), fun q => nz (.inr (.inl q))⟩
    · exact e.new j y a2
  · have hj' : δ.length ≤ j := by simpa using hj
    rw [putA_ne (by omega)]
    exact e.out j hj'

/-! ### targets -/
inductive Tg where
  | one (i : Nat) | many (is : List Nat)
def Tg.slots : Tg → List Nat
  | .one i => [i]
  | .many is => is
def asgN : List Nat → List D → Env → Option Env
  | [], [], δ => some δ
  | i :: is, d :: ds, δ => asgN is ds (δ.set i (.fz d))
  | _, _, _ => none
def asgT : Tg → D → Env → Option Env
  | .one i, d, δ => some (δ.set i (.fz d))
  | .many is, .tup ds, δ => asgN is ds δ
  | _, _, _ => none
structure SetOnly (is : List Nat) (σ σ' : St) : Prop where
  len : σ'.length = σ.length
  eq : ∀ j, j ∉ is → σ'[j]? = σ[j]?
theorem SetOnly.refl : SetOnly [] σ σ := ⟨rfl, fun _ _ => rfl⟩
theorem SetOnly.cons {i : Nat} {is : List Nat} {v : Option V} {σ' : St} (h : SetOnly is (σ.set i v) σ') : SetOnly (i :: is) σ σ' := by
  refine ⟨h.len.trans (by simp), fun j hj => ?_⟩
  rw [h.eq j (fun z => hj (List.mem_cons_of_mem _ z)), List.getElem?_set_ne (fun z => hj (by simp [z]))]
def EvG (W : Wd) (g : TG) (tg : Tg) : Prop := ∀ (Hd : Addr → Prop) (H0 : Hp) (A : Nat → Option Addr) (H : Hp) (σ : St) (δ δ' : Env) (v : V) (d : D) (Q : St → Hp → Prop), EnvOk W Hd H0 A H σ δ → Rep W (fz (Rsv W Hd A) H) d v → asgT tg d δ = some δ' →
  (∀ σ', SetOnly tg.slots σ σ' → EnvOk W Hd H0 (dropL A tg.slots) H σ' δ' → Q σ' H) → g v σ H Q
def PGW (W : Wd) (X : Cx) (t : Expr) (tg : Tg) : Prop := ∃ g, PG X t g ∧ EvG W g tg
theorem evg_one {i : Nat} : EvG W (gName i) (.one i) := by
  intro Hd H0 A H σ δ δ' v d Q e h ha q
  cases ha
  exact q _ (SetOnly.cons SetOnly.refl) (e.setF h)
theorem gw_name {i : Nat} {x : Str} (g : Good W N sc k E X) (hi : N[i]? = some x) (hx : locB sc x = true) : PGW W X (.Name x pos) (.one i) :=
  ⟨_, pg_name (by rw [g.hN]; exact g.nd) (by rw [g.hN]; exact hi) (g.loc x hx).1 (g.loc x hx).2, evg_one⟩
def EvGs (W : Wd) (g : TGs) (is : List Nat) : Prop := ∀ (Hd : Addr → Prop) (H0 : Hp) (A : Nat → Option Addr) (H : Hp) (σ : St) (δ δ' : Env) (vs : List V) (ds : List D) (Q : St → Hp → Prop), EnvOk W Hd H0 A H σ δ → RepL W (fz (Rsv W Hd A) H) ds vs → asgN is ds δ = some δ' →
  (∀ σ', SetOnly is σ σ' → EnvOk W Hd H0 (dropL A is) H σ' δ' → Q σ' H) → g vs σ H Q
def PGsW (W : Wd) (X : Cx) (ts : List Expr) (is : List Nat) : Prop := ∃ g, PGs X ts g ∧ EvGs W g is
theorem gsw_nil : PGsW W X [] [] := by
  refine ⟨_, pgs_nil, ?_⟩
  intro Hd H0 A H σ δ δ' vs ds Q e h ha q
  cases ds with
  | nil =>
    rw [RepL] at h
    cases ha
    exact ⟨h, q σ SetOnly.refl (by rw [dropL_nil]; exact e)⟩
  | cons d ds => cases ha
theorem assignEach_is {t : Expr} {ts : List Expr} {env : PySem.Env} (h : noStar t = true) : assignEach (t :: ts) env = (false, assign t env) :: assignEach ts env := by
  cases t <;> first | rfl | cases h
theorem gsw_cons {i : Nat} {is : List Nat} {x : Str} {ts : List Expr} (g : Good W N sc k E X) (hi : N[i]? = some x) (hx : locB sc x = true) (ht : PGsW W X ts is) : PGsW W X (.Name x pos :: ts) (i :: is) := by
  obtain ⟨gs, ps, es⟩ := ht
  refine ⟨_, pgs_cons (pg_name (by rw [g.hN]; exact g.nd) (by rw [g.hN]; exact hi) (g.loc x hx).1 (g.loc x hx).2) ps (by rw [assignEach_is rfl]; rfl), ?_⟩
  intro Hd H0 A H σ δ δ' vs ds Q e h ha q
  cases ds with
  | nil => cases ha
  | cons d ds =>
    rw [RepL] at h
    obtain ⟨v, r, rfl, h1, h2⟩ := h
    refine ⟨v, r, rfl, ?_⟩
    refine es Hd H0 (dropL A [i]) H _ (δ.set i (.fz d)) δ' r ds Q (e.setF h1) (h2.mono fz_drop.ex) ha fun σ' so e' => ?_
    rw [dropL_cons] at e'
    exact q σ' so.cons e'
def nmsOnly (ts : List Expr) : Bool := ts.all fun t => match t with
  | .Name _ _ => true
  | _ => false
theorem assign_names {env : PySem.Env} : ∀ {ts : List Expr}, nmsOnly ts = true → (assignEach ts env).length = ts.length ∧ (assignEach ts env).findIdx? (·.1) = none
  | [], _ => ⟨rfl, rfl⟩
  | t :: ts, h => by
    unfold nmsOnly at h
    rw [List.all_cons, Bool.and_eq_true] at h
    obtain ⟨h1, h2⟩ := assign_names (env := env) (ts := ts) h.2
    have hn : noStar t = true := by cases t <;> first | rfl | cases h.1
    rw [assignEach_is hn]
    refine ⟨by rw [List.length_cons, List.length_cons, h1], ?_⟩
    rw [List.findIdx?_cons]
    simp [h2]
theorem gw_tup {ts : List Expr} {is : List Nat} {j : Nat} (g : Good W N sc k E X) (hn : nmsOnly ts = true) (hl : is.length = ts.length) (h : PGsW W X ts is) : PGW W X (.Tuple ts j pos) (.many is) := by
  obtain ⟨gs, ps, es⟩ := h
  obtain ⟨n1, n2⟩ := assign_names (env := X.env) hn
  refine ⟨_, pg_tup g.calm ps n1 n2, ?_⟩
  rw [g.hK]
  intro Hd H0 A H σ δ δ' v d Q e h ha q
  cases d <;> first | cases ha | skip
  rename_i ds
  rw [Rep] at h
  obtain ⟨z, vs, h1, h2, h3⟩ := h
  refine ⟨z, vs, h1, fz_le.ex.t h2, ?_, es Hd H0 A H σ δ δ' vs ds Q e h3 ha q⟩
  have : ∀ (is : List Nat) (ds : List D) (δ : Env), asgN is ds δ = some δ' → ds.length = is.length := by
    intro is
    induction is with
    | nil => intro ds δ h; cases ds <;> first | rfl | cases h
    | cons i is ih => intro ds δ h; cases ds <;> first | cases h | (rw [List.length_cons, List.length_cons, ih _ _ h])
  rw [h3.length, this is ds δ ha, hl]

/-! ### what is walked -/
def Src (W : Wd) (FG F : Hp) (J : It) (ds : List D) : Prop := ∃ (G : Hp → Prop) (Y : Nat → Hp → V → Hp → Prop), Walk J ds.length G Y ∧ (∀ H', Kp FG H' → G H') ∧
  ∀ i d Hc x Hc', ds[i]? = some d → Y i Hc x Hc' → (Hc' = Hc ∧ Rep W F d x) ∨ ∃ T x1 x2 d1 d2, x = .ref T ∧ Hc T = none ∧ Hc' = upd Hc T (.tup [x1, x2]) ∧ d = .tup [d1, d2] ∧ Rep W F d1 x1 ∧ Rep W F d2 x2
abbrev WI := Env → (List Nat → List D → Prop) → (Xn → Prop) → Prop
def EvI (W : Wd) (E : XK) (ti : TI) (wi : WI) : Prop := ∀ (Hd : Addr → Prop) (H0 : Hp) (A : Nat → Option Addr) (H : Hp) (σ : St) (δ : Env) (K : List Nat → List D → Prop) (X : Xn → Prop) (Rr : It → Hp → Prop), EnvOk W Hd H0 A H σ δ → wi δ K X →
  (∀ J H1 Js ds, Kx W H H1 → StOk W H1 → Src W (fz (fun z => inSa W z ∨ HdC Hd A Js z) H1) (fz (Rsv W Hd A) H1) J ds → K Js ds → Rr J H1) → XOk W Hd H X E → ti σ H Rr
def PIW (W : Wd) (E : XK) (X : Cx) (tg iter : Expr) (wi : WI) : Prop := ∃ ti, PI X tg iter ti ∧ EvI W E ti wi
/-- a list, a tuple, a text -/
def iSeq (K : PySem.W.Frag) (tl : TE) : TI := fun σ H R => tl σ H fun x H1 => (∃ a xs, x = .ref a ∧ SqL K H1 a xs ∧ R (Itl K a) H1) ∨ (∃ a xs, x = .ref a ∧ SqT K H1 a xs ∧ R (Itt K a) H1) ∨ ∃ z, x = .str z ∧ R (Its z) H1
theorem pi_seq {tg l : Expr} {tl : TE} (hl : PE X l tl) : PI X tg l (iSeq X.K tl) := by
  refine ⟨fun pins s σ H R I h => ?_⟩
  refine thn (hl.run pins s σ H _ I h) fun v s1 ⟨x, H1, I1, r1, q1⟩ => ?_
  rcases q1 with ⟨z, xs, rfl, hq, q⟩ | ⟨z, xs, rfl, hq, q⟩ | ⟨z, rfl, q⟩
  · cases r1
    obtain ⟨its, rv, pl, hz⟩ := I1.list hq
    exact wpAny_pyIter_list pl.isList (pi_one (tk := s1.toks) I1 _ (turn_list z _) ⟨_, Heap.get?_push_size _ rfl, rfl, rfl⟩ q)
  · cases r1
    obtain ⟨its, rv, pl, hz⟩ := I1.tuple hq
    exact wpAny_pyIter_tuple (show s1.heap.IsTuple z its.toArray from pl) (pi_one (tk := s1.toks) I1 _ (turn_tuple z _) ⟨_, Heap.get?_push_size _ rfl, rfl, rfl⟩ q)
  · obtain ⟨t, rfl⟩ := r1
    cases ha : z.cps.all (· < 128)
    · exact wpAny_pyIter_wide ha (pi_one (tk := s1.toks) I1 _ (turn_str _ z t "str_iterator" (.inr rfl)) ⟨_, Heap.get?_push_size _ rfl, rfl, rfl⟩ q)
    · exact wpAny_pyIter_ascii ha (pi_one (tk := s1.toks) I1 _ (turn_str _ z t "str_ascii_iterator" (.inl rfl)) ⟨_, Heap.get?_push_size _ rfl, rfl, rfl⟩ q)
def strD (s : Str) : List D := s.cps.toList.map fun c => .str ⟨#[c]⟩
def seqD : D → Option (List D)
  | .lst xs => some xs
  | .tup xs => some xs
  | .str s => some (strD s)
  | _ => none
def wSeq (wa : WE) : WI := fun δ K X => wa δ (fun r => ∃ ds, seqD r.d = some ds ∧ K (slotsOf [r]) ds) X
theorem sub_HdC {J : List Nat} {z : Addr} (h : inSa W z ∨ HdC Hd A J z) : Rsv W Hd A z := by
  rcases h with h | h | ⟨i, h, _⟩
  · exact .inl h
  · exact .inr (.inl h)
  · exact .inr (.inr ⟨i, h⟩)
theorem kp_HdC {J : List Nat} : Kp (fz (Rsv W Hd A) H) (fz (fun z => inSa W z ∨ HdC Hd A J z) H) := fz_kp fun z o n q => ⟨fun r => n (sub_HdC r), q⟩
/-- a readable list, kept where the slots it hangs on are seen -/
theorem RepR.keepL {Hs : Hp} {v : V} {r : R} {ds : List D} (e : EnvOk W Hd H0 A H σ δ) (h : RepR W Hd A Hs H δ v r) (hd : r.d = .lst ds) (J : List Nat) (hJ : ∀ i ∈ slotsOf [r], i ∈ J) :
    ∃ a vs, v = .ref a ∧ fz (fun z => inSa W z ∨ HdC Hd A J z) H a = some (.lst vs) ∧ RepL W (fz (Rsv W Hd A) H) ds vs := by
  cases r with
  | v d =>
    cases (show d = .lst ds from hd)
    have h' : Rep W (fz (Rsv W Hd A) H) (.lst ds) v := h
    rw [Rep] at h'
    obtain ⟨a, vs, e1, e2, e3⟩ := h'
    exact ⟨a, vs, e1, kp_HdC _ _ e2, e3⟩
  | own d =>
    cases (show d = .lst ds from hd)
    obtain ⟨a, e1, e2, e3, vs, e4, e5⟩ := h
    exact ⟨a, vs, e1, fz_of (fun q => e3 (sub_HdC q)) e4, e5.mono (fz_kp fun z o n q => ⟨fun r => n (.inl r), q⟩).ex⟩
  | sl i d =>
    cases (show d = .lst ds from hd)
    obtain ⟨a, e1, e2, e3, vs, e4, e5⟩ := h
    obtain ⟨n1, n2, n3⟩ := e.new i a e1
    refine ⟨a, vs, e2, fz_of (fun q => ?_) e4, e5⟩
    rcases q with q | q | ⟨j, q, nj⟩
    · exact n2 q
    · exact n3 q
    · rw [e.inj i j a e1 q] at hJ
      exact nj (hJ j List.mem_cons_self)
theorem strD_get {s : Str} {i : Nat} {d : D} (h : (strD s)[i]? = some d) : ∃ c, s.cps[i]? = some c ∧ d = .str ⟨#[c]⟩ := by
  unfold strD at h
  rw [List.getElem?_map] at h
  cases q : s.cps.toList[i]? with
  | none => rw [q] at h; cases h
  | some c =>
    rw [q] at h
    cases h
    exact ⟨c, by rw [← Array.getElem?_toList]; exact q, rfl⟩
theorem src_list {F : Hp} {FG : Hp} {ds : List D} {vs : List V} {z : Addr} (h : FG z = some (.lst vs)) (r : RepL W F ds vs) : Src W FG F (Itl W.K z) ds := by
  refine ⟨fun H => SqL W.K H z vs, YAt vs, by rw [← r.length]; exact walk_list (xs := vs), fun H' kp => SqL.of (kp z _ h), fun i d Hc x Hc' hd y => .inl ⟨y.1, ?_⟩⟩
  obtain ⟨u, h1, h2⟩ := r.get hd
  have := y.2
  rw [h1] at this
  cases this
  exact h2
theorem src_tup {F : Hp} {FG : Hp} {ds : List D} {vs : List V} {z : Addr} (h : SqT W.K FG z vs) (r : RepL W F ds vs) : Src W FG F (Itt W.K z) ds := by
  refine ⟨fun H => SqT W.K H z vs, YAt vs, by rw [← r.length]; exact walk_tup (xs := vs), fun H' kp => kp.ex.t h, fun i d Hc x Hc' hd y => .inl ⟨y.1, ?_⟩⟩
  obtain ⟨u, h1, h2⟩ := r.get hd
  have := y.2
  rw [h1] at this
  cases this
  exact h2
theorem src_str {F : Hp} {FG : Hp} {s : Str} (ok : PyData.strOk s = true) : Src W FG F (Its s) (strD s) := by
  refine ⟨fun _ => True, fun i H v H' => H' = H ∧ ∃ c, s.cps[i]? = some c ∧ v = .str ⟨#[c]⟩, by unfold strD; rw [List.length_map, Array.length_toList]; exact walk_str, fun _ _ => True.intro, fun i d Hc x Hc' hd y => .inl ⟨y.1, ?_⟩⟩
  obtain ⟨c, h1, h2⟩ := y.2
  obtain ⟨c', h3, h4⟩ := strD_get hd
  rw [h1] at h3
  cases h3
  rw [h2, h4, Rep]
  exact ⟨rfl, strOk_at ok (by rw [← Array.getElem?_toList] at h1; exact List.mem_of_getElem? h1)⟩
theorem src_rng {F : Hp} {FG : Hp} {i c : Int} {n : Nat} : Src W FG F (Itc i c n) ((rgL i c n).map D.int) := by
  refine ⟨fun _ => True, YFn fun m => .int (i + (m : Nat) * c), by unfold rgL; rw [List.length_map, List.length_map, List.length_range]; exact walk_rangeC, fun _ _ => True.intro, fun j d Hc x Hc' hd y => .inl ⟨y.1, ?_⟩⟩
  unfold rgL at hd
  rw [List.map_map, List.getElem?_map] at hd
  cases q : (List.range n)[j]? with
  | none => rw [q] at hd; cases hd
  | some m =>
    rw [q] at hd
    cases hd
    obtain ⟨h1, h2⟩ := List.getElem?_eq_some_iff.mp q
    rw [List.getElem_range] at h2
    subst h2
    rw [Function.comp, Rep]
    exact y.2
theorem iw_seq {tg : Expr} (g : Good W N sc k E X) (ha : PEW W E X a wa) : PIW W E X tg a (wSeq wa) := by
  obtain ⟨ta, pa, ea⟩ := ha
  refine ⟨_, pi_seq pa, ?_⟩
  rw [g.hK]
  intro Hd H0 A H σ δ K X Rr e hw q x
  refine ea Hd H0 A H σ δ _ X _ e hw (fun v H1 r k1 s1 r1 h1 => ?_) x
  obtain ⟨ds, hd, hk⟩ := h1
  have e1 := e.keep k1 s1
  cases hr : r.d <;> rw [hr] at hd <;> first | (cases hd; done) | skip
  · rename_i s
    cases hd
    obtain ⟨rfl, ok⟩ := r1.str hr
    exact .inr (.inr ⟨s, rfl, q _ H1 _ _ k1 s1 (src_str ok) hk⟩)
  · rename_i xs
    cases hd
    obtain ⟨z, vs, h2, h3, h4⟩ := r1.keepL e1 hr (slotsOf [r]) fun _ h => h
    exact .inl ⟨z, vs, h2, .of (fz_le _ _ h3), q _ H1 _ _ k1 s1 (src_list h3 h4) hk⟩
  · rename_i xs
    cases hd
    obtain ⟨z, vs, h2, h3, h4⟩ := r1.tup hr
    have h5 := r1.tupF hr
    rw [Rep] at h5
    obtain ⟨z', vs', h6, h7, h8⟩ := h5
    exact .inr (.inl ⟨z', vs', h6, fz_le.ex.t h7, q _ H1 _ _ k1 s1 (src_tup (kp_HdC.ex.t h7) h8) hk⟩)
def iRn (ta : TA) : TI := fun σ H R => ta σ H fun vs H1 => ∃ i j c, rRg vs (i, j, c) ∧ RgIn i j c ∧ R (Itc i c (rgN i j c)) H1
theorem pi_rn {tg e : Expr} {ta : TA} (he : PRn X e ta) : PI X tg e (iRn ta) := by
  refine ⟨fun pins s σ H R I h => ?_⟩
  refine thn (he pins s σ H (fun i j c H1 => R (Itc i c (rgN i j c)) H1) I h) fun x s1 ⟨r, i, j, c, t, u, v, H1, ex, hr, hin, I1, q⟩ => ?_
  subst ex
  obtain ⟨c1, c2, c3, c4⟩ := rgC_of hin
  refine wpAny_pyIter_range hr c3 (pi_one (tk := s1.toks) I1 _ (turn_rangeC _ i c (rgN i j c)) ?_ q)
  have e1 : i + ((0 : Nat) : Int) * c = i := by simp
  have e2 : ((rgN i j c : Nat) : Int) - ((0 : Nat) : Int) = Builtin.Range.rangeSize i j c := by rw [c4]; simp
  show IsRangeIter _ _ (i + ((0 : Nat) : Int) * c) (((rgN i j c : Nat) : Int) - ((0 : Nat) : Int)) c
  rw [e1, e2]
  exact Heap.get?_push_size _ rfl
def wRange (wr : WA) : WI := fun δ K X => wr δ (fun rs => ∃ i j c, rgArgs rs = some (i, j, c) ∧ RgIn i j c ∧ K [] ((rgL i c (rgN i j c)).map D.int)) X
theorem iw_range {tg : Expr} {es : List Expr} {wr : WA} (g : Good W N sc k E X) (hr : glB sc "range" = true) (mr : W.mg "range" = none) (st : (a :: es).all noStar = true) (ha : PAW W E X (a :: es) wr) : PIW W E X tg (.Call (.Name "range" p) (a :: es) [] pos) (wRange wr) := by
  obtain ⟨ta, pa, ea⟩ := ha
  refine ⟨_, pi_rn (prn_of (g.gl _ hr) (by rw [g.hm]; exact mr) st pa), ?_⟩
  intro Hd H0 A H σ δ K X Rr e hw q x
  refine ea Hd H0 A H σ δ _ X _ e hw (fun vs H1 rs k1 s1 r1 h1 => ?_) x
  obtain ⟨i, j, c, h2, h3, hk⟩ := h1
  exact ⟨i, j, c, rRg_of r1 h2, h3, q _ H1 [] _ k1 s1 src_rng hk⟩

/-! ### comprehensions -/
def wipeD (δ : Env) (vs : List Nat) : Env := vs.foldr (fun i d => d.set i .un) δ
def nowB : Option Sl → Bool
  | some (.ow _) => false
  | _ => true
theorem now_fz {d : D} : nowB (some (.fz d)) = true := rfl
theorem now_un : nowB (some .un) = true := rfl
theorem now_no : nowB none = true := rfl
def noOw (δ : Env) (vs : List Nat) : Bool := vs.all fun i => nowB δ[i]?
theorem EnvOk.setU {i : Nat} (e : EnvOk W Hd H0 A H σ δ) (hi : A i = none) : EnvOk W Hd H0 A H (σ.set i none) (δ.set i .un) := by
  refine ⟨e.b0, e.st, by simp [e.len], fun j s hs => ?_, e.inj, e.new, e.hid, fun j hj => e.out j (by simpa using hj)⟩
  rw [List.getElem?_set] at hs
  by_cases hij : i = j
  · subst hij
    rw [if_pos rfl] at hs
    split at hs
    · cases hs; exact hi
    · cases hs
  · rw [if_neg hij] at hs
    rw [join_set, if_neg (fun z => hij z.1)]
    exact e.sl j s hs
theorem noOw_A (e : EnvOk W Hd H0 A H σ δ) {vs : List Nat} (h : noOw δ vs = true) : ∀ i ∈ vs, A i = none := by
  intro i hi
  unfold noOw at h
  rw [List.all_eq_true] at h
  have := h i hi
  cases q : δ[i]? with
  | none => exact e.out i (List.getElem?_eq_none_iff.mp q)
  | some s =>
    have z := e.sl i s q
    rw [q] at this
    cases s with
    | un => exact z
    | fz d => exact z.1
    | ow d => exact Bool.noConfusion (show false = true from this)
theorem EnvOk.wipe : ∀ {vs : List Nat}, EnvOk W Hd H0 A H σ δ → (∀ i ∈ vs, A i = none) → EnvOk W Hd H0 A H (L2.wipe σ vs) (wipeD δ vs)
  | [], e, _ => e
  | v :: vs, e, h => (EnvOk.wipe (vs := vs) e fun i hi => h i (List.mem_cons_of_mem _ hi)).setU (h v List.mem_cons_self)
theorem wipe_get : ∀ {vs : List Nat} {σ : St} (j : Nat), (L2.wipe σ vs)[j]? = if j ∈ vs ∧ j < σ.length then some none else σ[j]?
  | [], σ, j => by simp [L2.wipe]
  | v :: vs, σ, j => by
    have hl : ∀ vs : List Nat, (L2.wipe σ vs).length = σ.length := by
      intro vs
      induction vs with
      | nil => rfl
      | cons w ws ih => show ((L2.wipe σ ws).set w none).length = _; rw [List.length_set, ih]
    show ((L2.wipe σ vs).set v none)[j]? = _
    rw [List.getElem?_set, hl, wipe_get j]
    by_cases h1 : v = j
    · subst h1
      by_cases h2 : v < σ.length
      · simp [h2]
      · simp [h2]
    · simp [h1, show j ≠ v from fun z => h1 z.symm]
theorem wipe_len {σ : St} : ∀ (vs : List Nat), (L2.wipe σ vs).length = σ.length
  | [] => rfl
  | w :: ws => by show ((L2.wipe σ ws).set w none).length = _; rw [List.length_set, wipe_len ws]
theorem wipe_only {vs is : List Nat} {σ' : St} (hs : ∀ i ∈ is, i ∈ vs) (h : SetOnly is (L2.wipe σ vs) σ') : L2.wipe σ' vs = L2.wipe σ vs := by
  apply List.ext_getElem?
  intro j
  rw [wipe_get, wipe_get]
  have hl := h.len
  rw [wipe_len] at hl
  rw [hl]
  by_cases hj : j ∈ vs ∧ j < σ.length
  · rw [if_pos hj, if_pos hj]
  · rw [if_neg hj, if_neg hj]
    by_cases hv : j ∈ vs
    · have : ¬ j < σ.length := fun z => hj ⟨hv, z⟩
      rw [List.getElem?_eq_none (by omega), List.getElem?_eq_none (by omega)]
    · rw [h.eq j (fun z => hv (hs j z)), wipe_get, if_neg (fun z => hv z.1)]
/-- the items one by one: what each gives, or nothing -/
def lcGo (step : D → (Option D → Prop) → Prop) : List D → List D → (List D → Prop) → Prop
  | [], acc, K => K acc
  | d :: ds, acc, K => step d fun o => match o with
    | some e => lcGo step ds (acc ++ [e]) K
    | none => lcGo step ds acc K
def lcStep (tg : Tg) (wt : WT) (we : WE) (δ : Env) (d : D) (k : Option D → Prop) : Prop := ∃ δ', asgT tg d δ = some δ' ∧ wt δ' (fun b => if b = true then we δ' (fun r => r.fr = true ∧ k (some r.d)) (fun _ => False) else k none) (fun _ => False)
def wLc (vs : List Nat) (tg : Tg) (wi : WI) (wt : WT) (we : WE) : WE := fun δ K X => noOw δ vs = true ∧ wi δ (fun _ ds => ds.length ≤ big ∧ lcGo (lcStep tg wt we (wipeD δ vs)) ds [] fun acc => K (.own (.lst acc))) X
def wYes : WT := fun _ K _ => K true
theorem Kx.upd0 {Hs : Hp} {z : Addr} {o : HO} (k : Kx W Hs H) (h : Hs z = none) : Kx W Hs (upd H z o) := fun y u n q => by
  rw [upd_ne (ne_of_none q h)]
  exact k y u n q
/-- the environment, with z hidden -/
theorem EnvOk.hide {z : Addr} (e : EnvOk W Hd H0 A H σ δ) (hz : H z = none) (o : HO) : EnvOk W (fun y => Hd y ∨ y = z) H0 A (upd H z o) σ δ := by
  have kp := Ex.new (o := o) hz
  have e1 := e.keep kp.kx (e.st.kp kp)
  have nz : ∀ y, Rsv W Hd A y → y ≠ z := fun y r q => by
    obtain ⟨u, w⟩ := e.rsvSome r
    rw [q, hz] at w; cases w
  have sub : Kp (fz (Rsv W Hd A) H) (fz (Rsv W (fun y => Hd y ∨ y = z) A) (upd H z o)) := fz_kp fun y u n q => ⟨fun r => by
    rcases r with r | (r | r) | r
    · exact n (.inl r)
    · exact n (.inr (.inl r))
    · rw [r, hz] at q; cases q
    · exact n (.inr (.inr r)), kp y u q⟩
  refine ⟨e1.b0, e1.st, e.len, fun i s hs => ?_, e.inj, fun i y h => ⟨(e.new i y h).1, (e.new i y h).2.1, fun r => r.elim (e.new i y h).2.2 (nz y (.inr (.inr ⟨i, h⟩)))⟩, fun y h => ?_, e.out⟩
  · have q := e.sl i s hs
    cases s with
    | un => exact q
    | fz d => obtain ⟨h1, x, h2, h3⟩ := q; exact ⟨h1, x, h2, h3.mono sub.ex⟩
    | ow d => obtain ⟨y, h1, h2, h3⟩ := q; exact ⟨y, h1, h2, h3.mono sub.ex fun u q => kp y u q⟩
  · rcases h with h | rfl
    · exact e1.hid y h
    · exact ⟨o, upd_same⟩
/-- the hidden thing changes -/
theorem EnvOk.updH {z : Addr} {o : HO} (e : EnvOk W Hd H0 A H σ δ) (hz : Hd z) (n : ¬ inSa W z) (h0 : H0 z = none) : EnvOk W Hd H0 A (upd H z o) σ δ := by
  have sub : Kp (fz (Rsv W Hd A) H) (fz (Rsv W Hd A) (upd H z o)) := fz_kp fun y u n q => ⟨n, by
    have : y ≠ z := fun r => n (.inr (.inl (by rw [r]; exact hz)))
    rw [upd_ne this]; exact q⟩
  refine ⟨e.b0.upd0 h0, e.st.upd n, e.len, fun i s hs => ?_, e.inj, e.new, fun y h => ?_, e.out⟩
  · have q := e.sl i s hs
    cases s with
    | un => exact q
    | fz d => obtain ⟨h1, x, h2, h3⟩ := q; exact ⟨h1, x, h2, h3.mono sub.ex⟩
    | ow d =>
      obtain ⟨y, h1, h2, h3⟩ := q
      have : y ≠ z := fun r => (e.new i y h1).2.2 (r ▸ hz)
      exact ⟨y, h1, h2, h3.mono sub.ex fun u q => by rw [upd_ne this]; exact q⟩
  · by_cases r : y = z
    · subst r; exact ⟨o, upd_same⟩
    · rw [upd_ne r]; exact e.hid y h
end
end G
set_option maxRecDepth 100000
set_option maxHeartbeats 4000000
namespace G
open PySem PySem.Spec PyProof.Rows L2
section
variable {W : Wd} {Hd : Addr → Prop} {H0 H : Hp} {A : Nat → Option Addr} {σ : St} {δ : Env} {X : Cx} {E : XK} {N : List Str} {sc : Scope} {k : Nat}
variable {a b c : Expr} {wa wb wc : WE} {pos p : Pos}

/-! ### readings that only the transformer rules -/
def TW (W : Wd) (E : XK) (w : WE) : TE := fun σ H Q => ∃ (Hd : Addr → Prop) (H0 : Hp) (A : Nat → Option Addr) (δ : Env) (K : R → Prop) (Xp : Xn → Prop), EnvOk W Hd H0 A H σ δ ∧ w δ K Xp ∧ QOk W Hd A H δ K Q ∧ XOk W Hd H Xp E
def TWT (W : Wd) (E : XK) (w : WT) : TT := fun σ H Q => ∃ (Hd : Addr → Prop) (H0 : Hp) (A : Nat → Option Addr) (δ : Env) (K : Bool → Prop) (Xp : Xn → Prop), EnvOk W Hd H0 A H σ δ ∧ w δ K Xp ∧ (∀ b H', Kx W H H' → StOk W H' → K b → Q b H') ∧ XOk W Hd H Xp E
def TWG (W : Wd) (tg : Tg) : TG := fun v σ H Q => ∃ (Hd : Addr → Prop) (H0 : Hp) (A : Nat → Option Addr) (δ δ' : Env) (d : D), EnvOk W Hd H0 A H σ δ ∧ Rep W (fz (Rsv W Hd A) H) d v ∧ asgT tg d δ = some δ' ∧ ∀ σ', SetOnly tg.slots σ σ' → EnvOk W Hd H0 (dropL A tg.slots) H σ' δ' → Q σ' H
theorem PEW.can {w : WE} (h : PEW W E X a w) : PE X a (TW W E w) := by
  obtain ⟨te, pe, ev⟩ := h
  exact ⟨fun pins s σ H Q I ⟨Hd, H0, A, δ, K, Xp, h1, h2, h3, h4⟩ => pe.run pins s σ H Q I (ev Hd H0 A H σ δ K Xp Q h1 h2 h3 h4)⟩
theorem ev_TW {w : WE} : EvE W E (TW W E w) w := fun Hd H0 A H σ δ K Xp Q h1 h2 h3 h4 => ⟨Hd, H0, A, δ, K, Xp, h1, h2, h3, h4⟩
theorem PTW.can {w : WT} (h : PTW W E X a w) : PT X a (TWT W E w) := by
  obtain ⟨te, pe, ev⟩ := h
  exact ⟨fun pins s σ H Q I ⟨Hd, H0, A, δ, K, Xp, h1, h2, h3, h4⟩ => pe.run pins s σ H Q I (ev Hd H0 A H σ δ K Xp Q h1 h2 h3 h4)⟩
theorem ev_TWT {w : WT} : EvT W E (TWT W E w) w := fun Hd H0 A H σ δ K Xp Q h1 h2 h3 h4 => ⟨Hd, H0, A, δ, K, Xp, h1, h2, h3, h4⟩
theorem PGW.can {tg : Tg} (h : PGW W X a tg) : PG X a (TWG W tg) := by
  obtain ⟨te, pe, ev⟩ := h
  exact ⟨fun pins s σ H v u Q I r ⟨Hd, H0, A, δ, δ', d, h1, h2, h3, h4⟩ => pe.run pins s σ H v u Q I r (ev Hd H0 A H σ δ δ' v d Q h1 h2 h3 h4)⟩
theorem ev_TWG {tg : Tg} : EvG W (TWG W tg) tg := fun Hd H0 A H σ δ δ' v d Q h1 h2 h3 h4 => ⟨Hd, H0, A, δ, δ', d, h1, h2, h3, h4⟩

/-! ### a comprehension's block -/
abbrev EN : XK := fun _ _ _ => False
theorem lookup_relabel {env : PySem.Env} : ∀ (names : List (Str × NameKind)) (x : Str), (names.map fun (n, k) => if (k == NameKind.free && env.scope.kind == .function && env.kindOf n == some .cell) then (n, NameKind.cell) else (n, k)).lookup x =
    (names.lookup x).map fun k => if (k == NameKind.free && env.scope.kind == .function && env.kindOf x == some .cell) then NameKind.cell else k
  | [], x => rfl
  | (n, kk) :: r, x => by
    rw [List.map_cons]
    by_cases h : x = n
    · subst h
      by_cases hc : (kk == NameKind.free && env.scope.kind == .function && env.kindOf x == some .cell) = true
      · simp only [hc, if_true, List.lookup_cons, beq_self_eq_true, Option.map_some]
      · simp only [hc, Bool.false_eq_true, if_false, List.lookup_cons, beq_self_eq_true, Option.map_some]
    · have hb : (x == n) = false := by simpa using h
      by_cases hc : (kk == NameKind.free && env.scope.kind == .function && env.kindOf n == some .cell) = true
      · simp only [hc, if_true, List.lookup_cons, hb]
        exact lookup_relabel r x
      · simp only [hc, Bool.false_eq_true, if_false, List.lookup_cons, hb]
        exact lookup_relabel r x
theorem good_blk {scope : Scope} {s : Shared} {H : Hp} {C : Addr} {cl : List (Str × Addr)} {fp : List Addr} (g : Good W N sc k E X) (hk : scope.kind = .function) : Good W N scope k EN (X.blk s H scope (compEnvC scope cl C X.env) fp) := by
  have lk : ∀ x, (compEnvC scope cl C X.env).scope.names.lookup x = (scope.names.lookup x).map fun k => if (k == NameKind.free && X.env.scope.kind == .function && X.env.kindOf x == some .cell) then NameKind.cell else k := fun x => lookup_relabel scope.names x
  have lcl : ∀ x, scope.names.lookup x = some .local → (compEnvC scope cl C X.env).scope.names.lookup x = some .local := fun x h => by rw [lk, h]; rfl
  have cel : ∀ x, scope.names.lookup x = some .cell → (compEnvC scope cl C X.env).scope.names.lookup x = some .cell := fun x h => by rw [lk, h]; rfl
  have fre : ∀ x, scope.names.lookup x = some .free → (compEnvC scope cl C X.env).scope.names.lookup x = some .cell ∨ (compEnvC scope cl C X.env).scope.names.lookup x = some .free := fun x h => by
    rw [lk, h, Option.map_some]
    split
    · exact .inl rfl
    · exact .inr rfl
  refine ⟨g.hP, g.hw, g.hK, g.hm, g.hb, g.hN, g.nd, fun x h => ?_, fun x h => ?_, lcl, fun x h => ?_, fun x h => ?_, hk, g.calm, g.room, g.gd, PassesOwn.never, passL, takes0⟩
  · unfold visB at h
    split at h
    · rename_i q; exact .inl (lcl x q)
    · rename_i q; exact .inr (.inl (cel x q))
    · rename_i q
      rcases fre x q with z | z
      · exact .inr (.inl z)
      · exact .inr (.inr z)
    · cases h
  · unfold locB at h
    split at h
    · rename_i q; exact ⟨.inl (lcl x q), .inr (lcl x q)⟩
    · rename_i q; exact ⟨.inr (cel x q), .inl (by show (scope.names.lookup x == some NameKind.cell) = true; rw [q]; rfl)⟩
    · cases h
  · unfold glB at h
    split at h
    · rename_i q
      show (compEnvC scope cl C X.env).scope.names.lookup x = some .globalImplicit
      rw [lk, q]; rfl
    · cases h
  · rcases h with h | h
    · exact .inl (cel x h)
    · exact fre x h
theorem blkOk_good {scope : Scope} {own : List (Str × Nat)} (g : Good W N sc k E X) (h : blkC N sc scope own = true) : BlkOk X.N X.env.scope scope own := by
  have b := blkOk_by h
  rw [g.hN]
  exact ⟨b.kind, b.uniq, b.ix, fun y hy hf => g.cf y.1 (b.free y hy hf), b.own⟩
theorem noSet_fold {e : Expr} {env : PySem.Env} (h : (match e with | .Set _ _ _ => false | _ => true) = true) : ∀ x, foldedSetIterable e env x = pure x := by
  intro x
  cases e <;> first | rfl | cases h
def noSet (e : Expr) : Bool := match e with
  | .Set _ _ _ => false
  | _ => true
def LcP (W : Wd) (Hd : Addr → Prop) (H0 : Hp) (A : Nat → Option Addr) (Dl : Addr) (σw : St) (δw : Env) (H1 : Hp) (step : D → (Option D → Prop) → Prop) (ds : List D) (Kd : List D → Prop) (i : Nat) (H' : Hp) : Prop :=
  ∃ acc us, Kx W H1 H' ∧ EnvOk W (fun y => Hd y ∨ y = Dl) H0 A H' σw δw ∧ H' Dl = some (.lst us) ∧ RepL W (fz (Rsv W (fun y => Hd y ∨ y = Dl) A) H') acc us ∧ acc.length ≤ i ∧ lcGo step (ds.drop i) acc Kd
theorem lc_at {ti : TI} {g : TG} {tt : TT} {te : TE} {tg : Tg} {wt : WT} {we : WE} {vs : List Nat} {K : R → Prop} {Q : VK} (hsub : ∀ i ∈ tg.slots, i ∈ vs) (hg : EvG W g tg) (ht : EvT W EN tt wt) (he : EvE W EN te we) (e : EnvOk W Hd H0 A H σ δ) (no : noOw δ vs = true) (q : QOk W Hd A H δ K Q)
    (hi : ∀ Rr : It → Hp → Prop, (∀ J H1 Js ds, Kx W H H1 → StOk W H1 → Src W (fz (fun z => inSa W z ∨ HdC Hd A Js z) H1) (fz (Rsv W Hd A) H1) J ds → (ds.length ≤ big ∧ lcGo (lcStep tg wt we (wipeD δ vs)) ds [] fun acc => K (.own (.lst acc))) → Rr J H1) → ti σ H Rr) : tLc ti g tt te vs σ H Q := by
  have hA := noOw_A e no
  refine hi _ (fun J H1 Js ds k1 s1 src hgo => ?_)
  obtain ⟨hl, hgo⟩ := hgo
  obtain ⟨G, Y, wk, stable, items⟩ := src
  intro Dl hD
  have e1 := e.keep k1 s1
  have ew := (e1.wipe hA).hide hD (.lst [])
  have nD : ¬ Rsv W Hd A Dl := fun r => by obtain ⟨o, q⟩ := e1.rsvSome r; rw [hD] at q; cases q
  have nS : ¬ inSa W Dl := fun r => nD (.inl r)
  have h0D : H0 Dl = none := e1.b0.fresh e1.st hD
  have hdrop : dropL A tg.slots = A := by
    funext j
    unfold dropL
    split
    · rename_i hj; exact (hA j (hsub j hj)).symm
    · rfl
  refine lc_it wk (LcP W Hd H0 A Dl (L2.wipe σ vs) (wipeD δ vs) H1 (lcStep tg wt we (wipeD δ vs)) ds fun acc => K (.own (.lst acc))) ?_ (fun i H' hi ⟨acc, us, p1, _⟩ => ?_) (fun i v H' H'' hlt ⟨acc, us, p1, p2, p3, p4, p5, p6⟩ y => ?_) (fun H' ⟨acc, us, p1, p2, p3, p4, p5, p6⟩ => ?_)
  · exact ⟨[], [], (Ex.new hD).kx, ew, upd_same, .nil, Nat.zero_le _, hgo⟩
  · exact stable H' fun z o hz => p1 z o (fun r => (fz_some hz).1 (.inl r)) (fz_some hz).2
  · have hd : ds[i]? = some ds[i] := List.getElem?_eq_getElem hlt
    rw [List.drop_eq_getElem_cons hlt] at p6
    obtain ⟨δ', ha, p6⟩ := p6
    have sub : Kp (fz (Rsv W Hd A) H1) (fz (Rsv W (fun y => Hd y ∨ y = Dl) A) H') := fz_kp fun z o n q => ⟨fun r => by
      rcases r with r | (r | r) | r
      · exact n (.inl r)
      · exact n (.inr (.inl r))
      · rw [r, hD] at q; cases q
      · exact n (.inr (.inr r)), p1 z o (fun r => n (.inl r)) q⟩
    -- the item, wherever it comes from
    have go : ∀ Hx, Kx W H' Hx → StOk W Hx → Rep W (fz (Rsv W (fun y => Hd y ∨ y = Dl) A) Hx) ds[i] v → g v (L2.wipe σ vs) Hx fun σ2 H2 => L2.wipe σ2 vs = L2.wipe σ vs ∧ tt σ2 H2 fun b H3 =>
        if b = true then te σ2 H3 fun y H4 => ∃ acc, H4 Dl = some (.lst acc) ∧ acc.length < sizeLine ∧ LcP W Hd H0 A Dl (L2.wipe σ vs) (wipeD δ vs) H1 (lcStep tg wt we (wipeD δ vs)) ds (fun acc => K (.own (.lst acc))) (i + 1) (upd H4 Dl (.lst (acc ++ [y])))
        else LcP W Hd H0 A Dl (L2.wipe σ vs) (wipeD δ vs) H1 (lcStep tg wt we (wipeD δ vs)) ds (fun acc => K (.own (.lst acc))) (i + 1) H3 := by
      intro Hx kx sx rx
      have px := p2.keep kx sx
      refine hg _ H0 A Hx _ _ δ' v ds[i] _ px rx ha fun σ2 so e2 => ⟨wipe_only hsub so, ?_⟩
      rw [hdrop] at e2
      refine ht _ H0 A Hx σ2 δ' _ _ _ e2 p6 (fun t H3 k3 s3 h3 => ?_) XOk.none
      have e3 := e2.keep k3 s3
      have kk3 : Kx W H' H3 := kx.trans k3
      have p23 := p2.keep kk3 s3
      have m3 : Kp (fz (Rsv W (fun y => Hd y ∨ y = Dl) A) H') (fz (Rsv W (fun y => Hd y ∨ y = Dl) A) H3) := fz_kp fun z o n q => ⟨n, kk3 z o (fun r => n (.inl r)) q⟩
      cases t with
      | false => exact ⟨acc, us, p1.trans kk3, p23, kk3 Dl _ nS p3, p4.mono m3.ex, by omega, h3⟩
      | true =>
        refine he _ H0 A H3 σ2 δ' _ _ _ e3 h3 (fun u H4 r k4 s4 r4 h4 => ?_) XOk.none
        have kk4 : Kx W H' H4 := kk3.trans k4
        have p24 := (p2.keep kk4 s4).updH (o := .lst (us ++ [u])) (z := Dl) (.inr rfl) nS h0D
        have m4 : Kp (fz (Rsv W (fun y => Hd y ∨ y = Dl) A) H') (fz (Rsv W (fun y => Hd y ∨ y = Dl) A) H4) := fz_kp fun z o n q => ⟨n, kk4 z o (fun r => n (.inl r)) q⟩
        have m5 : Kp (fz (Rsv W (fun y => Hd y ∨ y = Dl) A) H4) (fz (Rsv W (fun y => Hd y ∨ y = Dl) A) (upd H4 Dl (.lst (us ++ [u])))) := fz_kp fun z o n q => ⟨n, by
          have : z ≠ Dl := fun r => n (.inr (.inl (.inr r)))
          rw [upd_ne this]; exact q⟩
        have kf : Kx W H1 (upd H4 Dl (.lst (us ++ [u]))) := (p1.trans kk4).upd0 hD
        exact ⟨us, kk4 Dl _ nS p3, by rw [p4.length]; exact big_lt (by omega), acc ++ [r.d], us ++ [u], kf, p24, upd_same, (p4.mono (m4.trans m5).ex).append (.one ((r4.frz h4.1).mono m5.ex)), by rw [List.length_append]; simp; omega, h4.2⟩
    rcases items i ds[i] H' v H'' hd y with ⟨rfl, hr⟩ | ⟨T, x1, x2, d1, d2, rfl, hT, rfl, hdd, h1, h2⟩
    · exact go H'' (Kx.refl _) p2.st (hr.mono sub.ex)
    · have kT := Ex.new (o := .tup [x1, x2]) hT
      refine go _ kT.kx (p2.st.kp kT) ?_
      rw [hdd]
      exact RepR.newT (σ := L2.wipe σ vs) (δ := wipeD δ vs) p2 hT (.cons (h1.mono sub.ex) (.cons (h2.mono sub.ex) .nil))
  · rw [List.drop_eq_nil_of_le (Nat.le_refl _)] at p6
    refine (q.from k1 s1) (.ref Dl) H' (.own (.lst acc)) p1 p2.st ⟨Dl, rfl, hD, nD, us, p3, p4.mono (fz_kp fun z o n w => ⟨fun r => n ?_, w⟩).ex⟩ p6
    rcases r with (r | r | r) | r
    · exact .inl r
    · exact .inr (.inl (.inl r))
    · exact .inr (.inr r)
    · exact .inr (.inl (.inr r))
theorem ev_lc {ti : TI} {g : TG} {tt : TT} {te : TE} {wi : WI} {tg : Tg} {wt : WT} {we : WE} {vs : List Nat} (hsub : ∀ i ∈ tg.slots, i ∈ vs) (hi : EvI W E ti wi) (hg : EvG W g tg) (ht : EvT W EN tt wt) (he : EvE W EN te we) : EvE W E (tLc ti g tt te vs) (wLc vs tg wi wt we) := by
  intro Hd H0 A H σ δ K X Q e hw q x
  obtain ⟨no, hw⟩ := hw
  exact lc_at hsub hg ht he e no q fun Rr h => hi Hd H0 A H σ δ _ X _ e hw h x
def ownOk (own : List (Str × Nat)) (tg : Tg) : Bool := tg.slots.all fun i => (own.map (·.2)).contains i
theorem ownOk_sub {own : List (Str × Nat)} {tg : Tg} (h : ownOk own tg = true) : ∀ i ∈ tg.slots, i ∈ own.map (·.2) := by
  intro i hi
  unfold ownOk at h
  rw [List.all_eq_true] at h
  exact List.contains_iff_mem.mp (h i hi)
def PTsW (W : Wd) (E : XK) (X : Cx) (ifs : List Expr) (w : WT) : Prop := ∃ te, PTs X ifs te ∧ EvT W E te w
theorem ts_nil : PTsW W E X [] wYes := ⟨_, pts_nil, fun _ _ _ H _ _ _ _ _ e hw q _ => q true H (Kx.refl H) e.st hw⟩
theorem ts_one {w : WT} (h : PTW W E X a w) : PTsW W E X [a] w := by
  obtain ⟨t, pt, ev⟩ := h
  exact ⟨_, pts_one pt, ev⟩
theorem PTsW.can {w : WT} {ifs : List Expr} (h : PTsW W E X ifs w) : PTs X ifs (TWT W E w) := by
  obtain ⟨te, pe, ev⟩ := h
  exact ⟨fun pins s σ H Q I ⟨Hd, H0, A, δ, K, Xp, h1, h2, h3, h4⟩ => pe.run pins s σ H Q I (ev Hd H0 A H σ δ K Xp Q h1 h2 h3 h4)⟩
/-- the parts of a comprehension, in each block -/
structure LcW (W : Wd) (N : List Str) (k : Nat) (scope : Scope) (t : Expr) (ifs : List Expr) (elt : Expr) (tg : Tg) (wt : WT) (we : WE) : Prop where
  g : ∀ X', Good W N scope k EN X' → PGW W X' t tg
  t : ∀ X', Good W N scope k EN X' → PTsW W EN X' ifs wt
  e : ∀ X', Good W N scope k EN X' → PEW W EN X' elt we
theorem ew_lc {t iter elt : Expr} {ifs : List Expr} {scope : Scope} {own : List (Str × Nat)} {tg : Tg} {wi : WI} {wt : WT} {we : WE} (g : Good W N sc k E X) (hb : blkC N sc scope own = true) (ho : ownOk own tg = true) (hns : noSet iter = true)
    (hi : PIW W E X t iter wi) (h : LcW W N k scope t ifs elt tg wt we) : PEW W E X (.ListComp elt [⟨t, iter, ifs, 0⟩] scope pos) (wLc (own.map (·.2)) tg wi wt we) := by
  obtain ⟨ti, pi, ei⟩ := hi
  have ok := blkOk_good g hb
  exact ⟨_, pe_lc g.calm (by rw [g.hN]; exact g.nd) pi ok (fun s H C cl fp => (h.g _ (good_blk g ok.kind)).can) (fun s H C cl fp => (h.t _ (good_blk g ok.kind)).can) (fun s H C cl fp => (h.e _ (good_blk g ok.kind)).can) (noSet_fold hns),
    ev_lc (ownOk_sub ho) ei ev_TWG ev_TWT ev_TW⟩
end
end G
set_option maxRecDepth 100000
set_option maxHeartbeats 4000000
namespace G
open PySem PySem.Spec PyProof.Rows L2
section
variable {W : Wd} {Hd : Addr → Prop} {H0 H : Hp} {A : Nat → Option Addr} {σ : St} {δ : Env} {X : Cx} {E : XK} {N : List Str} {sc : Scope} {k : Nat}
variable {a b c : Expr} {wa wb wc : WE} {pos p : Pos}

/-! ### statements: what is wanted, linked -/
structure Pst where
  nx : Env → Prop
  rt : Bool → D → Prop
  bk : Env → Prop := fun _ => False
  ct : Env → Prop := fun _ => False
  ex : Xn → Prop := fun _ => False
abbrev WS := Env → Pst → Prop
structure LinkS (W : Wd) (Hd : Addr → Prop) (H0 : Hp) (p : Pst) (D : Ends) (E : XK) : Prop where
  nx : ∀ A H σ δ, EnvOk W Hd H0 A H σ δ → p.nx δ → D.nx σ H
  bk : ∀ A H σ δ, EnvOk W Hd H0 A H σ δ → p.bk δ → D.bk σ H
  ct : ∀ A H σ δ, EnvOk W Hd H0 A H σ δ → p.ct δ → D.ct σ H
  rt : ∀ v H o d, Kx W H0 H → StOk W H → RepT W Hd H0 H v o d → p.rt o d → D.rt v H
  ex : XOk W Hd H0 p.ex E
def EvS (W : Wd) (E : XK) (ts : TS) (w : WS) : Prop := ∀ (Hd : Addr → Prop) (H0 : Hp) (A : Nat → Option Addr) (H : Hp) (σ : St) (δ : Env) (p : Pst) (D : Ends), EnvOk W Hd H0 A H σ δ → w δ p → LinkS W Hd H0 p D E → ts D σ H
def PSW (W : Wd) (E : XK) (X : Cx) (st : Stmt) (w : WS) : Prop := ∃ ts, PS X st ts ∧ EvS W E ts w
def PBW (W : Wd) (E : XK) (X : Cx) (st : List Stmt) (w : WS) : Prop := ∃ ts, PSs X st ts ∧ EvS W E ts w
theorem LinkS.x {p : Pst} {D : Ends} (l : LinkS W Hd H0 p D E) (e : EnvOk W Hd H0 A H σ δ) : XOk W Hd H p.ex E := l.ex.keep e.b0

/-! blocks -/
def wNext : WS := fun δ p => p.nx δ
def wSeqS (w1 w2 : WS) : WS := fun δ p => w1 δ { p with nx := fun δ' => w2 δ' p }
theorem bw_nil : PBW W E X [] wNext := ⟨_, pss_nil, fun _ _ A H σ δ _ _ e hw l => l.nx A H σ δ e hw⟩
theorem ev_seq {t1 t2 : TS} {w1 w2 : WS} (e1 : EvS W E t1 w1) (e2 : EvS W E t2 w2) : EvS W E (tSeq t1 t2) (wSeqS w1 w2) := by
  intro Hd H0 A H σ δ p D e hw l
  exact e1 Hd H0 A H σ δ _ _ e hw ⟨fun A' H' σ' δ' e' h' => e2 Hd H0 A' H' σ' δ' p D e' h' l, l.bk, l.ct, l.rt, l.ex⟩
theorem bw_cons {st : Stmt} {sts : List Stmt} {w1 w2 : WS} (h1 : PSW W E X st w1) (h2 : PBW W E X sts w2) : PBW W E X (st :: sts) (wSeqS w1 w2) := by
  obtain ⟨t1, p1, e1⟩ := h1
  obtain ⟨t2, p2, e2⟩ := h2
  exact ⟨_, pss_cons p1 p2, ev_seq e1 e2⟩
theorem sw_pass : PSW W E X (.Pass pos) wNext := ⟨_, ps_pass, fun _ _ A H σ δ _ _ e hw l => l.nx A H σ δ e hw⟩
def wBrk : WS := fun δ p => p.bk δ
def wCont : WS := fun δ p => p.ct δ
theorem sw_break : PSW W E X (.Break pos) wBrk := ⟨_, ps_break, fun _ _ A H σ δ _ _ e hw l => l.bk A H σ δ e hw⟩
theorem sw_cont : PSW W E X (.Continue pos) wCont := ⟨_, ps_continue, fun _ _ A H σ δ _ _ e hw l => l.ct A H σ δ e hw⟩
theorem sw_doc {x : Str} {j : Nat} {p2 : Pos} : PSW W E X (.Expr (.Constant (.str x) j p2) pos) wNext := ⟨_, ps_doc, fun _ _ A H σ δ _ _ e hw l => l.nx A H σ δ e hw⟩

/-! values dropped, returned -/
def noComp : Expr → Bool
  | .ListComp _ _ _ _ => false
  | .SetComp _ _ _ _ => false
  | .DictComp _ _ _ _ _ => false
  | _ => true
theorem swaps_no {e : Expr} {t : Option Expr} {l : Nat} {env : PySem.Env} (h : noComp e = true) : swapsWith e t l env = pure false := by
  cases e <;> first | rfl | cases h
def wDrop (wa : WE) : WS := fun δ p => wa δ (fun _ => p.nx δ) p.ex
theorem sw_expr (h : noComp a = true) (ha : PEW W E X a wa) : PSW W E X (.Expr a pos) (wDrop wa) := by
  obtain ⟨ta, pa, ea⟩ := ha
  refine ⟨_, ps_expr pa (swaps_no h), ?_⟩
  intro Hd H0 A H σ δ p D e hw l
  exact ea Hd H0 A H σ δ _ _ _ e hw (fun v H' r k s _ h => l.nx A H' σ δ (e.keep k s) h) (l.x e)
def retR (p : Pst) : R → Prop
  | .v d => p.rt false d
  | .own d => p.rt true d
  | .sl _ d => p.rt true d
def wRet (wa : WE) : WS := fun δ p => wa δ (retR p) p.ex
theorem ret_of {Hs : Hp} {v : V} {r : R} {p : Pst} {D : Ends} (es : EnvOk W Hd H0 A Hs σ δ) (kx : Kx W Hs H) (s : StOk W H) (l : LinkS W Hd H0 p D E) (h : RepR W Hd A Hs H δ v r) (hp : retR p r) : D.rt v H := by
  have e := es.keep kx s
  have sub : ∀ T : Addr → Prop, Kp (fz (fun z => Rsv W Hd A z ∨ T z) H) (fz (fun z => inSa W z ∨ Hd z ∨ T z) H) := fun T => fz_kp fun z o n q => ⟨fun r => n (by
    rcases r with r | r | r
    · exact .inl (.inl r)
    · exact .inl (.inr (.inl r))
    · exact .inr r), q⟩
  cases r with
  | v d =>
    refine l.rt v H false d e.b0 s ?_ hp
    exact Rep.mono (fz_kp fun z o n q => ⟨fun r => n (by rcases r with r | r; exact .inl r; exact .inr (.inl r)), q⟩).ex d h
  | own d =>
    obtain ⟨z, h1, h2, h3, h4⟩ := h
    exact l.rt v H true d e.b0 s ⟨z, h1, es.b0.fresh es.st h2, fun r => h3 (.inl r), fun r => h3 (.inr (.inl r)), h4.mono (sub fun y => y = z).ex fun _ q => q⟩ hp
  | sl i d =>
    obtain ⟨z, h1, h2, h3, h4⟩ := h
    obtain ⟨n1, n2, n3⟩ := e.new i z h1
    refine l.rt v H true d e.b0 s ⟨z, h2, n1, n2, n3, h4.mono (fz_kp fun y o n q => ⟨fun r => n ?_, q⟩).ex fun _ q => q⟩ hp
    rcases r with r | r | r
    · exact .inl r
    · exact .inr (.inl r)
    · exact .inr (.inr ⟨i, by rw [r]; exact h1⟩)
theorem sw_ret (ha : PEW W E X a wa) : PSW W E X (.Return (some a) pos) (wRet wa) := by
  obtain ⟨ta, pa, ea⟩ := ha
  refine ⟨_, ps_ret pa, ?_⟩
  intro Hd H0 A H σ δ p D e hw l
  exact ea Hd H0 A H σ δ _ _ _ e hw (fun v H' r k s rr h => ret_of e k s l rr h) (l.x e)
def wRetN : WS := fun _ p => p.rt false .non
theorem sw_retN : PSW W E X (.Return none pos) wRetN := ⟨_, ps_retN, fun Hd _ A H σ δ _ _ e hw l => l.rt .non H false .non e.b0 e.st (by show Rep W (fz (fun z => inSa W z ∨ Hd z) H) .non .non; rw [Rep]) hw⟩

/-! if -/
def wIfS (wt : WT) (w1 w2 : WS) : WS := fun δ p => wt δ (fun b => if b = true then w1 δ p else w2 δ p) p.ex
theorem sw_if {c : Expr} {s1 s2 : List Stmt} {wt : WT} {w1 w2 : WS} (hc : PTW W E X c wt) (h1 : PBW W E X s1 w1) (h2 : PBW W E X s2 w2) : PSW W E X (.If c s1 s2 pos) (wIfS wt w1 w2) := by
  obtain ⟨tc, pc, ec⟩ := hc
  obtain ⟨t1, p1, e1⟩ := h1
  obtain ⟨t2, p2, e2⟩ := h2
  refine ⟨_, ps_if pc p1 p2, ?_⟩
  intro Hd H0 A H σ δ p D e hw l
  refine ec Hd H0 A H σ δ _ _ _ e hw (fun t H' k s h => ?_) (l.x e)
  cases t with
  | true => exact e1 Hd H0 A H' σ δ p D (e.keep k s) h l
  | false => exact e2 Hd H0 A H' σ δ p D (e.keep k s) h l

/-! while -/
def wWhile (wt : WT) (wb : WS) : WS := fun δ p => ∃ I : Nat → Env → Prop, (∃ m, I m δ) ∧ ∀ m δ', I m δ' → wt δ' (fun b => if b = true then wb δ' { p with nx := fun δ'' => ∃ m', m' < m ∧ I m' δ'', ct := fun δ'' => ∃ m', m' < m ∧ I m' δ'', bk := p.nx } else p.nx δ') p.ex
theorem sw_while {c : Expr} {s1 : List Stmt} {wt : WT} {w1 : WS} (g : Good W N sc k E X) (hc : PTW W E X c wt) (h1 : PBW W E X s1 w1) : PSW W E X (.While c s1 [] pos) (wWhile wt w1) := by
  obtain ⟨tc, pc, ec⟩ := hc
  obtain ⟨t1, p1, e1⟩ := h1
  refine ⟨_, ps_while g.po pc p1, ?_⟩
  intro Hd H0 A H σ δ p D e hw l
  obtain ⟨I, ⟨m, hm⟩, turn⟩ := hw
  refine ⟨fun m σ H => ∃ A δ, EnvOk W Hd H0 A H σ δ ∧ I m δ, ⟨m, A, δ, e, hm⟩, fun m σ' H' ⟨A', δ', e', hi⟩ => ?_⟩
  refine ec Hd H0 A' H' σ' δ' _ _ _ e' (turn m δ' hi) (fun t H1 k s h => ?_) (l.x e')
  have e1' := e'.keep k s
  cases t with
  | true => exact ⟨fun σ'' H'' => ∃ m', m' < m ∧ ∃ A δ, EnvOk W Hd H0 A H'' σ'' δ ∧ I m' δ, fun σ'' H'' h => h, e1 Hd H0 A' H1 σ' δ' _ _ e1' h
      ⟨fun A'' H'' σ'' δ'' e'' ⟨m', hm', h'⟩ => ⟨m', hm', A'', δ'', e'', h'⟩, fun A'' H'' σ'' δ'' e'' h => l.nx A'' H'' σ'' δ'' e'' h, fun A'' H'' σ'' δ'' e'' ⟨m', hm', h'⟩ => ⟨m', hm', A'', δ'', e'', h'⟩, l.rt, l.ex⟩⟩
  | false => exact l.nx A' H1 σ' δ' e1' h

/-! ### storing -/
/-- what is hidden at z becomes a slot's own -/
theorem EnvOk.own {z : Addr} {i : Nat} {d : D} (e : EnvOk W (fun y => Hd y ∨ y = z) H0 A H σ δ) (hT : Top W (fz (Rsv W (fun y => Hd y ∨ y = z) A) H) H d z) (h0 : H0 z = none) (ns : ¬ inSa W z) (nh : ¬ Hd z) (hi : i < δ.length) :
    EnvOk W Hd H0 (putA A i z) H (σ.set i (some (.ref z))) (δ.set i (.ow d)) := by
  have sub : Kp (fz (Rsv W (fun y => Hd y ∨ y = z) A) H) (fz (Rsv W Hd (putA A i z)) H) := fz_kp fun y o n q => ⟨fun r => n (by
    rcases r with r | r | ⟨j, r⟩
    · exact .inl r
    · exact .inr (.inl (.inl r))
    · rcases putA_some r with ⟨_, r⟩ | ⟨_, r⟩
      · exact .inr (.inl (.inr r))
      · exact .inr (.inr ⟨j, r⟩)), q⟩
  have nA : ∀ j, A j = some z → False := fun j h => (e.new j z h).2.2 (.inr rfl)
  refine ⟨e.b0, e.st, by simp [e.len], fun j x hx => ?_, fun j l y h1 h2 => ?_, fun j y h1 => ?_, fun y h => e.hid y (.inl h), fun j hj => ?_⟩
  · rw [List.getElem?_set] at hx
    by_cases hij : i = j
    · subst hij
      rw [if_pos rfl, if_pos hi] at hx
      cases hx
      refine ⟨z, putA_eq, ?_, hT.mono sub.ex fun _ q => q⟩
      rw [join_set, if_pos ⟨rfl, by rw [e.len]; exact hi⟩]
    · rw [if_neg hij] at hx
      have q := e.sl j x hx
      rw [join_set, if_neg (fun w => hij w.1), putA_ne (fun w => hij w.symm)]
      cases x with
      | un => exact q
      | fz d => obtain ⟨h1, x, h2, h3⟩ := q; exact ⟨h1, x, h2, h3.mono sub.ex⟩
      | ow d => obtain ⟨y, h1, h2, h3⟩ := q; exact ⟨y, h1, h2, h3.mono sub.ex fun _ q => q⟩
  · rcases putA_some h1 with ⟨a1, a2⟩ | ⟨a1, a2⟩ <;> rcases putA_some h2 with ⟨b1, b2⟩ | ⟨b1, b2⟩
    · rw [a1, b1]
    · rw [a2] at b2; exact (nA _ b2).elim
    · rw [b2] at a2; exact (nA _ a2).elim
    · exact e.inj j l y a2 b2
  · rcases putA_some h1 with ⟨a1, a2⟩ | ⟨a1, a2⟩
    · rw [a2]; exact ⟨h0, ns, nh⟩
    · obtain ⟨q1, q2, q3⟩ := e.new j y a2
      exact ⟨q1, q2, fun r => q3 (.inl r)⟩
  · have hj' : δ.length ≤ j := by simpa using hj
    rw [putA_ne (by omega)]
    exact e.out j hj'
/-- what is hidden at z is shown, as it stands -/
theorem EnvOk.show {z : Addr} (e : EnvOk W (fun y => Hd y ∨ y = z) H0 A H σ δ) : EnvOk W Hd H0 A H σ δ := by
  have sub : Kp (fz (Rsv W (fun y => Hd y ∨ y = z) A) H) (fz (Rsv W Hd A) H) := fz_kp fun y o n q => ⟨fun r => n (by
    rcases r with r | r | r
    · exact .inl r
    · exact .inr (.inl (.inl r))
    · exact .inr (.inr r)), q⟩
  refine ⟨e.b0, e.st, e.len, fun j x hx => ?_, e.inj, fun j y h => ⟨(e.new j y h).1, (e.new j y h).2.1, fun r => (e.new j y h).2.2 (.inl r)⟩, fun y h => e.hid y (.inl h), e.out⟩
  have q := e.sl j x hx
  cases x with
  | un => exact q
  | fz d => obtain ⟨h1, x, h2, h3⟩ := q; exact ⟨h1, x, h2, h3.mono sub.ex⟩
  | ow d => obtain ⟨y, h1, h2, h3⟩ := q; exact ⟨y, h1, h2, h3.mono sub.ex fun _ q => q⟩
/-- a new thing at z (it was not there at Hs) is hidden -/
theorem EnvOk.hideAt {Hs : Hp} {z : Addr} {o : HO} (es : EnvOk W Hd H0 A Hs σ δ) (kx : Kx W Hs H) (s : StOk W H) (hz : Hs z = none) (ho : H z = some o) : EnvOk W (fun y => Hd y ∨ y = z) H0 A H σ δ := by
  have e := es.keep kx s
  have sub : Kp (fz (Rsv W Hd A) Hs) (fz (Rsv W (fun y => Hd y ∨ y = z) A) H) := fz_kp fun y u n q => ⟨fun r => by
    rcases r with r | (r | r) | r
    · exact n (.inl r)
    · exact n (.inr (.inl r))
    · rw [r, hz] at q; cases q
    · exact n (.inr (.inr r)), kx y u (fun r => n (.inl r)) q⟩
  have nz : ∀ y, Rsv W Hd A y → y ≠ z := fun y r q => by
    obtain ⟨u, w⟩ := es.rsvSome r
    rw [q, hz] at w; cases w
  refine ⟨e.b0, s, e.len, fun j x hx => ?_, e.inj, fun j y h => ⟨(e.new j y h).1, (e.new j y h).2.1, fun r => r.elim (e.new j y h).2.2 (nz y (.inr (.inr ⟨j, h⟩)))⟩, fun y h => ?_, e.out⟩
  · have q := es.sl j x hx
    cases x with
    | un => exact q
    | fz d => obtain ⟨h1, x, h2, h3⟩ := q; exact ⟨h1, x, h2, h3.mono sub.ex⟩
    | ow d => obtain ⟨y, h1, h2, h3⟩ := q; exact ⟨y, h1, h2, h3.mono sub.ex fun o q => kx y o (es.new j y h1).2.1 q⟩
  · rcases h with h | rfl
    · exact e.hid y h
    · exact ⟨o, ho⟩
/-- one result stored in a slot: as its own, or standing still -/
def asg1 (i : Nat) (ow : Bool) (r : R) (δ : Env) : Option Env := match ow, r with
  | true, .own d => if i < δ.length then some (δ.set i (.ow d)) else none
  | true, _ => none
  | false, .sl _ _ => none
  | false, r => some (δ.set i (.fz r.d))
theorem asg1_ok {Hs : Hp} {i : Nat} {ow : Bool} {v : V} {r : R} {δ' : Env} (es : EnvOk W Hd H0 A Hs σ δ) (kx : Kx W Hs H) (s : StOk W H) (h : RepR W Hd A Hs H δ v r) (ha : asg1 i ow r δ = some δ') : ∃ A', EnvOk W Hd H0 A' H (σ.set i (some v)) δ' := by
  have e := es.keep kx s
  cases ow with
  | true =>
    cases r with
    | own d =>
      unfold asg1 at ha
      dsimp only at ha
      split at ha
      · rename_i hi
        cases ha
        obtain ⟨z, h1, h2, h3, h4⟩ := h
        subst h1
        exact ⟨_, es.setO kx s h2 h3 h4 hi⟩
      · cases ha
    | v d => cases ha
    | sl j d => cases ha
  | false =>
    cases r with
    | v d => cases ha; exact ⟨_, e.setF h⟩
    | own d => cases ha; exact ⟨_, e.setF (h.frz rfl)⟩
    | sl j d => cases ha
def wAsg (i : Nat) (ow : Bool) (wa : WE) : WS := fun δ p => wa δ (fun r => ∃ δ', asg1 i ow r δ = some δ' ∧ p.nx δ') p.ex
theorem ev_asg {i : Nat} {ow : Bool} {ta : TE} (ea : EvE W E ta wa) : EvS W E (tAsg ta (gName i)) (wAsg i ow wa) := by
  intro Hd H0 A H σ δ p D e hw l
  refine ea Hd H0 A H σ δ _ _ _ e hw (fun v H' r k s rr h => ?_) (l.x e)
  obtain ⟨δ', ha, hp⟩ := h
  obtain ⟨A', e'⟩ := asg1_ok e k s rr ha
  exact l.nx A' H' _ δ' e' hp
theorem sw_set {i : Nat} {ow : Bool} {x : Str} {p2 : Pos} (g : Good W N sc k E X) (hi : N[i]? = some x) (hx : locB sc x = true) (hc : noComp a = true) (ha : PEW W E X a wa) : PSW W E X (.Assign [.Name x p2] a pos) (wAsg i ow wa) := by
  obtain ⟨ta, pa, ea⟩ := ha
  exact ⟨_, ps_set (by rw [g.hN]; exact g.nd) (by rw [g.hN]; exact hi) (g.loc x hx).1 pa (swaps_no hc) (g.loc x hx).2, ev_asg ea⟩
/-- x = [.. for ..], x a local on the same line -/
theorem sw_setLc {i : Nat} {ow : Bool} {x : Str} {p2 p3 : Pos} {t iter elt : Expr} {ifs : List Expr} {scope : Scope} {own : List (Str × Nat)} {tg : Tg} {wi : WI} {wt : WT} {we : WE} (g : Good W N sc k E X) (hx : N[i]? = some x) (hl : sc.names.lookup x = some .local) (hln : (p2.line == p3.line) = true)
    (han : (scope.names.any fun (n, k) => n == x && (k == .local || k == .cell)) = false) (hb : blkC N sc scope own = true) (ho : ownOk own tg = true) (hns : noSet iter = true)
    (hi : PIW W E X t iter wi) (h : LcW W N k scope t ifs elt tg wt we) : PSW W E X (.Assign [.Name x p2] (.ListComp elt [⟨t, iter, ifs, 0⟩] scope p3) pos) (wAsg i ow (wLc (own.map (·.2)) tg wi wt we)) := by
  obtain ⟨ti, pi, ei⟩ := hi
  have ok := blkOk_good g hb
  exact ⟨_, ps_setLc g.calm (by rw [g.hN]; exact g.nd) (by rw [g.hN]; exact hx) (g.lcl x hl) (sw_true g.kind (g.lcl x hl) hln han) pi ok (fun s H C cl fp => (h.g _ (good_blk g ok.kind)).can) (fun s H C cl fp => (h.t _ (good_blk g ok.kind)).can) (fun s H C cl fp => (h.e _ (good_blk g ok.kind)).can) (noSet_fold hns),
    ev_asg (ev_lc (ownOk_sub ho) ei ev_TWG ev_TWT ev_TW)⟩
/-- (a, b, ..) = e -/
def wUnp (is : List Nat) (wa : WE) : WS := fun δ p => wa δ (fun r => r.fr = true ∧ ∃ δ', asgT (.many is) r.d δ = some δ' ∧ p.nx δ') p.ex
def noTuple : Expr → Bool
  | .Tuple _ _ _ => false
  | _ => true
theorem swapped_no {ts : List Expr} {j : Nat} {p1 : Pos} {env : PySem.Env} (h : noTuple a = true) : swappedStores [.Tuple ts j p1] a env = pure none := by
  cases a <;> first | rfl | cases h
theorem sw_unp {ts : List Expr} {is : List Nat} {j : Nat} {p2 : Pos} (hg : PGW W X (.Tuple ts j p2) (.many is)) (hc : noComp a = true) (hn : noTuple a = true) (ha : PEW W E X a wa) : PSW W E X (.Assign [.Tuple ts j p2] a pos) (wUnp is wa) := by
  obtain ⟨ta, pa, ea⟩ := ha
  obtain ⟨g, pg, eg⟩ := hg
  refine ⟨_, ps_asg pa pg (by rw [swapsWithSole]; exact swaps_no hc) (swapped_no hn) (by rw [assignEach_is rfl]; rfl), ?_⟩
  intro Hd H0 A H σ δ p D e hw l
  refine ea Hd H0 A H σ δ _ _ _ e hw (fun v H' r k s rr h => ?_) (l.x e)
  obtain ⟨hf, δ', h1, h2⟩ := h
  exact eg Hd H0 A H' σ δ δ' v r.d _ (e.keep k s) (rr.frz hf) h1 fun σ' _ e' => l.nx _ H' σ' δ' e' h2

/-! ### several results stored at once -/
inductive ArgsO (W : Wd) (Hd : Addr → Prop) (A : Nat → Option Addr) (H : Hp) : List V → List R → List Addr → Prop
  | nil : ArgsO W Hd A H [] [] []
  | v {v : V} {vs : List V} {d : D} {rs : List R} {Z : List Addr} : Rep W (fz (Rsv W Hd A) H) d v → ArgsO W Hd A H vs rs Z → ArgsO W Hd A H (v :: vs) (.v d :: rs) Z
  | own {z : Addr} {vs : List V} {d : D} {rs : List R} {Z : List Addr} : Top W (fz (Rsv W Hd A) H) H d z → z ∉ Z → ArgsO W Hd A H vs rs Z → ArgsO W Hd A H (.ref z :: vs) (.own d :: rs) (z :: Z)
  | sl {v : V} {vs : List V} {i : Nat} {d : D} {rs : List R} {Z : List Addr} : ArgsO W Hd A H vs rs Z → ArgsO W Hd A H (v :: vs) (.sl i d :: rs) Z
theorem ArgsO.mono {Hd' : Addr → Prop} {A' : Nat → Option Addr} {H' : Hp} {vs : List V} {rs : List R} {Z : List Addr} (h : ArgsO W Hd A H vs rs Z) (hs : Kp (fz (Rsv W Hd A) H) (fz (Rsv W Hd' A') H')) (hz : ∀ z ∈ Z, ∀ o, H z = some o → H' z = some o) : ArgsO W Hd' A' H' vs rs Z := by
  induction h with
  | nil => exact .nil
  | v r _ ih => exact .v (r.mono hs.ex) (ih hz)
  | own t n _ ih => exact .own (t.mono hs.ex (hz _ List.mem_cons_self)) n (ih fun z h => hz z (List.mem_cons_of_mem _ h))
  | sl _ ih => exact .sl (ih hz)
def EvAo (W : Wd) (E : XK) (te : TA) (w : WA) : Prop := ∀ (Hd : Addr → Prop) (H0 : Hp) (A : Nat → Option Addr) (H : Hp) (σ : St) (δ : Env) (K : List R → Prop) (X : Xn → Prop) (Q : List V → Hp → Prop), EnvOk W Hd H0 A H σ δ → w δ K X →
  (∀ vs H' rs Z, Kx W H H' → EnvOk W (fun y => Hd y ∨ y ∈ Z) H0 A H' σ δ → (∀ z ∈ Z, H z = none) → ArgsO W (fun y => Hd y ∨ y ∈ Z) A H' vs rs Z → K rs → Q vs H') → XOk W Hd H X E → te σ H Q
def PAO (W : Wd) (E : XK) (X : Cx) (es : List Expr) (w : WA) : Prop := ∃ te, PA X es te ∧ EvAo W E te w
theorem EnvOk.congr {Hd' : Addr → Prop} (e : EnvOk W Hd H0 A H σ δ) (h : ∀ y, Hd' y ↔ Hd y) : EnvOk W Hd' H0 A H σ δ := by
  have : Hd' = Hd := funext fun y => propext (h y)
  rw [this]; exact e
theorem ao_nil : PAO W E X [] wNil := by
  refine ⟨_, pa_nil, fun Hd H0 A H σ δ K X Q e hw q _ => q [] H [] [] (Kx.refl H) (e.congr fun y => ?_) (fun z h => by cases h) .nil hw⟩
  exact ⟨fun h => h.elim id (fun h => by cases h), .inl⟩
theorem ao_cons {es : List Expr} {wr : WA} (hn : noStar a = true) (ha : PEW W E X a wa) (hr : PAO W E X es wr) : PAO W E X (a :: es) (wCons wa wr) := by
  obtain ⟨ta, pa, ea⟩ := ha
  obtain ⟨tr, pr, er⟩ := hr
  refine ⟨_, pa_cons pa pr (star_is hn), ?_⟩
  intro Hd H0 A H σ δ K X Q e hw q x
  refine ea Hd H0 A H σ δ _ X _ e hw (fun v H1 rx k1 s1 r1 h1 => ?_) x
  have e1 := e.keep k1 s1
  -- what stands still here stands still behind the rest
  have later : ∀ {Hd1 : Addr → Prop} {H2 : Hp} {Z : List Addr}, (∀ y, Hd1 y → Hd y ∨ H y = none) → Kx W H1 H2 → (∀ z ∈ Z, H1 z = none) → Kp (fz (Rsv W Hd1 A) H1) (fz (Rsv W (fun y => Hd1 y ∨ y ∈ Z) A) H2) := fun _ k2 hZ => fz_kp fun y o n w => ⟨fun r => by
      rcases r with r | (r | r) | r
      · exact n (.inl r)
      · exact n (.inr (.inl r))
      · rw [hZ y r] at w; cases w
      · exact n (.inr (.inr r)), k2 y o (fun r => n (.inl r)) w⟩
  cases rx with
  | v d =>
    refine er Hd H0 A H1 σ δ _ X _ e1 h1 (fun vs H2 rs Z k2 e2 hZ ao h2 => ?_) (x.keep k1)
    exact q _ H2 _ Z (k1.trans k2) e2 (fun z hz => k1.fresh s1 (hZ z hz)) (.v (Rep.mono (later (fun y h => .inl h) k2 hZ).ex d r1) ao) h2
  | sl i d =>
    refine er Hd H0 A H1 σ δ _ X _ e1 h1 (fun vs H2 rs Z k2 e2 hZ ao h2 => ?_) (x.keep k1)
    exact q _ H2 _ Z (k1.trans k2) e2 (fun z hz => k1.fresh s1 (hZ z hz)) (.sl ao) h2
  | own d =>
    obtain ⟨z, hv, hz, nz, ht⟩ := r1
    subst hv
    obtain ⟨o, ho⟩ := ht.some
    have eh := e.hideAt k1 s1 hz ho
    have xh : XOk W (fun y => Hd y ∨ y = z) H1 X E := fun y cls dd H' kk ss hx hy => x y cls dd H' (k1.trans kk) ss (by
      obtain ⟨C, c1, c2, c3⟩ := hx
      refine ⟨C, c1, c2, ?_⟩
      rcases c3 with c3 | ⟨w, fs, c3, c4, c5⟩
      · exact .inl c3
      · exact .inr ⟨w, fs, c3, c4, c5.mono (fz_kp fun y o n q => ⟨fun r => n (by rcases r with r | r; exact .inl r; exact .inr (.inl r)), q⟩).ex⟩) hy
    refine er _ H0 A H1 σ δ _ X _ eh h1 (fun vs H2 rs Z k2 e2 hZ ao h2 => ?_) xh
    have zz : z ∉ Z := fun hm => by rw [hZ z hm] at ho; cases ho
    have eq : ∀ y, (Hd y ∨ y ∈ z :: Z) ↔ ((Hd y ∨ y = z) ∨ y ∈ Z) := fun y => by
      rw [List.mem_cons]
      constructor
      · rintro (h | h | h)
        · exact .inl (.inl h)
        · exact .inl (.inr h)
        · exact .inr h
      · rintro ((h | h) | h)
        · exact .inl h
        · exact .inr (.inl h)
        · exact .inr (.inr h)
    have eqf : (fun y => Hd y ∨ y ∈ z :: Z) = fun y => (Hd y ∨ y = z) ∨ y ∈ Z := funext fun y => propext (eq y)
    refine q _ H2 _ (z :: Z) (k1.trans k2) (e2.congr eq) (fun y hy => ?_) ?_ h2
    · rcases List.mem_cons.mp hy with rfl | hy
      · exact hz
      · exact k1.fresh s1 (hZ y hy)
    · rw [eqf]
      refine .own (ht.mono ((fz_kp fun y u n w => ⟨fun r => n ?_, w⟩ : Kp _ (fz (Rsv W (fun y => Hd y ∨ y = z) A) H1)).trans (later (fun y h => h.elim .inl fun h => .inr (by rw [h]; exact hz)) k2 hZ)).ex fun o q => k2 z o (fun r => nz (.inl r)) q) zz ao
      rcases r with r | (r | r) | r
      · exact .inl (.inl r)
      · exact .inl (.inr (.inl r))
      · exact .inr r
      · exact .inl (.inr (.inr r))
def asgM : List (Nat × Bool) → List R → Env → Option Env
  | [], [], δ => some δ
  | (i, ow) :: ts, r :: rs, δ => (asg1 i ow r δ).bind fun δ' => asgM ts rs δ'
  | _, _, _ => none
def setAll : List (Nat × Bool) → List V → St → St
  | (i, _) :: ts, v :: vs, σ => setAll ts vs (σ.set i (some v))
  | _, _, σ => σ
theorem asgM_ok : ∀ {vs : List V} {rs : List R} {Z : List Addr} {Hd' : Addr → Prop} {A : Nat → Option Addr}, ArgsO W Hd' A H vs rs Z → ∀ {ts : List (Nat × Bool)} {σ : St} {δ δ' : Env}, (∀ y, Hd' y ↔ (Hd y ∨ y ∈ Z)) → EnvOk W Hd' H0 A H σ δ → (∀ z ∈ Z, H0 z = none ∧ ¬ inSa W z ∧ ¬ Hd z) → asgM ts rs δ = some δ' →
    ∃ A', EnvOk W Hd H0 A' H (setAll ts vs σ) δ'
  | _, _, _, _, A, .nil, ts, σ, δ, δ', hd, e, hZ, ha => by
    cases ts with
    | nil =>
      cases ha
      exact ⟨A, e.congr fun y => ((hd y).trans ⟨fun h => h.elim id (fun h => by cases h), .inl⟩).symm⟩
    | cons t ts => cases ha
  | _, _, Z, Hd', A, .v (v := v) (vs := vs) (d := d) (rs := rs) r ao, ts, σ, δ, δ', hd, e, hZ, ha => by
    cases ts with
    | nil => cases ha
    | cons t ts =>
      obtain ⟨i, ow⟩ := t
      rw [asgM] at ha
      cases ow with
      | true => cases ha
      | false => exact asgM_ok (ao.mono fz_drop fun _ _ _ q => q) hd (e.setF r) hZ ha
  | _, _, _, Hd', A, .own (z := z) (vs := vs) (d := d) (rs := rs) (Z := Z) t nz ao, ts, σ, δ, δ', hd, e, hZ, ha => by
    cases ts with
    | nil => cases ha
    | cons tt ts =>
      obtain ⟨i, ow⟩ := tt
      rw [asgM] at ha
      have eqf : Hd' = fun y => (Hd y ∨ y ∈ Z) ∨ y = z := funext fun y => propext ((hd y).trans (by
        rw [List.mem_cons]
        constructor
        · rintro (h | h | h)
          · exact .inl (.inl h)
          · exact .inr h
          · exact .inl (.inr h)
        · rintro ((h | h) | h)
          · exact .inl h
          · exact .inr (.inr h)
          · exact .inr (.inl h)))
      subst eqf
      obtain ⟨z1, z2, z3⟩ := hZ z List.mem_cons_self
      have hZ' : ∀ y ∈ Z, H0 y = none ∧ ¬ inSa W y ∧ ¬ Hd y := fun y hy => hZ y (List.mem_cons_of_mem _ hy)
      cases ow with
      | true =>
        unfold asg1 at ha
        dsimp only at ha
        split at ha
        · rename_i hi
          have e' := e.own (i := i) t z1 z2 (fun r => r.elim z3 nz) hi
          refine asgM_ok (Hd' := fun y => Hd y ∨ y ∈ Z) (ao.mono (fz_kp fun y o n q => ⟨fun r => n ?_, q⟩) fun _ _ _ q => q) (fun _ => Iff.rfl) e' hZ' ha
          rcases r with r | r | ⟨j, r⟩
          · exact .inl r
          · exact .inr (.inl (.inl r))
          · rcases putA_some r with ⟨_, r⟩ | ⟨_, r⟩
            · exact .inr (.inl (.inr r))
            · exact .inr (.inr ⟨j, r⟩)
        · cases ha
      | false =>
        have sub : Kp (fz (Rsv W (fun y => (Hd y ∨ y ∈ Z) ∨ y = z) A) H) (fz (Rsv W (fun y => Hd y ∨ y ∈ Z) A) H) := fz_kp fun y o n q => ⟨fun r => n (by
          rcases r with r | r | r
          · exact .inl r
          · exact .inr (.inl (.inl r))
          · exact .inr (.inr r)), q⟩
        have nr : ¬ Rsv W (fun y => Hd y ∨ y ∈ Z) A z := fun r => by
          rcases r with r | (r | r) | ⟨j, r⟩
          · exact z2 r
          · exact z3 r
          · exact nz r
          · exact (e.new j z r).2.2 (.inr rfl)
        exact asgM_ok ((ao.mono sub fun _ _ _ q => q).mono fz_drop fun _ _ _ q => q) (fun _ => Iff.rfl) (e.show.setF (i := i) (t.rep sub.ex fun o q => fz_of nr q)) hZ' ha
  | _, _, _, _, _, .sl ao, ts, σ, δ, δ', hd, e, hZ, ha => by
    cases ts with
    | nil => cases ha
    | cons t ts =>
      obtain ⟨i, ow⟩ := t
      rw [asgM] at ha
      cases ow <;> cases ha
def wPar (ts : List (Nat × Bool)) (wr : WA) : WS := fun δ p => wr δ (fun rs => ∃ δ', asgM ts rs δ = some δ' ∧ p.nx δ') p.ex
/-- the end of such a statement -/
theorem par_end {Hs : Hp} {ts : List (Nat × Bool)} {vs : List V} {rs : List R} {Z : List Addr} {δ' : Env} {p : Pst} {D : Ends} (es : EnvOk W Hd H0 A Hs σ δ) (e : EnvOk W (fun y => Hd y ∨ y ∈ Z) H0 A H σ δ) (hZ : ∀ z ∈ Z, Hs z = none) (ao : ArgsO W (fun y => Hd y ∨ y ∈ Z) A H vs rs Z) (l : LinkS W Hd H0 p D E)
    (ha : asgM ts rs δ = some δ') (hp : p.nx δ') : D.nx (setAll ts vs σ) H := by
  have nr : ∀ z ∈ Z, ¬ Rsv W Hd A z := fun z hz r => by
    obtain ⟨o, q⟩ := es.rsvSome r
    rw [hZ z hz] at q; cases q
  obtain ⟨A', e'⟩ := asgM_ok ao (fun _ => Iff.rfl) e (fun z hz => ⟨es.b0.fresh es.st (hZ z hz), fun r => nr z hz (.inl r), fun r => nr z hz (.inr (.inl r))⟩) ha
  exact l.nx A' H _ δ' e' hp
theorem ArgsO.len {vs : List V} {rs : List R} {Z : List Addr} (h : ArgsO W Hd A H vs rs Z) : vs.length = rs.length := by
  induction h with
  | nil => rfl
  | v _ _ ih => rw [List.length_cons, List.length_cons, ih]
  | own _ _ _ ih => rw [List.length_cons, List.length_cons, ih]
  | sl _ ih => rw [List.length_cons, List.length_cons, ih]
theorem asgM_len : ∀ {ts : List (Nat × Bool)} {rs : List R} {δ δ' : Env}, asgM ts rs δ = some δ' → rs.length = ts.length
  | [], [], _, _, _ => rfl
  | [], _ :: _, _, _, h => by cases h
  | _ :: _, [], _, _, h => by cases h
  | (i, ow) :: ts, r :: rs, δ, δ', h => by
    rw [asgM] at h
    cases q : asg1 i ow r δ with
    | none => rw [q] at h; cases h
    | some δ1 =>
      rw [q] at h
      rw [List.length_cons, List.length_cons, asgM_len (ts := ts) h]
end
end G
set_option maxRecDepth 100000
set_option maxHeartbeats 4000000
namespace G
open PySem PySem.Spec PyProof.Rows L2
section
variable {W : Wd} {Hd : Addr → Prop} {H0 H : Hp} {A : Nat → Option Addr} {σ : St} {δ : Env} {X : Cx} {E : XK} {N : List Str} {sc : Scope} {k : Nat}
variable {a b c : Expr} {wa wb wc : WE} {pos p : Pos}

/-! ### a, b = x, y -/
/-- what swappedStores decides; none: it has no word -/
def swapP (ts vs : List Expr) (bk : Bool) (kind : Str → Option NameKind) : Option (Option (List Str)) :=
  if (!(ts.length == 2 || ts.length == 3) || vs.length != ts.length || bk) = true then some none
  else if (vs.any fun e => match e with | .Starred _ _ => true | _ => false) = true then some none
  else
    let names := ts.filterMap fun e => match e with
      | .Name id pos => if (kind id == some .local && pos.line == (ts.head?.map (·.pos.line)).getD 0) = true then some id else none
      | _ => none
    if (names.length != ts.length || names.eraseDups.length != names.length) = true then some none
    else if vs.all (foldedForSure 8) = true then some none
    else if vs.all (constantsAlone 8) = true then none
    else some (some names)
theorem swapP_ok {env : PySem.Env} {ts vs : List Expr} {kt k2 : Nat} {pt pt2 : Pos} {r : Option (List Str)} (h : swapP ts vs (env.blockKind != .function) env.kindOf = some r) : swappedStores [.Tuple ts kt pt] (.Tuple vs k2 pt2) env = pure r := by
  unfold swapP at h
  unfold swappedStores
  dsimp only at h ⊢
  split
  · rename_i g1
    rw [if_pos g1] at h
    cases h
    rfl
  · rename_i g1
    rw [if_neg g1] at h
    try simp only [pure_bind]
    split
    · rename_i g2
      rw [if_pos (by exact g2)] at h
      cases h
      rfl
    · rename_i g2
      rw [if_neg (by exact g2)] at h
      try simp only [pure_bind]
      split
      · rename_i g3
        rw [if_pos (by exact g3)] at h
        cases h
        rfl
      · rename_i g3
        rw [if_neg (by exact g3)] at h
        try simp only [pure_bind]
        split
        · rename_i g4
          rw [if_pos g4] at h
          cases h
          rfl
        · rename_i g4
          rw [if_neg g4] at h
          try simp only [pure_bind]
          split
          · rename_i g5
            rw [if_pos g5] at h
            cases h
          · rename_i g5
            rw [if_neg g5] at h
            try simp only [pure_bind]
            cases h
            rfl

/-- the kinds of names as a def's scope has them -/
def kindB (sc : Scope) (x : Str) : Option NameKind := sc.names.lookup x
theorem swap_env {env : PySem.Env} (h : env.scope = sc) (hk : sc.kind = .function) : (env.blockKind != .function) = false ∧ env.kindOf = kindB sc := by
  refine ⟨?_, ?_⟩
  · unfold Env.blockKind
    rw [h, hk]; rfl
  · funext x
    unfold Env.kindOf kindB
    rw [h]
theorem sw_par2 {i j : Nat} {o1 o2 : Bool} {x y : Str} {px py pt pt2 : Pos} {kt k2 : Nat} {wr : WA} (g : Good W N sc k E X) (hsc : X.env.scope = sc) (hi : N[i]? = some x) (hj : N[j]? = some y) (hij : i ≠ j) (hx : sc.names.lookup x = some .local) (hy : sc.names.lookup y = some .local)
    (hs : swapP [.Name x px, .Name y py] [a, b] false (kindB sc) = some (some [x, y])) (ha : PAO W E X [a, b] wr) : PSW W E X (.Assign [.Tuple [.Name x px, .Name y py] kt pt] (.Tuple [a, b] k2 pt2) pos) (wPar [(i, o1), (j, o2)] wr) := by
  obtain ⟨ta, pa, ea⟩ := ha
  obtain ⟨b1, b2⟩ := swap_env hsc (by rw [← hsc]; exact g.kind)
  refine ⟨_, ps_par g.calm (by rw [g.hN]; exact g.nd) (by rw [g.hN]; exact hi) (by rw [g.hN]; exact hj) hij (g.lcl x hx) (g.lcl y hy) pa (swapP_ok (by rw [b1, b2]; exact hs)) (by rw [swapsWithSole]; rfl), ?_⟩
  intro Hd H0 A H σ δ p D e hw l
  refine ea Hd H0 A H σ δ _ _ _ e hw (fun vs H' rs Z k1 e1 hZ ao h => ?_) (l.x e)
  obtain ⟨δ', h1, h2⟩ := h
  have hl := ao.len.trans (asgM_len h1)
  rcases vs with _ | ⟨v1, _ | ⟨v2, _ | ⟨v3, vs⟩⟩⟩ <;> first | (simp at hl; done) | skip
  exact ⟨v1, v2, rfl, par_end e e1 hZ ao l h1 h2⟩
theorem sw_par3 {i j l : Nat} {o1 o2 o3 : Bool} {x y z : Str} {px py pz pt pt2 : Pos} {kt k2 : Nat} {wr : WA} (g : Good W N sc k E X) (hsc : X.env.scope = sc) (hi : N[i]? = some x) (hj : N[j]? = some y) (hl : N[l]? = some z) (hij : i ≠ j) (hil : i ≠ l) (hjl : j ≠ l) (hx : sc.names.lookup x = some .local) (hy : sc.names.lookup y = some .local) (hz : sc.names.lookup z = some .local)
    (hs : swapP [.Name x px, .Name y py, .Name z pz] [a, b, c] false (kindB sc) = some (some [x, y, z])) (ha : PAO W E X [a, b, c] wr) : PSW W E X (.Assign [.Tuple [.Name x px, .Name y py, .Name z pz] kt pt] (.Tuple [a, b, c] k2 pt2) pos) (wPar [(i, o1), (j, o2), (l, o3)] wr) := by
  obtain ⟨ta, pa, ea⟩ := ha
  obtain ⟨b1, b2⟩ := swap_env hsc (by rw [← hsc]; exact g.kind)
  refine ⟨_, ps_par3 g.calm (by rw [g.hN]; exact g.nd) (by rw [g.hN]; exact hi) (by rw [g.hN]; exact hj) (by rw [g.hN]; exact hl) hij hil hjl (g.lcl x hx) (g.lcl y hy) (g.lcl z hz) pa (swapP_ok (by rw [b1, b2]; exact hs)) (by rw [swapsWithSole]; rfl), ?_⟩
  intro Hd H0 A H σ δ p D e hw l
  refine ea Hd H0 A H σ δ _ _ _ e hw (fun vs H' rs Z k1 e1 hZ ao h => ?_) (l.x e)
  obtain ⟨δ', h1, h2⟩ := h
  have hl := ao.len.trans (asgM_len h1)
  rcases vs with _ | ⟨v1, _ | ⟨v2, _ | ⟨v3, _ | ⟨v4, vs⟩⟩⟩⟩ <;> first | (simp at hl; done) | skip
  exact ⟨v1, v2, v3, rfl, par_end e e1 hZ ao l h1 h2⟩
/-- names stored one after another -/
def gsN : List (Nat × Bool) → TGs
  | [] => gNil
  | (i, _) :: ts => gCons (gName i) (gsN ts)
theorem gsN_run : ∀ {ts : List (Nat × Bool)} {vs : List V} {σ : St} {H : Hp} {Q : St → Hp → Prop}, vs.length = ts.length → Q (setAll ts vs σ) H → gsN ts vs σ H Q
  | [], [], _, _, _, _, q => ⟨rfl, q⟩
  | [], _ :: _, _, _, _, h, _ => by cases h
  | _ :: _, [], _, _, _, h, _ => by cases h
  | (i, _) :: ts, v :: vs, σ, H, Q, h, q => ⟨v, vs, rfl, gsN_run (ts := ts) (by simpa using h) q⟩
/-- the targets are the names in these slots -/
def tgsB (N : List Str) (sc : Scope) : List (Nat × Bool) → List Expr → Bool
  | [], [] => true
  | (i, _) :: ts, .Name x _ :: es => decide (N[i]? = some x) && locB sc x && tgsB N sc ts es
  | _, _ => false
theorem pgs_names (g : Good W N sc k E X) : ∀ {ts : List (Nat × Bool)} {es : List Expr}, tgsB N sc ts es = true → PGs X es (gsN ts) ∧ nmsOnly es = true ∧ es.length = ts.length
  | [], [], _ => ⟨pgs_nil, rfl, rfl⟩
  | [], _ :: _, h => by cases h
  | (i, o) :: ts, es, h => by
    cases es with
    | nil => cases h
    | cons e es =>
      cases e <;> first | cases h | skip
      rename_i x px
      rw [tgsB, Bool.and_eq_true, Bool.and_eq_true] at h
      obtain ⟨q1, q2, q3⟩ := pgs_names g (ts := ts) (es := es) h.2
      have hx := g.loc x h.1.2
      refine ⟨pgs_cons (pg_name (by rw [g.hN]; exact g.nd) (by rw [g.hN]; exact of_decide_eq_true h.1.1) hx.1 hx.2) q1 (by rw [assignEach_is rfl]; rfl), ?_, by rw [List.length_cons, List.length_cons, q3]⟩
      unfold nmsOnly at *
      rw [List.all_cons, q2]; rfl
theorem sw_parT {ts : List (Nat × Bool)} {es vs : List Expr} {pt pt2 : Pos} {kt k2 : Nat} {wr : WA} (g : Good W N sc k E X) (hsc : X.env.scope = sc) (ht : tgsB N sc ts es = true) (hs : swapP es vs false (kindB sc) = some none) (ha : PAO W E X vs wr) : PSW W E X (.Assign [.Tuple es kt pt] (.Tuple vs k2 pt2) pos) (wPar ts (fun δ K X => wr δ (fun rs => rs.length ≤ big ∧ K rs) X)) := by
  obtain ⟨ta, pa, ea⟩ := ha
  obtain ⟨b1, b2⟩ := swap_env hsc (by rw [← hsc]; exact g.kind)
  obtain ⟨g1, g2, g3⟩ := pgs_names g ht
  obtain ⟨n1, n2⟩ := assign_names (env := X.env) g2
  refine ⟨_, ps_asg (pe_tup pa) (pg_tup g.calm g1 (n1.trans g3) n2) (by rw [swapsWithSole]; rfl) (swapP_ok (by rw [b1, b2]; exact hs)) (by rw [assignEach_is rfl]; rfl), ?_⟩
  rw [g.hK]
  intro Hd H0 A H σ δ p D e hw l
  refine ea Hd H0 A H σ δ _ _ _ e hw (fun us H' rs Z k1 e1 hZ ao h => ?_) (l.x e)
  obtain ⟨hb, δ', h1, h2⟩ := h
  have hl := ao.len.trans (asgM_len h1)
  refine ⟨by rw [ao.len]; exact big_le hb, fun T hT => ⟨T, us, rfl, .of upd_same, hl, gsN_run hl ?_⟩⟩
  have kT := Ex.new (o := .tup us) hT
  have e2 := e1.keep kT.kx (e1.st.kp kT)
  refine par_end e e2 hZ (ao.mono (fz_kp fun y o n q => ⟨n, kT y o q⟩) fun z _ o q => kT z o q) l h1 h2

/-! ### slots' own things change -/
theorem EnvOk.updO {i : Nat} {z : Addr} {o : HO} {d d' : D} (e : EnvOk W Hd H0 A H σ δ) (hA : A i = some z) (hi : δ[i]? = some (.ow d)) (hT : Top W (fz (Rsv W Hd A) H) (upd H z o) d' z) : EnvOk W Hd H0 A (upd H z o) σ (δ.set i (.ow d')) := by
  obtain ⟨n1, n2, n3⟩ := e.new i z hA
  have rz : Rsv W Hd A z := .inr (.inr ⟨i, hA⟩)
  have sub : Kp (fz (Rsv W Hd A) H) (fz (Rsv W Hd A) (upd H z o)) := fz_kp fun y u n q => ⟨n, by
    have : y ≠ z := fun r => n (by rw [r]; exact rz)
    rw [upd_ne this]; exact q⟩
  refine ⟨e.b0.upd0 n1, e.st.upd n2, by simp [e.len], fun j x hx => ?_, e.inj, e.new, fun y h => ?_, fun j hj => e.out j (by simpa using hj)⟩
  · rw [List.getElem?_set] at hx
    by_cases hij : i = j
    · subst hij
      rw [if_pos rfl] at hx
      split at hx
      · cases hx
        obtain ⟨z', q1, q2, q3⟩ := e.sl i _ hi
        rw [hA] at q1; cases q1
        exact ⟨z, hA, q2, hT.mono sub.ex fun _ q => q⟩
      · cases hx
    · rw [if_neg hij] at hx
      have q := e.sl j x hx
      cases x with
      | un => exact q
      | fz d => obtain ⟨h1, x, h2, h3⟩ := q; exact ⟨h1, x, h2, h3.mono sub.ex⟩
      | ow d =>
        obtain ⟨y, h1, h2, h3⟩ := q
        have : y ≠ z := fun r => hij (e.inj i j z hA (by rw [← r]; exact h1))
        exact ⟨y, h1, h2, h3.mono sub.ex fun u q => by rw [upd_ne this]; exact q⟩
  · by_cases r : y = z
    · subst r; exact ⟨o, upd_same⟩
    · rw [upd_ne r]; exact e.hid y h
inductive Mt where
  | append | clear | reverse | pop | popAt
def Mt.nm : Mt → Str
  | .append => "append" | .clear => "clear" | .reverse => "reverse" | .pop => "pop" | .popAt => "pop"
def mutS : Mt → D → List R → (D → D → Prop) → Prop
  | .append, d, rs, K => ∃ ds r, d = .lst ds ∧ rs = [r] ∧ r.fr = true ∧ ds.length < big ∧ K (.lst (ds ++ [r.d])) .non
  | .clear, d, rs, K => ∃ ds, d = .lst ds ∧ rs = [] ∧ K (.lst []) .non
  | .reverse, d, rs, K => ∃ ds, d = .lst ds ∧ rs = [] ∧ K (.lst ds.reverse) .non
  | .pop, d, rs, K => ∃ ds x, d = .lst ds ∧ rs = [] ∧ ds[ds.length - 1]? = some x ∧ K (.lst ds.dropLast) x
  | .popAt, d, rs, K => ∃ (ds : List D) (r : R) (i : Int) (j : Nat) (x : D), d = .lst ds ∧ rs = [r] ∧ r.d = .int i ∧ ds.length ≤ big ∧ ixN ds.length i = some j ∧ ds[j]? = some x ∧ K (.lst (ds.eraseIdx j)) x
def MtS (W : Wd) (r : V → List V → Hp → VK → Prop) (m : Mt) : Prop := ∀ (Hd : Addr → Prop) (H0 : Hp) (A : Nat → Option Addr) (H : Hp) (σ : St) (δ : Env) (i : Nat) (z : Addr) (d : D) (rs : List R) (vs : List V) (K : D → D → Prop) (Q : VK),
  EnvOk W Hd H0 A H σ δ → A i = some z → δ[i]? = some (.ow d) → RepRs W Hd A H δ vs rs → mutS m d rs K →
  (∀ d' x v H', Kx W H0 H' → EnvOk W Hd H0 A H' σ (δ.set i (.ow d')) → Rep W (fz (Rsv W Hd A) H') x v → K d' x → Q v H') → r (.ref z) vs H Q
theorem ow_lst {i : Nat} {z : Addr} {ds : List D} (e : EnvOk W Hd H0 A H σ δ) (hA : A i = some z) (hi : δ[i]? = some (.ow (.lst ds))) : ∃ vs, H z = some (.lst vs) ∧ RepL W (fz (Rsv W Hd A) H) ds vs := by
  obtain ⟨z', q1, q2, vs, q3, q4⟩ := e.sl i _ hi
  rw [hA] at q1; cases q1
  exact ⟨vs, q3, q4⟩
theorem fz_upd {z : Addr} {o : HO} (h : Rsv W Hd A z) : Kp (fz (Rsv W Hd A) H) (fz (Rsv W Hd A) (upd H z o)) := fz_kp fun y u n q => ⟨n, by
    have : y ≠ z := fun r => n (by rw [r]; exact h)
    rw [upd_ne this]; exact q⟩
theorem RepL.dropLast {F : Hp} {ds : List D} {vs : List V} (h : RepL W F ds vs) : RepL W F ds.dropLast vs.dropLast := by
  rw [List.dropLast_eq_take, List.dropLast_eq_take, h.length]
  exact h.take _
theorem RepRs.nil_of {vs : List V} (h : RepRs W Hd A H δ vs []) : vs = [] := by cases h; rfl
theorem ms_append : MtS W rAppend .append := by
  intro Hd H0 A H σ δ i z d rs vs K Q e hA hi rr hm q
  obtain ⟨ds, r, rfl, rfl, hf, hl, hk⟩ := hm
  obtain ⟨v, rfl, rv⟩ := rr.one
  obtain ⟨us, h1, h2⟩ := ow_lst e hA hi
  have e' := e.updO hA hi (show Top W (fz (Rsv W Hd A) H) (upd H z (.lst (us ++ [v]))) (.lst (ds ++ [r.d])) z from ⟨_, upd_same, h2.append (.one (rv.frz hf))⟩)
  exact ⟨z, us, v, rfl, rfl, h1, by rw [h2.length]; exact big_lt (by omega), q _ _ _ _ e'.b0 e' (by rw [Rep]) hk⟩
theorem ms_clear : MtS W rClear .clear := by
  intro Hd H0 A H σ δ i z d rs vs K Q e hA hi rr hm q
  obtain ⟨ds, rfl, rfl, hk⟩ := hm
  obtain ⟨us, h1, h2⟩ := ow_lst e hA hi
  have e' := e.updO hA hi (show Top W (fz (Rsv W Hd A) H) (upd H z (.lst [])) (.lst []) z from ⟨_, upd_same, .nil⟩)
  exact ⟨z, us, rfl, rr.nil_of, h1, q _ _ _ _ e'.b0 e' (by rw [Rep]) hk⟩
theorem ms_reverse : MtS W rReverse .reverse := by
  intro Hd H0 A H σ δ i z d rs vs K Q e hA hi rr hm q
  obtain ⟨ds, rfl, rfl, hk⟩ := hm
  obtain ⟨us, h1, h2⟩ := ow_lst e hA hi
  have e' := e.updO hA hi (show Top W (fz (Rsv W Hd A) H) (upd H z (.lst us.reverse)) (.lst ds.reverse) z from ⟨_, upd_same, h2.reverse⟩)
  exact ⟨z, us, rfl, rr.nil_of, h1, q _ _ _ _ e'.b0 e' (by rw [Rep]) hk⟩
theorem ms_pop : MtS W rPop .pop := by
  intro Hd H0 A H σ δ i z d rs vs K Q e hA hi rr hm q
  obtain ⟨ds, x, rfl, rfl, hx, hk⟩ := hm
  obtain ⟨us, h1, h2⟩ := ow_lst e hA hi
  obtain ⟨u, hu, ru⟩ := h2.get hx
  have e' := e.updO hA hi (show Top W (fz (Rsv W Hd A) H) (upd H z (.lst us.dropLast)) (.lst ds.dropLast) z from ⟨_, upd_same, h2.dropLast⟩)
  exact ⟨z, us, u, rfl, rr.nil_of, h1, by rw [h2.length]; exact hu, q _ _ _ _ e'.b0 e' (ru.mono (fz_upd (.inr (.inr ⟨i, hA⟩))).ex) hk⟩
theorem ms_popAt : MtS W rPopAt .popAt := by
  intro Hd H0 A H σ δ i z d rs vs K Q e hA hi rr hm q
  obtain ⟨ds, r, n, j, x, rfl, rfl, hn, hb, hj, hx, hk⟩ := hm
  obtain ⟨v, rfl, rv⟩ := rr.one
  cases rv.int hn
  obtain ⟨us, h1, h2⟩ := ow_lst e hA hi
  obtain ⟨u, hu, ru⟩ := h2.get hx
  rw [← h2.length] at hj
  obtain ⟨q1, q2, q3, q4⟩ := ixN_seq hj
  have hz : us.length ≤ 1000000 := by rw [h2.length]; exact hb
  have e' := e.updO hA hi (show Top W (fz (Rsv W Hd A) H) (upd H z (.lst (us.eraseIdx j))) (.lst (ds.eraseIdx j)) z from ⟨_, upd_same, h2.eraseIdx j⟩)
  exact ⟨z, us, n, j, u, rfl, rfl, h1, by omega, by omega, q1, hu, q _ _ _ _ e'.b0 e' (ru.mono (fz_upd (.inr (.inr ⟨i, hA⟩))).ex) hk⟩
end
end G
set_option maxRecDepth 100000
set_option maxHeartbeats 4000000
namespace G
open PySem PySem.Spec PyProof.Rows L2
section
variable {W : Wd} {Hd : Addr → Prop} {H0 H : Hp} {A : Nat → Option Addr} {σ : St} {δ : Env} {X : Cx} {E : XK} {N : List Str} {sc : Scope} {k : Nat}
variable {a b c : Expr} {wa wb wc : WE} {pos p : Pos}

/-! ### methods of lists -/
theorem base_name {x nm : Str} {p1 : Pos} {env : PySem.Env} : attributeBase (.Name x p1) nm env (eval (.Name x p1) env) = eval (.Name x p1) env := rfl
/-- the method's rule, by its name -/
theorem mt_has (m : Mt) : ∃ (id : String) (r : V → List V → Hp → VK → Prop), Slot "list" m.nm id ∧ typeOf (.builtin id) = pure (.type "method_descriptor") ∧ (∀ X, MtR X id r) ∧ ∀ W, MtS W r m := by
  cases m
  · exact ⟨_, _, PySem.F.slot_list_append, PySem.F.type_list_append, fun X => mt_append, fun W => ms_append⟩
  · exact ⟨_, _, PySem.F.slot_list_clear, PySem.F.type_list_clear, fun X => mt_clear, fun W => ms_clear⟩
  · exact ⟨_, _, PySem.F.slot_list_reverse, PySem.F.type_list_reverse, fun X => mt_reverse, fun W => ms_reverse⟩
  · exact ⟨_, _, PySem.F.slot_list_pop, PySem.F.type_list_pop, fun X => mt_pop, fun W => ms_pop⟩
  · exact ⟨_, _, PySem.F.slot_list_pop, PySem.F.type_list_pop, fun X => mt_popAt, fun W => ms_popAt⟩
/-- y.m(..) of a slot's own list, as a reading -/
def PMW (W : Wd) (E : XK) (X : Cx) (e : Expr) (i : Nat) (m : Mt) (wr : WA) : Prop := ∃ te, PE X e te ∧ ∀ (Hd : Addr → Prop) (H0 : Hp) (A : Nat → Option Addr) (H : Hp) (σ : St) (δ : Env) (ds : List D) (K : D → D → Prop) (Xp : Xn → Prop) (Q : VK),
  EnvOk W Hd H0 A H σ δ → δ[i]? = some (.ow (.lst ds)) → wr δ (fun rs => mutS m (.lst ds) rs K) Xp → (∀ d' x v H', Kx W H0 H' → EnvOk W Hd H0 A H' σ (δ.set i (.ow d')) → Rep W (fz (Rsv W Hd A) H') x v → K d' x → Q v H') → XOk W Hd H Xp E → te σ H Q
theorem mw_of0 {i : Nat} {x : Str} {m : Mt} {p1 ap cp : Pos} (g : Good W N sc k E X) (hi : N[i]? = some x) (hv : visB sc x = true) (hd : (x == ("__debug__" : Str)) = false) (hcd : (x == ("__classdict__" : Str)) = false) (hln : (ap.endLine == cp.line) = true) :
    PMW W E X (.Call (.Attribute (.Name x p1) m.nm ap) [] [] cp) i m wNil := by
  obtain ⟨id, r, hs, ht, hm, hms⟩ := mt_has m
  have pv : PE X (.Name x p1) (tVar i) := pe_var (by rw [g.hN]; exact hi) (g.vis x hv) hd hcd
  refine ⟨_, pe_bm0 PySem.F.plainAttrs_list hs ht (hm X) pv base_name hln, ?_⟩
  rw [g.hK]
  intro Hd H0 A H σ δ ds K Xp Q e hδ hw q x
  obtain ⟨z, q1, q2, vs, q3, q4⟩ := e.sl i _ hδ
  exact ⟨.ref z, slot_get q2, .inl ⟨rfl, vs, .of q3⟩, hms W Hd H0 A H σ δ i z _ [] [] K Q e q1 hδ .nil hw q⟩
theorem mw_of1 {i : Nat} {x : Str} {m : Mt} {es : List Expr} {wr : WA} {p1 ap cp : Pos} (g : Good W N sc k E X) (hi : N[i]? = some x) (hv : visB sc x = true) (hd : (x == ("__debug__" : Str)) = false) (hcd : (x == ("__classdict__" : Str)) = false) (st : (a :: es).all noStar = true) (hl : (a :: es).length < 20) (hln : (ap.endLine == cp.line) = true) (ha : PAW W E X (a :: es) wr) :
    PMW W E X (.Call (.Attribute (.Name x p1) m.nm ap) (a :: es) [] cp) i m wr := by
  obtain ⟨id, r, hs, ht, hm, hms⟩ := mt_has m
  obtain ⟨ta, pa, ea⟩ := ha
  have pv : PE X (.Name x p1) (tVar i) := pe_var (by rw [g.hN]; exact hi) (g.vis x hv) hd hcd
  have st' := st
  rw [List.all_cons, Bool.and_eq_true] at st'
  refine ⟨_, pe_bm PySem.F.plainAttrs_list hs ht (hm X) pv pa base_name (few_is st hl) hln (star_is st'.1) (star_none st'.2), ?_⟩
  rw [g.hK]
  intro Hd H0 A H σ δ ds K Xp Q e hδ hw q x
  obtain ⟨z, q1, q2, vs, q3, q4⟩ := e.sl i _ hδ
  refine ⟨.ref z, slot_get q2, .inl ⟨rfl, vs, .of q3⟩, ?_⟩
  refine ea Hd H0 A H σ δ _ Xp _ e hw (fun us H1 rs k1 s1 r1 h1 => ?_) x
  exact hms W Hd H0 A H1 σ δ i z _ rs us K Q (e.keep k1 s1) q1 hδ r1 h1 q
def wMutE (i : Nat) (m : Mt) (wr : WA) : WS := fun δ p => ∃ ds, δ[i]? = some (.ow (.lst ds)) ∧ wr δ (fun rs => mutS m (.lst ds) rs fun d' _ => p.nx (δ.set i (.ow d'))) p.ex
theorem sw_mutE {i : Nat} {m : Mt} {wr : WA} (hc : noComp a = true) (h : PMW W E X a i m wr) : PSW W E X (.Expr a pos) (wMutE i m wr) := by
  obtain ⟨te, pe, ev⟩ := h
  refine ⟨_, ps_expr pe (swaps_no hc), ?_⟩
  intro Hd H0 A H σ δ p D e hw l
  obtain ⟨ds, hδ, hw⟩ := hw
  exact ev Hd H0 A H σ δ ds _ _ _ e hδ hw (fun d' x v H' _ e' _ hk => l.nx A H' σ _ e' hk) (l.x e)
def wMutA (j i : Nat) (m : Mt) (wr : WA) : WS := fun δ p => ∃ ds, δ[i]? = some (.ow (.lst ds)) ∧ wr δ (fun rs => mutS m (.lst ds) rs fun d' x => p.nx ((δ.set i (.ow d')).set j (.fz x))) p.ex
theorem sw_mutA {i j : Nat} {m : Mt} {wr : WA} {x : Str} {p2 : Pos} (g : Good W N sc k E X) (hj : N[j]? = some x) (hx : locB sc x = true) (hc : noComp a = true) (h : PMW W E X a i m wr) : PSW W E X (.Assign [.Name x p2] a pos) (wMutA j i m wr) := by
  obtain ⟨te, pe, ev⟩ := h
  refine ⟨_, ps_set (by rw [g.hN]; exact g.nd) (by rw [g.hN]; exact hj) (g.loc x hx).1 pe (swaps_no hc) (g.loc x hx).2, ?_⟩
  intro Hd H0 A H σ δ p D e hw l
  obtain ⟨ds, hδ, hw⟩ := hw
  exact ev Hd H0 A H σ δ ds _ _ _ e hδ hw (fun d' x v H' _ e' r hk => l.nx _ H' _ _ (e'.setF r) hk) (l.x e)
/-- z.append(y.m(..)) -/
def wMutP (j i : Nat) (m : Mt) (wr : WA) : WS := fun δ p => j ≠ i ∧ ∃ ds es, δ[i]? = some (.ow (.lst ds)) ∧ δ[j]? = some (.ow (.lst es)) ∧ es.length < big ∧ wr δ (fun rs => mutS m (.lst ds) rs fun d' x => p.nx ((δ.set i (.ow d')).set j (.ow (.lst (es ++ [x]))))) p.ex
theorem sw_mutP {i j : Nat} {m : Mt} {wr : WA} {x : Str} {p1 ap cp : Pos} (g : Good W N sc k E X) (hj : N[j]? = some x) (hv : visB sc x = true) (hd : (x == ("__debug__" : Str)) = false) (hcd : (x == ("__classdict__" : Str)) = false) (hln : (ap.endLine == cp.line) = true) (hs : noStar a = true) (h : PMW W E X a i m wr) :
    PSW W E X (.Expr (.Call (.Attribute (.Name x p1) "append" ap) [a] [] cp) pos) (wMutP j i m wr) := by
  obtain ⟨te, pe, ev⟩ := h
  have pv : PE X (.Name x p1) (tVar j) := pe_var (by rw [g.hN]; exact hj) (g.vis x hv) hd hcd
  have st : [a].all noStar = true := by rw [List.all_cons, hs]; rfl
  refine ⟨_, ps_expr (pe_bm PySem.F.plainAttrs_list PySem.F.slot_list_append PySem.F.type_list_append mt_append pv (pa_cons pe pa_nil (star_is hs)) base_name (few_is st (by show 1 < 20; omega)) hln (star_is hs) (star_none rfl)) rfl, ?_⟩
  rw [g.hK]
  intro Hd H0 A H σ δ p D e hw l
  obtain ⟨hji, ds, es, hδ, hδ', hb, hw⟩ := hw
  obtain ⟨z, q1, q2, vs, q3, q4⟩ := e.sl j _ hδ'
  refine ⟨.ref z, slot_get q2, .inl ⟨rfl, vs, .of q3⟩, ?_⟩
  refine ev Hd H0 A H σ δ ds _ _ _ e hδ hw (fun d' x v H' _ e' r hk => ?_) (l.x e)
  have hj' : (δ.set i (.ow d'))[j]? = some (.ow (.lst es)) := by rw [List.getElem?_set_ne (fun z => hji z.symm)]; exact hδ'
  obtain ⟨us, h1, h2⟩ := ow_lst e' q1 hj'
  have e2 := e'.updO q1 hj' (show Top W (fz (Rsv W Hd A) H') (upd H' z (.lst (us ++ [v]))) (.lst (es ++ [x])) z from ⟨_, upd_same, h2.append (.one r)⟩)
  exact ⟨z, us, v, rfl, rfl, h1, by rw [h2.length]; exact big_lt (by omega), l.nx A _ σ _ e2 hk⟩

/-! ### x[e] = v -/
def putD (kds : List (Key × D)) (kk : Key) (v : D) : List (Key × D) := if (kds.any fun kv => decide (kv.1 = kk)) = true then kds.map (fun kv => if kv.1 = kk then (kv.1, v) else kv) else kds ++ [(kk, v)]
theorem RepK.put {F : Hp} {kk : Key} {d : D} {v : V} (hr : Rep W F d v) {kds : List (Key × D)} {kvs : List (Key × V)} (h : RepK W F kds kvs) : RepK W F (putD kds kk d) (putK kvs kk v) := by
  have any : ∀ {kds : List (Key × D)} {kvs : List (Key × V)}, RepK W F kds kvs → (kds.any fun kv => decide (kv.1 = kk)) = kvs.any fun kv => decide (kv.1 = kk) := by
    intro kds
    induction kds with
    | nil => intro kvs h; rw [RepK] at h; rw [h]; rfl
    | cons q r ih =>
      intro kvs h
      obtain ⟨k', d'⟩ := q
      rw [RepK] at h
      obtain ⟨v', r', rfl, h1, h2⟩ := h
      rw [List.any_cons, List.any_cons, ih h2]
  have mp : ∀ {kds : List (Key × D)} {kvs : List (Key × V)}, RepK W F kds kvs → RepK W F (kds.map fun kv => if kv.1 = kk then (kv.1, d) else kv) (kvs.map fun kv => if kv.1 = kk then (kv.1, v) else kv) := by
    intro kds
    induction kds with
    | nil => intro kvs h; rw [RepK] at h; rw [h]; simp [RepK]
    | cons q r ih =>
      intro kvs h
      obtain ⟨k', d'⟩ := q
      rw [RepK] at h
      obtain ⟨v', r', rfl, h1, h2⟩ := h
      rw [List.map_cons, List.map_cons]
      by_cases hk : k' = kk
      · simp only [hk, if_true]
        rw [RepK]
        exact ⟨v, _, rfl, hr, ih h2⟩
      · simp only [hk, if_false]
        rw [RepK]
        exact ⟨v', _, rfl, h1, ih h2⟩
  have ap : ∀ {kds : List (Key × D)} {kvs : List (Key × V)}, RepK W F kds kvs → RepK W F (kds ++ [(kk, d)]) (kvs ++ [(kk, v)]) := by
    intro kds
    induction kds with
    | nil =>
      intro kvs h; rw [RepK] at h; rw [h]
      show RepK W F [(kk, d)] [(kk, v)]
      rw [RepK]
      exact ⟨v, [], rfl, hr, by rw [RepK]⟩
    | cons q r ih =>
      intro kvs h
      obtain ⟨k', d'⟩ := q
      rw [RepK] at h
      obtain ⟨v', r', rfl, h1, h2⟩ := h
      rw [List.cons_append, List.cons_append, RepK]
      exact ⟨v', _, rfl, h1, ih h2⟩
  unfold putD putK
  rw [any h]
  split
  · exact mp h
  · exact ap h
def setD (d key v : D) (K : D → Prop) : Prop := (∃ xs i j, d = .lst xs ∧ key = .int i ∧ ixN xs.length i = some j ∧ K (.lst (xs.set j v))) ∨ ∃ kds kk, d = .dic kds ∧ keyD key = some kk ∧ kds.length < big ∧ K (.dic (putD kds kk v))
def wSet (i : Nat) (wk wv : WE) : WS := fun δ p => ∃ d, δ[i]? = some (.ow d) ∧ ((∃ xs, d = .lst xs) ∨ ∃ kds, d = .dic kds) ∧ wv δ (fun rv => wk δ (fun rk => rv.fr = true ∧ setD d rk.d rv.d fun d' => p.nx (δ.set i (.ow d'))) p.ex) p.ex
def noSlS (e : Expr) : Bool := noSlice e
theorem assign_sub {x : Str} {p1 p2 : Pos} {env : PySem.Env} (h : noSlice b = true) : ∀ v, assign (.Subscript (.Name x p1) b p2) env v = (do
      let ov ← holding [v] (eval (.Name x p1) env)
      let iv ← holding [v, ov] (eval b env)
      standAt p2
      holding [v, ov, iv] (setItem ov iv v)
      release [v, ov, iv] []) := by
  intro v
  cases b <;> first | rfl | cases h
theorem PS.or {st : Stmt} {t t' : TS} (h : PS X st t) (h' : PS X st t') : PS X st (fun D σ H => t D σ H ∨ t' D σ H) :=
  ⟨fun pins s σ H D I hw => hw.elim (h.run pins s σ H D I) (h'.run pins s σ H D I)⟩
theorem sw_setI {i : Nat} {x : Str} {p1 p2 : Pos} (g : Good W N sc k E X) (hi : N[i]? = some x) (hv : visB sc x = true) (hd : (x == ("__debug__" : Str)) = false) (hcd : (x == ("__classdict__" : Str)) = false) (hn : noSlice b = true) (hc : noComp a = true) (hnt : noTuple a = true) (hb : PEW W E X b wb) (ha : PEW W E X a wa) :
    PSW W E X (.Assign [.Subscript (.Name x p1) b p2] a pos) (wSet i wb wa) := by
  obtain ⟨ta, pa, ea⟩ := ha
  obtain ⟨tb, pb, eb⟩ := hb
  have pv : PE X (.Name x p1) (tVar i) := pe_var (by rw [g.hN]; exact hi) (g.vis x hv) hd hcd
  have hsw : swappedStores [.Subscript (.Name x p1) b p2] a X.env = pure none := by cases a <;> first | rfl | cases hnt
  refine ⟨_, PS.or (ps_asg pa (pg_sub pv pb set_list (assign_sub hn)) (by rw [swapsWithSole]; exact swaps_no hc) hsw (by rw [assignEach_is rfl]; rfl)) (ps_dput (hu_of g.room) pv pb pa (swaps_no hc)), ?_⟩
  intro Hd H0 A H σ δ p D e hw l
  obtain ⟨d, hδ, hkind, hw⟩ := hw
  obtain ⟨z, q1, q2, q3⟩ := e.sl i _ hδ
  rcases hkind with ⟨xs, rfl⟩ | ⟨kds, rfl⟩
  · refine .inl (ea Hd H0 A H σ δ _ _ _ e hw (fun v H1 rv k1 s1 r1 h1 => ?_) (l.x e))
    have e1 := e.keep k1 s1
    refine ⟨.ref z, slot_get q2, eb Hd H0 A H1 σ δ _ _ _ e1 h1 (fun u H2 rk k2 s2 r2 h2 => ?_) (l.x e1)⟩
    have e2 := e1.keep k2 s2
    obtain ⟨hf, h2⟩ := h2
    rcases h2 with ⟨ys, n, j, hy, hn, hj, hk⟩ | ⟨_, _, hy, _⟩
    · cases hy
      obtain ⟨us, w1, w2⟩ := ow_lst e2 q1 hδ
      have e3 := e2.updO q1 hδ (show Top W (fz (Rsv W Hd A) H2) (upd H2 z (.lst (us.set j v))) (.lst (xs.set j rv.d)) z from ⟨_, upd_same, w2.set j ((r1.opn.keep e1 k2).frz hf)⟩)
      exact ⟨z, us, n, j, rfl, r2.int hn, w1, by rw [w2.length]; exact hj, l.nx A _ σ _ e3 hk⟩
    · cases hy
  · refine .inr (ea Hd H0 A H σ δ _ _ _ e hw (fun v H1 rv k1 s1 r1 h1 => ?_) (l.x e))
    have e1 := e.keep k1 s1
    refine ⟨.ref z, slot_get q2, eb Hd H0 A H1 σ δ _ _ _ e1 h1 (fun u H2 rk k2 s2 r2 h2 => ?_) (l.x e1)⟩
    have e2 := e1.keep k2 s2
    obtain ⟨hf, h2⟩ := h2
    rcases h2 with ⟨_, _, _, hy, _⟩ | ⟨kds', kk, hy, hkk, hl, hk⟩
    · cases hy
    · cases hy
      obtain ⟨z', w0, _, us, w1, w2⟩ := e2.sl i _ hδ
      rw [q1] at w0; cases w0
      have e3 := e2.updO q1 hδ (show Top W (fz (Rsv W Hd A) H2) (upd H2 z (.dK (putK us kk v))) (.dic (putD kds kk rv.d)) z from ⟨_, upd_same, w2.put ((r1.opn.keep e1 k2).frz hf)⟩)
      refine ⟨z, _, rfl, .inl ⟨us, kk, w1, keyD_of r2.rd hkk, by rw [w2.length]; exact big_lt (by omega), rfl⟩, l.nx A _ σ _ e3 hk⟩

/-! ### x op= e -/
def augF : Operator → Int → Int → Int
  | .Sub, i, j => i - j
  | .BitOr, i, j => Builtin.bitOr i j
  | _, i, j => i + j
def augB : Operator → Bool
  | .Add => true
  | .Sub => true
  | .BitOr => true
  | _ => false
def wAug (op : Operator) (i : Nat) (wa : WE) : WS := fun δ p => ∃ n, δ[i]? = some (.fz (.int n)) ∧ wa δ (fun r => ∃ m, r.d = .int m ∧ p.nx (δ.set i (.fz (.int (augF op n m))))) p.ex
theorem aug_all {op : Operator} (h : augB op = true) : ∃ t : TIp, PIp X op t ∧ ∀ i j H Q, Q (.int (augF op i j)) H → t (.int i) (.int j) H Q := by
  cases op <;> first | cases h | skip
  · exact ⟨_, ip_add, fun i j H Q q => ⟨i, j, rfl, rfl, q⟩⟩
  · exact ⟨_, ip_sub, fun i j H Q q => ⟨i, j, rfl, rfl, q⟩⟩
  · exact ⟨_, iop_or, fun i j H Q q => ⟨i, j, rfl, rfl, q⟩⟩
theorem sw_aug {op : Operator} {i : Nat} {x : Str} {p2 : Pos} (g : Good W N sc k E X) (ho : augB op = true) (hi : N[i]? = some x) (hx : locB sc x = true) (ha : PEW W E X a wa) : PSW W E X (.AugAssign (.Name x p2) op a pos) (wAug op i wa) := by
  obtain ⟨ta, pa, ea⟩ := ha
  obtain ⟨t, ht, hrun⟩ := aug_all (X := X) ho
  refine ⟨_, ps_aug (by rw [g.hN]; exact g.nd) (by rw [g.hN]; exact hi) (g.loc x hx).1 pa ht (g.loc x hx).2, ?_⟩
  intro Hd H0 A H σ δ p D e hw l
  obtain ⟨n, hδ, hw⟩ := hw
  obtain ⟨q1, v, q2, q3⟩ := e.sl i _ hδ
  rw [Rep] at q3
  subst q3
  refine ⟨_, slot_get q2, ea Hd H0 A H σ δ _ _ _ e hw (fun u H1 r k1 s1 r1 h1 => ?_) (l.x e)⟩
  obtain ⟨m, hm, hk⟩ := h1
  cases r1.int hm
  exact hrun n m H1 _ (l.nx _ H1 _ _ ((e.keep k1 s1).setF (by rw [Rep])) hk)
/-- xs += ys, a slot's own list -/
def wAugL (i : Nat) (wa : WE) : WS := fun δ p => ∃ xs, δ[i]? = some (.ow (.lst xs)) ∧ wa δ (fun r => ∃ ys, r.d = .lst ys ∧ xs.length + ys.length ≤ big ∧ p.nx (δ.set i (.ow (.lst (xs ++ ys))))) p.ex
theorem EnvOk.same {i : Nat} {v : V} {s : Sl} (e : EnvOk W Hd H0 A H σ (δ.set i s)) (h : σ[i]? = some (some v)) : EnvOk W Hd H0 A H (σ.set i (some v)) (δ.set i s) := by
  have : σ.set i (some v) = σ := by
    obtain ⟨h1, h2⟩ := List.getElem?_eq_some_iff.mp h
    rw [← h2, List.set_getElem_self]
  rw [this]; exact e
theorem sw_augL {i : Nat} {x : Str} {p2 : Pos} (g : Good W N sc k E X) (hi : N[i]? = some x) (hx : locB sc x = true) (ha : PEW W E X a wa) : PSW W E X (.AugAssign (.Name x p2) .Add a pos) (wAugL i wa) := by
  obtain ⟨ta, pa, ea⟩ := ha
  refine ⟨_, ps_aug (by rw [g.hN]; exact g.nd) (by rw [g.hN]; exact hi) (g.loc x hx).1 pa iop_ext (g.loc x hx).2, ?_⟩
  intro Hd H0 A H σ δ p D e hw l
  obtain ⟨xs, hδ, hw⟩ := hw
  obtain ⟨z, q1, q2, q3⟩ := e.sl i _ hδ
  refine ⟨_, slot_get q2, ea Hd H0 A H σ δ _ _ _ e hw (fun u H1 r k1 s1 r1 h1 => ?_) (l.x e)⟩
  obtain ⟨ys, hy, hb, hk⟩ := h1
  have e1 := e.keep k1 s1
  obtain ⟨b, us, b1, b2, b3⟩ := r1.lst hy
  obtain ⟨vs, w1, w2⟩ := ow_lst e1 q1 hδ
  have e3 := e1.updO q1 hδ (show Top W (fz (Rsv W Hd A) H1) (upd H1 z (.lst (vs ++ us))) (.lst (xs ++ ys)) z from ⟨_, upd_same, w2.append b3⟩)
  exact ⟨z, b, vs, us, rfl, b1, w1, b2, by rw [w2.length, b3.length]; exact big_le hb, l.nx _ _ _ _ (e3.same (slot_get q2)) hk⟩

/-! ### for -/
def frz1 (i : Nat) (δ : Env) : Env := match δ[i]? with
  | some (.ow x) => δ.set i (.fz x)
  | _ => δ
def frzL (δ : Env) : List Nat → Env
  | [] => δ
  | i :: Js => frz1 i (frzL δ Js)
theorem EnvOk.frz1 {i : Nat} {d : D} (e : EnvOk W Hd H0 A H σ δ) (h : δ[i]? = some (.ow d)) : EnvOk W Hd H0 (dropL A [i]) H σ (δ.set i (.fz d)) := by
  obtain ⟨z, q1, q2, q3⟩ := e.sl i _ h
  have hrep : Rep W (fz (Rsv W Hd (dropL A [i])) H) d (.ref z) := by
    refine q3.rep fz_drop.ex fun o q => fz_of (fun r => ?_) q
    obtain ⟨n1, n2, n3⟩ := e.new i z q1
    rcases r with r | r | ⟨j, r⟩
    · exact n2 r
    · exact n3 r
    · obtain ⟨hj, r⟩ := dropL_some r
      exact hj (by rw [e.inj i j z q1 r]; simp)
  refine ⟨e.b0, e.st, by simp [e.len], fun j s hs => ?_, fun j l y h1 h2 => e.inj j l y (dropL_some h1).2 (dropL_some h2).2, fun j y h1 => e.new j y (dropL_some h1).2, e.hid, fun j hj => ?_⟩
  · rw [List.getElem?_set] at hs
    by_cases hij : i = j
    · subst hij
      rw [if_pos rfl] at hs
      split at hs
      · cases hs
        exact ⟨by unfold dropL; rw [if_pos (by simp)], .ref z, q2, hrep⟩
      · cases hs
    · rw [if_neg hij] at hs
      exact (e.sl j s hs).drop (is := [i]) (by simp; exact fun z => hij z.symm)
  · unfold dropL
    split
    · rfl
    · exact e.out j (by simpa using hj)
theorem EnvOk.frzL : ∀ {Js : List Nat}, EnvOk W Hd H0 A H σ δ → EnvOk W Hd H0 (dropL A Js) H σ (G.frzL δ Js)
  | [], e => by rw [dropL_nil]; exact e
  | i :: Js, e => by
    have ih := EnvOk.frzL (Js := Js) e
    have e2 : dropL (dropL A Js) [i] = dropL A (i :: Js) := by
      funext j
      unfold dropL
      by_cases h2 : j = i
      · simp [h2]
      · simp [h2]
    show EnvOk W Hd H0 (dropL A (i :: Js)) H σ (G.frz1 i (G.frzL δ Js))
    rw [← e2]
    unfold G.frz1
    split
    · rename_i x hx
      exact ih.frz1 hx
    · rename_i hx
      have hn : dropL A Js i = none := by
        cases q : (G.frzL δ Js)[i]? with
        | none => exact ih.out i (List.getElem?_eq_none_iff.mp q)
        | some s =>
          have z := ih.sl i s q
          cases s with
          | un => exact z
          | fz d => exact z.1
          | ow d => exact (hx d q).elim
      have : dropL (dropL A Js) [i] = dropL A Js := by
        funext j
        by_cases h2 : j = i
        · subst h2; rw [hn]; unfold dropL; rw [if_pos (by simp)]
        · show (if j ∈ [i] then none else dropL A Js j) = _
          rw [if_neg (by simp [h2])]
      rw [this]
      exact ih
/-- the base is what stands now, but the slots' own -/
theorem EnvOk.rebase (e : EnvOk W Hd H0 A H σ δ) : EnvOk W Hd (fz (fun z => ∃ i, A i = some z) H) A H σ δ :=
  ⟨fun z o _ h => (fz_some h).2, e.st, e.len, e.sl, e.inj, fun i z h => ⟨fz_none ⟨i, h⟩, (e.new i z h).2⟩, e.hid, e.out⟩
theorem base_le {z : Addr} {o : HO} (e : EnvOk W Hd H0 A H σ δ) (n : ¬ inSa W z) (h : H0 z = some o) : fz (fun z => ∃ i, A i = some z) H z = some o :=
  fz_of (fun ⟨i, q⟩ => by rw [(e.new i z q).1] at h; cases h) (e.b0 z o n h)
theorem EnvOk.unbase {A' : Nat → Option Addr} {H' : Hp} {σ' : St} {δ' : Env} (e : EnvOk W Hd H0 A H σ δ) (e' : EnvOk W Hd (fz (fun z => ∃ i, A i = some z) H) A' H' σ' δ') : EnvOk W Hd H0 A' H' σ' δ' := by
  refine ⟨fun z o n h => e'.b0 z o n (base_le e n h), e'.st, e'.len, e'.sl, e'.inj, fun i z h => ⟨?_, (e'.new i z h).2⟩, e'.hid, e'.out⟩
  obtain ⟨n1, n2, n3⟩ := e'.new i z h
  cases q : H0 z with
  | none => rfl
  | some o => rw [base_le e n2 q] at n1; cases n1
/-- what stood still stands still -/
theorem EnvOk.frozen {A' : Nat → Option Addr} {H' : Hp} {σ' : St} {δ' : Env} (e' : EnvOk W Hd (fz (fun z => ∃ i, A i = some z) H) A' H' σ' δ') : Kp (fz (Rsv W Hd A) H) (fz (Rsv W Hd A') H') := fz_kp fun z o n q => by
  have hb : fz (fun z => ∃ i, A i = some z) H z = some o := fz_of (fun r => n (.inr (.inr r))) q
  refine ⟨fun r => ?_, e'.b0 z o (fun r => n (.inl r)) hb⟩
  rcases r with r | r | ⟨i, r⟩
  · exact n (.inl r)
  · exact n (.inr (.inl r))
  · rw [(e'.new i z r).1] at hb; cases hb
theorem LinkS.rebase {p : Pst} {D : Ends} (e : EnvOk W Hd H0 A H σ δ) (l : LinkS W Hd H0 p D E) : LinkS W Hd (fz (fun z => ∃ i, A i = some z) H) p D E := by
  refine ⟨fun A' H' σ' δ' e' h => l.nx A' H' σ' δ' (e.unbase e') h, fun A' H' σ' δ' e' h => l.bk A' H' σ' δ' (e.unbase e') h, fun A' H' σ' δ' e' h => l.ct A' H' σ' δ' (e.unbase e') h, fun v H' o d kx s r h => l.rt v H' o d (fun z u n q => kx z u n (base_le e n q)) s ?_ h, fun x cls d H' kx s r h => l.ex x cls d H' (fun z u n q => kx z u n (base_le e n q)) s r h⟩
  cases o with
  | false => exact r
  | true =>
    obtain ⟨z, h1, h2, h3, h4⟩ := r
    refine ⟨z, h1, ?_, h3, h4⟩
    cases q : H0 z with
    | none => rfl
    | some o => rw [base_le e h3 q] at h2; cases h2
def forGo (tg : Tg) (wb : WS) : List D → Env → Pst → Prop
  | [], δ, p => p.nx δ
  | d :: ds, δ, p => ∃ δ', asgT tg d δ = some δ' ∧ wb δ' { p with nx := fun δ'' => forGo tg wb ds δ'' p, ct := fun δ'' => forGo tg wb ds δ'' p, bk := p.nx }
def wFor (tg : Tg) (wi : WI) (wb : WS) : WS := fun δ p => wi δ (fun Js ds => forGo tg wb ds (frzL δ Js) p) p.ex
theorem ev_for {ti : TI} {g : TG} {tb : TS} {wi : WI} {tg : Tg} {wb : WS} (hi : EvI W E ti wi) (hg : EvG W g tg) (hb : EvS W E tb wb) : EvS W E (tFor ti g tb) (wFor tg wi wb) := by
  intro Hd H0 A H σ δ p D e hw l
  refine hi Hd H0 A H σ δ _ _ _ e hw (fun J H1 Js ds k1 s1 src hgo => ?_) (l.x e)
  obtain ⟨G, Y, wk, stable, items⟩ := src
  have e1 := (e.keep k1 s1).frzL (Js := Js)
  have l1 := l.rebase e1
  have eR := e1.rebase
  refine for_it wk (fun i σ' H' => ∃ A' δ', EnvOk W Hd (fz (fun z => ∃ i, dropL A Js i = some z) H1) A' H' σ' δ' ∧ forGo tg wb (ds.drop i) δ' p) ⟨_, _, eR, hgo⟩ (fun i σ' H' hi ⟨A', δ', e', _⟩ => ?_) (fun i v σ' H' H'' hlt ⟨A', δ', e', hf⟩ y => ?_) (fun σ' H' ⟨A', δ', e', hf⟩ => ?_)
  · refine stable H' fun z o hz => ?_
    obtain ⟨n, q⟩ := fz_some hz
    refine e'.b0 z o (fun r => n (.inl r)) (fz_of (fun ⟨j, r⟩ => ?_) q)
    obtain ⟨hj, r⟩ := dropL_some r
    exact n (.inr (.inr ⟨j, r, hj⟩))
  · have hd : ds[i]? = some ds[i] := List.getElem?_eq_getElem hlt
    rw [List.drop_eq_getElem_cons hlt] at hf
    obtain ⟨δ2, ha, hf⟩ := hf
    have sub : Kp (fz (Rsv W Hd A) H1) (fz (Rsv W Hd A') H') := fz_drop.trans e'.frozen
    have go : ∀ Hx, Kx W H' Hx → StOk W Hx → Rep W (fz (Rsv W Hd A') Hx) ds[i] v → g v σ' Hx fun σ2 H2 => tb { D with nx := fun σ' H' => ∃ A' δ', EnvOk W Hd (fz (fun z => ∃ i, dropL A Js i = some z) H1) A' H' σ' δ' ∧ forGo tg wb (ds.drop (i + 1)) δ' p, ct := fun σ' H' => ∃ A' δ', EnvOk W Hd (fz (fun z => ∃ i, dropL A Js i = some z) H1) A' H' σ' δ' ∧ forGo tg wb (ds.drop (i + 1)) δ' p, bk := D.nx } σ2 H2 := by
      intro Hx kx sx rx
      refine hg Hd _ A' Hx σ' δ' δ2 v ds[i] _ (e'.keep kx sx) rx ha fun σ2 _ e2 => ?_
      exact hb Hd _ _ Hx σ2 δ2 _ _ e2 hf ⟨fun A3 H3 σ3 δ3 e3 h3 => ⟨A3, δ3, e3, h3⟩, fun A3 H3 σ3 δ3 e3 h3 => l1.nx A3 H3 σ3 δ3 e3 h3, fun A3 H3 σ3 δ3 e3 h3 => ⟨A3, δ3, e3, h3⟩, l1.rt, l1.ex⟩
    rcases items i ds[i] H' v H'' hd y with ⟨rfl, hr⟩ | ⟨T, x1, x2, d1, d2, rfl, hT, rfl, hdd, h1, h2⟩
    · exact go H'' (Kx.refl _) e'.st (hr.mono sub.ex)
    · have kT := Ex.new (o := .tup [x1, x2]) hT
      refine go _ kT.kx (e'.st.kp kT) ?_
      rw [hdd]
      exact RepR.newT (σ := σ') (δ := δ') e' hT (.cons (h1.mono sub.ex) (.cons (h2.mono sub.ex) .nil))
  · rw [List.drop_eq_nil_of_le (Nat.le_refl _)] at hf
    exact l1.nx A' H' σ' δ' e' hf
theorem sw_for {t iter : Expr} {body : List Stmt} {tg : Tg} {wi : WI} {wb : WS} (g : Good W N sc k E X) (hns : noSet iter = true) (hi : PIW W E X t iter wi) (hg : PGW W X t tg) (hb : PBW W E X body wb) : PSW W E X (.For t iter body [] pos) (wFor tg wi wb) := by
  obtain ⟨ti, pi, ei⟩ := hi
  obtain ⟨gg, pg, eg⟩ := hg
  obtain ⟨tb, pb, eb⟩ := hb
  exact ⟨_, ps_for g.po g.calm pi pg pb (noSet_fold hns), ev_for ei eg eb⟩
/-! ### the draws' state is changed -/
def setStS : D → D → D → Prop → Prop
  | .st _, .int i, .int n, K => (i = 1 ∨ (i = 2 ∧ n < 2147483647)) ∧ 0 ≤ n ∧ K
  | .stc l, .int i, .int z, K => (1 ≤ l → l ≤ 63 → 0 ≤ i ∧ i < l) ∧ 0 ≤ z ∧ z.natAbs < 2 ^ 1048577 ∧ K
  | _, _, _, _ => False
def wSetSt (wb wk wv : WE) : WS := fun δ p => wv δ (fun rv => wb δ (fun rb => wk δ (fun rk => setStS rb.d rk.d rv.d (p.nx δ)) p.ex) p.ex) p.ex
theorem assign_subE {o : Expr} {p2 : Pos} {env : PySem.Env} (h : noSlice b = true) : ∀ v, assign (.Subscript o b p2) env v = (do
      let ov ← holding [v] (eval o env)
      let iv ← holding [v, ov] (eval b env)
      standAt p2
      holding [v, ov, iv] (setItem ov iv v)
      release [v, ov, iv] []) := by
  intro v
  cases b <;> first | rfl | cases h
theorem EnvOk.updSt {z : Addr} {o : HO} (e : EnvOk W Hd H0 A H σ δ) (hz : inSa W z) (s : StOk W (upd H z o)) : EnvOk W Hd H0 A (upd H z o) σ δ :=
  e.keep (fun y u n q => by rw [upd_ne (fun w => n (by rw [w]; exact hz))]; exact q) s
theorem inSa_a {a c : Addr} (h : W.sa = some (a, c)) : inSa W a := by unfold inSa; rw [h]; exact .inl rfl
theorem inSa_c {a c : Addr} (h : W.sa = some (a, c)) : inSa W c := by unfold inSa; rw [h]; exact .inr rfl
theorem StOk.mk' {a c : Addr} (h : W.sa = Option.some (a, c)) (s : StAt W.cn a c H) : StOk W H := by unfold StOk; rw [h]; exact s
theorem sw_setSt {o : Expr} {wo : WE} {p2 : Pos} (hn : noSlice b = true) (hc : noComp a = true) (hnt : noTuple a = true) (ho : PEW W E X o wo) (hb : PEW W E X b wb) (ha : PEW W E X a wa) :
    PSW W E X (.Assign [.Subscript o b p2] a pos) (wSetSt wo wb wa) := by
  obtain ⟨ta, pa, ea⟩ := ha
  obtain ⟨tb, pb, eb⟩ := hb
  obtain ⟨tc, pc, ec⟩ := ho
  have hsw : swappedStores [.Subscript o b p2] a X.env = pure none := by cases a <;> first | rfl | cases hnt
  refine ⟨_, ps_asg pa (pg_sub pc pb set_list (assign_subE hn)) (by rw [swapsWithSole]; exact swaps_no hc) hsw (by rw [assignEach_is rfl]; rfl), ?_⟩
  intro Hd H0 A H σ δ p D e hw l
  refine ea Hd H0 A H σ δ _ _ _ e hw (fun v H1 rv k1 s1 r1 h1 => ?_) (l.x e)
  have e1 := e.keep k1 s1
  refine ec Hd H0 A H1 σ δ _ _ _ e1 h1 (fun y H2 ro k2 s2 r2 h2 => ?_) (l.x e1)
  have e2 := e1.keep k2 s2
  refine eb Hd H0 A H2 σ δ _ _ _ e2 h2 (fun u H3 rk k3 s3 r3 h3 => ?_) (l.x e2)
  have e3 := e2.keep k3 s3
  have v1 := ((r1.opn.keep e1 k2).keep e2 k3).rd
  have v2 := (r2.opn.keep e2 k3).rd
  have v3 := r3.rd
  unfold setStS at h3
  split at h3
  · rename_i l' i n q1 q2 q3
    rw [q1, Rep] at v2
    rw [q2, Rep] at v3
    rw [q3, Rep] at v1
    obtain ⟨za, zc, rfl, hs, hcn⟩ := v2
    obtain ⟨hi, hn0, hk⟩ := h3
    obtain ⟨ne, n0, h0, cells, b1, b2, b3, b4, b5, b6, b7, b8, b9⟩ := s3.at hs
    have hbig : ∀ w : List V, upd H3 za (.lst w) zc = H3 zc := fun w => upd_ne (fun q => ne q.symm)
    rcases hi with rfl | ⟨rfl, hlt⟩
    · refine ⟨za, _, 1, 1, rfl, v3, b1, rfl, l.nx A _ σ δ (e3.updSt (inSa_a hs) (StOk.mk' hs ⟨ne, n, h0, cells, ?_, by rw [hbig]; exact b2, hn0, b4, b5, b6, b7, b8, b9⟩)) hk⟩
      rw [v1]; exact upd_same
    · refine ⟨za, _, 2, 2, rfl, v3, b1, rfl, l.nx A _ σ δ (e3.updSt (inSa_a hs) (StOk.mk' hs ⟨ne, n0, n, cells, ?_, by rw [hbig]; exact b2, b3, hn0, hlt, b6, b7, b8, b9⟩)) hk⟩
      rw [v1]; exact upd_same
  · rename_i l' i n q1 q2 q3
    rw [q1, Rep] at v2
    rw [q2, Rep] at v3
    rw [q3, Rep] at v1
    obtain ⟨za, zc, rfl, hs, hcn⟩ := v2
    obtain ⟨hi, hn0, hn1, hk⟩ := h3
    obtain ⟨ne, n0, h0, cells, b1, b2, b3, b4, b5, b6, b7, b8, b9⟩ := s3.at hs
    obtain ⟨i0, i1⟩ := hi (by omega) (by omega)
    have hix : ixN (cells.map V.int).length i = some i.toNat := by
      rw [List.length_map]
      unfold ixN
      rw [if_pos i0, if_pos (by omega)]
    refine ⟨zc, _, i, i.toNat, rfl, v3, b2, hix, l.nx A _ σ δ (e3.updSt (inSa_c hs) (StOk.mk' hs ⟨ne, n0, h0, cells.set i.toNat n, by rw [upd_ne ne]; exact b1, ?_, b3, b4, b5, by rw [List.length_set]; exact b6, b7, b8, fun z hz => ?_⟩)) hk⟩
    · rw [v1, List.map_set]; exact upd_same
    · rcases List.mem_or_eq_of_mem_set hz with hz | rfl
      · exact b9 z hz
      · exact ⟨hn0, hn1⟩
  · exact h3.elim
/-- code that is not come to -/
def wNever : WS := fun _ _ => False
theorem sw_never {st : Stmt} : PSW W E X st wNever := ⟨_, ps_never, fun _ _ _ _ _ _ _ _ _ h _ => h.elim⟩
end
end G
set_option maxRecDepth 100000
set_option maxHeartbeats 4000000
namespace G
open PySem PySem.Spec PyProof.Rows L2
section
variable {W : Wd} {Hd : Addr → Prop} {H0 H : Hp} {A : Nat → Option Addr} {σ : St} {δ : Env} {X : Cx} {E : XK} {N : List Str} {sc : Scope} {k : Nat}
variable {a b c : Expr} {wa wb wc : WE} {pos p : Pos}
/-! ### a dict is locked while it is walked -/
theorem Ex.lock {S : Addr → Prop} {z : Addr} {od : Obj} {u : HO} (hz : H z = some u) (hh : hard u = false) (hp : pl u = true) : Ex (fz S H) (fz S (upd H z (.frz od u))) := by
  intro y
  by_cases hs : S y
  · refine ⟨fun v _ h => ?_, fun o _ h => ?_⟩
    · rcases h with h | ⟨o, h⟩ <;> rw [fz_none hs] at h <;> cases h
    · rw [fz_none hs] at h; cases h
  by_cases hy : y = z
  · subst hy
    refine ⟨fun v hv h => ?_, fun o ho h => ?_⟩
    · rcases h with h | ⟨o, h⟩
      · have := (fz_some h).2
        rw [hz] at this; cases this
        exact .inr ⟨od, fz_of hs upd_same⟩
      · have := (fz_some h).2
        rw [hz] at this; cases this
        cases hp
    · have := (fz_some h).2
      rw [hz] at this; cases this
      rw [hh] at ho; cases ho
  · refine ⟨fun v _ h => ?_, fun o _ h => ?_⟩
    · rcases h with h | ⟨o, h⟩
      · exact .inl (fz_of hs (by rw [upd_ne hy]; exact (fz_some h).2))
      · exact .inr ⟨o, fz_of hs (by rw [upd_ne hy]; exact (fz_some h).2)⟩
    · exact fz_of hs (by rw [upd_ne hy]; exact (fz_some h).2)
theorem Ex.unlock {S : Addr → Prop} {z : Addr} {od : Obj} {u : HO} (hz : H z = some (.frz od u)) : Ex (fz S H) (fz S (upd H z u)) := by
  intro y
  by_cases hs : S y
  · refine ⟨fun v _ h => ?_, fun o _ h => ?_⟩
    · rcases h with h | ⟨o, h⟩ <;> rw [fz_none hs] at h <;> cases h
    · rw [fz_none hs] at h; cases h
  by_cases hy : y = z
  · subst hy
    refine ⟨fun v hv h => ?_, fun o ho h => ?_⟩
    · rcases h with h | ⟨o, h⟩
      · have := (fz_some h).2
        rw [hz] at this; cases this
        cases hv
      · have := (fz_some h).2
        rw [hz] at this; cases this
        exact .inl (fz_of hs upd_same)
    · have := (fz_some h).2
      rw [hz] at this; cases this
      cases ho
  · refine ⟨fun v _ h => ?_, fun o _ h => ?_⟩
    · rcases h with h | ⟨o, h⟩
      · exact .inl (fz_of hs (by rw [upd_ne hy]; exact (fz_some h).2))
      · exact .inr ⟨o, fz_of hs (by rw [upd_ne hy]; exact (fz_some h).2)⟩
    · exact fz_of hs (by rw [upd_ne hy]; exact (fz_some h).2)
noncomputable def lkB (A : Nat → Option Addr) (H : Hp) (z : Addr) (od : Obj) (u : HO) : Hp := upd (fz (fun y => ∃ i, A i = some y) H) z (.frz od u)
theorem EnvOk.lock {z : Addr} {od : Obj} {u : HO} (e : EnvOk W Hd H0 A H σ δ) (hz : H z = some u) (hh : hard u = false) (hp : pl u = true) (nz : ¬ Rsv W Hd A z) : EnvOk W Hd (lkB A H z od u) A (upd H z (.frz od u)) σ δ := by
  have ex := Ex.lock (S := Rsv W Hd A) (od := od) hz hh hp
  refine ⟨fun y o n h => ?_, e.st.upd fun q => nz (.inl q), e.len, fun i s hs => ?_, e.inj, fun i y h => ⟨?_, (e.new i y h).2⟩, fun y hy => ?_, e.out⟩
  · by_cases hy : y = z
    · subst hy
      unfold lkB at h
      rw [upd_same] at h ⊢
      exact h
    · unfold lkB at h
      rw [upd_ne hy] at h ⊢
      exact (fz_some h).2
  · have q := e.sl i s hs
    cases s with
    | un => exact q
    | fz d => obtain ⟨h1, x, h2, h3⟩ := q; exact ⟨h1, x, h2, h3.mono ex⟩
    | ow d =>
      obtain ⟨y, h1, h2, h3⟩ := q
      refine ⟨y, h1, h2, h3.mono ex fun o q => ?_⟩
      rw [upd_ne fun w => nz (.inr (.inr ⟨i, by rw [← w]; exact h1⟩))]
      exact q
  · unfold lkB
    rw [upd_ne fun w => nz (.inr (.inr ⟨i, by rw [← w]; exact h⟩))]
    exact fz_none ⟨i, h⟩
  · by_cases hyz : y = z
    · exact ⟨_, by rw [hyz]; exact upd_same⟩
    · rw [upd_ne hyz]; exact e.hid y hy
theorem lk_base {z y : Addr} {od : Obj} {u o : HO} (e : EnvOk W Hd H0 A H σ δ) (n : ¬ inSa W y) (h : H0 y = some o) (hy : y ≠ z) : lkB A H z od u y = some o := by
  unfold lkB
  rw [upd_ne hy]
  exact base_le e n h
theorem EnvOk.unlock {A' : Nat → Option Addr} {H' : Hp} {σ' : St} {δ' : Env} {z : Addr} {od : Obj} {u : HO} (e : EnvOk W Hd H0 A H σ δ) (hz : H z = some u) (nz : ¬ Rsv W Hd A z) (e' : EnvOk W Hd (lkB A H z od u) A' H' σ' δ') : H' z = some (.frz od u) ∧ EnvOk W Hd H0 A' (upd H' z u) σ' δ' := by
  have hb : lkB A H z od u z = some (.frz od u) := upd_same
  have hz' : H' z = some (.frz od u) := e'.b0 z _ (fun q => nz (.inl q)) hb
  have nA : ∀ i, A' i ≠ some z := fun i h => by rw [(e'.new i z h).1] at hb; cases hb
  have ex := Ex.unlock (S := Rsv W Hd A') hz'
  refine ⟨hz', fun y o n h => ?_, e'.st.upd fun q => nz (.inl q), e'.len, fun i s hs => ?_, e'.inj, fun i y h => ⟨?_, (e'.new i y h).2⟩, fun y hy => ?_, e'.out⟩
  · by_cases hy : y = z
    · subst hy
      have := e.b0 y o n h
      rw [hz] at this; cases this
      exact upd_same
    · rw [upd_ne hy]
      exact e'.b0 y o n (lk_base e n h hy)
  · have q := e'.sl i s hs
    cases s with
    | un => exact q
    | fz d => obtain ⟨h1, x, h2, h3⟩ := q; exact ⟨h1, x, h2, h3.mono ex⟩
    | ow d =>
      obtain ⟨y, h1, h2, h3⟩ := q
      refine ⟨y, h1, h2, h3.mono ex fun o q => ?_⟩
      rw [upd_ne fun w => nA i (by rw [← w]; exact h1)]
      exact q
  · obtain ⟨n1, n2, n3⟩ := e'.new i y h
    cases q : H0 y with
    | none => rfl
    | some o => rw [lk_base e n2 q (fun w => nA i (by rw [← w]; exact h))] at n1; cases n1
  · by_cases hyz : y = z
    · exact ⟨_, by rw [hyz]; exact upd_same⟩
    · rw [upd_ne hyz]; exact e'.hid y hy
theorem LinkS.lock {q : Pst} {D : Ends} {z : Addr} {od : Obj} {u : HO} (e : EnvOk W Hd H0 A H σ δ) (hz : H z = some u) (nz : ¬ Rsv W Hd A z) (l : LinkS W Hd H0 q D E) :
    LinkS W Hd (lkB A H z od u) { q with ex := fun _ => False } ⟨fun σ' H' => H' z = some (.frz od u) ∧ D.nx σ' (upd H' z u), fun v H' => H' z = some (.frz od u) ∧ D.rt v (upd H' z u), fun σ' H' => H' z = some (.frz od u) ∧ D.bk σ' (upd H' z u), fun σ' H' => H' z = some (.frz od u) ∧ D.ct σ' (upd H' z u)⟩ E := by
  refine ⟨fun A' H' σ' δ' e' h => ?_, fun A' H' σ' δ' e' h => ?_, fun A' H' σ' δ' e' h => ?_, fun v H' o d kx s r h => ?_, XOk.none⟩
  · obtain ⟨h1, h2⟩ := e.unlock hz nz e'
    exact ⟨h1, l.nx A' _ σ' δ' h2 h⟩
  · obtain ⟨h1, h2⟩ := e.unlock hz nz e'
    exact ⟨h1, l.bk A' _ σ' δ' h2 h⟩
  · obtain ⟨h1, h2⟩ := e.unlock hz nz e'
    exact ⟨h1, l.ct A' _ σ' δ' h2 h⟩
  · have hb : lkB A H z od u z = some (.frz od u) := upd_same
    have hz' : H' z = some (.frz od u) := kx z _ (fun w => nz (.inl w)) hb
    refine ⟨hz', l.rt v _ o d (fun y w n hw => ?_) (s.upd fun w => nz (.inl w)) ?_ h⟩
    · by_cases hy : y = z
      · subst hy
        have := e.b0 y w n hw
        rw [hz] at this; cases this
        exact upd_same
      · rw [upd_ne hy]
        exact kx y w n (lk_base e n hw hy)
    · cases o with
      | false => exact Rep.mono (Ex.unlock hz') d r
      | true =>
        obtain ⟨y, h1, h2, h3, h4, h5⟩ := r
        have hy : y ≠ z := fun w => by rw [w, hb] at h2; cases h2
        refine ⟨y, h1, ?_, h3, h4, h5.mono (Ex.unlock hz') fun o w => by rw [upd_ne hy]; exact w⟩
        cases q : H0 y with
        | none => rfl
        | some o => rw [lk_base e h3 q hy] at h2; cases h2
def keyV : Key → D
  | .inl i => .int i
  | .inr s => .str s
def keyOk : Key → Bool
  | .inl _ => true
  | .inr s => PyData.strOk s
theorem keyV_rep {F : Hp} {kk : Key} (h : keyOk kk = true) : Rep W F (keyV kk) (kV kk) := by
  cases kk with
  | inl i => show Rep W F (.int i) (.int i); rw [Rep]
  | inr s => show Rep W F (.str s) (.str s); rw [Rep]; exact ⟨rfl, h⟩
theorem RepK.at {F : Hp} {kds : List (Key × D)} : ∀ {kvs : List (Key × V)} {i : Nat} {kk : Key} {d : D}, RepK W F kds kvs → kds[i]? = some (kk, d) → ∃ v, kvs[i]? = some (kk, v) ∧ Rep W F d v := by
  induction kds with
  | nil => intro _ _ _ _ _ e; simp at e
  | cons q r ih =>
    intro kvs i kk d h e
    obtain ⟨k', d'⟩ := q
    rw [RepK] at h
    obtain ⟨v, r', rfl, h1, h2⟩ := h
    cases i with
    | zero =>
      simp at e
      obtain ⟨rfl, rfl⟩ := e
      exact ⟨v, rfl, h1⟩
    | succ i =>
      have e' : r[i]? = some (kk, d) := by simpa using e
      obtain ⟨w, a1, a2⟩ := ih h2 e'
      exact ⟨w, by simpa using a1, a2⟩
theorem src_keys {FG F : Hp} {z : Addr} {o : Obj} {kds : List (Key × D)} {kvs : List (Key × V)} (hz : FG z = some (.frz o (.dK kvs))) (h : RepK W F kds kvs) (hk : (kds.all fun kv => keyOk kv.1) = true) : Src W FG F (Itk z o kvs) (kds.map fun kv => keyV kv.1) := by
  refine ⟨fun H => H z = some (.frz o (.dK kvs)), fun i H x H' => H' = H ∧ ∃ k v, kvs[i]? = some (k, v) ∧ x = kV k, by rw [List.length_map, ← h.length]; exact walk_keys, fun H' kp => kp z _ hz, fun i d Hc x Hc' hd y => .inl ⟨y.1, ?_⟩⟩
  obtain ⟨kk, v, h1, h2⟩ := y.2
  rw [List.getElem?_map] at hd
  cases q : kds[i]? with
  | none => rw [q] at hd; cases hd
  | some kd =>
    rw [q] at hd
    cases hd
    obtain ⟨v', h3, _⟩ := h.at q
    rw [h1] at h3
    cases h3
    rw [h2]
    exact keyV_rep (List.all_eq_true.mp hk kd (List.mem_of_getElem? q))
/-- the loop itself, once what is walked is known -/
theorem for_src {g : TG} {tb : TS} {tg : Tg} {wb : WS} {q : Pst} {De : Ends} {J : It} {Js : List Nat} {ds : List D} (hg : EvG W g tg) (hb : EvS W E tb wb) (e : EnvOk W Hd H0 A H σ δ) (src : Src W (fz (fun z => inSa W z ∨ HdC Hd A Js z) H) (fz (Rsv W Hd A) H) J ds)
    (hgo : forGo tg wb ds (frzL δ Js) q) (l : LinkS W Hd H0 q De E) : tFor (fun _ H R => R J H) g tb De σ H := by
  obtain ⟨G, Y, wk, stable, items⟩ := src
  have e1 := e.frzL (Js := Js)
  have l1 := l.rebase e1
  have eR := e1.rebase
  show ∃ W : Nat → Nat → St → Hp → Prop, _
  refine for_it wk (fun i σ' H' => ∃ A' δ', EnvOk W Hd (fz (fun z => ∃ i, dropL A Js i = some z) H) A' H' σ' δ' ∧ forGo tg wb (ds.drop i) δ' q) ⟨_, _, eR, hgo⟩ (fun i σ' H' hi ⟨A', δ', e', _⟩ => ?_) (fun i v σ' H' H'' hlt ⟨A', δ', e', hf⟩ y => ?_) (fun σ' H' ⟨A', δ', e', hf⟩ => ?_)
  · refine stable H' fun z o hz => ?_
    obtain ⟨n, q⟩ := fz_some hz
    refine e'.b0 z o (fun r => n (.inl r)) (fz_of (fun ⟨j, r⟩ => ?_) q)
    obtain ⟨hj, r⟩ := dropL_some r
    exact n (.inr (.inr ⟨j, r, hj⟩))
  · have hd : ds[i]? = some ds[i] := List.getElem?_eq_getElem hlt
    rw [List.drop_eq_getElem_cons hlt] at hf
    obtain ⟨δ2, ha, hf⟩ := hf
    have sub : Kp (fz (Rsv W Hd A) H) (fz (Rsv W Hd A') H') := fz_drop.trans e'.frozen
    have go : ∀ Hx, Kx W H' Hx → StOk W Hx → Rep W (fz (Rsv W Hd A') Hx) ds[i] v → g v σ' Hx fun σ2 H2 => tb { De with nx := fun σ' H' => ∃ A' δ', EnvOk W Hd (fz (fun z => ∃ i, dropL A Js i = some z) H) A' H' σ' δ' ∧ forGo tg wb (ds.drop (i + 1)) δ' q, ct := fun σ' H' => ∃ A' δ', EnvOk W Hd (fz (fun z => ∃ i, dropL A Js i = some z) H) A' H' σ' δ' ∧ forGo tg wb (ds.drop (i + 1)) δ' q, bk := De.nx } σ2 H2 := by
      intro Hx kx sx rx
      refine hg Hd _ A' Hx σ' δ' δ2 v ds[i] _ (e'.keep kx sx) rx ha fun σ2 _ e2 => ?_
      exact hb Hd _ _ Hx σ2 δ2 _ _ e2 hf ⟨fun A3 H3 σ3 δ3 e3 h3 => ⟨A3, δ3, e3, h3⟩, fun A3 H3 σ3 δ3 e3 h3 => l1.nx A3 H3 σ3 δ3 e3 h3, fun A3 H3 σ3 δ3 e3 h3 => ⟨A3, δ3, e3, h3⟩, l1.rt, l1.ex⟩
    rcases items i ds[i] H' v H'' hd y with ⟨rfl, hr⟩ | ⟨T, x1, x2, d1, d2, rfl, hT, rfl, hdd, h1, h2⟩
    · exact go H'' (Kx.refl _) e'.st (hr.mono sub.ex)
    · have kT := Ex.new (o := .tup [x1, x2]) hT
      refine go _ kT.kx (e'.st.kp kT) ?_
      rw [hdd]
      exact RepR.newT (σ := σ') (δ := δ') e' hT (.cons (h1.mono sub.ex) (.cons (h2.mono sub.ex) .nil))
  · rw [List.drop_eq_nil_of_le (Nat.le_refl _)] at hf
    exact l1.nx A' H' σ' δ' e' hf
/-- for x in d, d the dict in slot i, which stands still -/
def wForK (tg : Tg) (i : Nat) (wb : WS) : WS := fun δ p => ∃ kds, δ[i]? = some (.fz (.dic kds)) ∧ (kds.all fun kv => keyOk kv.1) = true ∧ forGo tg wb (kds.map fun kv => keyV kv.1) δ { p with ex := fun _ => False }
theorem LinkS.noex {q : Pst} {De : Ends} (l : LinkS W Hd H0 q De E) : LinkS W Hd H0 { q with ex := fun _ => False } De E := ⟨l.nx, l.bk, l.ct, l.rt, XOk.none⟩
theorem fz_HdC {J : List Nat} {z : Addr} {o : HO} (n : ¬ Rsv W Hd A z) (h : H z = some o) : fz (fun z => inSa W z ∨ HdC Hd A J z) H z = some o := fz_of (fun r => n (sub_HdC r)) h
theorem ev_forK {g : TG} {tb : TS} {tg : Tg} {wb : WS} {i : Nat} (hg : EvG W g tg) (hb : EvS W E tb wb) : EvS W E (fun De σ H => tFor (iKeys (tVar i)) g tb De σ H ∨ tLock (tFor (iKeys (tVar i)) g tb) De σ H) (wForK tg i wb) := by
  intro Hd H0 A H σ δ q De e hw l
  obtain ⟨kds, hδ, hok, hgo⟩ := hw
  obtain ⟨q1, v, q2, q3⟩ := e.sl i _ hδ
  rw [Rep] at q3
  obtain ⟨z, kvs, rfl, h1, h2⟩ := q3
  rcases h1 with h1 | ⟨o, h1⟩
  · obtain ⟨nz, hz⟩ := fz_some h1
    refine .inr ⟨z, .dK kvs, hz, trivial, fun od => ?_⟩
    have eL := e.lock (od := od) hz rfl rfl nz
    have lL := l.lock (od := od) e hz nz
    have hzL : upd H z (.frz od (.dK kvs)) z = some (.frz od (.dK kvs)) := upd_same
    refine ⟨.ref z, slot_get q2, z, od, rfl, .inl ⟨kvs, hzL, ?_⟩⟩
    exact for_src (Js := []) hg hb eL (src_keys (fz_HdC nz hzL) (h2.mono (Ex.lock hz rfl rfl)) hok) hgo lL
  · obtain ⟨nz, hz⟩ := fz_some h1
    refine .inl ⟨.ref z, slot_get q2, z, o, rfl, .inl ⟨kvs, hz, ?_⟩⟩
    exact for_src (Js := []) hg hb e (src_keys (fz_HdC nz hz) h2 hok) hgo l.noex
theorem sw_forK {t : Expr} {x : Str} {p1 : Pos} {i : Nat} {body : List Stmt} {tg : Tg} {wb : WS} (g : Good W N sc k E X) (hi : N[i]? = some x) (hv : visB sc x = true) (hd : (x == ("__debug__" : Str)) = false) (hcd : (x == ("__classdict__" : Str)) = false) (hg : PGW W X t tg) (hb : PBW W E X body wb) : PSW W E X (.For t (.Name x p1) body [] pos) (wForK tg i wb) := by
  obtain ⟨gg, pg, eg⟩ := hg
  obtain ⟨tb, pb, eb⟩ := hb
  have pv : PE X (.Name x p1) (tVar i) := pe_var (by rw [g.hN]; exact hi) (g.vis x hv) hd hcd
  have pf := ps_for (pos := pos) g.po g.calm (pi_keys (tg := t) pv) pg pb (noSet_fold rfl)
  exact ⟨_, PS.or pf (ps_lock pf), ev_forK eg eb⟩
end
end G
set_option maxRecDepth 100000
set_option maxHeartbeats 4000000
namespace G
open PySem PySem.Spec PyProof.Rows L2
/-! ### dicts made of pairs -/
def mergeD (kds more : List (Key × D)) : List (Key × D) := more.foldl (fun acc kv => putD acc kv.1 kv.2) kds
def prD : D → Key × D
  | .tup [a, b] => ((keyD a).getD (.inl 0), b)
  | d => (.inl 0, d)
def isPr : D → Bool
  | .tup [a, _] => (keyD a).isSome
  | _ => false
theorem putD_len (kds : List (Key × D)) (kk : Key) (v : D) : (putD kds kk v).length ≤ kds.length + 1 := by
  unfold putD
  split
  · rw [List.length_map]; omega
  · rw [List.length_append]; exact Nat.le_refl _
theorem mergeD_len : ∀ (more kds : List (Key × D)), (mergeD kds more).length ≤ kds.length + more.length
  | [], kds => Nat.le_refl _
  | kv :: more, kds => by
    have h1 := mergeD_len more (putD kds kv.1 kv.2)
    have h2 := putD_len kds kv.1 kv.2
    unfold mergeD at h1 ⊢
    rw [List.foldl_cons, List.length_cons]
    omega
theorem mergeD_app (kds more : List (Key × D)) (kv : Key × D) : mergeD kds (more ++ [kv]) = putD (mergeD kds more) kv.1 kv.2 := by
  unfold mergeD
  rw [List.foldl_append]; rfl
section
variable {W : Wd} {N : List Str} {sc : Scope} {k : Nat} {E : XK} {X : Cx} {Hd : Addr → Prop} {H0 H : Hp} {A : Nat → Option Addr} {σ : St} {δ : Env} {a o : Expr} {pos p apos : Pos} {wa wo : WE}
theorem RepK.merge {F : Hp} : ∀ {more : List (Key × D)} {more' : List (Key × V)} {kds : List (Key × D)} {kvs : List (Key × V)}, RepK W F more more' → RepK W F kds kvs → RepK W F (mergeD kds more) (mergeK kvs more')
  | [], _, _, _, h, h' => by rw [RepK] at h; subst h; exact h'
  | (kk, d) :: more, _, _, _, h, h' => by
    rw [RepK] at h
    obtain ⟨v, r, rfl, h1, h2⟩ := h
    show RepK W F (mergeD (putD _ kk d) more) (mergeK (putK _ kk v) r)
    exact RepK.merge h2 (RepK.put h1 h')
/-! dict comprehensions -/
theorem dc_it {J : It} {n : Nat} {G : Hp → Prop} {Y : Nat → Hp → V → Hp → Prop} (w : Walk J n G Y) {g : TG} {tt : TT} {tk tv : TE} {vs : List Nat} {σ : St} {H1 : Hp} {D : Addr} {Qd : Hp → Prop} (Pv : Nat → Hp → Prop) (h0 : Pv 0 (upd H1 D (.dK []))) (hG : ∀ i H, i ≤ n → Pv i H → G H)
    (hs : ∀ i x H H', i < n → Pv i H → Y i H x H' → g x (wipe σ vs) H' fun σ2 H2 => wipe σ2 vs = wipe σ vs ∧ tt σ2 H2 fun b H3 =>
      if b = true then tk σ2 H3 fun y H4 => tv σ2 H4 fun z H5 => ∃ kvs k, y = kV k ∧ H5 D = some (.dK kvs) ∧ kvs.length < sizeLine ∧ Pv (i + 1) (upd H5 D (.dK (putK kvs k z))) else Pv (i + 1) H3) (hd : ∀ H, Pv n H → Qd H) :
    ∃ W : Nat → Nat → Hp → Prop, (∃ m, W 0 m (upd H1 D (.dK []))) ∧ ∀ i m H, W i m H →
      (J.stop i H ∧ Qd H) ∨ (J.go i H ∧ ∃ Nx : Hp → Prop, (∀ H', Nx H' → ∃ m', m' < m ∧ W (i + 1) m' H') ∧ ∀ x H', J.yld i H x H' → g x (wipe σ vs) H' fun σ2 H2 => wipe σ2 vs = wipe σ vs ∧ tt σ2 H2 fun b H3 =>
        if b = true then tk σ2 H3 fun y H4 => tv σ2 H4 fun z H5 => ∃ kvs k, y = kV k ∧ H5 D = some (.dK kvs) ∧ kvs.length < sizeLine ∧ Nx (upd H5 D (.dK (putK kvs k z))) else Nx H3) := by
  refine ⟨fun i m H => i ≤ n ∧ Pv i H ∧ n = m + i, ⟨n, Nat.zero_le _, h0, rfl⟩, ?_⟩
  rintro i m H ⟨hi, p, hm⟩
  by_cases lt : i < n
  · exact .inr ⟨w.goes i H lt (hG i H hi p), Pv (i + 1), fun H' p' => ⟨m - 1, by omega, lt, p', by omega⟩, fun x H' y => hs i x H H' lt p (w.yields i H x H' lt (hG i H hi p) y)⟩
  · have e : i = n := by omega
    subst e
    exact .inl ⟨w.stops H (hG i H hi p), hd H p⟩
def dcStep (tg : Tg) (wt : WT) (wk we : WE) (δ : Env) (d : D) (k : Option D → Prop) : Prop := ∃ δ', asgT tg d δ = some δ' ∧ wt δ' (fun b => if b = true then wk δ' (fun rk => we δ' (fun r => (keyD rk.d).isSome = true ∧ r.fr = true ∧ k (some (.tup [rk.d, r.d]))) (fun _ => False)) (fun _ => False) else k none) (fun _ => False)
def wDc (vs : List Nat) (tg : Tg) (wi : WI) (wt : WT) (wk we : WE) : WE := fun δ K X => noOw δ vs = true ∧ wi δ (fun _ ds => ds.length ≤ big ∧ lcGo (dcStep tg wt wk we (wipeD δ vs)) ds [] fun acc => K (.own (.dic (mergeD [] (acc.map prD))))) X
def DcP (W : Wd) (Hd : Addr → Prop) (H0 : Hp) (A : Nat → Option Addr) (Dl : Addr) (σw : St) (δw : Env) (H1 : Hp) (step : D → (Option D → Prop) → Prop) (ds : List D) (Kd : List D → Prop) (i : Nat) (H' : Hp) : Prop :=
  ∃ acc us, Kx W H1 H' ∧ EnvOk W (fun y => Hd y ∨ y = Dl) H0 A H' σw δw ∧ H' Dl = some (.dK us) ∧ RepK W (fz (Rsv W (fun y => Hd y ∨ y = Dl) A) H') (mergeD [] (acc.map prD)) us ∧ acc.length ≤ i ∧ lcGo step (ds.drop i) acc Kd
theorem dc_at {ti : TI} {g : TG} {tt : TT} {tk te : TE} {tg : Tg} {wt : WT} {wk we : WE} {vs : List Nat} {K : R → Prop} {Q : VK} (hsub : ∀ i ∈ tg.slots, i ∈ vs) (hg : EvG W g tg) (ht : EvT W EN tt wt) (hkk : EvE W EN tk wk) (he : EvE W EN te we) (e : EnvOk W Hd H0 A H σ δ) (no : noOw δ vs = true) (q : QOk W Hd A H δ K Q)
    (hi : ∀ Rr : It → Hp → Prop, (∀ J H1 Js ds, Kx W H H1 → StOk W H1 → Src W (fz (fun z => inSa W z ∨ HdC Hd A Js z) H1) (fz (Rsv W Hd A) H1) J ds → (ds.length ≤ big ∧ lcGo (dcStep tg wt wk we (wipeD δ vs)) ds [] fun acc => K (.own (.dic (mergeD [] (acc.map prD))))) → Rr J H1) → ti σ H Rr) : tDc ti g tt tk te vs σ H Q := by
  have hA := noOw_A e no
  refine hi _ (fun J H1 Js ds k1 s1 src hgo => ?_)
  obtain ⟨hl, hgo⟩ := hgo
  obtain ⟨G, Y, wlk, stable, items⟩ := src
  intro Dl hD
  have e1 := e.keep k1 s1
  have ew := (e1.wipe hA).hide hD (.dK [])
  have nD : ¬ Rsv W Hd A Dl := fun r => by obtain ⟨o, q⟩ := e1.rsvSome r; rw [hD] at q; cases q
  have nS : ¬ inSa W Dl := fun r => nD (.inl r)
  have h0D : H0 Dl = none := e1.b0.fresh e1.st hD
  have hdrop : dropL A tg.slots = A := by
    funext j
    unfold dropL
    split
    · rename_i hj; exact (hA j (hsub j hj)).symm
    · rfl
  refine dc_it wlk (DcP W Hd H0 A Dl (L2.wipe σ vs) (wipeD δ vs) H1 (dcStep tg wt wk we (wipeD δ vs)) ds fun acc => K (.own (.dic (mergeD [] (acc.map prD))))) ?_ (fun i H' hi ⟨acc, us, p1, _⟩ => ?_) (fun i v H' H'' hlt ⟨acc, us, p1, p2, p3, p4, p5, p6⟩ y => ?_) (fun H' ⟨acc, us, p1, p2, p3, p4, p5, p6⟩ => ?_)
  · exact ⟨[], [], (Ex.new hD).kx, ew, upd_same, by show RepK W _ [] []; rw [RepK], Nat.zero_le _, hgo⟩
  · exact stable H' fun z o hz => p1 z o (fun r => (fz_some hz).1 (.inl r)) (fz_some hz).2
  · have hd : ds[i]? = some ds[i] := List.getElem?_eq_getElem hlt
    rw [List.drop_eq_getElem_cons hlt] at p6
    obtain ⟨δ', ha, p6⟩ := p6
    have sub : Kp (fz (Rsv W Hd A) H1) (fz (Rsv W (fun y => Hd y ∨ y = Dl) A) H') := fz_kp fun z o n q => ⟨fun r => by
      rcases r with r | (r | r) | r
      · exact n (.inl r)
      · exact n (.inr (.inl r))
      · rw [r, hD] at q; cases q
      · exact n (.inr (.inr r)), p1 z o (fun r => n (.inl r)) q⟩
    have go : ∀ Hx, Kx W H' Hx → StOk W Hx → Rep W (fz (Rsv W (fun y => Hd y ∨ y = Dl) A) Hx) ds[i] v → g v (L2.wipe σ vs) Hx fun σ2 H2 => L2.wipe σ2 vs = L2.wipe σ vs ∧ tt σ2 H2 fun b H3 =>
        if b = true then tk σ2 H3 fun y H4 => te σ2 H4 fun z H5 => ∃ kvs k, y = kV k ∧ H5 Dl = some (.dK kvs) ∧ kvs.length < sizeLine ∧ DcP W Hd H0 A Dl (L2.wipe σ vs) (wipeD δ vs) H1 (dcStep tg wt wk we (wipeD δ vs)) ds (fun acc => K (.own (.dic (mergeD [] (acc.map prD))))) (i + 1) (upd H5 Dl (.dK (putK kvs k z)))
        else DcP W Hd H0 A Dl (L2.wipe σ vs) (wipeD δ vs) H1 (dcStep tg wt wk we (wipeD δ vs)) ds (fun acc => K (.own (.dic (mergeD [] (acc.map prD))))) (i + 1) H3 := by
      intro Hx kx sx rx
      have px := p2.keep kx sx
      refine hg _ H0 A Hx _ _ δ' v ds[i] _ px rx ha fun σ2 so e2 => ⟨wipe_only hsub so, ?_⟩
      rw [hdrop] at e2
      refine ht _ H0 A Hx σ2 δ' _ _ _ e2 p6 (fun t H3 k3 s3 h3 => ?_) XOk.none
      have e3 := e2.keep k3 s3
      have kk3 : Kx W H' H3 := kx.trans k3
      have p23 := p2.keep kk3 s3
      have m3 : Kp (fz (Rsv W (fun y => Hd y ∨ y = Dl) A) H') (fz (Rsv W (fun y => Hd y ∨ y = Dl) A) H3) := fz_kp fun z o n q => ⟨n, kk3 z o (fun r => n (.inl r)) q⟩
      cases t with
      | false => exact ⟨acc, us, p1.trans kk3, p23, kk3 Dl _ nS p3, p4.mono m3.ex, by omega, h3⟩
      | true =>
        refine hkk _ H0 A H3 σ2 δ' _ _ _ e3 h3 (fun u H4 r k4 s4 r4 h4 => ?_) XOk.none
        have e4 := e3.keep k4 s4
        refine he _ H0 A H4 σ2 δ' _ _ _ e4 h4 (fun u2 H5 r2 k5 s5 r5 h5 => ?_) XOk.none
        obtain ⟨hk1, hk2, hk3⟩ := h5
        obtain ⟨kk, hkk⟩ := Option.isSome_iff_exists.mp hk1
        have hu : u = kV kk := keyD_of r4.rd hkk
        have kk5 : Kx W H' H5 := (kk3.trans k4).trans k5
        have p25 := (p2.keep kk5 s5).updH (o := .dK (putK us kk u2)) (z := Dl) (.inr rfl) nS h0D
        have m5 : Kp (fz (Rsv W (fun y => Hd y ∨ y = Dl) A) H') (fz (Rsv W (fun y => Hd y ∨ y = Dl) A) H5) := fz_kp fun z o n q => ⟨n, kk5 z o (fun r => n (.inl r)) q⟩
        have m6 : Kp (fz (Rsv W (fun y => Hd y ∨ y = Dl) A) H5) (fz (Rsv W (fun y => Hd y ∨ y = Dl) A) (upd H5 Dl (.dK (putK us kk u2)))) := fz_kp fun z o n q => ⟨n, by
          have : z ≠ Dl := fun r => n (.inr (.inl (.inr r)))
          rw [upd_ne this]; exact q⟩
        have kf : Kx W H1 (upd H5 Dl (.dK (putK us kk u2))) := (p1.trans kk5).upd0 hD
        have hlen : us.length ≤ i := by
          rw [p4.length]
          have := mergeD_len (acc.map prD) []
          rw [List.length_map] at this
          simp at this
          omega
        refine ⟨us, kk, hu, kk5 Dl _ nS p3, big_lt (by omega), acc ++ [.tup [r.d, r2.d]], putK us kk u2, kf, p25, upd_same, ?_, by rw [List.length_append]; simp; omega, hk3⟩
        rw [List.map_append, List.map_cons, List.map_nil, mergeD_app]
        have e6 : prD (.tup [r.d, r2.d]) = (kk, r2.d) := by show ((keyD r.d).getD (.inl 0), r2.d) = _; rw [hkk]; rfl
        rw [e6]
        exact RepK.put ((r5.frz hk2).mono m6.ex) (p4.mono (m5.trans m6).ex)
    rcases items i ds[i] H' v H'' hd y with ⟨rfl, hr⟩ | ⟨T, x1, x2, d1, d2, rfl, hT, rfl, hdd, h1, h2⟩
    · exact go H'' (Kx.refl _) p2.st (hr.mono sub.ex)
    · have kT := Ex.new (o := .tup [x1, x2]) hT
      refine go _ kT.kx (p2.st.kp kT) ?_
      rw [hdd]
      exact RepR.newT (σ := L2.wipe σ vs) (δ := wipeD δ vs) p2 hT (.cons (h1.mono sub.ex) (.cons (h2.mono sub.ex) .nil))
  · rw [List.drop_eq_nil_of_le (Nat.le_refl _)] at p6
    refine (q.from k1 s1) (.ref Dl) H' (.own (.dic (mergeD [] (acc.map prD)))) p1 p2.st ⟨Dl, rfl, hD, nD, us, p3, p4.mono (fz_kp fun z o n w => ⟨fun r => n ?_, w⟩).ex⟩ p6
    rcases r with (r | r | r) | r
    · exact .inl r
    · exact .inr (.inl (.inl r))
    · exact .inr (.inr r)
    · exact .inr (.inl (.inr r))
theorem ev_dc {ti : TI} {g : TG} {tt : TT} {tk te : TE} {wi : WI} {tg : Tg} {wt : WT} {wk we : WE} {vs : List Nat} (hsub : ∀ i ∈ tg.slots, i ∈ vs) (hi : EvI W E ti wi) (hg : EvG W g tg) (ht : EvT W EN tt wt) (hkk : EvE W EN tk wk) (he : EvE W EN te we) : EvE W E (tDc ti g tt tk te vs) (wDc vs tg wi wt wk we) := by
  intro Hd H0 A H σ δ K X Q e hw q x
  obtain ⟨no, hw⟩ := hw
  exact dc_at hsub hg ht hkk he e no q fun Rr h => hi Hd H0 A H σ δ _ X _ e hw h x
theorem ew_dc {t iter kx elt : Expr} {ifs : List Expr} {scope : Scope} {own : List (Str × Nat)} {tg : Tg} {wi : WI} {wt : WT} {wk we : WE} (g : Good W N sc k E X) (hb : blkC N sc scope own = true) (ho : ownOk own tg = true) (hns : noSet iter = true)
    (hi : PIW W E X t iter wi) (h : LcW W N k scope t ifs elt tg wt we) (hk : ∀ X', Good W N scope k EN X' → PEW W EN X' kx wk) : PEW W E X (.DictComp kx elt [⟨t, iter, ifs, 0⟩] scope pos) (wDc (own.map (·.2)) tg wi wt wk we) := by
  obtain ⟨ti, pi, ei⟩ := hi
  have ok := blkOk_good g hb
  exact ⟨_, pe_dc g.calm (by rw [g.hN]; exact g.nd) pi ok (fun s H C cl fp => (h.g _ (good_blk g ok.kind)).can) (fun s H C cl fp => (h.t _ (good_blk g ok.kind)).can) (fun s H C cl fp => (hk _ (good_blk g ok.kind)).can) (fun s H C cl fp => (h.e _ (good_blk g ok.kind)).can) (noSet_fold hns),
    ev_dc (ownOk_sub ho) ei ev_TWG ev_TWT ev_TW ev_TW⟩
end
end G
set_option maxRecDepth 100000
set_option maxHeartbeats 4000000
namespace G
open PySem PySem.Spec PyProof.Rows L2
section
variable {W : Wd} {N : List Str} {sc : Scope} {k : Nat} {E : XK} {X : Cx} {Hd : Addr → Prop} {H0 H : Hp} {A : Nat → Option Addr} {σ : St} {δ : Env} {a b o : Expr} {pos p apos : Pos} {wa wo wb : WE}
/-! ### self.f = e -/
def putFD (f : Str) (v : D) : List (Str × D) → List (Str × D)
  | [] => [(f, v)]
  | (g, x) :: r => if g = f then (g, v) :: r else (g, x) :: putFD f v r
theorem RepF.put {F : Hp} {f : Str} {d : D} {v : V} (hr : Rep W F d v) : ∀ {ds : List (Str × D)} {vs : List (Str × V)}, RepF W F ds vs → RepF W F (putFD f d ds) (putF f v vs)
  | [], _, h => by
    rw [RepF] at h; subst h
    rw [putFD, putF, RepF]
    exact ⟨v, [], rfl, hr, by rw [RepF]⟩
  | (g, x) :: ds, _, h => by
    rw [RepF] at h
    obtain ⟨u, r, rfl, h1, h2⟩ := h
    rw [putFD, putF]
    by_cases e : g = f
    · rw [if_pos e, if_pos e, RepF]
      exact ⟨v, r, rfl, hr, h2⟩
    · rw [if_neg e, if_neg e, RepF]
      exact ⟨u, _, rfl, h1, RepF.put hr h2⟩
theorem RepF.length : ∀ {ds : List (Str × D)} {vs : List (Str × V)}, RepF W H ds vs → vs.length = ds.length
  | [], _, h => by rw [RepF] at h; rw [h]; rfl
  | (g, x) :: ds, _, h => by
    rw [RepF] at h
    obtain ⟨u, r, rfl, h1, h2⟩ := h
    rw [List.length_cons, List.length_cons, RepF.length h2]
def wSetF (i : Nat) (c f : Str) (wa : WE) : WS := fun δ p => wa δ (fun r => r.fr = true ∧ ∃ fs, δ[i]? = some (.ow (.ins c fs)) ∧ fs.length < 1000 ∧ p.nx (δ.set i (.ow (.ins c (putFD f r.d fs))))) p.ex
theorem sw_setF {i : Nat} {x c f : Str} {p1 p2 : Pos} (g : Good W N sc k E X) (hi : N[i]? = some x) (hv : visB sc x = true) (hd : (x == ("__debug__" : Str)) = false) (hcd : (x == ("__classdict__" : Str)) = false) (hf : FldOk W c f) (ha : PEW W E X a wa) :
    PSW W E X (.Assign [.Attribute (.Name x p1) f p2] a pos) (wSetF i c f wa) := by
  obtain ⟨ta, pa, ea⟩ := ha
  have hs : swapsWith a (some (.Attribute (.Name x p1) f p2)) pos.line X.env = pure false := by
    unfold swapsWith
    cases a <;> rfl
  refine ⟨_, ps_fld (pe_var (by rw [g.hN]; exact hi) (g.vis x hv) hd hcd) pa hs, ?_⟩
  rw [g.hK]
  intro Hd H0 A H σ δ p D e hw l
  refine ea Hd H0 A H σ δ _ _ _ e hw (fun v H1 r k1 s1 rr ⟨hfr, fs, hδ, hl, hk⟩ => ?_) (l.x e)
  have e1 := e.keep k1 s1
  obtain ⟨z, q1, q2, C, dx, vs, q3, q4, q5⟩ := e1.sl i _ hδ
  obtain ⟨C', h1, h2, h3⟩ := hf
  have : C' = C := by have := q3.1; rw [h1] at this; exact Option.some.inj this
  subst this
  refine ⟨.ref z, slot_get q2, z, C', dx, vs, rfl, q4, h2, h3, by rw [q5.length]; exact hl, ?_⟩
  refine l.nx A _ σ _ (e1.updO q1 hδ (show Top W (fz (Rsv W Hd A) H1) (upd H1 z (.ins C' dx (putF f v vs))) (.ins c (putFD f r.d fs)) z from ⟨C', dx, _, q3, upd_same, q5.put (rr.frz hfr)⟩)) hk
/-! ### more built-ins by name -/
def maxLS (mx : Bool) : List R → (R → Prop) → Prop := fun rs K => ∃ (x : R) (ns : List Int), rs = [x] ∧ x.d = .lst (ns.map D.int) ∧ ns ≠ [] ∧ ∀ m ∈ ns, (∀ y ∈ ns, if mx then y ≤ m else m ≤ y) → K (.v (.int m))
theorem cs_maxL : CallS W (rMax W.K) (maxLS true) := by
  intro Hd H0 A H σ δ rs vs K Q e rr hs q
  obtain ⟨x, ns, rfl, h1, h2, hk⟩ := hs
  obtain ⟨v, rfl, r⟩ := rr.one
  obtain ⟨z, vs, rfl, a2, a3⟩ := r.lst h1
  cases a3.toInts
  exact ⟨z, ns, rfl, .of a2, List.length_pos_iff.mpr h2, fun m hm hy => q.int e (hk m hm hy)⟩
theorem cs_minL : CallS W (rMin W.K) (maxLS false) := by
  intro Hd H0 A H σ δ rs vs K Q e rr hs q
  obtain ⟨x, ns, rfl, h1, h2, hk⟩ := hs
  obtain ⟨v, rfl, r⟩ := rr.one
  obtain ⟨z, vs, rfl, a2, a3⟩ := r.lst h1
  cases a3.toInts
  exact ⟨z, ns, rfl, .of a2, List.length_pos_iff.mpr h2, fun m hm hy => q.int e (hk m hm hy)⟩
def dictS : List R → (R → Prop) → Prop := fun rs K => ∃ x, rs = [x] ∧ ((∃ ps, x.d = .lst ps ∧ ps.all isPr = true ∧ ps.length ≤ big ∧ K (.own (.dic (mergeD [] (ps.map prD))))) ∨ ∃ kds, x.d = .dic kds ∧ K (.own (.dic kds)))
def rDict (K : PySem.W.Frag) : List V → Hp → VK → Prop := fun xs H Q => (∃ (a : Addr) (ps : List Addr) (kvs : List (Key × V)), xs = [.ref a] ∧ SqL K H a (ps.map V.ref) ∧ Paired (fun p kv => SqT K H p [kV kv.1, kv.2]) ps kvs ∧ ∀ p, H p = none → Q (.ref p) (upd H p (.dK (mergeK [] kvs)))) ∨
  ∃ (a : Addr) (kvs : List (Key × V)), xs = [.ref a] ∧ Rd H a (.dK kvs) ∧ ∀ p, H p = none → Q (.ref p) (upd H p (.dK kvs))
theorem pairs_of {F H : Hp} (ex : Ex F H) : ∀ {ps : List D} {vs : List V}, RepL W F ps vs → ps.all isPr = true → ∃ (as : List Addr) (kvs : List (Key × V)), vs = as.map V.ref ∧ Paired (fun p kv => SqT W.K H p [kV kv.1, kv.2]) as kvs ∧ RepK W F (ps.map prD) kvs
  | [], _, h, _ => by rw [RepL] at h; exact ⟨[], [], h, .nil, by rw [List.map_nil, RepK]⟩
  | d :: ps, _, h, hp => by
    rw [RepL] at h
    obtain ⟨v, r, rfl, h1, h2⟩ := h
    rw [List.all_cons, Bool.and_eq_true] at hp
    obtain ⟨as, kvs, rfl, i2, i3⟩ := pairs_of ex h2 hp.2
    have hd := hp.1
    unfold isPr at hd
    split at hd
    · rename_i u w
      obtain ⟨kk, hkk⟩ := Option.isSome_iff_exists.mp hd
      rw [Rep] at h1
      obtain ⟨z, vs, rfl, j1, j2⟩ := h1
      rw [RepL] at j2
      obtain ⟨v1, r1, rfl, j3, j4⟩ := j2
      rw [RepL] at j4
      obtain ⟨v2, r2, rfl, j5, j6⟩ := j4
      rw [RepL] at j6
      subst j6
      cases keyD_of j3 hkk
      refine ⟨z :: as, (kk, v2) :: kvs, rfl, .cons (ex.t j1) i2, ?_⟩
      rw [List.map_cons, show prD (.tup [u, w]) = (kk, w) by show ((keyD u).getD (.inl 0), w) = _; rw [hkk]; rfl, RepK]
      exact ⟨v2, kvs, rfl, j5, i3⟩
    · cases hd
theorem cs_dict : CallS W (rDict W.K) dictS := by
  intro Hd H0 A H σ δ rs vs K Q e rr hs q
  obtain ⟨x, rfl, hs⟩ := hs
  obtain ⟨v, rfl, r⟩ := rr.one
  rcases hs with ⟨ps, h1, h2, hl, hk⟩ | ⟨kds, h1, hk⟩
  · obtain ⟨z, vs, rfl, a2, a3⟩ := r.lst h1
    obtain ⟨as, kvs, rfl, b1, b2⟩ := pairs_of (fz_le (S := Rsv W Hd A)).ex a3 h2
    exact .inl ⟨z, as, kvs, rfl, .of a2, b1, fun p hp => q.newD e (RepK.merge b2 (by rw [RepK])) hk hp⟩
  · obtain ⟨z, vs, rfl, a2, a3⟩ := r.dic h1
    exact .inr ⟨z, vs, rfl, a2, fun p hp => q.newD e a3 hk hp⟩
def intS1 : List R → (R → Prop) → Prop := fun rs K => ∃ x, rs = [x] ∧ ((∃ i, x.d = .int i ∧ K (.v (.int i))) ∨ ∃ t, x.d = .bl t ∧ K (.v (.int (b2i t))))
theorem cs_int1 : CallS W (fun xs H Q => (∃ i, xs = [.int i] ∧ Q (.int i) H) ∨ ∃ t, xs = [.bl t] ∧ Q (.int (b2i t)) H) intS1 := by
  intro Hd H0 A H σ δ rs vs K Q e rr hs q
  obtain ⟨x, rfl, hs⟩ := hs
  obtain ⟨v, rfl, r⟩ := rr.one
  rcases hs with ⟨i, h1, hk⟩ | ⟨t, h1, hk⟩
  · have := r.rd
    rw [h1, Rep] at this
    subst this
    exact .inl ⟨i, rfl, q.int e hk⟩
  · have := r.rd
    rw [h1, Rep] at this
    subst this
    exact .inr ⟨t, rfl, q.int e hk⟩
inductive Bn2 where
  | maxL | minL | dict | int
  deriving DecidableEq
def Bn2.nm : Bn2 → Str
  | .maxL => "max" | .minL => "min" | .dict => "dict" | .int => "int"
def Bn2.sem : Bn2 → List R → (R → Prop) → Prop
  | .maxL => maxLS true | .minL => maxLS false | .dict => dictS | .int => intS1
theorem ew_bn2 {es : List Expr} {wr : WA} (bn : Bn2) (g : Good W N sc k E X) (hx : glB sc bn.nm = true) (hm : W.mg bn.nm = none) (st : (a :: es).all noStar = true) (ha : PAW W E X (a :: es) wr) : PEW W E X (.Call (.Name bn.nm p) (a :: es) [] pos) (wBlt bn.sem wr) := by
  have hc := g.calm
  cases bn
  · exact ew_blt (v := .f "max") g hx hm boot_max (by decide) (by decide) (cr_max hc) (by rw [g.hK]; exact cs_maxL) st ha
  · exact ew_blt (v := .f "min") g hx hm boot_min (by decide) (by decide) (cr_min hc) (by rw [g.hK]; exact cs_minL) st ha
  · exact ew_blt (v := .t "dict") g hx hm (by decide +kernel) (by decide) (by decide) ((call_dictP hc).or call_dictD) (by rw [g.hK]; exact cs_dict) st ha
  · exact ew_blt (v := .t "int") g hx hm boot_int (by decide) (by decide) call_int1 cs_int1 st ha
/-! ### len(set(xs)) -/
def wCnt (wa : WE) : WE := fun δ K X => wa δ (fun r => ∃ xs : List Str, (r.d = .lst (xs.map D.str) ∨ r.d = .tup (xs.map D.str)) ∧ xs.length ≤ 1000 ∧ K (.v (.int (GS.cnt xs)))) X
theorem ew_cnt {p2 q : Pos} (g : Good W N sc k E X) (hl : glB sc "len" = true) (ml : W.mg "len" = none) (hs : glB sc "set" = true) (ms : W.mg "set" = none) (st : noStar a = true) (ha : PEW W E X a wa) :
    PEW W E X (.Call (.Name "len" p) [.Call (.Name "set" p2) [a] [] q] [] pos) (wCnt wa) := by
  obtain ⟨ta, pa, ea⟩ := ha
  refine ⟨_, GS.pe_cnt g.calm (g.gl _ hl) (by rw [g.hm]; exact ml) (g.gl _ hs) (by rw [g.hm]; exact ms) pa (star_is st), ?_⟩
  rw [g.hK]
  intro Hd H0 A H σ δ K Xp Q e hw q x
  refine ea Hd H0 A H σ δ _ Xp _ e hw (fun v H1 r k1 s1 rr ⟨xs, hd, hl, hk⟩ => ?_) x
  rcases hd with hd | hd
  · obtain ⟨z, vs, rfl, a2, a3⟩ := rr.lst hd
    obtain ⟨rfl, _⟩ := a3.toStrs
    exact ⟨z, xs, rfl, .inl (.of a2), hl, (q.from k1 s1).int (e.keep k1 s1) hk⟩
  · obtain ⟨z, vs, rfl, a2, a3⟩ := rr.tup hd
    obtain ⟨rfl, _⟩ := a3.toStrs
    exact ⟨z, xs, rfl, .inr a2, hl, (q.from k1 s1).int (e.keep k1 s1) hk⟩
/-! ### xs[::-1] -/
def wRev (wa : WE) : WE := fun δ K X => wa δ (fun r => ∃ xs, r.d = .lst xs ∧ K (.own (.lst xs.reverse))) X
end
end G
set_option maxRecDepth 100000
set_option maxHeartbeats 4000000
namespace G
open PySem PySem.Spec PyProof.Rows L2
section
variable {W : Wd} {N : List Str} {sc : Scope} {k : Nat} {E : XK} {X : Cx} {Hd : Addr → Prop} {H0 H : Hp} {A : Nat → Option Addr} {σ : St} {δ : Env} {a b o : Expr} {pos p apos : Pos} {wa wo wb : WE}
theorem ew_rev {kk : Nat} {p1 p2 p3 : Pos} (g : Good W N sc k E X) (ha : PEW W E X a wa) : PEW W E X (.Subscript a (.Slice none none (some (.UnaryOp .USub (.Constant (.int 1) kk p1) p2)) p3) pos) (wRev wa) := by
  obtain ⟨ta, pa, ea⟩ := ha
  refine ⟨_, pe_revL pa, ?_⟩
  rw [g.hK]
  intro Hd H0 A H σ δ K Xp Q e hw q x
  refine ea Hd H0 A H σ δ _ Xp _ e hw (fun v H1 r k1 s1 rr ⟨xs, hd, hk⟩ => ?_) x
  obtain ⟨z, vs, rfl, a2, a3⟩ := rr.lst hd
  exact ⟨z, vs, rfl, .of a2, fun p hp => (q.from k1 s1).newL (e.keep k1 s1) a3.reverse hk hp⟩
/-! ### methods of built-in types that change nothing -/
def tyB (T : String) : D → Bool
  | .str _ => T == "str"
  | .lst _ => T == "list"
  | _ => false
theorem tyV_of {T : String} {Hs : Hp} {v : V} {r : R} (h : tyB T r.d = true) (rr : RepR W Hd A Hs H δ v r) : tyV W.K T v H := by
  cases hd : r.d with
  | str s =>
    have := rr.rd
    rw [hd, Rep] at this
    rw [this.1]
    rw [hd] at h
    exact beq_iff_eq.mp h
  | lst xs =>
    obtain ⟨z, vs, rfl, a2, a3⟩ := rr.lst hd
    rw [hd] at h
    exact .inl ⟨beq_iff_eq.mp h, vs, .of a2⟩
  | _ => rw [hd] at h; cases h
def BmS (W : Wd) (r : V → List V → Hp → VK → Prop) (sem : R → List R → (R → Prop) → Prop) : Prop := ∀ (Hd : Addr → Prop) (H0 : Hp) (A : Nat → Option Addr) (H : Hp) (σ : St) (δ : Env) (ro : R) (rs : List R) (v : V) (vs : List V) (K : R → Prop) (Q : VK),
  EnvOk W Hd H0 A H σ δ → RepR W Hd A emp H δ v ro → RepRs W Hd A H δ vs rs → sem ro rs K → QOk W Hd A H δ K Q → r v vs H Q
def wBm (T : String) (sem : R → List R → (R → Prop) → Prop) (wo : WE) (wr : WA) : WE := fun δ K X => wo δ (fun r => tyB T r.d = true ∧ wr δ (fun rs => sem r rs K) X) X
theorem ew_bmG {T id : String} {nm : Str} {r : V → List V → Hp → VK → Prop} {sem : R → List R → (R → Prop) → Prop} {es : List Expr} {wr : WA} (g : Good W N sc k E X) (pa : PlainAttrs T) (slot : Slot T nm id) (hty : typeOf (.builtin id) = pure (.type "method_descriptor")) (hm : MtR X id r) (hs : BmS W r sem)
    (hb : attributeBase o nm X.env (eval o X.env) = eval o X.env) (hln : (apos.endLine == pos.line) = true) (st : (a :: es).all noStar = true) (hl : (a :: es).length < 20) (ho : PEW W E X o wo) (ha : PAW W E X (a :: es) wr) :
    PEW W E X (.Call (.Attribute o nm apos) (a :: es) [] pos) (wBm T sem wo wr) := by
  obtain ⟨to, po, eo⟩ := ho
  obtain ⟨ta, pta, ea⟩ := ha
  have st' := st
  rw [List.all_cons, Bool.and_eq_true] at st'
  refine ⟨_, pe_bm pa slot hty hm po pta hb (few_is st hl) hln (star_is st'.1) (star_none st'.2), ?_⟩
  rw [g.hK]
  intro Hd H0 A H σ δ K Xp Q e hw q x
  refine eo Hd H0 A H σ δ _ Xp _ e hw (fun v H1 ro k1 s1 rr ⟨ht, h1⟩ => ⟨tyV_of ht rr, ?_⟩) x
  have e1 := e.keep k1 s1
  refine ea Hd H0 A H1 σ δ _ Xp _ e1 h1 (fun us H2 rs k2 s2 r2 h2 => ?_) (x.keep k1)
  exact hs Hd H0 A H2 σ δ ro rs v us K Q (e1.keep k2 s2) (rr.opn.keep e1 k2) r2 h2 ((q.from k1 s1).from k2 s2)
/-! sep.join(texts) -/
def joinS : R → List R → (R → Prop) → Prop := fun ro rs K => ∃ (s : Str) (x : R) (ys : List Str), ro.d = .str s ∧ rs = [x] ∧ (x.d = .lst (ys.map D.str) ∨ x.d = .tup (ys.map D.str)) ∧ (ys.map (·.length)).sum + ys.length * s.length ≤ 16777216 ∧ K (.v (.str (Str.join s ys)))
theorem strOk_mem {s : Str} : PyData.strOk s = true ↔ ∀ c ∈ s.cps.toList, c < 0x110000 := by
  unfold PyData.strOk
  rw [Array.all_eq_true']
  simp
theorem joinL_mem {S : List Nat} {c : Nat} : ∀ {ps : List (List Nat)}, c ∈ TL.joinL S ps → c ∈ S ∨ ∃ q ∈ ps, c ∈ q
  | [], h => by cases h
  | [q], h => .inr ⟨q, List.mem_cons_self, h⟩
  | q :: r :: t, h => by
    rw [TL.joinL, List.mem_append, List.mem_append] at h
    rcases h with h | h | h
    · exact .inr ⟨q, List.mem_cons_self, h⟩
    · exact .inl h
    · rcases joinL_mem h with h | ⟨u, h1, h2⟩
      · exact .inl h
      · exact .inr ⟨u, List.mem_cons_of_mem _ h1, h2⟩
theorem strOk_join {s : Str} {ys : List Str} (h : PyData.strOk s = true) (hy : ∀ y ∈ ys, PyData.strOk y = true) : PyData.strOk (Str.join s ys) = true := by
  rw [strOk_mem] at h ⊢
  intro c hc
  have hc' : c ∈ TL.joinL s.cps.toList (ys.map TL.tl) := by rw [← TL.tl_join]; exact hc
  rcases joinL_mem hc' with q | ⟨l, h1, h2⟩
  · exact h c q
  · obtain ⟨y, h3, rfl⟩ := List.mem_map.mp h1
    exact strOk_mem.mp (hy y h3) c h2
theorem bm_join : BmS W (fun x xs H Q => ∃ a p, ∃ ys : List Str, x = .str a ∧ xs = [.ref p] ∧ (SqL W.K H p (ys.map V.str) ∨ SqT W.K H p (ys.map V.str)) ∧ (ys.map (·.length)).sum + ys.length * a.length ≤ 16777216 ∧ Q (.str (Txt.join a ys)) H) joinS := by
  intro Hd H0 A H σ δ ro rs v vs K Q e rr r2 hs q
  obtain ⟨s, x, ys, h1, rfl, hx, hl, hk⟩ := hs
  obtain ⟨u, rfl, r3⟩ := r2.one
  have h0 := rr.rd
  rw [h1, Rep] at h0
  obtain ⟨rfl, ok⟩ := h0
  rcases hx with hx | hx
  · obtain ⟨z, us, rfl, a2, a3⟩ := r3.lst hx
    obtain ⟨rfl, oks⟩ := a3.toStrs
    exact ⟨s, z, ys, rfl, rfl, .inl (.of a2), hl, by rw [TL.join_eq]; exact q.str e (strOk_join ok oks) hk⟩
  · obtain ⟨z, us, rfl, a2, a3⟩ := r3.tup hx
    obtain ⟨rfl, oks⟩ := a3.toStrs
    exact ⟨s, z, ys, rfl, rfl, .inr a2, hl, by rw [TL.join_eq]; exact q.str e (strOk_join ok oks) hk⟩
/-! xs.index(text) -/
def indexS : R → List R → (R → Prop) → Prop := fun ro rs K => ∃ (x : R) (ns : List Str) (s : Str) (j : Nat), ro.d = .lst (ns.map D.str) ∧ rs = [x] ∧ x.d = .str s ∧ ns[j]? = some s ∧ (∀ m < j, ns[m]? ≠ some s) ∧ K (.v (.int j))
theorem bm_index : BmS W (rIndex W.K) indexS := by
  intro Hd H0 A H σ δ ro rs v vs K Q e rr r2 hs q
  obtain ⟨x, ns, s, j, h1, rfl, hx, hj, hm, hk⟩ := hs
  obtain ⟨u, rfl, r3⟩ := r2.one
  obtain ⟨z, us, rfl, a2, a3⟩ := rr.lst h1
  obtain ⟨rfl, oks⟩ := a3.toStrs
  have h0 := r3.rd
  rw [hx, Rep] at h0
  obtain ⟨rfl, ok⟩ := h0
  refine ⟨z, _, .str s, j, .str s, rfl, rfl, .of a2, rfl, ?_, by rw [List.getElem?_map, hj]; rfl, ?_, fun m z' hlt hz' => ?_, q.int e hk⟩
  · rw [List.all_map, List.all_eq_true]
    intro y _
    rfl
  · show decide (s = s) = true
    simp
  · rw [List.getElem?_map] at hz'
    cases hn : ns[m]? with
    | none => rw [hn] at hz'; cases hz'
    | some y =>
      rw [hn] at hz'
      cases hz'
      show decide (y = s) = false
      exact decide_eq_false fun q => hm m hlt (by rw [hn, q])
inductive Bm where
  | join | index
  deriving DecidableEq
def Bm.nm : Bm → Str
  | .join => "join" | .index => "index"
def Bm.ty : Bm → String
  | .join => "str" | .index => "list"
def Bm.sem : Bm → R → List R → (R → Prop) → Prop
  | .join => joinS | .index => indexS
/-- no name of a super call; a written text too -/
def baseOk2 (a : Expr) : Bool := baseOk a || match a with
  | .Constant _ _ _ => true
  | _ => false
theorem base_of2 {f : Str} {env : PySem.Env} (h : baseOk2 a = true) : attributeBase a f env (eval a env) = eval a env := by
  unfold baseOk2 at h
  rw [Bool.or_eq_true] at h
  rcases h with h | h
  · exact base_of h
  · split at h
    · rfl
    · cases h
theorem ew_bm {es : List Expr} {wr : WA} (m : Bm) (g : Good W N sc k E X) (hb : baseOk2 o = true) (hln : (apos.endLine == pos.line) = true) (st : (a :: es).all noStar = true) (hl : (a :: es).length < 20) (ho : PEW W E X o wo) (ha : PAW W E X (a :: es) wr) :
    PEW W E X (.Call (.Attribute o m.nm apos) (a :: es) [] pos) (wBm m.ty m.sem wo wr) := by
  cases m
  · exact ew_bmG g PySem.F.plainAttrs_str PySem.F.slot_str_join PySem.F.type_str_join mt_join (by rw [g.hK]; exact bm_join) (base_of2 hb) hln st hl ho ha
  · exact ew_bmG g PySem.F.plainAttrs_list PySem.F.slot_list_index PySem.F.type_list_index mt_index (by rw [g.hK]; exact bm_index) (base_of2 hb) hln st hl ho ha
end
end G
set_option maxRecDepth 100000
set_option maxHeartbeats 4000000
namespace G
open PySem PySem.Spec PyProof.Rows L2
/-! ### enumerate, zip: new pairs -/
def enumD : Nat → List D → List D
  | _, [] => []
  | n, d :: ds => .tup [.int n, d] :: enumD (n + 1) ds
theorem enumD_len : ∀ (ds : List D) (n : Nat), (enumD n ds).length = ds.length
  | [], _ => rfl
  | d :: ds, n => by rw [enumD, List.length_cons, List.length_cons, enumD_len ds]
theorem enumD_get : ∀ (ds : List D) (n i : Nat), (enumD n ds)[i]? = (ds[i]?).map fun d => .tup [.int (n + i : Nat), d]
  | [], _, _ => rfl
  | d :: ds, n, 0 => rfl
  | d :: ds, n, i + 1 => by
    rw [enumD, List.getElem?_cons_succ, List.getElem?_cons_succ, enumD_get ds, show n + 1 + i = n + (i + 1) by omega]
def zipD : List D → List D → List D
  | d :: ds, e :: es => .tup [d, e] :: zipD ds es
  | _, _ => []
theorem zipD_len : ∀ (ds es : List D), (zipD ds es).length = min ds.length es.length
  | [], _ => by simp [zipD]
  | _ :: _, [] => by simp [zipD]
  | d :: ds, e :: es => by rw [zipD, List.length_cons, List.length_cons, List.length_cons, zipD_len ds]; omega
theorem zipD_get : ∀ (ds es : List D) (i : Nat) (x : D), (zipD ds es)[i]? = some x → ∃ d e, ds[i]? = some d ∧ es[i]? = some e ∧ x = .tup [d, e]
  | [], _, i, x, h => by simp [zipD] at h
  | _ :: _, [], i, x, h => by simp [zipD] at h
  | d :: ds, e :: es, 0, x, h => by cases h; exact ⟨d, e, rfl, rfl, rfl⟩
  | d :: ds, e :: es, i + 1, x, h => by rw [zipD, List.getElem?_cons_succ] at h; simpa using zipD_get ds es i x h
section
variable {W : Wd} {N : List Str} {sc : Scope} {k : Nat} {E : XK} {X : Cx} {Hd : Addr → Prop} {H0 H : Hp} {A : Nat → Option Addr} {σ : St} {δ : Env} {a b o : Expr} {pos p apos : Pos} {wa wo wb : WE}
def iEnA (K : PySem.W.Frag) (ta : TA) : TI := fun σ H R => ta σ H fun vs H1 => ∃ a xs, vs = [.ref a] ∧ ((SqL K H1 a xs ∧ R (Ite K a) H1) ∨ (SqT K H1 a xs ∧ R (GE.IteT K a) H1))
theorem pi_enA {elts : List Expr} {kk : Nat} {tpos : Pos} {ta : TA} (hg : Gl X "enumerate") (hm : X.mg "enumerate" = none) (ha : PA X [a] ta) (hs : starEach [a] X.env = [(false, eval a X.env)]) :
    PI X (.Tuple elts kk tpos) (.Call (.Name "enumerate" p) [a] [] pos) (iEnA X.K ta) := by
  refine ⟨fun pins s σ H R I h => ?_⟩
  refine Call_ (ld_blt I hg hm boot_enumerate (PyProof.Rows.callWith_type1 (thn (ha.run pos pins s σ H _ I h) fun us s1 ⟨vs, H1, I1, r1, q1⟩ => ?_) hs rfl))
  obtain ⟨z, xs, rfl, q1⟩ := q1
  cases r1 with
  | cons r rr =>
    cases rr
    cases r
    rcases q1 with ⟨hq, q⟩ | ⟨hq, q⟩
    · obtain ⟨its, rv, p', hz⟩ := I1.list hq
      refine call_enumerate_list p'.isList fun h' he hit hsz hk => wpAny_pyIter_enum he ?_
      refine ⟨s1.heap.objs.size + 1, [s1.heap.objs.size + 1, s1.heap.objs.size], _, _, H1, rfl, I1.kept (t' := s1.toks) hk, turn_enum z (s1.heap.objs.size + 1) s1.heap.objs.size, ⟨⟨.none, he⟩, hit, Nat.succ_ne_self _⟩, fun b hb => ?_, q⟩
      have hle : s1.heap.objs.size ≤ b := by
        simp only [List.mem_cons, List.not_mem_nil, or_false] at hb
        rcases hb with rfl | rfl
        · exact Nat.le_succ _
        · exact Nat.le_refl _
      exact I1.fpOk hle (I1.hok.fresh hle)
    · obtain ⟨its, rv, p', hz⟩ := I1.tuple hq
      have hal : z < s1.heap.objs.size := by obtain ⟨o, ho, _⟩ := p'; exact Heap.lt_size ho
      refine GE.enum_begins1 (begins_tuple z its.toArray) p' fun h' he hit hsz hk => wpAny_pyIter_enum he ?_
      refine ⟨s1.heap.objs.size + 1, [s1.heap.objs.size + 1, s1.heap.objs.size], _, _, H1, rfl, I1.kept (t' := s1.toks) hk, GE.turn_enumT z (s1.heap.objs.size + 1) s1.heap.objs.size, ⟨⟨.none, he⟩, ⟨_, hit, rfl, rfl⟩, Nat.succ_ne_self _, Nat.ne_of_lt hal, Nat.ne_of_lt (Nat.lt_succ_of_lt hal)⟩, fun b hb => ?_, q⟩
      have hle : s1.heap.objs.size ≤ b := by
        simp only [List.mem_cons, List.not_mem_nil, or_false] at hb
        rcases hb with rfl | rfl
        · exact Nat.le_succ _
        · exact Nat.le_refl _
      exact I1.fpOk hle (I1.hok.fresh hle)
/-- what is walked: a list's or a tuple's items -/
def itemsD : D → Option (List D)
  | .lst xs => some xs
  | .tup xs => some xs
  | _ => none
def wEnum (wa : WE) : WI := fun δ K X => wa δ (fun r => ∃ ds, itemsD r.d = some ds ∧ K (slotsOf [r]) (enumD 0 ds)) X
theorem src_enum {F FG : Hp} {ds : List D} {vs : List V} {J : It} {z : Addr} {G : Hp → Prop} (r : RepL W F ds vs) (wk : Walk J vs.length G (YPair (fun i => some (.int (i : Nat))) (fun i => vs[i]?))) (st : ∀ H', Kp FG H' → G H') : Src W FG F J (enumD 0 ds) := by
  refine ⟨G, _, by rw [enumD_len, ← r.length]; exact wk, st, fun i d Hc x Hc' hd y => .inr ?_⟩
  obtain ⟨T, x1, x2, h1, h2, h3, h4, h5⟩ := y
  cases h4
  rw [enumD_get] at hd
  obtain ⟨e, he, hr⟩ := r.getV h5
  rw [he] at hd
  cases hd
  exact ⟨T, _, x2, .int i, e, h1, h2, h3, by simp, by rw [Rep], hr⟩
theorem iw_enum {elts : List Expr} {kk : Nat} {tpos : Pos} (g : Good W N sc k E X) (hr : glB sc "enumerate" = true) (mr : W.mg "enumerate" = none) (st : noStar a = true) (ha : PEW W E X a wa) : PIW W E X (.Tuple elts kk tpos) (.Call (.Name "enumerate" p) [a] [] pos) (wEnum wa) := by
  obtain ⟨ta, pa, ea⟩ := ha
  refine ⟨_, pi_enA (g.gl _ hr) (by rw [g.hm]; exact mr) (pa_cons pa pa_nil (star_is st)) (by rw [star_is st]; rfl), ?_⟩
  rw [g.hK]
  intro Hd H0 A H σ δ K Xp Rr e hw q x
  refine ea Hd H0 A H σ δ _ Xp _ e hw (fun v H1 r k1 s1 r1 h1 => ?_) x
  obtain ⟨ds, hd, hk⟩ := h1
  have e1 := e.keep k1 s1
  cases hr : r.d <;> rw [hr] at hd <;> first | (cases hd; done) | skip
  · cases hd
    obtain ⟨z, vs, rfl, h3, h4⟩ := r1.keepL e1 hr (slotsOf [r]) fun _ h => h
    exact ⟨z, vs, rfl, .inl ⟨.of (fz_le _ _ h3), q _ H1 _ _ k1 s1 (src_enum (z := z) h4 (walk_enum (xs := vs)) fun H' kp => SqL.of (kp z _ h3)) hk⟩⟩
  · cases hd
    have h5 := r1.tupF hr
    rw [Rep] at h5
    obtain ⟨z, vs, rfl, h7, h8⟩ := h5
    exact ⟨z, vs, rfl, .inr ⟨fz_le.ex.t h7, q _ H1 _ _ k1 s1 (src_enum (z := z) h8 (GE.walk_enumT (xs := vs)) fun H' kp => kp.ex.t (kp_HdC.ex.t h7)) hk⟩⟩
def wZip (wa wb : WE) : WI := fun δ K X => wa δ (fun r => wb δ (fun r' => ∃ ds es, ((r.d = .lst ds ∧ r'.d = .lst es) ∨ (r.d = .tup ds ∧ r'.d = .tup es)) ∧ K (slotsOf [r, r']) (zipD ds es)) X) X
theorem slots_two {r r' : R} : (∀ i ∈ slotsOf [r], i ∈ slotsOf [r, r']) ∧ ∀ i ∈ slotsOf [r'], i ∈ slotsOf [r, r'] := by
  cases r <;> cases r' <;> simp [slotsOf]
theorem src_zip {F FG : Hp} {ds es : List D} {vs us : List V} {J : It} {G : Hp → Prop} (r : RepL W F ds vs) (r' : RepL W F es us) (wk : Walk J (min vs.length us.length) G (YPair (fun i => vs[i]?) (fun i => us[i]?))) (st : ∀ H', Kp FG H' → G H') : Src W FG F J (zipD ds es) := by
  refine ⟨G, _, by rw [zipD_len, ← r.length, ← r'.length]; exact wk, st, fun i d Hc x Hc' hd y => .inr ?_⟩
  obtain ⟨T, x1, x2, h1, h2, h3, h4, h5⟩ := y
  obtain ⟨d1, d2, i1, i2, rfl⟩ := zipD_get ds es i d hd
  obtain ⟨u1, j1, j2⟩ := r.get i1
  obtain ⟨u2, j3, j4⟩ := r'.get i2
  cases j1.symm.trans h4
  cases j3.symm.trans h5
  exact ⟨T, _, _, d1, d2, h1, h2, h3, rfl, j2, j4⟩
theorem walk_zipT {K : PySem.W.Frag} {a b : Addr} {xs ys : List V} : Walk (RZ.ItzT K a b) (min xs.length ys.length) (fun H => SqT K H a xs ∧ SqT K H b ys) (YPair (fun i => xs[i]?) (fun i => ys[i]?)) := by
  refine ⟨fun i _ hi q => ⟨xs, ys, xs[i]'(by omega), ys[i]'(by omega), q.1, q.2, by simp, by simp⟩, fun _ q => ⟨xs, ys, q.1, q.2, by omega⟩, fun i H v H' _ q y => ?_⟩
  obtain ⟨T, x, z, h1, h2, h3, h4, h5⟩ := y
  exact ⟨T, x, z, h1, h2, h3, h4 xs q.1, h5 ys q.2⟩
theorem iw_zip {elts : List Expr} {kk : Nat} {tpos : Pos} (g : Good W N sc k E X) (hr : glB sc "zip" = true) (mr : W.mg "zip" = none) (st : noStar a = true) (st' : noStar b = true) (ha : PEW W E X a wa) (hb : PEW W E X b wb) : PIW W E X (.Tuple elts kk tpos) (.Call (.Name "zip" p) [a, b] [] pos) (wZip wa wb) := by
  obtain ⟨ta, pa, ea⟩ := ha
  obtain ⟨tb, pb, eb⟩ := hb
  refine ⟨_, RZ.pi_zipA (g.gl _ hr) (by rw [g.hm]; exact mr) (pa_cons pa (pa_cons pb pa_nil (star_is st')) (star_is st)) (star_is st) (by rw [star_is st']; rfl), ?_⟩
  rw [g.hK]
  intro Hd H0 A H σ δ K Xp Rr e hw q x
  refine ea Hd H0 A H σ δ _ Xp _ e hw (fun v H1 r k1 s1 r1 h1 => ?_) x
  have e1 := e.keep k1 s1
  refine eb Hd H0 A H1 σ δ _ Xp _ e1 h1 (fun v' H2 r' k2 s2 r2 h2 => ?_) (x.keep k1)
  have e2 := e1.keep k2 s2
  have r1' := r1.opn.keep e1 k2
  obtain ⟨ds, es, hd, hk⟩ := h2
  rcases hd with ⟨h3, h4⟩ | ⟨h3, h4⟩
  · obtain ⟨z, vs, rfl, i3, i4⟩ := r1'.keepL e2 h3 (slotsOf [r, r']) slots_two.1
    obtain ⟨z', us, rfl, j3, j4⟩ := r2.keepL e2 h4 (slotsOf [r, r']) slots_two.2
    exact ⟨z, z', vs, us, rfl, .inl ⟨.of (fz_le _ _ i3), .of (fz_le _ _ j3), q _ H2 _ _ (k1.trans k2) s2 (src_zip i4 j4 (walk_zip rfl) fun H' kp => ⟨SqL.of (kp z _ i3), SqL.of (kp z' _ j3)⟩) hk⟩⟩
  · have h5 := r1'.tupF h3
    have h6 := r2.tupF h4
    rw [Rep] at h5 h6
    obtain ⟨z, vs, rfl, i7, i8⟩ := h5
    obtain ⟨z', us, rfl, j7, j8⟩ := h6
    exact ⟨z, z', vs, us, rfl, .inr ⟨fz_le.ex.t i7, fz_le.ex.t j7, q _ H2 _ _ (k1.trans k2) s2 (src_zip i8 j8 walk_zipT fun H' kp => ⟨kp.ex.t (kp_HdC.ex.t i7), kp.ex.t (kp_HdC.ex.t j7)⟩) hk⟩⟩
end
end G
set_option maxRecDepth 100000
set_option maxHeartbeats 4000000
namespace G
open PySem PySem.Spec PyProof.Rows L2
/-! ### calls with keywords -/
def permL {α : Type} (perm : List Nat) (l : List α) : List α := perm.filterMap fun i => l[i]?
theorem vals_perm {vs : List V} {us : List Value} (h : Vals vs us) : ∀ perm : List Nat, Vals (permL perm vs) (permL perm us)
  | [] => .nil
  | i :: r => by
    unfold permL
    rw [List.filterMap_cons, List.filterMap_cons]
    cases hv : vs[i]? with
    | none =>
      have : us[i]? = none := by rw [List.getElem?_eq_none_iff] at hv ⊢; rw [← h.length]; exact hv
      rw [this]
      exact vals_perm h r
    | some v =>
      obtain ⟨u, h1, h2⟩ := h.get hv
      rw [h1]
      exact .cons h2 (vals_perm h r)
section
variable {W : Wd} {N : List Str} {sc : Scope} {k : Nat} {E : XK} {X : Cx} {Hd : Addr → Prop} {H0 H : Hp} {A : Nat → Option Addr} {σ : St} {δ : Env} {a b o : Expr} {pos p apos : Pos} {wa wo wb : WE}
theorem RepRs.append {vs us : List V} {rs zs : List R} (h : RepRs W Hd A H δ vs rs) (h' : RepRs W Hd A H δ us zs) : RepRs W Hd A H δ (vs ++ us) (rs ++ zs) := by
  induction h with
  | nil => exact h'
  | cons r _ ih => exact .cons r ih
theorem RepRs.get {vs : List V} {rs : List R} (h : RepRs W Hd A H δ vs rs) : ∀ i : Nat, (vs[i]? = none ∧ rs[i]? = none) ∨ ∃ v r, vs[i]? = some v ∧ rs[i]? = some r ∧ RepR W Hd A emp H δ v r := by
  induction h with
  | nil => intro i; exact .inl ⟨rfl, rfl⟩
  | @cons v vs r rs h _ ih =>
    intro i
    cases i with
    | zero => exact .inr ⟨v, r, rfl, rfl, h⟩
    | succ i => simpa using ih i
theorem RepRs.perm {vs : List V} {rs : List R} (h : RepRs W Hd A H δ vs rs) : ∀ perm : List Nat, RepRs W Hd A H δ (permL perm vs) (permL perm rs)
  | [] => .nil
  | i :: r => by
    unfold permL
    rw [List.filterMap_cons, List.filterMap_cons]
    rcases h.get i with ⟨h1, h2⟩ | ⟨v, r', h1, h2, h3⟩
    · rw [h1, h2]; exact RepRs.perm h r
    · rw [h1, h2]; exact .cons h3 (RepRs.perm h r)
/-- how a call of n positional values and the keywords ks binds -/
def KB (K : PySem.W.Frag) (fd : FuncData) (ps : List Str) (n : Nat) (ks : List Str) (perm : List Nat) : Prop := ∀ (s : Shared) (us ws : List Value), K.In s.heap → us.length = n → ws.length = ks.length → BindsTo s fd ⟨us, ks.zip ws⟩ (ps.zip (permL perm (us ++ ws)))
def wCallK (S : FSpec) (n m : Nat) (perm : List Nat) (wr wk : WA) : WE := fun δ K X => wr δ (fun rs => wk δ (fun zs => rs.length = n ∧ zs.length = m ∧ callS S (permL perm (rs ++ zs)) K X) X) X
def KOk (W : Wd) (k : Nat) (f : Str) (S : FSpec) (n : Nat) (ks : List Str) (perm : List Nat) : Prop := ∃ (fa : Addr) (fd : FuncData) (ps : List Str), FnG W.P W.w W.K W.mg W.base (L2.CX W.P W.w) k fa fd ps (spOf W S) ∧ W.mg f = some (.ref fa) ∧ PySem.W.keepIn W.K (.ref fa) = true ∧ KB W.K fd ps n ks perm
theorem KOk.mono {j : Nat} {f : Str} {S : FSpec} {n : Nat} {ks : List Str} {perm : List Nat} (h : KOk W j f S n ks perm) (hj : j ≤ k) : KOk W k f S n ks perm := by
  obtain ⟨fa, fd, ps, h1, h2⟩ := h
  exact ⟨fa, fd, ps, h1.mono hj, h2⟩
def PKW (W : Wd) (E : XK) (X : Cx) (ks : List Keyword) (w : WA) : Prop := ∃ te, PK X ks te ∧ EvA W E te w
theorem kw_nil : PKW W E X [] wNil := ⟨_, pk_nil, fun _ _ _ H _ _ _ _ _ e hw q _ => q [] H [] (Kx.refl H) e.st .nil hw⟩
theorem kw_cons {nm : Option Str} {kp : Pos} {ks : List Keyword} {wr : WA} (ha : PEW W E X a wa) (hr : PKW W E X ks wr) : PKW W E X (⟨nm, a, kp⟩ :: ks) (wCons wa wr) := by
  obtain ⟨ta, pa, ea⟩ := ha
  obtain ⟨tr, pr, er⟩ := hr
  refine ⟨_, pk_cons pa pr, ?_⟩
  intro Hd H0 A H σ δ K Xp Q e hw q x
  refine ea Hd H0 A H σ δ _ Xp _ e hw (fun v H1 r k1 s1 rr h1 => ?_) x
  have e1 := e.keep k1 s1
  refine er Hd H0 A H1 σ δ _ Xp _ e1 h1 (fun vs H2 rs k2 s2 r2 h2 => ?_) (x.keep k1)
  exact q _ H2 _ (k1.trans k2) s2 (.cons (rr.opn.keep e1 k2) r2) h2
theorem ev_callK {S : FSpec} {n m : Nat} {perm : List Nat} {ta tk : TA} {wr wk : WA} (ea : EvA W E ta wr) (ek : EvA W E tk wk) : EvE W E (tCallN n m (spOf W S) (fun vs zs => permL perm (vs ++ zs)) E ta tk) (wCallK S n m perm wr wk) := by
  intro Hd H0 A H σ δ K X Q e hw q x
  refine ea Hd H0 A H σ δ _ X _ e hw (fun vs H1 rs k1 s1 r1 h1 => ?_) x
  have e1 := e.keep k1 s1
  refine ek Hd H0 A H1 σ δ _ X _ e1 h1 (fun us H2 zs k2 s2 r2 h2 => ?_) (x.keep k1)
  obtain ⟨l1, l2, h3⟩ := h2
  have e2 := e1.keep k2 s2
  have r1' := r1.keep e1 k2
  exact ⟨by rw [r1.len]; exact l1, by rw [r2.len]; exact l2, sp_call e2 ((r1'.append r2).perm perm) h3 ((q.from k1 s1).from k2 s2) ((x.keep k1).keep k2)⟩
/-- the names of the keywords -/
def kwB : List Str → List Keyword → Bool
  | [], [] => true
  | n :: ns, ⟨some m, _, _⟩ :: ks => n == m && kwB ns ks
  | _, _ => false
theorem kwB_of {env : PySem.Env} {cp : Pos} : ∀ {ns : List Str} {ks : List Keyword}, kwB ns ks = true → (backToKw cp (keywordEach ks env)).all (·.1.isSome) = true ∧ (backToKw cp (keywordEach ks env)).filterMap (·.1) = ns ∧ (backToKw cp (keywordEach ks env)).any (·.1.isNone) = false ∧ ks.length = ns.length
  | [], [], _ => ⟨rfl, rfl, rfl, rfl⟩
  | n :: ns, ⟨some m, e, kp⟩ :: ks, h => by
    unfold kwB at h
    rw [Bool.and_eq_true, beq_iff_eq] at h
    obtain ⟨rfl, h⟩ := h
    obtain ⟨h1, h2, h3, h4⟩ := kwB_of (env := env) (cp := cp) h
    refine ⟨?_, ?_, ?_, by rw [List.length_cons, List.length_cons, h4]⟩
    · show (true && _) = true
      exact h1
    · show n :: _ = _
      exact congrArg _ h2
    · show (false || _) = false
      exact h3
  | [], ⟨_, _, _⟩ :: _, h => by cases h
  | _ :: _, [], h => by cases h
  | _ :: _, ⟨none, _, _⟩ :: _, h => by cases h
theorem ew_callK {es : List Expr} {ks : List Keyword} {ns : List Str} {x : Str} {S : FSpec} {n : Nat} {perm : List Nat} {wr wk : WA} (g : Good W N sc k E X) (hx : glB sc x = true) (hdb : (x == ("__debug__" : Str)) = false) (F : KOk W k x S n ns perm) (hk : kwB ns ks = true) (st : (a :: es).all noStar = true) (ha : PAW W E X (a :: es) wr) (hkw : PKW W E X ks wk) :
    PEW W E X (.Call (.Name x p) (a :: es) ks pos) (wCallK S n ns.length perm wr wk) := by
  obtain ⟨ta, pa, ea⟩ := ha
  obtain ⟨tk, pk, ek⟩ := hkw
  obtain ⟨fa, fd, ps, F, hm, hkp, hb⟩ := F
  have st0 := star_none (pos := pos) (env := X.env) st
  rw [List.all_cons, Bool.and_eq_true] at st
  obtain ⟨k1, k2, k3, k4⟩ := kwB_of (env := X.env) (cp := pos) hk
  refine ⟨_, ge_callN (n := n) (ks := ns) (gg := fun us ws => permL perm (us ++ ws)) (gV := fun vs zs => permL perm (vs ++ zs)) (E := E) (by rw [g.hP, g.hw, g.hK, g.hm, g.hb]; exact F) g.room g.gd (g.gl x hx) (by rw [g.hm]; exact hm) (by rw [g.hK]; exact hkp) (by rw [g.hK]; exact ⟨hb, fun r1 r2 => vals_perm (r1.append r2) perm⟩) (by have := g.px; rw [g.hP, g.hw] at this; exact this) pa pk k1 k2 hdb (star_is st.1) (by rw [st0, k3]; rfl), ev_callK ea ek⟩
theorem ew_callK0 {ks : List Keyword} {ns : List Str} {x : Str} {S : FSpec} {perm : List Nat} {wk : WA} (g : Good W N sc k E X) (hx : glB sc x = true) (hdb : (x == ("__debug__" : Str)) = false) (F : KOk W k x S 0 ns perm) (hk : kwB ns ks = true) (hkw : PKW W E X ks wk) :
    PEW W E X (.Call (.Name x p) [] ks pos) (wCallK S 0 ns.length perm wNil wk) := by
  obtain ⟨tk, pk, ek⟩ := hkw
  obtain ⟨fa, fd, ps, F, hm, hkp, hb⟩ := F
  obtain ⟨k1, k2, k3, k4⟩ := kwB_of (env := X.env) (cp := pos) hk
  refine ⟨_, ge_callN0 (gg := fun us ws => permL perm (us ++ ws)) (gV := fun vs zs => permL perm (vs ++ zs)) (E := E) (by rw [g.hP, g.hw, g.hK, g.hm, g.hb]; exact F) g.room g.gd (g.gl x hx) (by rw [g.hm]; exact hm) (by rw [g.hK]; exact hkp) (by rw [g.hK]; exact ⟨hb, fun r1 r2 => vals_perm (r1.append r2) perm⟩) (by have := g.px; rw [g.hP, g.hw] at this; exact this) pk k1 k2 k3 hdb, ev_callK ?_ ek⟩
  intro Hd H0 A H σ δ K Xp Q e hw q x
  exact q [] H [] (Kx.refl H) e.st .nil hw
/-! methods: the receiver is the first positional value -/
def MKOk (W : Wd) (k : Nat) (c m : Str) (S : FSpec) (n : Nat) (ks : List Str) (perm : List Nat) : Prop := ∃ (C fa : Addr) (fd : FuncData) (ps : List Str), W.cl c = some C ∧ Cls W.K C ∧ Meth W.K C m fa ∧ FnG W.P W.w W.K W.mg W.base (L2.CX W.P W.w) k fa fd ps (spOf W S) ∧ KB W.K fd ps (n + 1) ks perm
theorem MKOk.mono {j : Nat} {c m : Str} {S : FSpec} {n : Nat} {ks : List Str} {perm : List Nat} (h : MKOk W j c m S n ks perm) (hj : j ≤ k) : MKOk W k c m S n ks perm := by
  obtain ⟨C, fa, fd, ps, h1, h2, h3, h4, h5⟩ := h
  exact ⟨C, fa, fd, ps, h1, h2, h3, h4.mono hj, h5⟩
def wMethK (c m : Str) (S : FSpec) (n l : Nat) (perm : List Nat) (wo : WE) (wr wk : WA) : WE := fun δ K X => wo δ (fun r => (∃ fs, r.d = .ins c fs ∧ fs.lookup m = none) ∧ wr δ (fun rs => wk δ (fun zs => rs.length = n ∧ zs.length = l ∧ callS S (permL perm (r :: rs ++ zs)) K X) X) X) X
theorem kw_tree {m : Str} {args : List Expr} {ks : List Keyword} {env : PySem.Env} (hbase : attributeBase o m env (eval o env) = eval o env)
    (hfew : ((backTo pos (starEach args env)).all (fun x => !x.1) && (backToKw pos (keywordEach ks env)).all (fun x => x.1.isSome)
      && decide (args.length + ks.length + (if (backToKw pos (keywordEach ks env)).isEmpty then 0 else 1) < 30)) = true)
    (hline : (apos.endLine == pos.line) = true) : eval (.Call (.Attribute o m apos) args ks pos) env = (do
      let ov ← eval o env
      standAt apos.atName
      let (f, first) ← holding [ov] (getMethod ov m (do return (← importBound o env).getD true))
      callWith pos f first (backTo pos (starEach args env)) (backToKw pos (keywordEach ks env))) := by
  rw [arm_eval_Call, hbase]
  have hform : methodCallForm (args.length + ks.length) (backTo pos (starEach args env)) (backToKw pos (keywordEach ks env)) = true := hfew
  have hpos : methodCallPos true o env apos pos = pure pos := by unfold methodCallPos; simp [hline]
  unfold methodCall
  rw [hform]
  simp only [hpos, calleeOf]
  rfl
theorem ew_methK0 {ks : List Keyword} {ns : List Str} {c m : Str} {S : FSpec} {perm : List Nat} {wk : WA} (g : Good W N sc k E X) (hbo : baseOk o = true) (hln : (apos.endLine == pos.line) = true) (M : MKOk W k c m S 0 ns perm) (hk : kwB ns ks = true) (hl : ks.length < 20) (ho : PEW W E X o wo) (hkw : PKW W E X ks wk) :
    PEW W E X (.Call (.Attribute o m apos) [] ks pos) (wMethK c m S 0 ns.length perm wo wNil wk) := by
  obtain ⟨to, po, eo⟩ := ho
  obtain ⟨tk, pk, ek⟩ := hkw
  obtain ⟨C, fa, fd, ps, h1, h2, h3, F, hb⟩ := M
  obtain ⟨k1, k2, k3, k4⟩ := kwB_of (env := X.env) (cp := pos) hk
  have few : ((backTo pos (starEach [] X.env)).all (fun x => !x.1) && (backToKw pos (keywordEach ks X.env)).all (fun x => x.1.isSome) && decide (([] : List Expr).length + ks.length + (if (backToKw pos (keywordEach ks X.env)).isEmpty then 0 else 1) < 30)) = true := by
    rw [k1]
    show (true && true && decide _) = true
    rw [decide_eq_true]; · rfl
    show 0 + ks.length + _ < 30
    split <;> omega
  refine ⟨_, ge_methN0 (gg := fun us ws => permL perm (us ++ ws)) (gV := fun vs zs => permL perm (vs ++ zs)) (E := E) po (by rw [g.hK]; exact h2) (by rw [g.hK]; exact h3) (by rw [g.hP, g.hw, g.hK, g.hm, g.hb]; exact F) g.room g.gd (by rw [g.hK]; exact ⟨hb, fun r1 r2 => vals_perm (r1.append r2) perm⟩) (by have := g.px; rw [g.hP, g.hw] at this; exact this) pk k1 k2 k3 (kw_tree (base_of hbo) few hln), ?_⟩
  intro Hd H0 A H σ δ K Xp Q e hw q x
  refine eo Hd H0 A H σ δ _ Xp _ e hw (fun v H1 r e1k s1 rr ⟨⟨fs, hd, hl⟩, hh⟩ => ?_) x
  obtain ⟨z, C', dx, vs, rfl, hc, hz, hF⟩ := rr.ins hd
  have : C = C' := by have := hc.1; rw [h1] at this; exact Option.some.inj this
  subst this
  refine ⟨z, dx, vs, rfl, hz, (hF.look (f := m)).2 hl, ?_⟩
  have e1 := e.keep e1k s1
  refine ek Hd H0 A H1 σ δ _ Xp _ e1 hh (fun us H2 zs k5 s2 r2 h5 => ?_) (x.keep e1k)
  obtain ⟨l1, l2, h6⟩ := h5
  exact ⟨rfl, by rw [r2.len]; exact l2, sp_call (e1.keep k5 s2) (((RepRs.cons (rr.opn.keep e1 k5) .nil).append r2).perm perm) h6 ((q.from e1k s1).from k5 s2) ((x.keep e1k).keep k5)⟩
end
end G
set_option maxRecDepth 100000
set_option maxHeartbeats 4000000
namespace G
open PySem PySem.Spec PyProof.Rows L2
/-! ### x, *ys = a tuple -/
section
variable {prog : Program} {w : World} {A : Around} {E : Value → Shared → Prop} {s : Shared}
theorem walk_tupIter {it t : Addr} {items : Array Value} {k : Nat} (hh : A.handled = none) (hne : t ≠ it) (hk : k ≤ items.size) :
    WalksS prog w A it [it, t] [it] (fun a b => b = a) (items.size - k) (fun i v => items[i + k]? = some v) (fun i s => IsTupIter s.heap it t (i + k) ∧ IsTup s.heap t items) where
  sub := fun b hb => by rw [List.mem_singleton.mp hb]; simp
  grefl := fun _ => rfl
  gtrans := fun _ _ _ h1 h2 => h2.trans h1
  frame := fun i s h' tk st _ hk => by
    obtain ⟨⟨o, ho, r⟩, ⟨o2, ho2, r2⟩⟩ := st
    exact ⟨⟨o, hk it (by simp) o ho, r⟩, ⟨o2, hk t (by simp) o2 ho2, r2⟩⟩
  item := fun i s Q E hi st hQ => by
    obtain ⟨h1, h2⟩ := st
    have hlt : i + k < items.size := by omega
    refine next_tuple_item h1 h2 (x := items[i + k]) (by simp [hlt]) fun h' a1 a2 => ?_
    refine hQ _ _ (by simp [hlt]) ⟨by rw [show i + 1 + k = i + k + 1 by omega]; exact a1, h2.extBut a2.extBut hne⟩ ⟨fun b o hb e => ?_, rfl, rfl, rfl, Nat.le_refl _⟩
    exact a2.extBut b o (fun z => hb (by simp [z])) e
  done := fun s Q E st hQ => by
    obtain ⟨h1, h2⟩ := st
    refine next_tuple_end hh h1 h2 (by simp; omega) fun h' a2 => hQ _ ⟨fun b o hb e => a2 b o (fun z => hb (by simp [z])) e, rfl, rfl, rfl, Nat.le_refl _⟩
  self := fun i s Q E st hQ => by
    obtain ⟨h1, h2⟩ := st
    refine wpAny_pyIter_slot h1.typeIs F.slot_tuple_iterator_iter (wpAny_call_entry F.slot_tuple_iterator_iter h1.typeIs F.entry_tuple_iterator_iter ?_ (F.args_tuple_iterator_iter_1 _))
    exact wpAny_pure ⟨_, rfl, _, _, h1.typeIs, F.slot_tuple_iterator_next.lookup, hQ⟩
theorem unpack_star {t : Addr} {items : Array Value} {Q : List Value → Shared → Prop} (hh : A.handled = none) (ht : IsTup s.heap t items) (h1 : 1 ≤ items.size) (hn : items.size ≤ sizeLine)
    (hQ : ∀ (h' : Heap) (tk : Nat), (∀ b o, s.heap.get? b = some o → h'.get? b = some o) → Q [items[0], .ref h'.objs.size] { s with heap := h'.push { cls := .type "list", data := .seq (items.toList.drop 1).toArray }, toks := tk }) :
    wpAny (model prog w) A (unpackItems (.ref t) 2 (some 1)) Q E s := by
  have hlt : t ≠ s.heap.objs.size := by obtain ⟨o, ho, _⟩ := ht; exact Nat.ne_of_lt (Heap.lt_size ho)
  unfold unpackItems
  refine wpAny_bind ?_
  · unfold notIterableAtAll
    refine wpAny_bind (wpAny_specialOf ht.typeIs slot_tuple_iter.lookup ?_)
    refine wpAny_pure ?_
    simp only [Bool.false_eq_true, if_false]
    refine wpAny_bind (wpAny_holding (iter_tuple ht ?_))
    refine wpAny_bind (wpAny_holding (draw_tuple hlt 1 0 _ _ ⟨_, Heap.get?_push_size _ rfl, rfl, rfl⟩ (ht.push _) (by omega) fun h₁ hit₁ hs₁ => ?_))
    have hall : List.take 1 (List.drop 0 items.toList) = [items[0]] := by
      rw [List.drop_zero, List.take_one]
      simp [List.head?_eq_getElem?, h1]
    rw [hall]
    rw [if_neg (by simp)]
    have ht₁ : IsTup h₁ t items := (ht.push _).extBut hs₁.extBut hlt
    have hz : s.heap.objs.size < h₁.objs.size := by
      obtain ⟨o, ho, _⟩ := hit₁
      exact Heap.lt_size ho
    refine wpAny_bind (wpAny_holding (wpAny_collect_iter (T := "tuple_iterator") (.inr (.inr (.inr rfl))) (walk_tupIter (A := A.in1) (k := 1) hh hlt h1) (fun i s st => st.1.typeIs) ⟨by simpa using hit₁, ht₁⟩ ?_ (by simp) ?_ (by omega)))
    · intro b hb
      rcases List.mem_cons.mp hb with rfl | hb
      · exact hz
      · rw [List.mem_singleton] at hb
        subst hb
        obtain ⟨o, ho, _⟩ := ht₁
        exact Heap.lt_size ho
    · intro s' acc hm hacc
      have hl : acc.toList = items.toList.drop 1 := by
        have hsz : acc.toList.length = items.size - 1 := by rw [Array.length_toList]; exact hacc.1
        refine List.ext_getElem (by rw [hsz]; simp) fun j h1 h2 => ?_
        have hj : j < acc.size := by rw [Array.length_toList] at h1; exact h1
        have : items[j + 1]? = some acc[j] := hacc.2 j acc[j] (by simp [hj])
        simp only [List.getElem_drop, Array.getElem_toList]
        have hj2 : j + 1 < items.size := by have := hacc.1; omega
        rw [Array.getElem?_eq_getElem hj2] at this
        have := Option.some.inj this
        rw [← this]
        congr 1
        omega
      rw [hl, if_neg (by simp)]
      have hlen : (items.toList.drop 1).length = items.size - 1 := by simp
      have e1 : (items.toList.drop 1).take ((items.toList.drop 1).length - (2 - 1 - 1)) = items.toList.drop 1 := List.take_of_length_le (by omega)
      have e2 : (items.toList.drop 1).drop ((items.toList.drop 1).length - (2 - 1 - 1)) = [] := List.drop_of_length_le (by omega)
      rw [e1, e2]
      refine wpAny_bind (wpAny_newList ?_ (by omega))
      have es : s' = { s with heap := s'.heap, toks := s'.toks } := by
        obtain ⟨_, g, d, o, _⟩ := hm
        obtain ⟨hp, gg, dd, tk, os⟩ := s'
        cases g; cases d; cases o
        rfl
      rw [es]
      have kp : ∀ b o, s.heap.get? b = some o → s'.heap.get? b = some o := fun b o e => by
        have hb : b ≠ s.heap.objs.size := Nat.ne_of_lt (Heap.lt_size e)
        exact hm.heap b o (by simpa using hb) (hs₁.extBut b o hb (Heap.get?_push_of_some _ e))
      exact wpAny_pure (hQ s'.heap s'.toks kp)
end
section
variable {W : Wd} {Hd : Addr → Prop} {H0 H : Hp} {A : Nat → Option Addr} {σ : St} {δ : Env} {X : Cx} {E : XK} {N : List Str} {sc : Scope} {k : Nat}
/-- x, *y = .. : a name, then a name with a star -/
def gStar (K : PySem.W.Frag) (i j : Nat) : TG := fun v σ H Q => ∃ a x xs, v = .ref a ∧ SqT K H a (x :: xs) ∧ ∀ p, H p = none → Q ((σ.set i (some x)).set j (some (.ref p))) (upd H p (.lst xs))
theorem pg_star {i j : Nat} {x y : Str} {px py ps pt : Pos} {kt : Nat} (hc : X.calm = true) (hN : X.N.Nodup) (hi : X.N[i]? = some x) (hx : Loc X.env.scope x) (fx : X.fn x = true ∨ X.env.scope.names.lookup x = some .local) (hj : X.N[j]? = some y) (hy : Loc X.env.scope y) (fy : X.fn y = true ∨ X.env.scope.names.lookup y = some .local) :
    PG X (.Tuple [.Name x px, .Starred (.Name y py) ps] kt pt) (gStar X.K i j) := by
  refine ⟨fun pins s σ H v u Q I r hw => ?_⟩
  obtain ⟨a, x1, xs, e1, hq, hw⟩ := hw
  subst e1
  cases r
  obtain ⟨its, rv, ht, hz⟩ := I.tuple hq
  have hl : its.length = xs.length + 1 := by rw [← rv.length]; rfl
  rw [assign_Tuple]
  refine wpAny_bind (wpAny_standAt ?_)
  unfold unpack
  have ea : assignEach [.Name x px, .Starred (.Name y py) ps] X.env = [(false, assign (.Name x px) X.env), (true, assign (.Name y py) X.env)] := by rfl
  rw [ea]
  refine wpAny_bind (wpAny_holding (unpack_star (I.ok.hd hc) ht (by simp; omega) (by simp; rw [← rv.length]; exact hz) fun h' tk hk => ?_))
  cases rv with
  | cons r1 rr =>
    rename_i u1 us
    have I1 : Inv X pins σ H { s with heap := h', toks := tk } := I.kept hk
    have I2 : Inv X pins σ (upd H h'.objs.size (.lst xs)) { s with heap := h'.push { cls := .type "list", data := .seq us.toArray }, toks := tk } :=
      I1.laid (t' := tk) (fun b o e => Heap.get?_push_of_some _ e) (Nat.le_refl _) (show ObjOk X.prog X.w _ _ _ (.lst _) from ⟨by rw [List.length_cons] at hz; omega, us, 0, rr, Heap.get?_push_size _ rfl⟩)
    have hp : H h'.objs.size = none := I1.hok.fresh (Nat.le_refl _)
    show wpAny _ _ (assignInOrder [assign (.Name x px) X.env, assign (.Name y py) X.env] [u1, .ref h'.objs.size]) _ _ _
    refine assignInOrder_cons (thn ((pg_name (pos := px) hN hi hx fx).run pins _ σ _ x1 u1 (fun σ' H' => σ' = σ.set i (some x1) ∧ H' = upd H h'.objs.size (.lst xs)) I2 r1 ⟨rfl, rfl⟩) fun _ s1 ⟨σ1, H1, I3, e1, e2⟩ => ?_)
    subst e1; subst e2
    exact assignInOrder_cons (thn ((pg_name (pos := py) hN hj hy fy).run pins s1 _ _ (.ref h'.objs.size) (.ref h'.objs.size) Q I3 rfl (hw _ hp)) fun _ s2 q => assignInOrder_nil q)
/-- the slots behind x, *y = a tuple -/
def wUnpS (i j : Nat) (ow : Bool) (wa : WE) : WS := fun δ p => i ≠ j ∧ wa δ (fun r => ∃ d ds, r.d = .tup (d :: ds) ∧ ∃ δ', asg1 j ow (.own (.lst ds)) (δ.set i (.fz d)) = some δ' ∧ p.nx δ') p.ex
theorem sw_unpS {i j : Nat} {ow : Bool} {x y : Str} {px py ps pt pos : Pos} {kt : Nat} {a : Expr} {wa : WE} (g : Good W N sc k E X) (hi : N[i]? = some x) (hx : locB sc x = true) (hj : N[j]? = some y) (hy : locB sc y = true) (hc : noComp a = true) (hn : noTuple a = true) (ha : PEW W E X a wa) :
    PSW W E X (.Assign [.Tuple [.Name x px, .Starred (.Name y py) ps] kt pt] a pos) (wUnpS i j ow wa) := by
  obtain ⟨ta, pa, ea⟩ := ha
  refine ⟨_, ps_asg pa (pg_star g.calm (by rw [g.hN]; exact g.nd) (by rw [g.hN]; exact hi) (g.loc x hx).1 (g.loc x hx).2 (by rw [g.hN]; exact hj) (g.loc y hy).1 (g.loc y hy).2) (by rw [swapsWithSole]; exact swaps_no hc) (swapped_no hn) (by rw [assignEach_is rfl]; rfl), ?_⟩
  rw [g.hK]
  intro Hd H0 A H σ δ p D e hw l
  obtain ⟨hij, hw⟩ := hw
  refine ea Hd H0 A H σ δ _ _ _ e hw (fun v H' r k s rr h => ?_) (l.x e)
  obtain ⟨d, ds, hd, δ', h1, h2⟩ := h
  obtain ⟨z, vs, rfl, hz, hr⟩ := rr.tup hd
  rw [RepL] at hr
  obtain ⟨v1, vr, rfl, r1, r2⟩ := hr
  refine ⟨z, v1, vr, rfl, hz, fun q hq => ?_⟩
  have e1 := e.keep k s
  have e2 := e1.setF (i := i) r1
  have sub : Kp (fz (Rsv W Hd A) H') (fz (Rsv W Hd (dropL A [i])) H') := fz_kp fun y o n w => ⟨fun rr => n (by
    rcases rr with rr | rr | ⟨m, rr⟩
    · exact .inl rr
    · exact .inr (.inl rr)
    · unfold dropL at rr
      split at rr
      · cases rr
      · exact .inr (.inr ⟨m, rr⟩)), w⟩
  obtain ⟨A', e3⟩ := asg1_ok e2 (Ex.new hq).kx (e2.st.kp (Ex.new hq)) (RepR.newL e2 hq (r2.mono sub.ex)) h1
  exact l.nx A' _ _ δ' e3 h2
end
end G
set_option maxRecDepth 100000
set_option maxHeartbeats 4000000
namespace G
open PySem PySem.Spec PyProof.Rows L2
section
variable {W : Wd} {Hd : Addr → Prop} {H0 H : Hp} {A : Nat → Option Addr} {σ : St} {δ : Env} {X : Cx} {E : XK} {N : List Str} {sc : Scope} {k : Nat}
variable {a b c : Expr} {wa wb wc : WE} {pos p : Pos}
/-! ### d[k] += e, a slot's own dict of numbers -/
def wAugD (i : Nat) (wk wa : WE) : WS := fun δ p => ∃ kds, δ[i]? = some (.ow (.dic kds)) ∧ wk δ (fun rk => ∃ kk n, keyD rk.d = some kk ∧ getK kds kk = some (.int n) ∧ wa δ (fun r => ∃ m, r.d = .int m ∧ kds.length < big ∧ p.nx (δ.set i (.ow (.dic (putD kds kk (.int (n + m))))))) p.ex) p.ex
theorem aug_sub (h : noSlice b = true) : ∀ ov iv new, augStore b ov iv new = (do holding [new, ov, iv] (setItem ov iv new); release [new, ov, iv] []; pure .next) := by
  intro ov iv new
  cases b <;> first | rfl | cases h
theorem sw_augD {i : Nat} {x : Str} {p1 p2 : Pos} (g : Good W N sc k E X) (hi : N[i]? = some x) (hv : visB sc x = true) (hd : (x == ("__debug__" : Str)) = false) (hcd : (x == ("__classdict__" : Str)) = false) (hn : noSlice b = true) (hb : PEW W E X b wb) (ha : PEW W E X a wa) :
    PSW W E X (.AugAssign (.Subscript (.Name x p1) b p2) .Add a pos) (wAugD i wb wa) := by
  obtain ⟨ta, pa, ea⟩ := ha
  obtain ⟨tb, pb, eb⟩ := hb
  have pv : PE X (.Name x p1) (tVar i) := pe_var (by rw [g.hN]; exact hi) (g.vis x hv) hd hcd
  refine ⟨_, ps_daug (hu_of g.room) pv pb pa in_add (aug_sub hn), ?_⟩
  intro Hd H0 A H σ δ p D e hw l
  obtain ⟨kds, hδ, hw⟩ := hw
  obtain ⟨z, q1, q2, q3⟩ := e.sl i _ hδ
  refine ⟨.ref z, slot_get q2, eb Hd H0 A H σ δ _ _ _ e hw (fun u H1 rk k1 s1 r1 h1 => ?_) (l.x e)⟩
  have e1 := e.keep k1 s1
  obtain ⟨kk, n, hk, hg, h1⟩ := h1
  obtain ⟨z', w0, _, us, w1, w2⟩ := e1.sl i _ hδ
  rw [q1] at w0; cases w0
  obtain ⟨v, hv1, hv2⟩ := getK_some w2 hg
  rw [Rep] at hv2
  subst hv2
  have hkv := keyD_of r1.rd hk
  subst hkv
  refine ⟨z, _, rfl, by rw [← hv1]; exact DGet.k w1, ea Hd H0 A H1 σ δ _ _ _ e1 h1 (fun v2 H2 r k2 s2 r2 h2 => ?_) (l.x e1)⟩
  obtain ⟨m, hm, hl, hk2⟩ := h2
  cases r2.int hm
  have e2 := e1.keep k2 s2
  obtain ⟨z', w0, _, us2, w3, w4⟩ := e2.sl i _ hδ
  rw [q1] at w0; cases w0
  have e3 := e2.updO q1 hδ (show Top W (fz (Rsv W Hd A) H2) (upd H2 z (.dK (putK us2 kk (.int (n + m))))) (.dic (putD kds kk (.int (n + m)))) z from ⟨_, upd_same, w4.put (by rw [Rep])⟩)
  exact ⟨n, m, rfl, rfl, _, .inl ⟨us2, kk, w3, rfl, by rw [w4.length]; exact big_lt (by omega), rfl⟩, l.nx A _ σ _ e3 hk2⟩
end
end G
set_option maxRecDepth 100000
set_option maxHeartbeats 4000000
namespace G
open PySem PySem.Spec PyProof.Rows L2
/-! ### repr -/
def kP : Key → PyData
  | .inl i => .int i
  | .inr s => .str s
def keyRp : Key → Bool
  | .inl i => decide (i.natAbs.log2 < 1920)
  | .inr s => PyData.strOk s
mutual
/-- data as repr shows it -/
def pyR : D → PyData
  | .bl b => .bool b
  | .int i => .int i
  | .str s => .str s
  | .lst xs => .list (pyRL xs)
  | .tup xs => .tuple (pyRL xs)
  | .dic kvs => .dict (pyRK kvs)
  | _ => .none
def pyRL : List D → List PyData
  | [] => []
  | x :: xs => pyR x :: pyRL xs
def pyRK : List (Key × D) → List (PyData × PyData)
  | [] => []
  | (k, d) :: r => (kP k, pyR d) :: pyRK r
end
mutual
/-- may be shown, of depth at most n; l: lists may stand there, e: dicts may -/
def rp (l e : Bool) : Nat → D → Bool
  | _, .non => true
  | _, .bl _ => true
  | _, .int i => decide (i.natAbs.log2 < 1920)
  | _, .str _ => true
  | n, .lst xs => match n with
    | 0 => false
    | m + 1 => l && rpL l e m xs
  | n, .tup xs => match n with
    | 0 => false
    | m + 1 => rpL l e m xs
  | n, .dic xs => match n with
    | 0 => false
    | m + 1 => e && rpK l e m xs
  | _, .ins _ _ => false
  | _, .st _ => false
  | _, .stc _ => false
  | _, .scr _ => false
def rpL (l e : Bool) : Nat → List D → Bool
  | _, [] => true
  | n, x :: xs => rp l e n x && rpL l e n xs
def rpK (l e : Bool) : Nat → List (Key × D) → Bool
  | _, [] => true
  | n, (k, x) :: xs => keyRp k && rp l e n x && rpK l e n xs
end
section
variable {W : Wd} {H : Hp} {X : Cx} {pins : List (Addr × Obj)} {σ : St} {s : Shared} {l e : Bool}
structure Shw (s : Shared) (l e : Bool) (n : Nat) (u : Value) (d : PyData) (as : List Addr) : Prop where
  r : Reads s.heap u d as
  nl : l = false → sysModules ∉ as
  sh : d.showable = true
  dp : d.depth ≤ n
  nd : e = false → d.hasDict = false
structure ShwL (s : Shared) (l e : Bool) (n : Nat) (us : List Value) (ds : List PyData) (as : List Addr) : Prop where
  r : ReadsAll s.heap us ds as
  nl : l = false → sysModules ∉ as
  sh : PyData.showableAll ds = true
  dp : PyData.depthAll ds ≤ n
  nd : e = false → PyData.hasDictAll ds = false
theorem nmem_app {a : Addr} {as bs : List Addr} (h1 : a ∉ as) (h2 : a ∉ bs) : a ∉ as ++ bs := fun q => by
  rcases List.mem_append.mp q with q | q
  · exact h1 q
  · exact h2 q
theorem keys_rd {h : Heap} : ∀ {es : List DictEntry} {vs : List (Key × Value)} {kds : List (Key × D)} {n : Nat}, Pairs (mixKind X.prog X.w) es vs → vs.map (·.1) = kds.map (·.1) → rpK l e n kds = true → ReadsAll h (es.map (·.key)) ((pyRK kds).map (·.1)) [] ∧ PyData.showableAll ((pyRK kds).map (·.1)) = true ∧ PyData.depthAll ((pyRK kds).map (·.1)) = 0
  | [], [], [], _, _, _, _ => ⟨by rw [pyRK]; exact .nil, rfl, rfl⟩
  | [], [], _ :: _, _, _, h, _ => by cases h
  | _, _ :: _, [], _, _, h, _ => by cases h
  | _ :: _, _ :: _, (kk, d) :: kds, n, .cons h1 h2 t, h, hr => by
    rw [List.map_cons, List.map_cons] at h
    injection h with e1 e2
    rw [rpK, Bool.and_eq_true, Bool.and_eq_true] at hr
    obtain ⟨q1, q2, q3⟩ := keys_rd t e2 hr.2
    rw [pyRK, List.map_cons, List.map_cons]
    rw [e1] at h1
    rcases keyIs_shape h1 with ⟨i, t, ek, ev⟩ | ⟨z, t, ek, ev⟩
    · dsimp only at ek
      subst ek
      rw [ev]
      exact ⟨.cons (as := []) (.int i t) q1, by rw [PyData.showableAll, q2]; simpa [kP, PyData.showable, keyRp] using hr.1.1, by rw [PyData.depthAll, q3]; rfl⟩
    · dsimp only at ek
      subst ek
      rw [ev]
      exact ⟨.cons (as := []) (.str z t) q1, by rw [PyData.showableAll, q2]; rfl, by rw [PyData.depthAll, q3]; rfl⟩
theorem vals_fst : ∀ {es : List DictEntry} {vs : List (Key × Value)}, Pairs (mixKind X.prog X.w) es vs → es.map (·.val) = vs.map (·.2)
  | _, _, .nil => rfl
  | _, _, .cons h1 h2 t => by rw [List.map_cons, List.map_cons, h2, vals_fst t]
theorem depthKv_le : ∀ (kvs : List (PyData × PyData)) (n : Nat), PyData.depthAll (kvs.map (·.1)) ≤ n → PyData.depthAll (kvs.map (·.2)) ≤ n → PyData.depthKv kvs ≤ n
  | [], _, _, _ => by rw [PyData.depthKv]; exact Nat.zero_le _
  | (k, v) :: r, n, h1, h2 => by
    rw [List.map_cons, PyData.depthAll] at h1 h2
    dsimp only at h1 h2
    have := depthKv_le r n (by omega) (by omega)
    rw [PyData.depthKv]
    omega
theorem showKv : ∀ (kvs : List (PyData × PyData)), PyData.showableAll (kvs.map (·.1)) = true → PyData.showableAll (kvs.map (·.2)) = true → PyData.showableKv kvs = true
  | [], _, _ => by rw [PyData.showableKv]
  | (k, v) :: r, h1, h2 => by
    rw [List.map_cons, PyData.showableAll, Bool.and_eq_true] at h1 h2
    rw [PyData.showableKv, h1.1, h2.1, showKv r h1.2 h2.2]; rfl
mutual
theorem shw_of (I : Inv X pins σ H s) (hK : X.K = W.K) : ∀ (n : Nat) (d : D) {v : V} {u : Value}, rp l e n d = true → Rep W H d v → RelV v u → ∃ as, Shw s l e n u (pyR d) as
  | n, .non, v, u, _, h, r => by
    rw [Rep] at h; subst h; cases r
    exact ⟨[], .none, fun _ => by simp, rfl, Nat.zero_le _, fun _ => rfl⟩
  | n, .bl b, v, u, _, h, r => by
    rw [Rep] at h; subst h; cases r
    exact ⟨[], .bool b, fun _ => by simp, rfl, Nat.zero_le _, fun _ => rfl⟩
  | n, .int b, v, u, hs, h, r => by
    rw [Rep] at h; subst h
    obtain ⟨t, rfl⟩ := r
    rw [rp] at hs
    exact ⟨[], .int b t, fun _ => by simp, by rw [pyR, PyData.showable]; exact hs, Nat.zero_le _, fun _ => rfl⟩
  | n, .str b, v, u, _, h, r => by
    rw [Rep] at h
    obtain ⟨rfl, h⟩ := h
    obtain ⟨t, rfl⟩ := r
    exact ⟨[], .str b t, fun _ => by simp, rfl, Nat.zero_le _, fun _ => rfl⟩
  | 0, .lst xs, v, u, hs, h, _ => by rw [rp] at hs; cases hs
  | n + 1, .lst xs, v, u, hs, h, r => by
    rw [rp, Bool.and_eq_true] at hs
    rw [Rep] at h
    obtain ⟨a, vs, rfl, h1, h2⟩ := h
    cases r
    obtain ⟨its, rv, ⟨o, m, ho, hc, _, hd⟩, _⟩ := I.list (a := a) (xs := vs) (.of h1)
    obtain ⟨as, q⟩ := shwL_of I hK n xs hs.2 h2 rv
    rw [pyR]
    exact ⟨a :: as, .list ho hc hd (by simpa using q.r), fun z => (by rw [hs.1] at z; cases z), by rw [PyData.showable]; exact q.sh, by rw [PyData.depth]; have := q.dp; omega, fun z => by rw [PyData.hasDict]; exact q.nd z⟩
  | 0, .tup xs, v, u, hs, h, _ => by rw [rp] at hs; cases hs
  | n + 1, .tup xs, v, u, hs, h, r => by
    rw [rp] at hs
    rw [Rep] at h
    obtain ⟨a, vs, rfl, h1, h2⟩ := h
    cases r
    obtain ⟨its, rv, ⟨o, ho, hc, m, hd⟩, _⟩ := I.tuple (a := a) (xs := vs) (by rw [hK]; exact h1)
    obtain ⟨as, q⟩ := shwL_of I hK n xs hs h2 rv
    rw [pyR]
    exact ⟨as, .tuple ho hc hd (by simpa using q.r), q.nl, by rw [PyData.showable]; exact q.sh, by rw [PyData.depth]; have := q.dp; omega, fun z => by rw [PyData.hasDict]; exact q.nd z⟩
  | 0, .dic xs, v, u, hs, h, _ => by rw [rp] at hs; cases hs
  | n + 1, .dic xs, v, u, hs, h, r => by
    rw [rp, Bool.and_eq_true] at hs
    rw [Rep] at h
    obtain ⟨a, kvs, rfl, h1, h2⟩ := h
    cases r
    obtain ⟨_, lo, vs, rel, o, es, ep, ho, hc, hd, _, hp, _⟩ := dk_rd I.hok h1
    have hk : vs.map (·.1) = xs.map (·.1) := by rw [← rel.keys]; exact h2.keys
    obtain ⟨k1, k2, k3⟩ := keys_rd (h := s.heap) hp hk hs.2
    obtain ⟨bs, q⟩ := shwK_of I hK n xs hs.2 h2 rel
    rw [pyR]
    refine ⟨a :: [] ++ bs, .dict ho ?_ hd k1 (by rw [vals_fst hp]; exact q.r), fun z => ?_, by rw [PyData.showable]; exact showKv _ k2 q.sh, by rw [PyData.depth]; have := depthKv_le (pyRK xs) n (by omega) q.dp; omega, fun z => by rw [hs.1] at z; cases z⟩
    · exact hc.1
    · intro hm
      rcases List.mem_cons.mp hm with hm | hm
      · rw [← hm] at lo; simp at lo
      · exact q.nl z hm
  | n, .ins _ _, _, _, hs, _, _ => by rw [rp] at hs; cases hs
  | n, .st _, _, _, hs, _, _ => by rw [rp] at hs; cases hs
  | n, .stc _, _, _, hs, _, _ => by rw [rp] at hs; cases hs
  | n, .scr _, _, _, hs, _, _ => by rw [rp] at hs; cases hs
theorem shwL_of (I : Inv X pins σ H s) (hK : X.K = W.K) : ∀ (n : Nat) (ds : List D) {vs : List V} {us : List Value}, rpL l e n ds = true → RepL W H ds vs → Vals vs us → ∃ as, ShwL s l e n us (pyRL ds) as
  | n, [], vs, us, _, h, r => by
    rw [RepL] at h; subst h; cases r
    exact ⟨[], .nil, fun _ => by simp, rfl, Nat.zero_le _, fun _ => rfl⟩
  | n, d :: ds, vs, us, hs, h, r => by
    rw [rpL, Bool.and_eq_true] at hs
    rw [RepL] at h
    obtain ⟨v, vr, rfl, h1, h2⟩ := h
    cases r with
    | cons r1 r2 =>
      obtain ⟨as, q1⟩ := shw_of I hK n d hs.1 h1 r1
      obtain ⟨bs, q2⟩ := shwL_of I hK n ds hs.2 h2 r2
      rw [pyRL]
      exact ⟨as ++ bs, .cons q1.r q2.r, fun z => nmem_app (q1.nl z) (q2.nl z), by rw [PyData.showableAll, q1.sh, q2.sh]; rfl, by rw [PyData.depthAll]; have := q1.dp; have := q2.dp; omega, fun z => by rw [PyData.hasDictAll, q1.nd z, q2.nd z]; rfl⟩
theorem shwK_of (I : Inv X pins σ H s) (hK : X.K = W.K) : ∀ (n : Nat) (ds : List (Key × D)) {vs : List (Key × V)} {us : List (Key × Value)}, rpK l e n ds = true → RepK W H ds vs → KV vs us → ∃ as, ShwL s l e n (us.map (·.2)) ((pyRK ds).map (·.2)) as
  | n, [], vs, us, _, h, r => by
    rw [RepK] at h; subst h; cases r
    rw [pyRK]
    exact ⟨[], .nil, fun _ => by simp, rfl, Nat.zero_le _, fun _ => rfl⟩
  | n, (kk, d) :: ds, vs, us, hs, h, r => by
    rw [rpK, Bool.and_eq_true, Bool.and_eq_true] at hs
    rw [RepK] at h
    obtain ⟨v, vr, rfl, h1, h2⟩ := h
    cases r with
    | cons r1 r2 =>
      obtain ⟨as, q1⟩ := shw_of I hK n d hs.1.2 h1 r1.2
      obtain ⟨bs, q2⟩ := shwK_of I hK n ds hs.2 h2 r2
      rw [pyRK, List.map_cons, List.map_cons]
      exact ⟨as ++ bs, .cons q1.r q2.r, fun z => nmem_app (q1.nl z) (q2.nl z), by rw [PyData.showableAll, q1.sh, q2.sh]; rfl, (by have := q1.dp; have := q2.dp; show max (pyR d).depth (PyData.depthAll ((pyRK ds).map (·.2))) ≤ n; omega), fun z => by rw [PyData.hasDictAll, q1.nd z, q2.nd z]; rfl⟩
end
end
end G
set_option maxRecDepth 100000
set_option maxHeartbeats 4000000
namespace G
open PySem PySem.Spec PyProof.Rows L2
/-! ### what repr shows: fit and length -/
def okS1 (s : Str) : Prop := ∀ c ∈ s.cps.toList, c < 0x110000
theorem okS1_iff {s : Str} : PyData.strOk s = true ↔ okS1 s := by
  unfold PyData.strOk okS1
  rw [← Array.all_toList, List.all_eq_true]
  constructor
  · intro h c hc
    simpa using h c hc
  · intro h c hc
    simpa using h c hc
theorem okS1_app {s t : Str} (h1 : okS1 s) (h2 : okS1 t) : okS1 (s ++ t) := by
  intro c hc
  rw [Str.cps_append, Array.toList_append, List.mem_append] at hc
  exact hc.elim (h1 c) (h2 c)
theorem okS1_of (s : String) : okS1 (Str.ofString s) := by
  intro c hc
  rw [Str.ofString_eq_toList] at hc
  have hc' : c ∈ s.toList.map Char.toNat := by simpa using hc
  obtain ⟨ch, _, rfl⟩ := List.mem_map.mp hc'
  have := ch.valid
  rcases this with h | h
  · have : ch.toNat < 0xd800 := h
    omega
  · exact h.2
theorem okS1_join {sep : Str} (hs : okS1 sep) : ∀ {ts : List Str}, (∀ t ∈ ts, okS1 t) → okS1 (Str.join sep ts)
  | [], _ => by intro c hc; cases hc
  | [x], h => h x (by simp)
  | x :: y :: r, h => by
    have ih := okS1_join hs (ts := y :: r) fun t ht => h t (List.mem_cons_of_mem _ ht)
    rw [Str.join]
    · exact okS1_app (okS1_app (h x (by simp)) hs) ih
    · simp
theorem okS1_from : ∀ {ts : List Str} {k : Nat} {acc : Str}, okS1 acc → (∀ t ∈ ts, okS1 t) → okS1 (textFrom k acc ts)
  | [], _, _, h, _ => h
  | t :: r, k, acc, h, ht => by
    rw [textFrom]
    exact okS1_from (okS1_app (okS1_app h (okS1_of _)) (ht t (by simp))) fun u hu => ht u (List.mem_cons_of_mem _ hu)
theorem reprChar_ok {q c : Nat} (hq : q < 0x110000) (hc : c < 0x110000) : ∀ d ∈ Builtin.Str.reprChar q c, d < 0x110000 := by
  have hx : ∀ (w : Nat), ∀ d ∈ (List.replicate (w - ((Nat.toDigits 16 c).map Char.toNat).length) 48 ++ (Nat.toDigits 16 c).map Char.toNat), d < 0x110000 := by
    intro w d hd
    rcases List.mem_append.mp hd with h | h
    · rw [(List.mem_replicate.mp h).2]; decide
    · obtain ⟨ch, _, rfl⟩ := List.mem_map.mp h
      rcases ch.valid with h | h
      · have : ch.toNat < 0xd800 := h
        omega
      · exact h.2
  intro d hd
  unfold Builtin.Str.reprChar at hd
  dsimp only at hd
  have two : ∀ {a b : Nat}, a < 0x110000 → b < 0x110000 → ∀ d ∈ [a, b], d < 0x110000 := fun {a b} ha hb d hd => by
    rcases List.mem_cons.mp hd with rfl | hd
    · exact ha
    · rw [List.mem_singleton.mp hd]; exact hb
  split at hd
  · exact two (by decide) hc d hd
  split at hd
  · exact two (by decide) (by decide) d hd
  split at hd
  · exact two (by decide) (by decide) d hd
  split at hd
  · exact two (by decide) (by decide) d hd
  split at hd
  · rw [List.mem_singleton.mp hd]; exact hc
  split at hd
  · rcases List.mem_append.mp hd with hd | hd
    · exact two (by decide) (by decide) d hd
    · exact hx _ d hd
  split at hd
  · rcases List.mem_append.mp hd with hd | hd
    · exact two (by decide) (by decide) d hd
    · exact hx _ d hd
  · rcases List.mem_append.mp hd with hd | hd
    · exact two (by decide) (by decide) d hd
    · exact hx _ d hd
theorem foldl_ok {q : Nat} (hq : q < 0x110000) : ∀ (l : List Nat) (acc : Array Nat), (∀ c ∈ l, c < 0x110000) → (∀ c ∈ acc.toList, c < 0x110000) → ∀ c ∈ (l.foldl (fun out c => out ++ (Builtin.Str.reprChar q c).toArray) acc).toList, c < 0x110000
  | [], _, _, h => h
  | c :: r, acc, hl, h => by
    rw [List.foldl_cons]
    refine foldl_ok hq r _ (fun d hd => hl d (List.mem_cons_of_mem _ hd)) fun d hd => ?_
    rw [Array.toList_append, List.mem_append] at hd
    rcases hd with hd | hd
    · exact h d hd
    · exact reprChar_ok hq (hl c (by simp)) d (by simpa using hd)
theorem reprText_ok {s : Str} (h : okS1 s) : okS1 (reprText s) := by
  have hq : reprQuote s < 0x110000 := by unfold reprQuote; split <;> decide
  intro c hc
  unfold reprText at hc
  dsimp only at hc
  rw [Array.toList_push, List.mem_append, ← Array.foldl_toList] at hc
  rcases hc with hc | hc
  · refine foldl_ok hq _ _ h (fun d hd => ?_) c hc
    have : d = reprQuote s := by simpa using hd
    rw [this]
    exact hq
  · rw [List.mem_singleton.mp hc]; exact hq
/-! weights -/
def keyWt : Key → Nat
  | .inl _ => 1921
  | .inr s => 10 * s.length + 2
mutual
def wt : D → Nat
  | .non => 4
  | .bl _ => 5
  | .int _ => 1921
  | .str s => 10 * s.length + 2
  | .lst xs => wtL xs + 2
  | .tup xs => wtL xs + 3
  | .dic kvs => wtK kvs + 2
  | _ => 4
def wtL : List D → Nat
  | [] => 0
  | x :: xs => wt x + 2 + wtL xs
def wtK : List (Key × D) → Nat
  | [] => 0
  | (k, x) :: xs => keyWt k + wt x + 4 + wtK xs
end
theorem strLen_app {s t : Str} : (s ++ t).length = s.length + t.length := by
  show (s ++ t).cps.size = _
  rw [Str.cps_append, Array.size_append]
  rfl
theorem from_len : ∀ (ts : List Str) (k : Nat) (acc : Str), (textFrom k acc ts).length ≤ acc.length + (ts.map fun t => t.length + 2).sum
  | [], k, acc => by show acc.length ≤ _; simp
  | t :: r, k, acc => by
    rw [textFrom]
    have ih := from_len r (k + 1) (acc ++ (if k > 0 then ", " else "" : String) ++ t)
    rw [strLen_app, strLen_app] at ih
    have : (Str.ofString (if k > 0 then ", " else "")).length ≤ 2 := by split <;> decide
    rw [List.map_cons, List.sum_cons]
    omega
theorem join_len : ∀ (ts : List Str), (Str.join ", " ts).length ≤ (ts.map fun t => t.length + 2).sum
  | [] => Nat.zero_le _
  | [x] => by rw [Str.join]; simp
  | x :: y :: r => by
    have ih := join_len (y :: r)
    rw [Str.join, strLen_app, strLen_app, List.map_cons, List.sum_cons]
    · have : (Str.ofString ", ").length = 2 := by decide
      omega
    · simp
def shownD (d : D) : Str := (pyR d).shown
section
variable {W : Wd} {H : Hp} {l e : Bool}
structure Fit (s : Str) (n : Nat) : Prop where
  ok : okS1 s
  len : s.length ≤ n
structure FitL (ts : List Str) (n : Nat) : Prop where
  ok : ∀ t ∈ ts, okS1 t
  len : (ts.map fun t => t.length + 2).sum ≤ n
mutual
theorem fit_of : ∀ (n : Nat) (d : D) {v : V}, rp l e n d = true → Rep W H d v → Fit (pyR d).shown (wt d)
  | n, .non, v, _, _ => ⟨okS1_of _, by decide⟩
  | n, .bl b, v, _, _ => by cases b <;> exact ⟨okS1_of _, by decide⟩
  | n, .int b, v, hs, _ => by
    rw [rp, decide_eq_true_eq] at hs
    exact ⟨okS1_of _, int_text_len_1921 hs⟩
  | n, .str b, v, _, h => by
    rw [Rep] at h
    have hb := okS1_iff.mp h.2
    exact ⟨reprText_ok hb, StrLaws.reprText_len b fun c hc => Nat.lt_of_lt_of_le (hb c hc) (by decide)⟩
  | 0, .lst xs, v, hs, h => by rw [rp] at hs; cases hs
  | n + 1, .lst xs, v, hs, h => by
    rw [rp, Bool.and_eq_true] at hs
    rw [Rep] at h
    obtain ⟨a, vs, rfl, h1, h2⟩ := h
    have q := fitL_of n xs hs.2 h2
    rw [pyR, PyData.shown, listText, wt]
    refine ⟨okS1_app (okS1_from (okS1_of _) q.ok) (okS1_of _), ?_⟩
    rw [strLen_app]
    have := from_len (PyData.shownAll (pyRL xs)) 0 "["
    have := q.len
    have : (Str.ofString "[").length = 1 := by decide
    have : (Str.ofString "]").length = 1 := by decide
    omega
  | 0, .tup xs, v, hs, h => by rw [rp] at hs; cases hs
  | n + 1, .tup xs, v, hs, h => by
    rw [rp] at hs
    rw [Rep] at h
    obtain ⟨a, vs, rfl, h1, h2⟩ := h
    have q := fitL_of n xs hs h2
    rw [pyR, PyData.shown, tupleText, wt]
    refine ⟨okS1_app (okS1_app (okS1_of _) (okS1_join (okS1_of _) q.ok)) (okS1_of _), ?_⟩
    rw [strLen_app, strLen_app]
    have := join_len (PyData.shownAll (pyRL xs))
    have := q.len
    have : (Str.ofString "(").length = 1 := by decide
    have : (Str.ofString (if (PyData.shownAll (pyRL xs)).length == 1 then ",)" else ")")).length ≤ 2 := by split <;> decide
    omega
  | 0, .dic xs, v, hs, h => by rw [rp] at hs; cases hs
  | n + 1, .dic xs, v, hs, h => by
    rw [rp, Bool.and_eq_true] at hs
    rw [Rep] at h
    obtain ⟨a, vs, rfl, h1, h2⟩ := h
    have q := fitK_of n xs hs.2 h2
    rw [pyR, PyData.shown, dictText, wt]
    refine ⟨okS1_app (okS1_app (okS1_of _) (okS1_join (okS1_of _) q.ok)) (okS1_of _), ?_⟩
    rw [strLen_app, strLen_app]
    have := join_len (PyData.shownKv (pyRK xs))
    have := q.len
    have : (Str.ofString "{").length = 1 := by decide
    have : (Str.ofString "}").length = 1 := by decide
    omega
  | n, .ins _ _, _, hs, _ => by rw [rp] at hs; cases hs
  | n, .st _, _, hs, _ => by rw [rp] at hs; cases hs
  | n, .stc _, _, hs, _ => by rw [rp] at hs; cases hs
  | n, .scr _, _, hs, _ => by rw [rp] at hs; cases hs
theorem fitL_of : ∀ (n : Nat) (ds : List D) {vs : List V}, rpL l e n ds = true → RepL W H ds vs → FitL (PyData.shownAll (pyRL ds)) (wtL ds)
  | n, [], vs, _, h => by rw [pyRL, PyData.shownAll]; exact ⟨by simp, Nat.zero_le _⟩
  | n, d :: ds, vs, hs, h => by
    rw [rpL, Bool.and_eq_true] at hs
    rw [RepL] at h
    obtain ⟨v, vr, rfl, h1, h2⟩ := h
    have q1 := fit_of n d hs.1 h1
    have q2 := fitL_of n ds hs.2 h2
    rw [pyRL, PyData.shownAll, wtL]
    refine ⟨fun t ht => ?_, ?_⟩
    · rcases List.mem_cons.mp ht with rfl | ht
      · exact q1.ok
      · exact q2.ok t ht
    · rw [List.map_cons, List.sum_cons]
      have := q1.len
      have := q2.len
      omega
theorem fitK_of : ∀ (n : Nat) (ds : List (Key × D)) {vs : List (Key × V)}, rpK l e n ds = true → RepK W H ds vs → FitL (PyData.shownKv (pyRK ds)) (wtK ds)
  | n, [], vs, _, h => by rw [pyRK, PyData.shownKv]; exact ⟨by simp, Nat.zero_le _⟩
  | n, (k, d) :: ds, vs, hs, h => by
    rw [rpK, Bool.and_eq_true, Bool.and_eq_true] at hs
    rw [RepK] at h
    obtain ⟨v, vr, rfl, h1, h2⟩ := h
    have q1 := fit_of n d hs.1.2 h1
    have q2 := fitK_of n ds hs.2 h2
    have qk : Fit (kP k).shown (keyWt k) := by
      cases k with
      | inl i =>
        have := hs.1.1
        rw [keyRp, decide_eq_true_eq] at this
        exact ⟨okS1_of _, int_text_len_1921 this⟩
      | inr z =>
        have hb := okS1_iff.mp (show PyData.strOk z = true from hs.1.1)
        exact ⟨reprText_ok hb, StrLaws.reprText_len z fun c hc => Nat.lt_of_lt_of_le (hb c hc) (by decide)⟩
    rw [pyRK, PyData.shownKv, wtK]
    refine ⟨fun t ht => ?_, ?_⟩
    · rcases List.mem_cons.mp ht with rfl | ht
      · exact okS1_app (okS1_app qk.ok (okS1_of _)) q1.ok
      · exact q2.ok t ht
    · rw [List.map_cons, List.sum_cons, strLen_app, strLen_app]
      have := q1.len
      have := q2.len
      have := qk.len
      have : (Str.ofString ": ").length = 2 := by decide
      omega
end
/-! the call -/
variable {X : Cx}
def rRepr (W : Wd) : List V → Hp → VK → Prop := fun xs H Q => ∃ (v : V) (d : D) (l e : Bool), xs = [v] ∧ Rep W H d v ∧ rp l e 60 d = true ∧ (l = false ∨ e = false) ∧ wt d ≤ big ∧ Q (.str (shownD d)) H
theorem call_repr {k : Nat} (hK : X.K = W.K) (gd : noGd X.A) (hr : Room k X.A) : CallR X (.builtin "repr") (rRepr W) := by
  intro pins s σ H xs us Q I r h
  obtain ⟨v, d, l, e, rfl, hd, hp, hle, hw, q⟩ := h
  obtain ⟨u, rfl, ru⟩ : ∃ u, us = [u] ∧ RelV v u := by
    cases r with
    | cons r1 r2 => cases r2; exact ⟨_, rfl, r1⟩
  obtain ⟨as, S⟩ := shw_of (l := l) (e := e) I hK 60 d hp hd ru
  have F := fit_of 60 d hp hd
  have hz : (pyR d).shown.length ≤ sizeLine := Nat.le_trans F.len (Nat.le_trans hw (by decide))
  have un := hr.un
  have fin : ∀ (tk : Nat), EP X pins σ Q (.str (shownD d) s.toks) { s with toks := tk } := fun tk => ⟨.str (shownD d), H, I.kept (t' := tk) fun b o e => e, ⟨_, rfl⟩, q⟩
  cases d with
  | non =>
    rw [Rep] at hd; subst hd; cases ru
    exact PySem.P.repr_of_none (fin _)
  | bl b =>
    rw [Rep] at hd; subst hd; cases ru
    refine PySem.P.repr_of_bool ?_
    have := fin (s.toks + 1)
    cases b <;> exact this
  | int i =>
    rw [Rep] at hd; subst hd
    obtain ⟨t, rfl⟩ := ru
    rw [rp, decide_eq_true_eq] at hp
    exact PySem.P.repr_of_int hp (fin _)
  | str z =>
    rw [Rep] at hd
    obtain ⟨rfl, _⟩ := hd
    obtain ⟨t, rfl⟩ := ru
    exact PySem.P.repr_of_str (fin _) hz
  | lst xs =>
    rw [Rep] at hd
    obtain ⟨a, vs, rfl, _⟩ := hd
    cases ru
    refine repr_of_reads' S.r S.sh (fun hh => ?_) gd (by have := S.dp; omega) (fun _ _ e => e) (fun h' u tk hk => ⟨.str (shownD (.lst xs)), H, I.kept (t' := tk) hk, ⟨_, rfl⟩, q⟩) hz
    rcases hle with z | z
    · exact S.nl z
    · rw [S.nd z] at hh; cases hh
  | tup xs =>
    rw [Rep] at hd
    obtain ⟨a, vs, rfl, _⟩ := hd
    cases ru
    refine repr_of_reads' S.r S.sh (fun hh => ?_) gd (by have := S.dp; omega) (fun _ _ e => e) (fun h' u tk hk => ⟨.str (shownD (.tup xs)), H, I.kept (t' := tk) hk, ⟨_, rfl⟩, q⟩) hz
    rcases hle with z | z
    · exact S.nl z
    · rw [S.nd z] at hh; cases hh
  | dic xs =>
    rw [Rep] at hd
    obtain ⟨a, vs, rfl, _⟩ := hd
    cases ru
    refine repr_of_reads' S.r S.sh (fun hh => ?_) gd (by have := S.dp; omega) (fun _ _ e => e) (fun h' u tk hk => ⟨.str (shownD (.dic xs)), H, I.kept (t' := tk) hk, ⟨_, rfl⟩, q⟩) hz
    rcases hle with z | z
    · exact S.nl z
    · rw [S.nd z] at hh; cases hh
  | _ => rw [rp] at hp; cases hp
def reprS : List R → (R → Prop) → Prop := fun rs K => ∃ (x : R) (l e : Bool), rs = [x] ∧ rp l e 60 x.d = true ∧ (l = false ∨ e = false) ∧ wt x.d ≤ big ∧ K (.v (.str (shownD x.d)))
theorem cs_repr : CallS W (rRepr W) reprS := by
  intro Hd H0 A H σ δ rs vs K Q e rr hs q
  obtain ⟨x, l, e2, rfl, h1, h2, h3, hk⟩ := hs
  obtain ⟨v, rfl, r⟩ := rr.one
  exact ⟨v, x.d, l, e2, rfl, r.rd, h1, h2, h3, q.str e (okS1_iff.mpr (fit_of 60 x.d h1 r.rd).ok) hk⟩
end
end G
set_option maxRecDepth 100000
set_option maxHeartbeats 4000000
namespace G
open PySem PySem.Spec PyProof.Rows L2
/-! ### dict(zip(xs, ys)), two lists -/
section
variable {W : Wd} {N : List Str} {sc : Scope} {k : Nat} {E : XK} {X : Cx} {a b : Expr} {ta : TA} {p p' pos pos' : Pos} {wa wb : WE}
def tDz (K : PySem.W.Frag) (ta : TA) : TE := fun σ H Q => ta σ H fun vs H1 => ∃ (x y : Addr) (ks : List Key) (ys : List V), vs = [.ref x, .ref y] ∧ SqL K H1 x (ks.map kV) ∧ SqL K H1 y ys ∧ ks.length = ys.length ∧ ∀ q, H1 q = none → Q (.ref q) (upd H1 q (.dK (mergeK [] (ks.zip ys))))
/-- a zip object stands behind, nothing else has changed -/
def ZAt (s0 : Shared) (x y : Addr) (xs ys : Array Value) (v : Value) (s1 : Shared) : Prop := ∃ h', s1 = { s0 with heap := h' } ∧ v = .ref (s0.heap.objs.size + 4) ∧ (IsZip h' (s0.heap.objs.size + 4) (s0.heap.objs.size + 2) (s0.heap.objs.size + 3) .none ∧ IsPair h' (s0.heap.objs.size + 2) (.ref s0.heap.objs.size) (.ref (s0.heap.objs.size + 1)) ∧ (∃ c d, IsPair h' (s0.heap.objs.size + 3) c d) ∧ h'.IsListIter s0.heap.objs.size x 0 ∧ h'.IsListIter (s0.heap.objs.size + 1) y 0 ∧ h'.IsList x xs ∧ h'.IsList y ys) ∧ (∀ c o, s0.heap.get? c = some o → h'.get? c = some o)
theorem zip_made {pins : List (Addr × Obj)} {s : Shared} {σ : St} {H : Hp} {P : List V → Hp → Prop} (hg : Gl X "zip") (hm : X.mg "zip" = none) (ha : PA X [a, b] ta) (s1 : starEach [a, b] X.env = (false, eval a X.env) :: starEach [b] X.env) (s2 : (backTo pos (starEach [b] X.env)).any (·.1) = false)
    (I : Inv X pins σ H s) (h : ta σ H P) (hP : ∀ vs H1, P vs H1 → ∃ x y xs ys, vs = [.ref x, .ref y] ∧ SqL X.K H1 x xs ∧ SqL X.K H1 y ys) :
    wpAny (model X.prog X.w) X.A (eval (.Call (.Name "zip" p) [a, b] [] pos) X.env) (fun v s' => ∃ vs H1 s0 x y its its2, P vs H1 ∧ Inv X pins σ H1 s0 ∧ vs = [.ref x, .ref y] ∧ (∀ xs, SqL X.K H1 x xs → Vals xs its) ∧ (∀ ys, SqL X.K H1 y ys → Vals ys its2) ∧ x < s0.heap.objs.size ∧ y < s0.heap.objs.size ∧ ZAt s0 x y its.toArray its2.toArray v s') X.xe s := by
  refine Call_ (ld_blt I hg hm PyProof.Rows.boot_zip (PyProof.Rows.callWith_type1 (thn (ha.run pos pins s σ H _ I h) fun us s0 ⟨vs, H1, I1, r1, q1⟩ => ?_) s1 s2))
  obtain ⟨x, y, xs, ys, rfl, hx, hy⟩ := hP vs H1 q1
  cases r1 with
  | cons r rr =>
    cases rr with
    | cons r' rr =>
      cases rr
      cases r
      cases r'
      obtain ⟨its, rv, p1, _⟩ := I1.list hx
      obtain ⟨its2, rv2, p2, _⟩ := I1.list hy
      refine call_zip_2 p1.isList p2.isList fun h' hz hTI hTO h1 h2 _ hk => ?_
      refine ⟨_, H1, s0, x, y, its, its2, q1, I1, rfl, fun zs hzs => ?_, fun zs hzs => ?_, p1.lt, p2.lt, h', rfl, rfl, ⟨hz, hTI, ⟨_, _, hTO⟩, h1, h2, p1.isList.at fun o e => hk _ o e, p2.isList.at fun o e => hk _ o e⟩, hk⟩
      · rw [I1.list_inj hzs hx]; exact rv
      · rw [I1.list_inj hzs hy]; exact rv2
theorem vals_zip : ∀ {ks : List Key} {us : List Value} {ys : List V} {ws : List Value}, Vals (ks.map kV) us → Vals ys ws → ks.length = ys.length → KV (ks.zip ys) (ks.zip ws) ∧ ∀ (i : Nat) (u v : Value), us[i]? = some u → ws[i]? = some v → ∃ kk, (ks.zip ws)[i]? = some (kk, v) ∧ keyIs kk u = true
  | [], us, [], ws, h1, h2, _ => by
    cases h1; cases h2
    exact ⟨.nil, fun i u v h => by simp at h⟩
  | [], _, _ :: _, _, _, _, h => by cases h
  | _ :: _, _, [], _, _, _, h => by cases h
  | kk :: ks, us, y :: ys, ws, h1, h2, h => by
    cases h1 with
    | cons r1 t1 =>
      cases h2 with
      | cons r2 t2 =>
        obtain ⟨q1, q2⟩ := vals_zip t1 t2 (by simpa using h)
        refine ⟨.cons ⟨rfl, r2⟩ q1, fun i u v hu hv => ?_⟩
        cases i with
        | zero =>
          cases hu; cases hv
          refine ⟨kk, rfl, ?_⟩
          cases kk with
          | inl z => obtain ⟨t, rfl⟩ := r1; exact decide_eq_true rfl
          | inr z => obtain ⟨t, rfl⟩ := r1; exact decide_eq_true rfl
        | succ i => exact q2 i u v (by simpa using hu) (by simpa using hv)
theorem pe_dz (hc : X.calm = true) (hg : Gl X "dict") (hm : X.mg "dict" = none) (hz : Gl X "zip") (mz : X.mg "zip" = none) (ha : PA X [a, b] ta) (s1 : starEach [a, b] X.env = (false, eval a X.env) :: starEach [b] X.env) (s2 : (backTo pos (starEach [b] X.env)).any (·.1) = false) :
    PE X (.Call (.Name "dict" p') [.Call (.Name "zip" p) [a, b] [] pos] [] pos') (tDz X.K ta) := by
  refine ⟨fun pins s σ H Q I h => ?_⟩
  have zm := zip_made (p := p) hz mz ha s1 s2 I h fun vs H1 ⟨x, y, ks, ys, e1, e2, e3, _⟩ => ⟨x, y, _, _, e1, e2, e3⟩
  refine Call_ (ld_blt I hg hm PyProof.Rows.boot_dict (PyProof.Rows.callWith_type1 (args_cons (thn zm fun v s' ⟨vs, H1, s0, x, y, its, its2, q, I0, ev, v1, v2, lx, ly, h', es, ez, hz, hk⟩ => args_nil ?_) (star_is rfl)) (star_is rfl)))
  subst es; subst ez
  obtain ⟨x', y', ks, ys, ev', e2, e3, hl, q⟩ := q
  rw [ev] at ev'
  cases ev'
  obtain ⟨kv, hp⟩ := vals_zip (v1 _ e2) (v2 _ e3) hl
  have l1 := (v1 _ e2).length
  have l2 := (v2 _ e3).length
  rw [List.length_map] at l1
  obtain ⟨_, _, _, hzz⟩ := I0.list e3
  have hlen : (ks.zip its2).length = min its.toArray.size its2.toArray.size := by
    rw [List.length_zip, List.size_toArray, List.size_toArray, l1]
  refine PySem.call_dict_pairs (knd := mixKind X.prog X.w) (PairArg.zip _ _ _ _ _ _ _ (PySem.W.ktu_apart s0.heap.objs.size x y lx ly) its.toArray its2.toArray) (I.ok.hd hc) hz (kvs := ks.zip its2) ⟨hlen, fun i u v ⟨hu, hv⟩ => hp i u v (by simpa using hu) (by simpa using hv)⟩ (by rw [List.size_toArray, List.size_toArray]; omega) fun h2 tk hd hk2 => ?_
  have sz : s0.heap.objs.size ≤ h'.objs.size := by
    obtain ⟨o, ho, _⟩ := hz.2.2.2.1
    exact Nat.le_of_lt (Heap.lt_size ho)
  have keep : ∀ c o, s0.heap.get? c = some o → h2.get? c = some o := fun c o e => by
    have hlt := Heap.lt_size e
    refine hk2 c o (fun hmem => ?_) (hk c o e)
    simp only [List.mem_cons, List.not_mem_nil, or_false] at hmem
    rcases hmem with e1 | e1 | e1 | e1
    · rw [e1] at hlt; exact Nat.not_lt.mpr (Nat.le_add_right _ 4) hlt
    · rw [e1] at hlt; exact Nat.not_lt.mpr (Nat.le_add_right _ 3) hlt
    · rw [e1] at hlt; exact Nat.lt_irrefl _ hlt
    · rw [e1] at hlt; exact Nat.not_lt.mpr (Nat.le_add_right _ 1) hlt
  have hm0 : (h'.objs.size == sysModules) = false := beq_eq_false_iff_ne.mpr (Nat.ne_of_gt (Nat.lt_of_lt_of_le I0.big sz))
  have hln : (mergeK [] (ks.zip ys)).length ≤ sizeLine := by
    have := length_mergeK (ks.zip ys) []
    rw [List.length_zip, List.length_nil] at this
    omega
  exact ⟨.ref h'.objs.size, upd H1 h'.objs.size (.dK (mergeK [] (ks.zip ys))), I0.laid (t' := tk) keep sz (show ObjOk X.prog X.w _ _ _ (.dK (mergeK [] (ks.zip ys))) from ⟨hln, hm0, merged [] (ks.zip its2), KV.merge kv .nil, hd⟩), rfl, q _ (I0.hok.fresh sz)⟩
/-- the keys of a list of data -/
def keysD : List D → Option (List Key)
  | [] => some []
  | d :: r => match keyD d, keysD r with
    | some k, some ks => some (k :: ks)
    | _, _ => none
def wDz (wr : WA) : WE := fun δ K X => wr δ (fun rs => ∃ x y ds es ks, rs = [x, y] ∧ x.d = .lst ds ∧ y.d = .lst es ∧ keysD ds = some ks ∧ ks.length = es.length ∧ K (.own (.dic (mergeD [] (ks.zip es))))) X
theorem keys_vals {H : Hp} : ∀ {ds : List D} {vs : List V} {ks : List Key}, RepL W H ds vs → keysD ds = some ks → vs = ks.map kV
  | [], vs, ks, h, e => by rw [RepL] at h; rw [keysD] at e; cases e; exact h
  | d :: ds, vs, ks, h, e => by
    rw [RepL] at h
    obtain ⟨v, r, rfl, h1, h2⟩ := h
    rw [keysD] at e
    split at e
    · rename_i k ks' e1 e2
      cases e
      rw [keyD_of h1 e1, keys_vals h2 e2]; rfl
    · cases e
theorem RepK.zip {F : Hp} : ∀ {ks : List Key} {es : List D} {vs : List V}, RepL W F es vs → RepK W F (ks.zip es) (ks.zip vs)
  | [], _, _, _ => by show RepK W F [] []; rw [RepK]
  | k :: ks, [], vs, h => by rw [RepL] at h; subst h; show RepK W F [] []; rw [RepK]
  | k :: ks, e :: es, vs, h => by
    rw [RepL] at h
    obtain ⟨v, r, rfl, h1, h2⟩ := h
    show RepK W F ((k, e) :: ks.zip es) ((k, v) :: ks.zip r)
    rw [RepK]
    exact ⟨v, _, rfl, h1, RepK.zip h2⟩
theorem ew_dz (g : Good W N sc k E X) (hd : glB sc "dict" = true) (hz : glB sc "zip" = true) (md : W.mg "dict" = none) (mz : W.mg "zip" = none) (st : [a, b].all noStar = true) {wr : WA} (ha : PAW W E X [a, b] wr) :
    PEW W E X (.Call (.Name "dict" p') [.Call (.Name "zip" p) [a, b] [] pos] [] pos') (wDz wr) := by
  obtain ⟨ta, pa, ea⟩ := ha
  rw [List.all_cons, Bool.and_eq_true] at st
  refine ⟨_, pe_dz g.calm (g.gl _ hd) (by rw [g.hm]; exact md) (g.gl _ hz) (by rw [g.hm]; exact mz) pa (star_is st.1) (star_none st.2), ?_⟩
  rw [g.hK]
  intro Hd H0 A H σ δ K Xp Q e hw q x
  refine ea Hd H0 A H σ δ _ Xp _ e hw (fun vs H1 rs k1 s1 r1 h1 => ?_) x
  obtain ⟨x1, y1, ds, es, ks, rfl, h2, h3, h4, h5, hk⟩ := h1
  cases r1 with
  | cons a1 t1 =>
    cases t1 with
    | cons a2 t2 =>
      cases t2
      obtain ⟨z, us, rfl, b1, b2⟩ := a1.lst h2
      obtain ⟨z2, us2, rfl, b3, b4⟩ := a2.lst h3
      have ek := keys_vals b2 h4
      subst ek
      refine ⟨z, z2, ks, us2, rfl, .of b1, .of b3, by rw [b4.length]; exact h5, fun p hp => ?_⟩
      exact (q.from k1 s1).newD (e.keep k1 s1) (RepK.merge (RepK.zip b4) (by rw [RepK])) hk hp
end
end G
set_option maxRecDepth 100000
set_option maxHeartbeats 4000000
namespace G
open PySem PySem.Spec PyProof.Rows L2
section
variable {W : Wd} {Hd : Addr → Prop} {H0 H : Hp} {A : Nat → Option Addr} {σ : St} {δ : Env} {X : Cx} {E : XK} {N : List Str} {sc : Scope} {k : Nat}
variable {pos p : Pos}
/-! ### d.clear(), a slot's own dict -/
def wClrD (i : Nat) : WS := fun δ p => ∃ kds, δ[i]? = some (.ow (.dic kds)) ∧ p.nx (δ.set i (.ow (.dic [])))
theorem sw_clrD {i : Nat} {x : Str} {p1 ap cp : Pos} (g : Good W N sc k E X) (hi : N[i]? = some x) (hv : visB sc x = true) (hd : (x == ("__debug__" : Str)) = false) (hcd : (x == ("__classdict__" : Str)) = false) (hln : (ap.endLine == cp.line) = true) :
    PSW W E X (.Expr (.Call (.Attribute (.Name x p1) "clear" ap) [] [] cp) pos) (wClrD i) := by
  have pv : PE X (.Name x p1) (tVar i) := pe_var (by rw [g.hN]; exact hi) (g.vis x hv) hd hcd
  refine ⟨_, ps_expr (pe_dclear pv base_name hln) (swaps_no rfl), ?_⟩
  rw [g.hK]
  intro Hd H0 A H σ δ p D e hw l
  obtain ⟨kds, hδ, hw⟩ := hw
  obtain ⟨z, q1, q2, us, q3, q4⟩ := e.sl i _ hδ
  have e' := e.updO q1 hδ (show Top W (fz (Rsv W Hd A) H) (upd H z (.dK [])) (.dic []) z from ⟨_, upd_same, by rw [RepK]⟩)
  exact ⟨.ref z, slot_get q2, .inr (.inr (.inl ⟨rfl, .inl ⟨_, q3⟩⟩)), z, us, rfl, rfl, q3, l.nx A _ σ _ e' hw⟩
end
end G
set_option maxRecDepth 100000
set_option maxHeartbeats 4000000
namespace G
open PySem PySem.Spec PyProof.Rows L2
/-! ### x = {k: v for ..}, x a local on the same line -/
theorem sw_trueD {kx elt : Expr} {gs : List Comprehension} {scope : Scope} {pos py : Pos} {y : Str} {l : Nat} {env : PySem.Env} (hk : env.scope.kind = .function) (hy : env.scope.names.lookup y = some .local) (hl : (py.line == pos.line) = true)
    (ha : (scope.names.any fun (n, k) => n == y && (k == .local || k == .cell)) = false) : swapsWith (.DictComp kx elt gs scope pos) (some (.Name y py)) l env = pure true := by
  have k1 : env.kindOf y = some .local := hy
  have k2 : env.blockKind = .function := by unfold PySem.Env.blockKind; rw [hk]; rfl
  unfold swapsWith
  simp only [k2, k1, ha, Expr.pos, hl]
  rfl
section
variable {X : Cx}
theorem ps_setDc {i : Nat} {y : Str} {py : Pos} {kx elt tg iter : Expr} {ifs : List Expr} {scope : Scope} {own : List (Str × Nat)} {pos spos : Pos} {wi : TI} {g : TG} {tt : TT} {tk te : TE} (hc : X.calm = true) (hN : X.N.Nodup) (hy : X.N[i]? = some y) (hyl : X.env.scope.names.lookup y = some .local)
    (hsw : swapsWith (.DictComp kx elt [⟨tg, iter, ifs, 0⟩] scope pos) (some (.Name y py)) spos.line X.env = pure true) (hi : PI X tg iter wi) (ok : BlkOk X.N X.env.scope scope own)
    (hg : ∀ (s : Shared) (H : Hp) (C : Addr) (cl : List (Str × Addr)) (fp : List Addr), PG (X.blk s H scope (compEnvC scope cl C X.env) fp) tg g) (ht : ∀ (s : Shared) (H : Hp) (C : Addr) (cl : List (Str × Addr)) (fp : List Addr), PTs (X.blk s H scope (compEnvC scope cl C X.env) fp) ifs tt)
    (hk : ∀ (s : Shared) (H : Hp) (C : Addr) (cl : List (Str × Addr)) (fp : List Addr), PE (X.blk s H scope (compEnvC scope cl C X.env) fp) kx tk)
    (he : ∀ (s : Shared) (H : Hp) (C : Addr) (cl : List (Str × Addr)) (fp : List Addr), PE (X.blk s H scope (compEnvC scope cl C X.env) fp) elt te) (hs : ∀ x, foldedSetIterable iter X.env x = pure x) :
    PS X (.Assign [.Name y py] (.DictComp kx elt [⟨tg, iter, ifs, 0⟩] scope pos) spos) (tAsg (tDc wi g tt tk te (own.map (·.2))) (gName i)) := by
  refine ⟨fun pins s σ H D I h => ?_⟩
  rw [exec_Assign_Name_used _ _ _ _ hsw]
  refine wpAny_bind (wpAny_standAt (wpAny_bind ?_))
  show wpAny _ X.A (do let _ ← comprehension (.DictComp kx elt [⟨tg, iter, ifs, 0⟩] scope pos) scope X.env (firstIterPos [⟨tg, iter, ifs, 0⟩] pos) newDict false (eval iter X.env) (some (assign (.Name y py) X.env))) _ _ s
  have h : tDc wi g tt tk te (own.map (·.2)) σ H (fun x H1 => gName i x σ H1 D.nx) := h
  refine wpAny_bind (thn (dc_core (Qf := fun _ s' => SP X pins D .next s') hc hN I hi ok hg ht hk he hs h fun L C s' m H' I' q hn f => ?_) fun _ s' hq => wpAny_pure (wpAny_pure hq))
  show wpAny _ _ (assign (.Name y py) X.env (.ref L)) _ _ _
  refine wpAny_assign_Name (store_ok2 (v := V.ref L) I' hN hy (.inl hyl) rfl (fun s2 I2 ⟨a, sb, ha⟩ => ?_) (.inr hyl))
  obtain ⟨g0, g1, g2, g3, g4, g5⟩ := f
  have hCa : C ≠ a := by
    rcases ha with z | z
    · rw [z]; exact g1
    · exact fun e => g4 y a z e.symm
  exact ⟨m, hn.sameBut sb hCa, fun h3 sb3 => ⟨_, H', I2.turned (t' := s2.toks) (fun b o hb e => (sb3.2 b hb).trans e) g0 g1 g3 g4 g5, q⟩⟩
end
section
variable {W : Wd} {X : Cx} {E : XK} {N : List Str} {sc : Scope} {k : Nat} {pos : Pos}
theorem sw_setDc {i : Nat} {ow : Bool} {x : Str} {p2 p3 : Pos} {t iter kx elt : Expr} {ifs : List Expr} {scope : Scope} {own : List (Str × Nat)} {tg : Tg} {wi : WI} {wt : WT} {wk we : WE} (g : Good W N sc k E X) (hx : N[i]? = some x) (hl : sc.names.lookup x = some .local) (hln : (p2.line == p3.line) = true)
    (han : (scope.names.any fun (n, k) => n == x && (k == .local || k == .cell)) = false) (hb : blkC N sc scope own = true) (ho : ownOk own tg = true) (hns : noSet iter = true)
    (hi : PIW W E X t iter wi) (h : LcW W N k scope t ifs elt tg wt we) (hk : ∀ X', Good W N scope k EN X' → PEW W EN X' kx wk) : PSW W E X (.Assign [.Name x p2] (.DictComp kx elt [⟨t, iter, ifs, 0⟩] scope p3) pos) (wAsg i ow (wDc (own.map (·.2)) tg wi wt wk we)) := by
  obtain ⟨ti, pi, ei⟩ := hi
  have ok := blkOk_good g hb
  exact ⟨_, ps_setDc g.calm (by rw [g.hN]; exact g.nd) (by rw [g.hN]; exact hx) (g.lcl x hl) (sw_trueD g.kind (g.lcl x hl) hln han) pi ok (fun s H C cl fp => (h.g _ (good_blk g ok.kind)).can) (fun s H C cl fp => (h.t _ (good_blk g ok.kind)).can) (fun s H C cl fp => (hk _ (good_blk g ok.kind)).can) (fun s H C cl fp => (h.e _ (good_blk g ok.kind)).can) (noSet_fold hns),
    ev_asg (ev_dc (ownOk_sub ho) ei ev_TWG ev_TWT ev_TW ev_TW)⟩
end
end G
set_option maxRecDepth 100000
set_option maxHeartbeats 4000000
namespace G
open PySem PySem.Spec PyProof.Rows L2
/-! ### == of data with dicts in it -/
/-- x == y answers b, read to the depth n -/
def EqX : Nat → D → D → Bool → Prop
  | 0, x, y, b => sh 40 x = true ∧ sh 40 y = true ∧ b = eqD x y
  | n + 1, x, y, b => (sh 40 x = true ∧ sh 40 y = true ∧ b = eqD x y) ∨
    (∃ (ks ls : List (Key × D)) (e : Key → Bool), x = .dic ks ∧ y = .dic ls ∧ (ks.map (·.1)).Nodup ∧ (∀ k d d', (k, d) ∈ ks → getK ls k = some d' → EqX n d d' (e k)) ∧ b = (ks.length == ls.length && ks.all fun p => (getK ls p.1).isSome && e p.1)) ∨
    ∃ (xs ys : List D) (e : Nat → Bool), x = .tup xs ∧ y = .tup ys ∧ (∀ j d d', xs[j]? = some d → ys[j]? = some d' → EqX n d d' (e j)) ∧ b = ((List.range (min xs.length ys.length)).all e && xs.length == ys.length)
theorem relV_ex (v : V) : ∃ u, RelV v u := by
  cases v with
  | non => exact ⟨.none, rfl⟩
  | bl b => exact ⟨.bool b, rfl⟩
  | int i => exact ⟨.int i 0, ⟨0, rfl⟩⟩
  | str s => exact ⟨.str s 0, ⟨0, rfl⟩⟩
  | byt b => exact ⟨.bytes b 0, ⟨0, rfl⟩⟩
  | flt b => exact ⟨.float b 0, ⟨0, rfl⟩⟩
  | ref a => exact ⟨.ref a, rfl⟩
  | ty T => exact ⟨.type T, rfl⟩
theorem rd_inj {H : Hp} {a : Addr} {u u' : HO} (p : pl u = true) (p' : pl u' = true) (h : Rd H a u) (h' : Rd H a u') : u = u' := by
  rcases h with h | ⟨o, h⟩ <;> rcases h' with h' | ⟨o', h'⟩
  · exact Option.some.inj (h.symm.trans h')
  · have e := Option.some.inj (h.symm.trans h'); subst e; cases p
  · have e := Option.some.inj (h.symm.trans h'); subst e; cases p'
  · have e := Option.some.inj (h.symm.trans h')
    injection e
theorem valV_mem : ∀ {kvs : List (Key × V)} {i : Nat} {k : Key} {v : V}, (kvs.map (·.1)).Nodup → kvs[i]? = some (k, v) → valV kvs k = some v
  | [], _, _, _, _, h => by simp at h
  | p :: r, 0, k, v, _, h => by
    have e : p = (k, v) := by simpa using h
    subst e
    exact valV_pos rfl
  | p :: r, i + 1, k, v, nd, h => by
    rw [List.map_cons, List.nodup_cons] at nd
    have h' : r[i]? = some (k, v) := by simpa using h
    have hm : k ∈ r.map (·.1) := List.mem_map.mpr ⟨(k, v), List.mem_of_getElem? h', rfl⟩
    rw [valV_neg fun e => nd.1 (e ▸ hm)]
    exact valV_mem nd.2 h'
section
variable {W : Wd} {X : Cx} {pins : List (Addr × Obj)} {σ : St} {H : Hp} {s : Shared}
theorem eqx_reads (I : Inv X pins σ H s) (hK : X.K = W.K) {d : D} {v : V} {u : Value} (h : sh 40 d = true) (r : Rep W H d v) (rv : RelV v u) : ∃ as, Reads s.heap u (pyD d) as := by
  obtain ⟨p1, _, _⟩ := dp_of 40 d h r
  rw [← hK] at p1
  exact Dp.reads I _ _ _ p1 rv
theorem eqx_leaf (I : Inv X pins σ H s) (hK : X.K = W.K) {d d' : D} {v v' : V} {u u' : Value} (h : sh 40 d = true) (h' : sh 40 d' = true) (r : Rep W H d v) (r' : Rep W H d' v') (rv : RelV v u) (rv' : RelV v' u') (A : Around) (hu : A.units + 40 < cLine) : SeqAt.EqAt A s u u' (eqD d d') := by
  obtain ⟨as, q⟩ := eqx_reads I hK h r rv
  obtain ⟨bs, q'⟩ := eqx_reads I hK h' r' rv'
  obtain ⟨_, p2, p3⟩ := dp_of 40 d h r
  obtain ⟨_, p2', p3'⟩ := dp_of 40 d' h' r'
  exact SeqAt.eqAt_reads _ _ A s u u' as bs q q' p2 p2' (by omega)
theorem eqx_same (I : Inv X pins σ H s) (hK : X.K = W.K) : ∀ (n : Nat) {d d' : D} {b : Bool} {v : V}, EqX n d d' b → Rep W H d v → Rep W H d' v → b = true := by
  have leaf : ∀ {d d' : D} {b : Bool} {v : V}, sh 40 d = true → sh 40 d' = true → b = eqD d d' → Rep W H d v → Rep W H d' v → b = true := by
    intro d d' b v h h' hb r r'
    obtain ⟨u, rv⟩ := relV_ex v
    obtain ⟨as, q⟩ := eqx_reads I hK h r rv
    obtain ⟨bs, q'⟩ := eqx_reads I hK h' r' rv
    obtain ⟨_, p2, _⟩ := dp_of 40 d h r
    have e := SeqAt.Reads.unique _ _ _ _ _ p2 q q'
    rw [hb]
    unfold eqD
    rw [← e]
    exact SeqAt.eqv_refl _ p2
  intro n
  induction n with
  | zero =>
    intro d d' b v h r r'
    exact leaf h.1 h.2.1 h.2.2 r r'
  | succ n ih =>
    intro d d' b v h r r'
    rcases h with h | ⟨ks, ls, e, rfl, rfl, nd, hh, hb⟩ | ⟨xs, ys, e, rfl, rfl, hh, hb⟩
    · exact leaf h.1 h.2.1 h.2.2 r r'
    · rw [Rep] at r r'
      obtain ⟨a, kvs, e1, g1, R1⟩ := r
      obtain ⟨a', kvs', e2, g2, R2⟩ := r'
      rw [e1] at e2
      cases e2
      have ek := rd_inj rfl rfl g1 g2
      cases ek
      have hl : ks.length = ls.length := by rw [← R1.length, ← R2.length]
      have nd' : (kvs.map (·.1)).Nodup := by rw [R1.keys]; exact nd
      rw [hb, hl, beq_self_eq_true, Bool.true_and, List.all_eq_true]
      rintro ⟨k, dd⟩ hm
      obtain ⟨i, hi⟩ := List.getElem?_of_mem hm
      obtain ⟨v0, h1, h2⟩ := R1.at hi
      have hv := valV_mem nd' h1
      obtain ⟨d2, g3, g4⟩ := (getK_none R2 k).2 v0 hv
      have := ih (hh k dd d2 hm g3) h2 g4
      simp only [g3, Option.isSome_some, this, Bool.and_self]
    · rw [Rep] at r r'
      obtain ⟨a, vs, e1, g1, R1⟩ := r
      obtain ⟨a', vs', e2, g2, R2⟩ := r'
      rw [e1] at e2
      cases e2
      rw [← hK] at g1 g2
      have ek := I.tuple_inj g1 g2
      subst ek
      have hl : xs.length = ys.length := by rw [← R1.length, ← R2.length]
      rw [hb, hl, Nat.min_self, beq_self_eq_true, Bool.and_true, List.all_eq_true]
      intro j hj
      rw [List.mem_range] at hj
      obtain ⟨v0, h1, h2⟩ := R1.get (List.getElem?_eq_getElem (by omega : j < xs.length))
      obtain ⟨d2, h3, h4⟩ := R2.getV h1
      exact ih (hh j _ _ (List.getElem?_eq_getElem (by omega : j < xs.length)) h3) h2 h4
theorem kv_mem : ∀ {ks : List (Key × D)} {kvs : List (Key × V)} {va : List (Key × Value)}, RepK W H ks kvs → KV kvs va → ∀ {k : Key} {v : Value}, (k, v) ∈ va → ∃ d x, (k, d) ∈ ks ∧ Rep W H d x ∧ RelV x v
  | [], kvs, va, h, r, k, v, hm => by
    rw [RepK] at h
    subst h
    cases r
    cases hm
  | (k0, d0) :: ks, kvs, va, h, r, k, v, hm => by
    rw [RepK] at h
    obtain ⟨v0, r0, rfl, h1, h2⟩ := h
    cases r with
    | cons rr rt =>
      rcases List.mem_cons.mp hm with e | hm
      · subst e
        obtain ⟨q1, q2⟩ := rr
        have q1' : k0 = k := q1
        subst q1'
        exact ⟨d0, v0, List.mem_cons_self, h1, q2⟩
      · obtain ⟨d, x, q1, q2, q3⟩ := kv_mem h2 rt hm
        exact ⟨d, x, List.mem_cons_of_mem _ q1, q2, q3⟩
theorem dic_all {ks ls : List (Key × D)} {kvs kvs' : List (Key × V)} {va vb : List (Key × Value)} {e : Key → Bool} (R1 : RepK W H ks kvs) (R2 : RepK W H ls kvs') (ra : KV kvs va) (rb : KV kvs' vb) :
    (va.length == vb.length && va.all fun p => (valueAt vb p.1).isSome && e p.1) = (ks.length == ls.length && ks.all fun p => (getK ls p.1).isSome && e p.1) := by
  have l1 : va.length = ks.length := by rw [← ra.length, R1.length]
  have l2 : vb.length = ls.length := by rw [← rb.length, R2.length]
  have hk : va.map (·.1) = ks.map (·.1) := by rw [← ra.keys, R1.keys]
  have hp : ∀ k, (valueAt vb k).isSome = (getK ls k).isSome := fun k => by
    rw [← getK_isSome R2 k]
    have := rb.val k
    cases q : valV kvs' k <;> cases q' : valueAt vb k <;> rw [q, q'] at this <;> first | rfl | exact this.elim
  have h1 : (va.all fun p => (valueAt vb p.1).isSome && e p.1) = (va.map (·.1)).all fun k => (getK ls k).isSome && e k := by
    rw [List.all_map]
    congr 1
    funext p
    simp only [Function.comp, hp]
  have h2 : (ks.all fun p => (getK ls p.1).isSome && e p.1) = (ks.map (·.1)).all fun k => (getK ls k).isSome && e k := by
    rw [List.all_map]; rfl
  rw [l1, l2, h1, h2, hk]
theorem eqx_tree (I : Inv X pins σ H s) (hK : X.K = W.K) : ∀ (n : Nat) {d d' : D} {b : Bool} {v v' : V} {u u' : Value}, EqX n d d' b → Rep W H d v → Rep W H d' v' → RelV v u → RelV v' u' → PySem.W.EqTree X.prog X.w s (n + 40) u u' b := by
  intro n
  induction n with
  | zero =>
    intro d d' b v v' u u' h r r' rv rv'
    rw [h.2.2]
    exact .leaf fun A hu => eqx_leaf I hK h.1 h.2.1 r r' rv rv' A (by omega)
  | succ n ih =>
    intro d d' b v v' u u' h r r' rv rv'
    have sm := fun (e : v = v') => eqx_same I hK (n + 1) h r (by rw [e]; exact r')
    rcases h with h | ⟨ks, ls, e, rfl, rfl, nd, hh, hb⟩ | ⟨xs, ys, e, rfl, rfl, hh, hb⟩
    · rw [h.2.2]
      exact .leaf fun A hu => eqx_leaf I hK h.1 h.2.1 r r' rv rv' A (by omega)
    · rw [Rep] at r r'
      obtain ⟨a, kvs, rfl, g1, R1⟩ := r
      obtain ⟨a', kvs', rfl, g2, R2⟩ := r'
      cases rv
      cases rv'
      by_cases ha : a = a'
      · subst ha
        rw [sm rfl]
        exact .same
      · obtain ⟨_, ya, va, ra, da⟩ := (show ObjOk X.prog X.w H s.heap a (.dK kvs) from g1.ok I.hok)
        obtain ⟨_, yb, vb, rb, db⟩ := (show ObjOk X.prog X.w H s.heap a' (.dK kvs') from g2.ok I.hok)
        rw [hb, ← dic_all R1 R2 ra rb, show n + 1 + 40 = n + 40 + 1 by omega]
        refine .dicts (knd := mixKind X.prog X.w) ha ya yb da db fun k v0 y0 hm hv => ?_
        obtain ⟨d0, x0, q1, q2, q3⟩ := kv_mem R1 ra hm
        have := rb.val k
        rw [hv] at this
        cases q : valV kvs' k with
        | none => rw [q] at this; exact this.elim
        | some x1 =>
          rw [q] at this
          obtain ⟨d1, g3, g4⟩ := (getK_none R2 k).2 x1 q
          exact ih (hh k d0 d1 q1 g3) q2 g4 q3 this
    · rw [Rep] at r r'
      obtain ⟨a, vs, rfl, g1, R1⟩ := r
      obtain ⟨a', vs', rfl, g2, R2⟩ := r'
      cases rv
      cases rv'
      by_cases ha : a = a'
      · subst ha
        rw [sm rfl]
        exact .same
      · rw [← hK] at g1 g2
        obtain ⟨its, r1, p1, _⟩ := I.tuple g1
        obtain ⟨its', r2, p2, _⟩ := I.tuple g2
        have l1 : its.toArray.size = xs.length := by rw [List.size_toArray, ← r1.length, R1.length]
        have l2 : its'.toArray.size = ys.length := by rw [List.size_toArray, ← r2.length, R2.length]
        rw [hb, ← l1, ← l2, show n + 1 + 40 = n + 40 + 1 by omega]
        refine .tuples ha p1 p2 fun j h1 h2 => ?_
        have j1 : j < its.length := by simpa using h1
        have j2 : j < its'.length := by simpa using h2
        have m1 : j < vs.length := by rw [r1.length]; exact j1
        have m2 : j < vs'.length := by rw [r2.length]; exact j2
        obtain ⟨u1, a1, a2⟩ := r1.get (List.getElem?_eq_getElem m1)
        obtain ⟨u2, b1, b2⟩ := r2.get (List.getElem?_eq_getElem m2)
        obtain ⟨d1, c1, c2⟩ := R1.getV (List.getElem?_eq_getElem m1)
        obtain ⟨d2, e1, e2⟩ := R2.getV (List.getElem?_eq_getElem m2)
        have f1 : its.toArray[j] = u1 := by
          rw [List.getElem?_eq_getElem j1] at a1
          simpa using a1
        have f2 : its'.toArray[j] = u2 := by
          rw [List.getElem?_eq_getElem j2] at b1
          simpa using b1
        rw [f1, f2]
        exact ih (hh j d1 d2 c1 e1) c2 e2 a2 b2
def rEqX (W : Wd) : R2 := fun x y H Q => ∃ n d d' b, n ≤ 8 ∧ EqX n d d' b ∧ Rep W H d x ∧ Rep W H d' y ∧ Q (.bl b) H
theorem op_eqX (hK : X.K = W.K) (hu : X.A.units + 64 < cLine) : OpR X (compareOp .Eq) (rEqX W) := by
  intro pins s σ H x y v u Q I rx ry h
  obtain ⟨n, d, d', b, hn, h, r, r', q⟩ := h
  have fin : EP X pins σ Q (.bool b) s := ⟨.bl b, H, I, rfl, q⟩
  have leaf : sh 40 d = true → sh 40 d' = true → b = eqD d d' → wpAny (model X.prog X.w) X.A (compareOp .Eq v u) (EP X pins σ Q) X.xe s := fun h1 h2 hb => by
    obtain ⟨as, q1⟩ := eqx_reads I hK h1 r rx
    obtain ⟨bs, q2⟩ := eqx_reads I hK h2 r' ry
    refine SeqAt.compareEq_shaped q1 q2 (shaped_of h1 (by decide) r) (shaped_of h2 (by decide) r') hu ?_
    rw [hb] at fin
    exact fin
  cases n with
  | zero => exact leaf h.1 h.2.1 h.2.2
  | succ n =>
    rcases h with h | ⟨ks, ls, e, rfl, rfl, nd, hh, hb⟩ | ⟨xs, ys, e, rfl, rfl, hh, hb⟩
    · exact leaf h.1 h.2.1 h.2.2
    · rw [Rep] at r r'
      obtain ⟨a, kvs, rfl, g1, R1⟩ := r
      obtain ⟨a', kvs', rfl, g2, R2⟩ := r'
      cases rx
      cases ry
      obtain ⟨_, ya, va, ra, da⟩ := (show ObjOk X.prog X.w H s.heap a (.dK kvs) from g1.ok I.hok)
      obtain ⟨_, yb, vb, rb, db⟩ := (show ObjOk X.prog X.w H s.heap a' (.dK kvs') from g2.ok I.hok)
      rw [hb, ← dic_all R1 R2 ra rb] at fin
      refine PySem.W.eq_dictsT (knd := mixKind X.prog X.w) (n := n + 40) ya yb da db (fun k v0 y0 hm hv => ?_) (by omega) fin
      obtain ⟨d0, x0, q1, q2, q3⟩ := kv_mem R1 ra hm
      have := rb.val k
      rw [hv] at this
      cases q : valV kvs' k with
      | none => rw [q] at this; exact this.elim
      | some x1 =>
        rw [q] at this
        obtain ⟨d1, g3, g4⟩ := (getK_none R2 k).2 x1 q
        exact eqx_tree I hK n (hh k d0 d1 q1 g3) q2 g4 q3 this
    · rw [Rep] at r r'
      obtain ⟨a, vs, rfl, g1, R1⟩ := r
      obtain ⟨a', vs', rfl, g2, R2⟩ := r'
      cases rx
      cases ry
      rw [← hK] at g1 g2
      obtain ⟨its, r1, p1, _⟩ := I.tuple g1
      obtain ⟨its', r2, p2, _⟩ := I.tuple g2
      have l1 : its.toArray.size = xs.length := by rw [List.size_toArray, ← r1.length, R1.length]
      have l2 : its'.toArray.size = ys.length := by rw [List.size_toArray, ← r2.length, R2.length]
      rw [hb, ← l1, ← l2] at fin
      refine PySem.W.eq_tuplesT (n := n + 40) p1 p2 (fun j h1 h2 => ?_) (by omega) fin
      have j1 : j < its.length := by simpa using h1
      have j2 : j < its'.length := by simpa using h2
      have m1 : j < vs.length := by rw [r1.length]; exact j1
      have m2 : j < vs'.length := by rw [r2.length]; exact j2
      obtain ⟨u1, a1, a2⟩ := r1.get (List.getElem?_eq_getElem m1)
      obtain ⟨u2, b1, b2⟩ := r2.get (List.getElem?_eq_getElem m2)
      obtain ⟨d1, c1, c2⟩ := R1.getV (List.getElem?_eq_getElem m1)
      obtain ⟨d2, e1, e2⟩ := R2.getV (List.getElem?_eq_getElem m2)
      have f1 : its.toArray[j] = u1 := by
        rw [List.getElem?_eq_getElem j1] at a1
        simpa using a1
      have f2 : its'.toArray[j] = u2 := by
        rw [List.getElem?_eq_getElem j2] at b1
        simpa using b1
      rw [f1, f2]
      exact eqx_tree I hK n (hh j d1 d2 c1 e1) c2 e2 a2 b2
/-- x != y: two dicts of plain data -/
def EqF (x y : D) (b : Bool) : Prop := (sh 40 x = true ∧ sh 40 y = true ∧ b = eqD x y) ∨
    ∃ (ks ls : List (Key × D)) (e : Key → Bool), x = .dic ks ∧ y = .dic ls ∧ (∀ k d d', (k, d) ∈ ks → getK ls k = some d' → EqX 0 d d' (e k)) ∧ b = (ks.length == ls.length && ks.all fun p => (getK ls p.1).isSome && e p.1)
def rNeX (W : Wd) : R2 := fun x y H Q => ∃ d d' b, EqF d d' b ∧ Rep W H d x ∧ Rep W H d' y ∧ Q (.bl (!b)) H
theorem hits_of {A : Around} {kb : List (Key × Value)} {e : Key → Bool} : ∀ (r : List (Key × Value)), (∀ k v y, (k, v) ∈ r → valueAt kb k = some y → SeqAt.EqAt A s v y (e k)) → PySem.W.KeqHits A s kb r (r.all fun p => (valueAt kb p.1).isSome && e p.1)
  | [], _ => .nil
  | (k, v) :: r, h => by
    have ih := hits_of r fun k' v' y' hm hv' => h k' v' y' (List.mem_cons_of_mem _ hm) hv'
    cases hv : valueAt kb k with
    | none =>
      have q : (((k, v) :: r).all fun p => (valueAt kb p.1).isSome && e p.1) = false := by simp [hv]
      rw [q]
      exact .miss hv
    | some y =>
      have q : (((k, v) :: r).all fun p => (valueAt kb p.1).isSome && e p.1) = (e k && r.all fun p => (valueAt kb p.1).isSome && e p.1) := by simp [hv]
      rw [q]
      exact .hit hv (h k v y List.mem_cons_self hv) ih
theorem op_neX (hK : X.K = W.K) (hu : X.A.units + 64 < cLine) : OpR X (compareOp .NotEq) (rNeX W) := by
  intro pins s σ H x y v u Q I rx ry h
  obtain ⟨d, d', b, h, r, r', q⟩ := h
  have fin : EP X pins σ Q (.bool (!b)) s := ⟨.bl (!b), H, I, rfl, q⟩
  rcases h with h | ⟨ks, ls, e, rfl, rfl, hh, hb⟩
  · obtain ⟨q1, q2, _⟩ := dp_of 40 d h.1 r
    obtain ⟨q3, q4, _⟩ := dp_of 40 d' h.2.1 r'
    rw [h.2.2] at q
    exact op_neD hu pins s σ H x y v u Q I rx ry ⟨pyD d, pyD d', by rw [hK]; exact q1, by rw [hK]; exact q3, shaped_of h.1 (by decide) r, shaped_of h.2.1 (by decide) r', q⟩
  · rw [Rep] at r r'
    obtain ⟨a, kvs, rfl, g1, R1⟩ := r
    obtain ⟨a', kvs', rfl, g2, R2⟩ := r'
    cases rx
    cases ry
    obtain ⟨_, ya, va, ra, da⟩ := (show ObjOk X.prog X.w H s.heap a (.dK kvs) from g1.ok I.hok)
    obtain ⟨_, yb, vb, rb, db⟩ := (show ObjOk X.prog X.w H s.heap a' (.dK kvs') from g2.ok I.hok)
    rw [hb, ← dic_all R1 R2 ra rb] at fin
    refine PySem.W.keq_ne (knd := mixKind X.prog X.w) ya yb da db (by omega) (fun _ => hits_of va fun k v0 y0 hm hv => ?_) fin
    obtain ⟨d0, x0, q1, q2, q3⟩ := kv_mem R1 ra hm
    have := rb.val k
    rw [hv] at this
    cases q : valV kvs' k with
    | none => rw [q] at this; exact this.elim
    | some x1 =>
      rw [q] at this
      obtain ⟨d1, g3, g4⟩ := (getK_none R2 k).2 x1 q
      obtain ⟨w1, w2, w3⟩ := hh k d0 d1 q1 g3
      rw [w3]
      exact eqx_leaf I hK w1 w2 q2 g4 q3 this _ (by show X.A.units + 1 + 40 < cLine; omega)
def deqS (neg : Bool) : R → R → (R → Prop) → Prop := fun x y K => match neg with
  | false => ∃ n b, n ≤ 8 ∧ EqX n x.d y.d b ∧ K (.v (.bl b))
  | true => ∃ b, EqF x.d y.d b ∧ K (.v (.bl (!b)))
theorem os_deq : OpS W (rEqX W) (deqS false) := by
  intro Hd H0 A H σ δ x y vx vy K Q e rx ry hs q
  obtain ⟨n, b, hn, h, hk⟩ := hs
  exact ⟨n, x.d, y.d, b, hn, h, rx.rd, ry.rd, q.bl e hk⟩
theorem os_dne : OpS W (rNeX W) (deqS true) := by
  intro Hd H0 A H σ δ x y vx vy K Q e rx ry hs q
  obtain ⟨b, h, hk⟩ := hs
  exact ⟨x.d, y.d, b, h, rx.rd, ry.rd, q.bl e hk⟩
def eqOp : Bool → CmpOp
  | false => .Eq
  | true => .NotEq
theorem deq_all {N : List Str} {sc : Scope} {k : Nat} {E : XK} (g : Good W N sc k E X) (neg : Bool) : ∃ r, OpR X (compareOp (eqOp neg)) r ∧ OpS W r (deqS neg) := by
  cases neg
  · exact ⟨_, op_eqX g.hK g.room.units, os_deq⟩
  · exact ⟨_, op_neX g.hK g.room.units, os_dne⟩
end
end G
set_option maxRecDepth 100000
set_option maxHeartbeats 4000000
namespace G
open PySem PySem.Spec PyProof.Rows L2
/-! ### walks of dicts: keys, values, items -/
inductive Dk where
  | keys | keysM | vals | items
def dkL : Dk → List (Key × D) → List D
  | .keys, kds => kds.map fun kv => keyV kv.1
  | .keysM, kds => kds.map fun kv => keyV kv.1
  | .vals, kds => kds.map (·.2)
  | .items, kds => kds.map fun kv => .tup [keyV kv.1, kv.2]
def dkI : Dk → TE → TI
  | .keys, t => iKeys t
  | .keysM, t => iKeysM t
  | .vals, t => iVals t
  | .items, t => iItems t
def dkIt : Dk → Addr → Obj → List (Key × V) → It
  | .keys => Itk
  | .keysM => Itk
  | .vals => Itd
  | .items => Iti
def dkQ : Dk → (It → Hp → Prop) → VK
  | .keys, R => fun x H1 => ∃ d o, x = .ref d ∧ ((∃ kvs, H1 d = some (.frz o (.dK kvs)) ∧ R (Itk d o kvs) H1) ∨ ∃ kvs, H1 d = some (.frz o (.dT kvs)) ∧ R (Itkt d o kvs) H1)
  | .keysM, R => fun x H1 => ∃ d o kvs, x = .ref d ∧ H1 d = some (.frz o (.dK kvs)) ∧ R (Itk d o kvs) H1
  | .vals, R => fun x H1 => ∃ d o kvs, x = .ref d ∧ H1 d = some (.frz o (.dK kvs)) ∧ R (Itd d o kvs) H1
  | .items, R => fun x H1 => ∃ d o kvs, x = .ref d ∧ H1 d = some (.frz o (.dK kvs)) ∧ R (Iti d o kvs) H1
theorem dkI_of {k : Dk} {t : TE} {σ : St} {H : Hp} {R : It → Hp → Prop} (h : t σ H (dkQ k R)) : dkI k t σ H R := by cases k <;> exact h
theorem dkQ_of {k : Dk} {R : It → Hp → Prop} {d : Addr} {o : Obj} {kvs : List (Key × V)} {H : Hp} (hd : H d = some (.frz o (.dK kvs))) (h : R (dkIt k d o kvs) H) : dkQ k R (.ref d) H := by
  cases k
  · exact ⟨d, o, rfl, .inl ⟨kvs, hd, h⟩⟩
  all_goals exact ⟨d, o, kvs, rfl, hd, h⟩
section
variable {W : Wd} {Hd : Addr → Prop} {H0 H : Hp} {A : Nat → Option Addr} {σ : St} {δ : Env} {X : Cx} {E : XK} {N : List Str} {sc : Scope} {k : Nat}
variable {a b c : Expr} {wa wb wc : WE} {pos p : Pos}
theorem src_vals {FG F : Hp} {z : Addr} {o : Obj} {kds : List (Key × D)} {kvs : List (Key × V)} (hz : FG z = some (.frz o (.dK kvs))) (h : RepK W F kds kvs) : Src W FG F (Itd z o kvs) (kds.map (·.2)) := by
  refine ⟨fun H => H z = some (.frz o (.dK kvs)), fun i H x H' => H' = H ∧ ∃ k, kvs[i]? = some (k, x), by rw [List.length_map, ← h.length]; exact walk_values, fun H' kp => kp z _ hz, fun i d Hc x Hc' hd y => .inl ⟨y.1, ?_⟩⟩
  obtain ⟨kk, h1⟩ := y.2
  rw [List.getElem?_map] at hd
  cases q : kds[i]? with
  | none => rw [q] at hd; cases hd
  | some kd =>
    rw [q] at hd
    cases hd
    obtain ⟨v', h3, h4⟩ := h.at q
    rw [h1] at h3
    cases h3
    exact h4
theorem src_items {FG F : Hp} {z : Addr} {o : Obj} {kds : List (Key × D)} {kvs : List (Key × V)} (hz : FG z = some (.frz o (.dK kvs))) (h : RepK W F kds kvs) (hk : (kds.all fun kv => keyOk kv.1) = true) : Src W FG F (Iti z o kvs) (kds.map fun kv => .tup [keyV kv.1, kv.2]) := by
  refine ⟨fun H => H z = some (.frz o (.dK kvs)), _, by rw [List.length_map, ← h.length]; exact walk_items, fun H' kp => kp z _ hz, fun i d Hc x Hc' hd y => ?_⟩
  obtain ⟨T, x1, x2, h1, h2, h3, h4, h5⟩ := y
  rw [List.getElem?_map] at hd
  cases q : kds[i]? with
  | none => rw [q] at hd; cases hd
  | some kd =>
    rw [q] at hd
    cases hd
    obtain ⟨v', h6, h7⟩ := h.at q
    dsimp only at h4 h5
    rw [h6] at h4 h5
    cases h4
    cases h5
    exact .inr ⟨T, _, _, _, _, h1, h2, h3, rfl, keyV_rep (List.all_eq_true.mp hk kd (List.mem_of_getElem? q)), h7⟩
theorem dk_src (kd : Dk) {FG F : Hp} {z : Addr} {o : Obj} {kds : List (Key × D)} {kvs : List (Key × V)} (hz : FG z = some (.frz o (.dK kvs))) (h : RepK W F kds kvs) (hk : (kds.all fun kv => keyOk kv.1) = true) : Src W FG F (dkIt kd z o kvs) (dkL kd kds) := by
  cases kd
  · exact src_keys hz h hk
  · exact src_keys hz h hk
  · exact src_vals hz h
  · exact src_items hz h hk
theorem PE.or {t u : TE} (h1 : PE X a t) (h2 : PE X a u) : PE X a (fun σ H Q => t σ H Q ∨ u σ H Q) :=
  ⟨fun pins s σ H Q I h => h.elim (fun h => h1.run pins s σ H Q I h) fun h => h2.run pins s σ H Q I h⟩
/-! the iterable's text -/
def dkB (kd : Dk) (tg e : Expr) : Option Expr := match kd, e with
  | .keys, e => some e
  | .keysM, .Call (.Attribute x g ap) [] [] cp => if (g == ("keys" : Str) && baseOk x && (ap.endLine == cp.line)) = true then some x else none
  | .vals, .Call (.Attribute x g ap) [] [] cp => if (g == ("values" : Str) && baseOk x && (ap.endLine == cp.line)) = true then some x else none
  | .items, .Call (.Attribute x g ap) [] [] cp => match tg with
    | .Tuple _ _ _ => if (g == ("items" : Str) && baseOk x && (ap.endLine == cp.line)) = true then some x else none
    | _ => none
  | _, _ => none
theorem pi_dk {kd : Dk} {tg e : Expr} {te : TE} (h : dkB kd tg e = some a) (he : PE X a te) : PI X tg e (dkI kd te) := by
  unfold dkB at h
  split at h
  · cases h; exact pi_keys he
  · split at h
    · rename_i q
      simp only [Bool.and_eq_true, beq_iff_eq] at q
      obtain ⟨⟨q1, q2⟩, q3⟩ := q
      cases h
      subst q1
      exact pi_keysM he (base_of q2) (by rw [q3]; simp)
    · cases h
  · split at h
    · rename_i q
      simp only [Bool.and_eq_true, beq_iff_eq] at q
      obtain ⟨⟨q1, q2⟩, q3⟩ := q
      cases h
      subst q1
      exact pi_values he (base_of q2) (by rw [q3]; simp)
    · cases h
  · split at h
    · split at h
      · rename_i q
        simp only [Bool.and_eq_true, beq_iff_eq] at q
        obtain ⟨⟨q1, q2⟩, q3⟩ := q
        cases h
        subst q1
        exact pi_items he (base_of q2) (by rw [q3]; simp)
      · cases h
    · cases h
  · cases h
/-! a new dict walked: it stays locked -/
def tLk (te : TE) : TE := fun σ H Q => te σ H fun v H1 => ∃ d u, v = .ref d ∧ H1 d = some u ∧ Mut (some u) ∧ ∀ od, Q v (upd H1 d (.frz od u))
theorem pe_lk {te : TE} (he : PE X a te) : PE X a (tLk te) := by
  refine ⟨fun pins s σ H Q I hw => ?_⟩
  refine thn (he.run pins s σ H _ I hw) fun v s1 ⟨x, H1, I1, r, d, u, e1, hd, mu, q⟩ => ?_
  obtain ⟨od, I2⟩ := I1.lock hd mu
  exact ⟨x, _, I2, r, q od⟩
def wItF (kd : Dk) (wa : WE) : WI := fun δ K X => wa δ (fun r => ∃ kds, r = .own (.dic kds) ∧ (kds.all fun kv => keyOk kv.1) = true ∧ K [] (dkL kd kds)) X
theorem iw_itF {kd : Dk} {tg e : Expr} (h : dkB kd tg e = some a) (ha : PEW W E X a wa) : PIW W E X tg e (wItF kd wa) := by
  obtain ⟨ta, pa, ea⟩ := ha
  refine ⟨dkI kd (tLk ta), pi_dk h (pe_lk pa), ?_⟩
  intro Hd H0 A H σ δ K Xp Rr e hw q x
  refine dkI_of (ea Hd H0 A H σ δ _ Xp _ e hw (fun v H1 r k1 s1 rr h1 => ?_) x)
  obtain ⟨kds, rfl, hok, hk⟩ := h1
  obtain ⟨z, rfl, h2, h3, kvs, h4, h5⟩ := rr
  refine ⟨z, _, rfl, h4, trivial, fun od => dkQ_of upd_same (q _ (upd H1 z (.frz od (.dK kvs))) [] _ (fun y o n w => ?_) (s1.upd fun w => h3 (.inl w)) (dk_src kd (fz_HdC h3 upd_same) (h5.mono (fz_kp fun y o n w => ⟨fun r => n (.inl r), ?_⟩).ex) hok) hk)⟩
  · rw [upd_ne (ne_of_none w h2)]; exact k1 y o n w
  · rw [upd_ne fun r => n (.inr r)]; exact w
/-! a dict that stands still, by its place -/
def PlW (W : Wd) (X : Cx) (a : Expr) (wp : Env → (List (Key × D) → Prop) → Prop) : Prop := ∃ te, PE X a te ∧ ∀ (Hd : Addr → Prop) (H0 : Hp) (A : Nat → Option Addr) (H : Hp) (σ : St) (δ : Env) (P : List (Key × D) → Prop), EnvOk W Hd H0 A H σ δ → wp δ P →
  ∃ z kds, P kds ∧ Rep W (fz (Rsv W Hd A) H) (.dic kds) (.ref z) ∧ ∀ HL : Hp, (∀ y o, hard o = true → H y = some o → HL y = some o) → ∀ Q : VK, Q (.ref z) HL → te σ HL Q
def plVar (i : Nat) : Env → (List (Key × D) → Prop) → Prop := fun δ P => ∃ kds, δ[i]? = some (.fz (.dic kds)) ∧ P kds
theorem pl_var {i : Nat} {x : Str} (g : Good W N sc k E X) (hi : N[i]? = some x) (hv : visB sc x = true) (hd : (x == ("__debug__" : Str)) = false) (hcd : (x == ("__classdict__" : Str)) = false) : PlW W X (.Name x pos) (plVar i) := by
  refine ⟨_, pe_var (by rw [g.hN]; exact hi) (g.vis x hv) hd hcd, ?_⟩
  intro Hd H0 A H σ δ P e ⟨kds, hδ, hp⟩
  obtain ⟨q1, v, q2, q3⟩ := e.sl i _ hδ
  have q3' := q3
  rw [Rep] at q3'
  obtain ⟨z, kvs, rfl, _, _⟩ := q3'
  exact ⟨z, kds, hp, q3, fun HL _ Q q => ⟨.ref z, slot_get q2, q⟩⟩
def plFld (c f : Str) (i : Nat) : Env → (List (Key × D) → Prop) → Prop := fun δ P => ∃ fs kds, (δ[i]? = some (.fz (.ins c fs)) ∨ δ[i]? = some (.ow (.ins c fs))) ∧ fs.lookup f = some (.dic kds) ∧ P kds
theorem pl_fld {c f : Str} {i : Nat} {x : Str} {pos2 : Pos} (g : Good W N sc k E X) (hf : FldOk W c f) (hi : N[i]? = some x) (hv : visB sc x = true) (hd : (x == ("__debug__" : Str)) = false) (hcd : (x == ("__classdict__" : Str)) = false) : PlW W X (.Attribute (.Name x pos) f pos2) (plFld c f i) := by
  refine ⟨_, pe_fld (pe_var (by rw [g.hN]; exact hi) (g.vis x hv) hd hcd) (base_of (a := .Name x pos) rfl), ?_⟩
  rw [g.hK]
  intro Hd H0 A H σ δ P e ⟨fs, kds, hδ, hl, hp⟩
  obtain ⟨C', h1, h2, h3⟩ := hf
  have go : ∀ (u z : Addr) (C dx : Addr) (vs : List (Str × V)), σ[i]?.join = some (.ref u) → ClA W c C u → H u = some (.ins C dx vs) → RepF W (fz (Rsv W Hd A) H) fs vs → ∃ z kds, P kds ∧ Rep W (fz (Rsv W Hd A) H) (.dic kds) (.ref z) ∧ ∀ HL : Hp, (∀ y o, hard o = true → H y = some o → HL y = some o) → ∀ Q : VK, Q (.ref z) HL → tFld W.K (tVar i) f σ HL Q := by
    intro u z C dx vs q2 hc hu hF
    have : C' = C := by have := hc.1; rw [h1] at this; exact Option.some.inj this
    subst this
    obtain ⟨v, hv, hr⟩ := (hF.look (f := f)).1 _ hl
    have hr' := hr
    rw [Rep] at hr'
    obtain ⟨z, kvs, rfl, _, _⟩ := hr'
    exact ⟨z, kds, hp, hr, fun HL hh Q q => ⟨.ref u, slot_get q2, u, C', dx, vs, .ref z, rfl, hh _ _ rfl hu, h2, h3, hv, q⟩⟩
  rcases hδ with hδ | hδ
  · obtain ⟨q1, v, q2, q3⟩ := e.sl i _ hδ
    rw [Rep] at q3
    obtain ⟨u, C, dx, vs, rfl, hc, hu, hF⟩ := q3
    exact go u u C dx vs q2 hc (fz_some hu).2 hF
  · obtain ⟨u, q1, q2, C, dx, vs, hc, hu, hF⟩ := e.sl i _ hδ
    exact go u u C dx vs q2 hc hu hF
theorem QOk.lock {K : R → Prop} {Q : VK} {z : Addr} {od : Obj} {u : HO} (q : QOk W Hd A H δ K Q) (hz : H z = some u) (nz : ¬ Rsv W Hd A z) : QOk W Hd A (upd H z (.frz od u)) δ K (fun v H' => H' z = some (.frz od u) ∧ Q v (upd H' z u)) := by
  intro v H' r kx s rr hk
  have hz' : H' z = some (.frz od u) := kx z _ (fun w => nz (.inl w)) upd_same
  refine ⟨hz', q v (upd H' z u) r (fun y w n hy => ?_) (s.upd fun w => nz (.inl w)) ?_ hk⟩
  · by_cases hyz : y = z
    · subst hyz
      rw [hz] at hy
      cases hy
      exact upd_same
    · rw [upd_ne hyz]
      exact kx y w n (by rw [upd_ne hyz]; exact hy)
  · cases r with
    | v d => exact Rep.mono (Ex.unlock hz') d rr
    | own d =>
      obtain ⟨y, h1, h2, h3, h4⟩ := rr
      have hy : y ≠ z := fun w => by rw [w, upd_same] at h2; cases h2
      rw [upd_ne hy] at h2
      exact ⟨y, h1, h2, h3, h4.mono (Ex.unlock hz') fun o w => by rw [upd_ne hy]; exact w⟩
    | sl i d =>
      obtain ⟨y, h1, h2, h3, h4⟩ := rr
      have hy : y ≠ z := fun w => nz (.inr (.inr ⟨i, by rw [← w]; exact h1⟩))
      exact ⟨y, h1, h2, h3, h4.mono (Ex.unlock hz') fun o w => by rw [upd_ne hy]; exact w⟩
theorem lock_hard {z : Addr} {od : Obj} {u : HO} (hz : H z = some u) (hh : hard u = false) : ∀ y o, hard o = true → H y = some o → upd H z (.frz od u) y = some o := fun y o ho hy => by
  have : y ≠ z := fun w => by rw [w, hz] at hy; cases hy; rw [hh] at ho; cases ho
  rw [upd_ne this]; exact hy
def TorL (T : TE) : TE := fun σ H Q => T σ H Q ∨ tLockE T σ H Q
theorem pe_torL {T : TE} (h : PE X a T) : PE X a (TorL T) := PE.or h (pe_lock h)
def wLcK (kd : Dk) (wp : Env → (List (Key × D) → Prop) → Prop) (vs : List Nat) (tg : Tg) (wt : WT) (we : WE) : WE := fun δ K _ => noOw δ vs = true ∧ wp δ fun kds => (kds.all fun kv => keyOk kv.1) = true ∧ kds.length ≤ big ∧ lcGo (lcStep tg wt we (wipeD δ vs)) (dkL kd kds) [] fun acc => K (.own (.lst acc))
theorem dkL_len {kd : Dk} {kds : List (Key × D)} : (dkL kd kds).length = kds.length := by cases kd <;> exact List.length_map ..
theorem ev_lcK {kd : Dk} {wp : Env → (List (Key × D) → Prop) → Prop} {tp : TE} {g : TG} {tt : TT} {te : TE} {tg : Tg} {wt : WT} {we : WE} {vs : List Nat} (hsub : ∀ i ∈ tg.slots, i ∈ vs)
    (hp : ∀ (Hd : Addr → Prop) (H0 : Hp) (A : Nat → Option Addr) (H : Hp) (σ : St) (δ : Env) (P : List (Key × D) → Prop), EnvOk W Hd H0 A H σ δ → wp δ P → ∃ z kds, P kds ∧ Rep W (fz (Rsv W Hd A) H) (.dic kds) (.ref z) ∧ ∀ HL : Hp, (∀ y o, hard o = true → H y = some o → HL y = some o) → ∀ Q : VK, Q (.ref z) HL → tp σ HL Q)
    (hg : EvG W g tg) (ht : EvT W EN tt wt) (he : EvE W EN te we) : EvE W E (TorL (tLc (dkI kd tp) g tt te vs)) (wLcK kd wp vs tg wt we) := by
  intro Hd H0 A H σ δ K Xp Q e hw q x
  obtain ⟨no, hw⟩ := hw
  obtain ⟨z, kds, ⟨hok, hlen, hgo⟩, hr, run⟩ := hp Hd H0 A H σ δ _ e hw
  rw [Rep] at hr
  obtain ⟨z', kvs, ez, h1, h2⟩ := hr
  cases ez
  have hl : (dkL kd kds).length ≤ big := by rw [dkL_len]; exact hlen
  rcases h1 with h1 | ⟨o, h1⟩
  · obtain ⟨nz, hz⟩ := fz_some h1
    refine .inr ⟨z, .dK kvs, hz, trivial, fun od => ?_⟩
    have eL := e.lock (od := od) hz rfl rfl nz
    have hzL : upd H z (.frz od (.dK kvs)) z = some (.frz od (.dK kvs)) := upd_same
    refine lc_at hsub hg ht he eL no (q.lock hz nz) fun Rr h => dkI_of (run _ (lock_hard hz rfl) _ (dkQ_of hzL (h _ _ [] _ (Kx.refl _) eL.st (dk_src kd (fz_HdC nz hzL) (h2.mono (Ex.lock hz rfl rfl)) hok) ⟨hl, hgo⟩)))
  · obtain ⟨nz, hz⟩ := fz_some h1
    exact .inl (lc_at hsub hg ht he e no q fun Rr h => dkI_of (run _ (fun _ _ _ w => w) _ (dkQ_of hz (h _ _ [] _ (Kx.refl _) e.st (dk_src kd (fz_HdC nz hz) h2 hok) ⟨hl, hgo⟩))))
theorem ew_lcK {kd : Dk} {wp : Env → (List (Key × D) → Prop) → Prop} {t iter elt : Expr} {ifs : List Expr} {scope : Scope} {own : List (Str × Nat)} {tg : Tg} {wt : WT} {we : WE} (g : Good W N sc k E X) (hb : blkC N sc scope own = true) (ho : ownOk own tg = true) (hns : noSet iter = true)
    (hk : dkB kd t iter = some a) (hp : PlW W X a wp) (h : LcW W N k scope t ifs elt tg wt we) : PEW W E X (.ListComp elt [⟨t, iter, ifs, 0⟩] scope pos) (wLcK kd wp (own.map (·.2)) tg wt we) := by
  obtain ⟨tp, pp, ep⟩ := hp
  have ok := blkOk_good g hb
  exact ⟨_, pe_torL (pe_lc g.calm (by rw [g.hN]; exact g.nd) (pi_dk hk pp) ok (fun s H C cl fp => (h.g _ (good_blk g ok.kind)).can) (fun s H C cl fp => (h.t _ (good_blk g ok.kind)).can) (fun s H C cl fp => (h.e _ (good_blk g ok.kind)).can) (noSet_fold hns)),
    ev_lcK (ownOk_sub ho) ep ev_TWG ev_TWT ev_TW⟩
def wDcK (kd : Dk) (wp : Env → (List (Key × D) → Prop) → Prop) (vs : List Nat) (tg : Tg) (wt : WT) (wk we : WE) : WE := fun δ K _ => noOw δ vs = true ∧ wp δ fun kds => (kds.all fun kv => keyOk kv.1) = true ∧ kds.length ≤ big ∧ lcGo (dcStep tg wt wk we (wipeD δ vs)) (dkL kd kds) [] fun acc => K (.own (.dic (mergeD [] (acc.map prD))))
theorem ev_dcK {kd : Dk} {wp : Env → (List (Key × D) → Prop) → Prop} {tp : TE} {g : TG} {tt : TT} {tk te : TE} {tg : Tg} {wt : WT} {wk we : WE} {vs : List Nat} (hsub : ∀ i ∈ tg.slots, i ∈ vs)
    (hp : ∀ (Hd : Addr → Prop) (H0 : Hp) (A : Nat → Option Addr) (H : Hp) (σ : St) (δ : Env) (P : List (Key × D) → Prop), EnvOk W Hd H0 A H σ δ → wp δ P → ∃ z kds, P kds ∧ Rep W (fz (Rsv W Hd A) H) (.dic kds) (.ref z) ∧ ∀ HL : Hp, (∀ y o, hard o = true → H y = some o → HL y = some o) → ∀ Q : VK, Q (.ref z) HL → tp σ HL Q)
    (hg : EvG W g tg) (ht : EvT W EN tt wt) (hkk : EvE W EN tk wk) (he : EvE W EN te we) : EvE W E (TorL (tDc (dkI kd tp) g tt tk te vs)) (wDcK kd wp vs tg wt wk we) := by
  intro Hd H0 A H σ δ K Xp Q e hw q x
  obtain ⟨no, hw⟩ := hw
  obtain ⟨z, kds, ⟨hok, hlen, hgo⟩, hr, run⟩ := hp Hd H0 A H σ δ _ e hw
  rw [Rep] at hr
  obtain ⟨z', kvs, ez, h1, h2⟩ := hr
  cases ez
  have hl : (dkL kd kds).length ≤ big := by rw [dkL_len]; exact hlen
  rcases h1 with h1 | ⟨o, h1⟩
  · obtain ⟨nz, hz⟩ := fz_some h1
    refine .inr ⟨z, .dK kvs, hz, trivial, fun od => ?_⟩
    have eL := e.lock (od := od) hz rfl rfl nz
    have hzL : upd H z (.frz od (.dK kvs)) z = some (.frz od (.dK kvs)) := upd_same
    refine dc_at hsub hg ht hkk he eL no (q.lock hz nz) fun Rr h => dkI_of (run _ (lock_hard hz rfl) _ (dkQ_of hzL (h _ _ [] _ (Kx.refl _) eL.st (dk_src kd (fz_HdC nz hzL) (h2.mono (Ex.lock hz rfl rfl)) hok) ⟨hl, hgo⟩)))
  · obtain ⟨nz, hz⟩ := fz_some h1
    exact .inl (dc_at hsub hg ht hkk he e no q fun Rr h => dkI_of (run _ (fun _ _ _ w => w) _ (dkQ_of hz (h _ _ [] _ (Kx.refl _) e.st (dk_src kd (fz_HdC nz hz) h2 hok) ⟨hl, hgo⟩))))
theorem ew_dcK {kd : Dk} {wp : Env → (List (Key × D) → Prop) → Prop} {t iter kx elt : Expr} {ifs : List Expr} {scope : Scope} {own : List (Str × Nat)} {tg : Tg} {wt : WT} {wk we : WE} (g : Good W N sc k E X) (hb : blkC N sc scope own = true) (ho : ownOk own tg = true) (hns : noSet iter = true)
    (hk : dkB kd t iter = some a) (hp : PlW W X a wp) (h : LcW W N k scope t ifs elt tg wt we) (hkx : ∀ X', Good W N scope k EN X' → PEW W EN X' kx wk) : PEW W E X (.DictComp kx elt [⟨t, iter, ifs, 0⟩] scope pos) (wDcK kd wp (own.map (·.2)) tg wt wk we) := by
  obtain ⟨tp, pp, ep⟩ := hp
  have ok := blkOk_good g hb
  exact ⟨_, pe_torL (pe_dc g.calm (by rw [g.hN]; exact g.nd) (pi_dk hk pp) ok (fun s H C cl fp => (h.g _ (good_blk g ok.kind)).can) (fun s H C cl fp => (h.t _ (good_blk g ok.kind)).can) (fun s H C cl fp => (hkx _ (good_blk g ok.kind)).can) (fun s H C cl fp => (h.e _ (good_blk g ok.kind)).can) (noSet_fold hns)),
    ev_dcK (ownOk_sub ho) ep ev_TWG ev_TWT ev_TW ev_TW⟩
/-! x = [.. for .. in d.items()] -/
theorem ev_asgL {i : Nat} {ow : Bool} {T : TE} {w : WE} (h : EvE W E (TorL T) w) : EvS W E (fun D σ H => tAsg T (gName i) D σ H ∨ tLock (tAsg T (gName i)) D σ H) (wAsg i ow w) := by
  intro Hd H0 A H σ δ p D e hw l
  rcases ev_asg (i := i) (ow := ow) h Hd H0 A H σ δ p D e hw l with q | ⟨d, u, q1, q2, q3⟩
  · exact .inl q
  · exact .inr ⟨d, u, q1, q2, q3⟩
theorem sw_setLcK {kd : Dk} {wp : Env → (List (Key × D) → Prop) → Prop} {i : Nat} {ow : Bool} {x : Str} {p2 p3 : Pos} {t iter elt : Expr} {ifs : List Expr} {scope : Scope} {own : List (Str × Nat)} {tg : Tg} {wt : WT} {we : WE} (g : Good W N sc k E X) (hx : N[i]? = some x) (hl : sc.names.lookup x = some .local) (hln : (p2.line == p3.line) = true)
    (han : (scope.names.any fun (n, k) => n == x && (k == .local || k == .cell)) = false) (hb : blkC N sc scope own = true) (ho : ownOk own tg = true) (hns : noSet iter = true)
    (hk : dkB kd t iter = some a) (hp : PlW W X a wp) (h : LcW W N k scope t ifs elt tg wt we) : PSW W E X (.Assign [.Name x p2] (.ListComp elt [⟨t, iter, ifs, 0⟩] scope p3) pos) (wAsg i ow (wLcK kd wp (own.map (·.2)) tg wt we)) := by
  obtain ⟨tp, pp, ep⟩ := hp
  have ok := blkOk_good g hb
  have ps := ps_setLc (spos := pos) g.calm (by rw [g.hN]; exact g.nd) (by rw [g.hN]; exact hx) (g.lcl x hl) (sw_true (pos := p3) g.kind (g.lcl x hl) hln han) (pi_dk hk pp) ok (fun s H C cl fp => (h.g _ (good_blk g ok.kind)).can) (fun s H C cl fp => (h.t _ (good_blk g ok.kind)).can) (fun s H C cl fp => (h.e _ (good_blk g ok.kind)).can) (noSet_fold hns)
  exact ⟨_, PS.or ps (ps_lock ps), ev_asgL (ev_lcK (ownOk_sub ho) ep ev_TWG ev_TWT ev_TW)⟩
theorem sw_setDcK {kd : Dk} {wp : Env → (List (Key × D) → Prop) → Prop} {i : Nat} {ow : Bool} {x : Str} {p2 p3 : Pos} {t iter kx elt : Expr} {ifs : List Expr} {scope : Scope} {own : List (Str × Nat)} {tg : Tg} {wt : WT} {wk we : WE} (g : Good W N sc k E X) (hx : N[i]? = some x) (hl : sc.names.lookup x = some .local) (hln : (p2.line == p3.line) = true)
    (han : (scope.names.any fun (n, k) => n == x && (k == .local || k == .cell)) = false) (hb : blkC N sc scope own = true) (ho : ownOk own tg = true) (hns : noSet iter = true)
    (hk : dkB kd t iter = some a) (hp : PlW W X a wp) (h : LcW W N k scope t ifs elt tg wt we) (hkx : ∀ X', Good W N scope k EN X' → PEW W EN X' kx wk) : PSW W E X (.Assign [.Name x p2] (.DictComp kx elt [⟨t, iter, ifs, 0⟩] scope p3) pos) (wAsg i ow (wDcK kd wp (own.map (·.2)) tg wt wk we)) := by
  obtain ⟨tp, pp, ep⟩ := hp
  have ok := blkOk_good g hb
  have ps := ps_setDc (spos := pos) g.calm (by rw [g.hN]; exact g.nd) (by rw [g.hN]; exact hx) (g.lcl x hl) (sw_trueD (pos := p3) g.kind (g.lcl x hl) hln han) (pi_dk hk pp) ok (fun s H C cl fp => (h.g _ (good_blk g ok.kind)).can) (fun s H C cl fp => (h.t _ (good_blk g ok.kind)).can) (fun s H C cl fp => (hkx _ (good_blk g ok.kind)).can) (fun s H C cl fp => (h.e _ (good_blk g ok.kind)).can) (noSet_fold hns)
  exact ⟨_, PS.or ps (ps_lock ps), ev_asgL (ev_dcK (ownOk_sub ho) ep ev_TWG ev_TWT ev_TW ev_TW)⟩
/-! for .. in d.items(): body -/
def wForD (kd : Dk) (tg : Tg) (wp : Env → (List (Key × D) → Prop) → Prop) (wb : WS) : WS := fun δ p => wp δ fun kds => (kds.all fun kv => keyOk kv.1) = true ∧ forGo tg wb (dkL kd kds) δ { p with ex := fun _ => False }
theorem ev_forD {kd : Dk} {wp : Env → (List (Key × D) → Prop) → Prop} {tp : TE} {g : TG} {tb : TS} {tg : Tg} {wb : WS}
    (hp : ∀ (Hd : Addr → Prop) (H0 : Hp) (A : Nat → Option Addr) (H : Hp) (σ : St) (δ : Env) (P : List (Key × D) → Prop), EnvOk W Hd H0 A H σ δ → wp δ P → ∃ z kds, P kds ∧ Rep W (fz (Rsv W Hd A) H) (.dic kds) (.ref z) ∧ ∀ HL : Hp, (∀ y o, hard o = true → H y = some o → HL y = some o) → ∀ Q : VK, Q (.ref z) HL → tp σ HL Q)
    (hg : EvG W g tg) (hb : EvS W E tb wb) : EvS W E (fun De σ H => tFor (dkI kd tp) g tb De σ H ∨ tLock (tFor (dkI kd tp) g tb) De σ H) (wForD kd tg wp wb) := by
  intro Hd H0 A H σ δ q De e hw l
  obtain ⟨z, kds, ⟨hok, hgo⟩, hr, run⟩ := hp Hd H0 A H σ δ _ e hw
  rw [Rep] at hr
  obtain ⟨z', kvs, ez, h1, h2⟩ := hr
  cases ez
  rcases h1 with h1 | ⟨o, h1⟩
  · obtain ⟨nz, hz⟩ := fz_some h1
    refine .inr ⟨z, .dK kvs, hz, trivial, fun od => ?_⟩
    have eL := e.lock (od := od) hz rfl rfl nz
    have lL := l.lock (od := od) e hz nz
    have hzL : upd H z (.frz od (.dK kvs)) z = some (.frz od (.dK kvs)) := upd_same
    exact dkI_of (run _ (lock_hard hz rfl) _ (dkQ_of hzL (for_src (Js := []) hg hb eL (dk_src kd (fz_HdC nz hzL) (h2.mono (Ex.lock hz rfl rfl)) hok) hgo lL)))
  · obtain ⟨nz, hz⟩ := fz_some h1
    exact .inl (dkI_of (run _ (fun _ _ _ w => w) _ (dkQ_of hz (for_src (Js := []) hg hb e (dk_src kd (fz_HdC nz hz) h2 hok) hgo l.noex))))
theorem sw_forD {kd : Dk} {wp : Env → (List (Key × D) → Prop) → Prop} {t iter : Expr} {body : List Stmt} {tg : Tg} {wb : WS} (g : Good W N sc k E X) (hns : noSet iter = true) (hk : dkB kd t iter = some a) (hp : PlW W X a wp) (hg : PGW W X t tg) (hb : PBW W E X body wb) : PSW W E X (.For t iter body [] pos) (wForD kd tg wp wb) := by
  obtain ⟨tp, pp, ep⟩ := hp
  obtain ⟨gg, pg, eg⟩ := hg
  obtain ⟨tb, pb, eb⟩ := hb
  have pf := ps_for (pos := pos) g.po g.calm (pi_dk hk pp) pg pb (noSet_fold hns)
  exact ⟨_, PS.or pf (ps_lock pf), ev_forD ep eg eb⟩
end
end G
set_option maxRecDepth 100000
set_option maxHeartbeats 4000000
namespace G
open PySem PySem.Spec PyProof.Rows L2
section
variable {W : Wd} {Hd : Addr → Prop} {H0 H : Hp} {A : Nat → Option Addr} {σ : St} {δ : Env} {X : Cx} {E : XK} {N : List Str} {sc : Scope} {k : Nat}
variable {a b c : Expr} {wa wb wc : WE} {pos p : Pos}
/-! ### == by an own __eq__ -/
theorem op_ieq {C fa : Addr} {fd : FuncData} {ps : List Str} {sp : Sp} (F : FnG X.prog X.w X.K X.mg X.base (L2.CX X.prog X.w) k fa fd ps sp) (hr : Room k X.A) (gd : noGd X.A) (hb : Binds X.K fd ps []) (hx : Passes (L2.CX X.prog X.w) X E) (M : Meth X.K C "__eq__" fa) :
    OpR X (compareOp .Eq) (fun x y H Q => ∃ a b dx dy fs gs, x = .ref a ∧ y = .ref b ∧ H a = some (.ins C dx fs) ∧ H b = some (.ins C dy gs) ∧ sp ([x, y] ++ []) H (fun v H' => (∃ t, v = .bl t) ∧ Q v H') E) := by
  intro pins s σ H x y v u Q I rx ry h
  obtain ⟨a, b, dx, dy, fs, gs, rfl, rfl, ha, hb', h⟩ := h
  cases rx
  cases ry
  obtain ⟨mA, J, _⟩ := ins_get I.hok ha
  obtain ⟨mB, J', _⟩ := ins_get I.hok hb'
  obtain ⟨od, J, _⟩ := J.look
  obtain ⟨od', J', _⟩ := J'.look
  obtain ⟨m, hF⟩ := I.fr
  have r2 : Vals [V.ref a, V.ref b] [Value.ref a, Value.ref b] := .cons rfl (.cons rfl .nil)
  refine PySem.W.cmp_K (op := .Eq) (tb := .ref C) hr.units0 hF I.ok.mod.kin J J'.type (by simp [PySem.W.notFirst]) M.at_ M.fn ?_
  refine wpAny_mono (F.call0 hr gd hx hb I r2 h) (fun w s' hv => ?_) fun _ _ e => e
  obtain ⟨z, H', I', rz, ⟨t, et⟩, q⟩ := hv
  subst et
  cases rz
  exact ⟨.bl t, H', I', rfl, q⟩
def wIeq (c : Str) (S : FSpec) (wa wb : WE) : WE := fun δ K Xp => wa δ (fun x => wb δ (fun y => (∃ fs, x.d = .ins c fs) ∧ (∃ gs, y.d = .ins c gs) ∧ callS S [x, y] (fun r => (∃ t, r.d = .bl t) ∧ K r) Xp) Xp) Xp
theorem ieq_all {c : Str} {S : FSpec} (g : Good W N sc k E X) (M : MOk W k c "__eq__" S) : ∃ r, OpR X (compareOp .Eq) r ∧ ∀ (ta tb : TE) (wa wb : WE), EvE W E ta wa → EvE W E tb wb → EvE W E (tOp r ta tb) (wIeq c S wa wb) := by
  obtain ⟨C, fa, fd, ps, hC, cl, mt, F, hbn⟩ := M
  refine ⟨_, op_ieq (E := E) (C := C) (by rw [g.hP, g.hw, g.hK, g.hm, g.hb]; exact F) g.room g.gd (by rw [g.hK]; exact hbn) g.px (by rw [g.hK]; exact mt), fun ta tb wa wb ea eb => ?_⟩
  intro Hd H0 A H σ δ K Xp Q e hw q x
  refine ea Hd H0 A H σ δ _ Xp _ e hw (fun v H1 rx k1 s1 r1 h1 => ?_) x
  have e1 := e.keep k1 s1
  refine eb Hd H0 A H1 σ δ _ Xp _ e1 h1 (fun u H2 ry k2 s2 r2 h2 => ?_) (x.keep k1)
  have e2 := e1.keep k2 s2
  obtain ⟨⟨fs, hf⟩, ⟨gs, hg⟩, h3⟩ := h2
  have r1' := r1.opn.keep e1 k2
  obtain ⟨z, C1, dx, vs, rfl, c1, z1, _⟩ := r1'.ins hf
  obtain ⟨z2, C2, dy, ws, rfl, c2, z3, _⟩ := r2.ins hg
  have q1 : C1 = C := by have := c1.1; rw [hC] at this; exact (Option.some.inj this).symm
  have q2 : C2 = C := by have := c2.1; rw [hC] at this; exact (Option.some.inj this).symm
  subst q1
  subst q2
  refine ⟨z, z2, dx, dy, vs, ws, rfl, rfl, z1, z3, ?_⟩
  rw [List.append_nil]
  exact sp_call e2 (.cons r1' (.cons r2.opn .nil)) h3 (fun v H' r k3 s3 r3 ⟨⟨t, ht⟩, hk⟩ => ⟨⟨t, r3.bl ht⟩, ((q.from k1 s1).from k2 s2) v H' r k3 s3 r3 hk⟩) ((x.keep k1).keep k2)
theorem ew_ieq {c : Str} {S : FSpec} (g : Good W N sc k E X) (M : MOk W k c "__eq__" S) (hm : behindInMarks .Eq b = false) (ha : PEW W E X a wa) (hb : PEW W E X b wb) : PEW W E X (.Compare a [.Eq] [b] pos) (wIeq c S wa wb) ∧ PTW W E X (.Compare a [.Eq] [b] pos) (wT (wIeq c S wa wb)) := by
  obtain ⟨ta, pa, ea⟩ := ha
  obtain ⟨tb, pb, eb⟩ := hb
  obtain ⟨r, h1, h2⟩ := ieq_all g M
  exact ⟨⟨_, pe_cmpR h1 pa pb hm, h2 _ _ _ _ ea eb⟩, ⟨_, pt_cmpR h1 pa pb hm, et_test (h2 _ _ _ _ ea eb)⟩⟩
theorem ew_deq {neg : Bool} (g : Good W N sc k E X) (hm : behindInMarks (eqOp neg) b = false) (ha : PEW W E X a wa) (hb : PEW W E X b wb) : PEW W E X (.Compare a [eqOp neg] [b] pos) (wOp (deqS neg) wa wb) ∧ PTW W E X (.Compare a [eqOp neg] [b] pos) (wT (wOp (deqS neg) wa wb)) := by
  obtain ⟨ta, pa, ea⟩ := ha
  obtain ⟨tb, pb, eb⟩ := hb
  obtain ⟨r, h1, h2⟩ := deq_all g neg
  exact ⟨⟨_, pe_cmpR h1 pa pb hm, ev_op h2 ea eb⟩, ⟨_, pt_cmpR h1 pa pb hm, et_test (ev_op h2 ea eb)⟩⟩
/-! ### isinstance(x, an own class) -/
def IsOk (W : Wd) (c : Str) : Prop := ∃ C, W.cl c = some C ∧ W.mg c = some (.ref C) ∧ C8.InsC W.K C
def wIsC (c : Str) (wa : WE) : WE := fun δ K Xp => wa δ (fun r => (∃ fs, r.d = .ins c fs) ∧ K (.v (.bl true))) Xp
theorem ew_isC {c x : Str} {p1 p2 : Pos} (g : Good W N sc k E X) (hi : glB sc "isinstance" = true) (mi : W.mg "isinstance" = none) (hx : glB sc c = true) (hdb : (c == ("__debug__" : Str)) = false) (O : IsOk W c) (st : noStar a = true) (ha : PEW W E X a wa) :
    PEW W E X (.Call (.Name "isinstance" p1) [a, .Name c p2] [] pos) (wIsC c wa) := by
  obtain ⟨ta, pa, ea⟩ := ha
  obtain ⟨C, hC, mC, ic⟩ := O
  refine ⟨_, pe_callB (C8.call_isC (by rw [g.hK]; exact ic)) (g.gl _ hi) (by rw [g.hm]; exact mi) boot_isinstance (pa_cons pa (pa_cons (pe_glob (v := .ref C) (g.gl _ hx) (by rw [g.hm]; exact mC) rfl hdb) pa_nil (star_is rfl)) (star_is st)) (by decide) (by decide) (star_is st) (star_none rfl), ?_⟩
  intro Hd H0 A H σ δ K Xp Q e hw q x
  refine ea Hd H0 A H σ δ _ Xp _ e hw (fun v H1 rx k1 s1 r1 h1 => ?_) x
  obtain ⟨⟨fs, hf⟩, hk⟩ := h1
  obtain ⟨z, C1, dx, vs, rfl, c1, z1, _⟩ := r1.ins hf
  have q1 : C1 = C := by have := c1.1; rw [hC] at this; exact (Option.some.inj this).symm
  subst q1
  exact ⟨z, dx, vs, rfl, z1, (q.from k1 s1).bl (e.keep k1 s1) hk⟩
/-! ### list(d.items()), d a new dict or a slot's own -/
def wLItems (wa : WE) : WE := fun δ K Xp => wa δ (fun r => ∃ kds, (r = .own (.dic kds) ∨ ∃ i, r = .sl i (.dic kds)) ∧ (kds.all fun kv => keyOk kv.1) = true ∧ K (.own (.lst (dkL .items kds)))) Xp
theorem rep_items {F : Hp} {Hx : Hp} : ∀ {kds : List (Key × D)} {kvs : List (Key × V)} {ts : List Addr}, RepK W F kds kvs → (kds.all fun kv => keyOk kv.1) = true → Paired (fun (t : Addr) (q : Key × V) => Hx t = some (.tup [kV q.1, q.2])) ts kvs → Ex F Hx → RepL W Hx (dkL .items kds) (ts.map V.ref)
  | [], kvs, ts, h, _, p, _ => by
    rw [RepK] at h
    subst h
    cases p
    exact .nil
  | (kk, d) :: kds, kvs, ts, h, hk, p, x => by
    rw [RepK] at h
    obtain ⟨v, r, rfl, h1, h2⟩ := h
    cases p with
    | cons q1 q2 =>
      rw [List.all_cons, Bool.and_eq_true] at hk
      refine .cons ?_ (rep_items h2 hk.2 q2 x)
      show Rep W Hx (.tup [keyV kk, d]) _
      rw [Rep]
      exact ⟨_, _, rfl, .inl (.inl q1), .cons (keyV_rep hk.1) (.cons (h1.mono x) .nil)⟩
theorem ew_litems {p1 cp ap : Pos} (g : Good W N sc k E X) (hb : baseOk a = true) (hln : (ap.endLine == cp.line) = true) (hl : glB sc "list" = true) (ml : W.mg "list" = none) (ha : PEW W E X a wa) :
    PEW W E X (.Call (.Name "list" p1) [.Call (.Attribute a "items" ap) [] [] cp] [] pos) (wLItems wa) := by
  obtain ⟨ta, pa, ea⟩ := ha
  refine ⟨_, LiI.pe_listItems g.calm pa (g.gl _ hl) (by rw [g.hm]; exact ml) boot_list (base_of hb) hln (star_is rfl), ?_⟩
  intro Hd H0 A H σ δ K Xp Q e hw q x
  refine ea Hd H0 A H σ δ _ Xp _ e hw (fun v H1 rx k1 s1 r1 h1 => ?_) x
  obtain ⟨kds, hr, hok, hk⟩ := h1
  have e1 := e.keep k1 s1
  have main : ∃ z kvs, v = .ref z ∧ H1 z = some (.dK kvs) ∧ RepK W (fz (Rsv W Hd A) H1) kds kvs := by
    rcases hr with rfl | ⟨i, rfl⟩
    · obtain ⟨z, rfl, h2, h3, kvs, h4, h5⟩ := r1
      exact ⟨z, kvs, rfl, h4, h5.mono (fz_kp fun y o n w => ⟨fun r => n (.inl r), w⟩).ex⟩
    · obtain ⟨z, h2, rfl, h3, kvs, h4, h5⟩ := r1
      exact ⟨z, kvs, rfl, h4, h5⟩
  obtain ⟨z, kvs, rfl, h4, h5⟩ := main
  refine ⟨z, kvs, rfl, h4, fun H' l ts kp hl hts hlt hL hT => ?_⟩
  have kx : Kx W H1 H' := fun y o _ w => kp y o w
  have nl : ¬ Rsv W Hd A l := fun r => by obtain ⟨o, w⟩ := e1.rsvSome r; rw [hl] at w; cases w
  have nt : ∀ t ∈ ts, ¬ Rsv W Hd A t := fun t ht r => by obtain ⟨o, w⟩ := e1.rsvSome r; rw [hts t ht] at w; cases w
  refine (q.from k1 s1) _ H' (.own (.lst (dkL .items kds))) kx (s1.kp kp) ⟨l, rfl, hl, nl, ts.map V.ref, hL, ?_⟩ hk
  have sub : Kp (fz (Rsv W Hd A) H1) (fz (fun y => Rsv W Hd A y ∨ y = l) H') := fz_kp fun y o n w => ⟨fun r => r.elim n (fun r => by rw [r, hl] at w; cases w), kp y o w⟩
  have hT' : Paired (fun (t : Addr) (q : Key × V) => fz (fun y => Rsv W Hd A y ∨ y = l) H' t = some (.tup [kV q.1, q.2])) ts kvs := by
    have gen : ∀ {us : List Addr} {ks : List (Key × V)}, Paired (fun (t : Addr) (q : Key × V) => H' t = some (.tup [kV q.1, q.2])) us ks → (∀ t ∈ us, ¬ (Rsv W Hd A t ∨ t = l)) → Paired (fun (t : Addr) (q : Key × V) => fz (fun y => Rsv W Hd A y ∨ y = l) H' t = some (.tup [kV q.1, q.2])) us ks := by
      intro us ks h
      induction h with
      | nil => intro _; exact .nil
      | cons a _ ih => intro hn; exact .cons (fz_of (hn _ List.mem_cons_self) a) (ih fun t ht => hn t (List.mem_cons_of_mem _ ht))
    exact gen hT fun t ht r => r.elim (nt t ht) fun r => hlt (by rw [← r]; exact ht)
  exact rep_items h5 hok hT' sub.ex
end
end G
set_option maxRecDepth 100000
set_option maxHeartbeats 4000000
namespace G
open PySem PySem.Spec PyProof.Rows L2

def wDct0 : WE := fun _ K _ => K (.own (.dic []))
theorem ew_dct0 {W : Wd} {E : XK} {X : Cx} {pos : Pos} : PEW W E X (.Dict [] [] pos) wDct0 := by
  refine ⟨_, pe_dnewK, ?_⟩
  intro Hd H0 A H σ δ K Xp Q e hw q x
  exact fun p hp => q.newD e (by rw [RepK]) hw hp
theorem ew_repr {W : Wd} {E : XK} {X : Cx} {N : List Str} {sc : Scope} {k : Nat} {a : Expr} {es : List Expr} {wr : WA} {p pos : Pos} (g : Good W N sc k E X) (hx : glB sc "repr" = true) (hm : W.mg "repr" = none) (st : (a :: es).all noStar = true) (ha : PAW W E X (a :: es) wr) : PEW W E X (.Call (.Name "repr" p) (a :: es) [] pos) (wBlt reprS wr) :=
  ew_blt (v := .f "repr") g hx hm (by decide +kernel) (by decide) (by decide) (call_repr g.hK g.gd g.room) cs_repr st ha
/-! ### the core: expressions, arguments, what is walked -/
inductive C where
  | var (i : Nat)
  | k (d : D)
  | glob (x : Str) (d : D)
  | bin (op : Operator) (a b : C)
  | neg (a : C)
  | cmp (op : CmpOp) (a b : C)
  | chain (o1 o2 : CmpOp) (a b c : C)
  | and (a r : C) | or (a r : C) | one (a : C) | not (a : C)
  | ife (c a b : C)
  | tup (as : C) | lst (as : C) | dct0
  | ix (a b : C)
  | sl (a lo hi : C)
  | no | opt (a : C)
  | call (f : Str) (S : FSpec) (as : C)
  | bn (b : Bn) (as : C)
  | lrange (as : C)
  | isin (T : String) (a : C)
  | isin2 (T T' : String) (a : C)
  | lc (own : List (Str × Nat)) (tg : Tg) (it cd el : C)
  | nil | cons (a as : C)
  | iseq (a : C) | irange (as : C)
  | fld (c f : Str) (a : C)
  | meth (c m : Str) (S : FSpec) (o as : C)
  | methK (c m : Str) (S : FSpec) (ks : List Str) (perm : List Nat) (o kas : C)
  | mk (c : Str) (S : FSpec) (as : C)
  | callK (f : Str) (S : FSpec) (n : Nat) (ks : List Str) (perm : List Nat) (as kas : C)
  | dc (own : List (Str × Nat)) (tg : Tg) (it cd kx el : C)
  | bn2 (b : Bn2) (as : C)
  | cnt (a : C) | rev (a : C)
  | bm (m : Bm) (o as : C)
  | ienum (a : C) | izip (a b : C)
  | repr (as : C) | dz (as : C)
  | deq (neg : Bool) (a b : C) | ieq (c : Str) (S : FSpec) (a b : C) | isC (c : Str) (a : C) | lItems (a : C)
  | iitF (kd : Dk) (a : C)
  | lcK (kd : Dk) (pl : C) (own : List (Str × Nat)) (tg : Tg) (cd el : C)
  | dcK (kd : Dk) (pl : C) (own : List (Str × Nat)) (tg : Tg) (cd kx el : C)
def wPl : C → Env → (List (Key × D) → Prop) → Prop
  | .var i => plVar i
  | .fld c f (.var i) => plFld c f i
  | _ => fun _ _ => False
mutual
def wE : C → WE
  | .var i => wVar i
  | .k d => wC d
  | .glob _ d => wC d
  | .bin op a b => wOp (binS op) (wE a) (wE b)
  | .neg a => wNeg (wE a)
  | .cmp op a b => wOp (relS op) (wE a) (wE b)
  | .chain o1 o2 a b c => wChain o1 o2 (wE a) (wE b) (wE c)
  | .and a r => wAnd (wE a) (wE r)
  | .or a r => wOr (wE a) (wE r)
  | .one a => wE a
  | .not a => wNot (wE a)
  | .ife c a b => wIf (wE c) (wE a) (wE b)
  | .tup as => wTup (wA as)
  | .lst as => wLst (wA as)
  | .dct0 => wDct0
  | .ix a b => wOp ixS (wE a) (wE b)
  | .sl a lo hi => wSl (wE a) (wO lo) (wO hi)
  | .call _ S as => wCall S (wA as)
  | .bn b as => wBlt b.sem (wA as)
  | .lrange as => wLRange (wA as)
  | .isin T a => wIsin T (wE a)
  | .isin2 T T' a => wIsin2 T T' (wE a)
  | .lc own tg it cd el => wLc (own.map (·.2)) tg (wI it) (wTt cd) (wE el)
  | .fld c f a => wFld c f (wE a)
  | .meth c m S o as => wMeth c m S (wE o) (wA as)
  | .methK c m S ks perm o kas => wMethK c m S 0 ks.length perm (wE o) wNil (wA kas)
  | .mk _ S as => wCall S (wA as)
  | .callK _ S n ks perm as kas => wCallK S n ks.length perm (wA as) (wA kas)
  | .dc own tg it cd kx el => wDc (own.map (·.2)) tg (wI it) (wTt cd) (wE kx) (wE el)
  | .bn2 b as => wBlt b.sem (wA as)
  | .cnt a => wCnt (wE a)
  | .rev a => wRev (wE a)
  | .bm m o as => wBm m.ty m.sem (wE o) (wA as)
  | .repr as => wBlt reprS (wA as)
  | .dz as => wDz (wA as)
  | .deq neg a b => wOp (deqS neg) (wE a) (wE b)
  | .ieq c S a b => wIeq c S (wE a) (wE b)
  | .isC c a => wIsC c (wE a)
  | .lItems a => wLItems (wE a)
  | .lcK kd pl own tg cd el => wLcK kd (wPl pl) (own.map (·.2)) tg (wTt cd) (wE el)
  | .dcK kd pl own tg cd kx el => wDcK kd (wPl pl) (own.map (·.2)) tg (wTt cd) (wE kx) (wE el)
  | _ => fun _ _ _ => False
def wA : C → WA
  | .nil => wNil
  | .cons a as => wCons (wE a) (wA as)
  | _ => fun _ _ _ => False
def wI : C → WI
  | .iseq a => wSeq (wE a)
  | .irange as => wRange (wA as)
  | .ienum a => wEnum (wE a)
  | .izip a b => wZip (wE a) (wE b)
  | .iitF kd a => wItF kd (wE a)
  | _ => fun _ _ _ => False
def wO : C → WO
  | .no => wNoPart
  | .opt c => wPart (wE c)
  | _ => fun _ _ _ => False
def wTt : C → WT
  | .no => wYes
  | .opt c => wT (wE c)
  | _ => fun _ _ _ => False
end
/-! ### is it a reading of this piece of text? -/
def nmOk (x : Str) : Bool := !(x == ("__debug__" : Str)) && !(x == ("__classdict__" : Str))
def chkG (N : List Str) (sc : Scope) : Tg → Expr → Bool
  | .one i, .Name x _ => decide (N[i]? = some x) && locB sc x
  | .many is, .Tuple ts _ _ => tgsB N sc (is.map fun i => (i, false)) ts
  | _, _ => false
def tyNames : List String := ["int", "bool", "str", "list", "tuple", "dict"]
def chkK : D → Const → Bool
  | .int i, .int j => i == j
  | .bl b, .bool b' => b == b'
  | .non, .none => true
  | .str s, .str t => s == t && PyData.strOk s
  | _, _ => false

abbrev Ck := Expr → Bool
abbrev Cs := List Expr → Bool
def stVar (N : List Str) (i : Nat) (sc : Scope) : Ck
  | .Name x _ => decide (N[i]? = some x) && (visB sc x && nmOk x)
  | _ => false
def stK (d : D) : Ck
  | .Constant cc _ _ => chkK d cc
  | _ => false
def stGlob (x : Str) (sc : Scope) : Ck
  | .Name y _ => x == y && (glB sc x && nmOk x)
  | _ => false
def stBin (op : Operator) (a b : Ck) : Ck
  | .BinOp l op' r _ => op == op' && opOkB op && (a l && b r)
  | _ => false
def stNeg (a : Ck) : Ck
  | .UnaryOp .USub x _ => a x
  | _ => false
def stCmp (op : CmpOp) (a b : Ck) : Ck
  | .Compare l [op'] [r] _ => op == op' && !behindInMarks op r && (a l && b r)
  | _ => false
def stChain (o1 o2 : CmpOp) (a b c : Ck) : Ck
  | .Compare l [p1, p2] [m, r] _ => o1 == p1 && o2 == p2 && !behindInMarks o2 r && (a l && (b m && c r))
  | _ => false
def stAnd (a r : Ck) : Ck
  | .BoolOp .And (x :: y :: rest) pos => a x && r (.BoolOp .And (y :: rest) pos)
  | _ => false
def stOr (a r : Ck) : Ck
  | .BoolOp .Or (x :: y :: rest) pos => a x && r (.BoolOp .Or (y :: rest) pos)
  | _ => false
def stOne (a : Ck) : Ck
  | .BoolOp _ [x] _ => a x
  | _ => false
def stNot (a : Ck) : Ck
  | .UnaryOp .Not x _ => a x
  | _ => false
def stIf (t : Bool) (c a b : Ck) : Ck
  | .IfExp q x y _ => !t && (c q && (a x && b y))
  | _ => false
def stTup (as : Cs) : Ck
  | .Tuple es _ _ => as es
  | _ => false
def stLst (as : Cs) : Ck
  | .List es _ => as es
  | _ => false
def stDct0 : Ck
  | .Dict [] [] _ => true
  | _ => false
def stIx (a b : Ck) : Ck
  | .Subscript x y _ => noSlice y && (a x && b y)
  | _ => false
def stSl (a : Ck) (lo hi : Option Expr → Bool) : Ck
  | .Subscript x (.Slice l h none _) _ => a x && (lo l && hi h)
  | _ => false
def stCall (f : Str) (sc : Scope) (as : Cs) : Ck
  | .Call (.Name g _) (e :: es) [] _ => f == g && (glB sc f && nmOk f) && ((e :: es).all noStar && as (e :: es))
  | _ => false
def stBn (B : List Str) (b : Bn) (sc : Scope) (as : Cs) : Ck
  | .Call (.Name g _) (e :: es) [] _ => b.nm == g && (B.contains g && glB sc g) && ((e :: es).all noStar && as (e :: es))
  | _ => false
def stLr (B : List Str) (sc : Scope) (as : Cs) : Ck
  | .Call (.Name l _) [.Call (.Name r _) (e :: es) [] _] [] _ => (l == ("list" : Str) && r == ("range" : Str)) && (B.contains l && glB sc l && (B.contains r && glB sc r)) && ((e :: es).all noStar && as (e :: es))
  | _ => false
def stIs (B : List Str) (T : String) (sc : Scope) (a : Ck) : Ck
  | .Call (.Name g _) [x, .Name t _] [] _ => g == ("isinstance" : Str) && t == Str.ofString T && tyNames.contains T && (B.contains g && glB sc g && (B.contains t && glB sc t)) && (noStar x && a x)
  | _ => false
def stIs2 (B : List Str) (T T' : String) (sc : Scope) (a : Ck) : Ck
  | .Call (.Name g _) [x, .Tuple [.Name t _, .Name t' _] _ _] [] _ => g == ("isinstance" : Str) && t == Str.ofString T && tyNames.contains T && t' == Str.ofString T' && tyNames.contains T' && (B.contains g && glB sc g && (B.contains t && glB sc t && (B.contains t' && glB sc t'))) && (noStar x && a x)
  | _ => false
def stLc (N : List Str) (own : List (Str × Nat)) (tg : Tg) (sc : Scope) (it : Expr → Ck) (cd : Scope → Cs) (el : Scope → Ck) : Ck
  | .ListComp elt [⟨t, iter, ifs, as⟩] scope _ => as == 0 && blkC N sc scope own && ownOk own tg && noSet iter && (it t iter && (chkG N scope tg t && (cd scope ifs && el scope elt)))
  | _ => false
def stCons (a : Ck) (as : Cs) : Cs
  | e :: es => noStar e && (a e && as es)
  | _ => false
def stSome (a : Ck) : Option Expr → Bool
  | some e => a e
  | _ => false
def stRg (B : List Str) (sc : Scope) (as : Cs) : Ck
  | .Call (.Name r _) (e :: es) [] _ => r == ("range" : Str) && (B.contains r && glB sc r) && ((e :: es).all noStar && as (e :: es))
  | _ => false
def stCd (a : Ck) : Cs
  | [e] => a e
  | _ => false
def stFld (f : Str) (a : Ck) : Ck
  | .Attribute x g _ => f == g && baseOk x && a x
  | _ => false
def stMeth (m : Str) (o : Ck) (as : Cs) : Ck
  | .Call (.Attribute x g ap) es [] cp => m == g && baseOk x && (ap.endLine == cp.line) && decide (es.length < 20) && (es.all noStar && (o x && as es))
  | _ => false
def stMethK (m : Str) (ks : List Str) (o : Ck) (kas : Cs) : Ck
  | .Call (.Attribute x g ap) [] kws cp => m == g && baseOk x && (ap.endLine == cp.line) && decide (kws.length < 20) && (kwB ks kws && (o x && kas (kws.map (·.value))))
  | _ => false
def stCallK (f : Str) (n : Nat) (ks : List Str) (sc : Scope) (as kas : Cs) : Ck
  | .Call (.Name g _) es kws _ => f == g && (glB sc f && nmOk f) && (kwB ks kws && (!es.isEmpty || n == 0) && (es.all noStar && (as es && kas (kws.map (·.value)))))
  | _ => false
def stDc (N : List Str) (own : List (Str × Nat)) (tg : Tg) (sc : Scope) (it : Expr → Ck) (cd : Scope → Cs) (kx el : Scope → Ck) : Ck
  | .DictComp key elt [⟨t, iter, ifs, as⟩] scope _ => as == 0 && blkC N sc scope own && ownOk own tg && noSet iter && (it t iter && (chkG N scope tg t && (cd scope ifs && (kx scope key && el scope elt))))
  | _ => false
def stBn2 (B : List Str) (b : Bn2) (sc : Scope) (as : Cs) : Ck
  | .Call (.Name g _) (e :: es) [] _ => b.nm == g && (B.contains g && glB sc g) && ((e :: es).all noStar && as (e :: es))
  | _ => false
def stCnt (B : List Str) (sc : Scope) (a : Ck) : Ck
  | .Call (.Name l _) [.Call (.Name r _) [x] [] _] [] _ => (l == ("len" : Str) && r == ("set" : Str)) && (B.contains l && glB sc l && (B.contains r && glB sc r)) && (noStar x && a x)
  | _ => false
def stRev (a : Ck) : Ck
  | .Subscript x (.Slice none none (some (.UnaryOp .USub (.Constant (.int z) _ _) _)) _) _ => z == 1 && a x
  | _ => false
def stBm (m : Bm) (o : Ck) (as : Cs) : Ck
  | .Call (.Attribute x g ap) (e :: es) [] cp => m.nm == g && baseOk2 x && (ap.endLine == cp.line) && decide ((e :: es).length < 20) && ((e :: es).all noStar && (o x && as (e :: es)))
  | _ => false
def stEnum (B : List Str) (sc : Scope) (a : Ck) : Expr → Ck
  | .Tuple _ _ _, .Call (.Name r _) [x] [] _ => r == ("enumerate" : Str) && (B.contains r && glB sc r) && (noStar x && a x)
  | _, _ => false
def stZip (B : List Str) (sc : Scope) (a b : Ck) : Expr → Ck
  | .Tuple _ _ _, .Call (.Name r _) [x, y] [] _ => r == ("zip" : Str) && (B.contains r && glB sc r) && (noStar x && noStar y && (a x && b y))
  | _, _ => false
def stRepr (B : List Str) (sc : Scope) (as : Cs) : Ck
  | .Call (.Name g _) (e :: es) [] _ => g == ("repr" : Str) && (B.contains g && glB sc g) && ((e :: es).all noStar && as (e :: es))
  | _ => false
def stDz (B : List Str) (sc : Scope) (as : Cs) : Ck
  | .Call (.Name l _) [.Call (.Name r _) [x, y] [] _] [] _ => (l == ("dict" : Str) && r == ("zip" : Str)) && (B.contains l && glB sc l && (B.contains r && glB sc r)) && ([x, y].all noStar && as [x, y])
  | _ => false
def stDeq (neg : Bool) (a b : Ck) : Ck
  | .Compare l [op'] [r] _ => eqOp neg == op' && !behindInMarks (eqOp neg) r && (a l && b r)
  | _ => false
def stIsC (B : List Str) (c : Str) (sc : Scope) (a : Ck) : Ck
  | .Call (.Name g _) [x, .Name t _] [] _ => g == ("isinstance" : Str) && t == c && (B.contains g && glB sc g && (glB sc t && nmOk t)) && (noStar x && a x)
  | _ => false
def stLItems (B : List Str) (sc : Scope) (a : Ck) : Ck
  | .Call (.Name l _) [.Call (.Attribute x m ap) [] [] cp] [] _ => (l == ("list" : Str) && m == ("items" : Str)) && (B.contains l && glB sc l) && (baseOk x && (ap.endLine == cp.line) && a x)
  | _ => false
def stItF (kd : Dk) (a : Ck) : Expr → Ck := fun t e => match dkB kd t e with
  | some x => a x
  | none => false
def stPl (N : List Str) (sc : Scope) : C → Ck
  | .var i, .Name x _ => decide (N[i]? = some x) && (visB sc x && nmOk x)
  | .fld _ f (.var i), .Attribute (.Name x _) g _ => f == g && (decide (N[i]? = some x) && (visB sc x && nmOk x))
  | _, _ => false
def stLcK (N : List Str) (kd : Dk) (own : List (Str × Nat)) (tg : Tg) (sc : Scope) (pl : Ck) (cd : Scope → Cs) (el : Scope → Ck) : Ck
  | .ListComp elt [⟨t, iter, ifs, as⟩] scope _ => as == 0 && blkC N sc scope own && ownOk own tg && noSet iter && (stItF kd pl t iter && (chkG N scope tg t && (cd scope ifs && el scope elt)))
  | _ => false
def stDcK (N : List Str) (kd : Dk) (own : List (Str × Nat)) (tg : Tg) (sc : Scope) (pl : Ck) (cd : Scope → Cs) (kx el : Scope → Ck) : Ck
  | .DictComp key elt [⟨t, iter, ifs, as⟩] scope _ => as == 0 && blkC N sc scope own && ownOk own tg && noSet iter && (stItF kd pl t iter && (chkG N scope tg t && (cd scope ifs && (kx scope key && el scope elt))))
  | _ => false
mutual
def chkE (B N : List Str) (t : Bool) (c : C) (sc : Scope) (e : Expr) : Bool := match c with
  | .var i => stVar N i sc e
  | .k d => stK d e
  | .glob x _ => stGlob x sc e
  | .bin op a b => stBin op (chkE B N false a sc) (chkE B N false b sc) e
  | .neg a => stNeg (chkE B N false a sc) e
  | .cmp op a b => stCmp op (chkE B N false a sc) (chkE B N false b sc) e
  | .chain o1 o2 a b c => stChain o1 o2 (chkE B N false a sc) (chkE B N false b sc) (chkE B N false c sc) e
  | .and a r => stAnd (chkE B N t a sc) (chkE B N t r sc) e
  | .or a r => stOr (chkE B N t a sc) (chkE B N t r sc) e
  | .one a => stOne (chkE B N t a sc) e
  | .not a => stNot (chkE B N t a sc) e
  | .ife c a b => stIf t (chkE B N true c sc) (chkE B N false a sc) (chkE B N false b sc) e
  | .tup as => stTup (chkA B N as sc) e
  | .lst as => stLst (chkA B N as sc) e
  | .dct0 => stDct0 e
  | .ix a b => stIx (chkE B N false a sc) (chkE B N false b sc) e
  | .sl a lo hi => stSl (chkE B N false a sc) (chkO B N lo sc) (chkO B N hi sc) e
  | .call f _ as => stCall f sc (chkA B N as sc) e
  | .bn b as => stBn B b sc (chkA B N as sc) e
  | .lrange as => stLr B sc (chkA B N as sc) e
  | .isin T a => stIs B T sc (chkE B N false a sc) e
  | .isin2 T T' a => stIs2 B T T' sc (chkE B N false a sc) e
  | .lc own tg it cd el => stLc N own tg sc (chkI B N it sc) (chkIf B N cd) (chkE B N false el) e
  | .fld _ f a => stFld f (chkE B N false a sc) e
  | .meth _ m _ o as => stMeth m (chkE B N false o sc) (chkA B N as sc) e
  | .methK _ m _ ks _ o kas => stMethK m ks (chkE B N false o sc) (chkA B N kas sc) e
  | .mk c _ as => stCall c sc (chkA B N as sc) e
  | .callK f _ n ks _ as kas => stCallK f n ks sc (chkA B N as sc) (chkA B N kas sc) e
  | .dc own tg it cd kx el => stDc N own tg sc (chkI B N it sc) (chkIf B N cd) (chkE B N false kx) (chkE B N false el) e
  | .bn2 b as => stBn2 B b sc (chkA B N as sc) e
  | .cnt a => stCnt B sc (chkE B N false a sc) e
  | .rev a => stRev (chkE B N false a sc) e
  | .bm m o as => stBm m (chkE B N false o sc) (chkA B N as sc) e
  | .repr as => stRepr B sc (chkA B N as sc) e
  | .dz as => stDz B sc (chkA B N as sc) e
  | .deq neg a b => stDeq neg (chkE B N false a sc) (chkE B N false b sc) e
  | .ieq _ _ a b => stDeq false (chkE B N false a sc) (chkE B N false b sc) e
  | .isC c a => stIsC B c sc (chkE B N false a sc) e
  | .lItems a => stLItems B sc (chkE B N false a sc) e
  | .lcK kd pl own tg cd el => stLcK N kd own tg sc (stPl N sc pl) (chkIf B N cd) (chkE B N false el) e
  | .dcK kd pl own tg cd kx el => stDcK N kd own tg sc (stPl N sc pl) (chkIf B N cd) (chkE B N false kx) (chkE B N false el) e
  | _ => false
def chkA (B N : List Str) (c : C) (sc : Scope) (es : List Expr) : Bool := match c with
  | .nil => es.isEmpty
  | .cons a as => stCons (chkE B N false a sc) (chkA B N as sc) es
  | _ => false
def chkO (B N : List Str) (c : C) (sc : Scope) (e : Option Expr) : Bool := match c with
  | .no => e.isNone
  | .opt c => stSome (chkE B N false c sc) e
  | _ => false
def chkI (B N : List Str) (c : C) (sc : Scope) (t e : Expr) : Bool := match c with
  | .iseq a => chkE B N false a sc e
  | .irange as => stRg B sc (chkA B N as sc) e
  | .ienum a => stEnum B sc (chkE B N false a sc) t e
  | .izip a b => stZip B sc (chkE B N false a sc) (chkE B N false b sc) t e
  | .iitF kd a => stItF kd (chkE B N false a sc) t e
  | _ => false
def chkIf (B N : List Str) (c : C) (sc : Scope) (es : List Expr) : Bool := match c with
  | .no => es.isEmpty
  | .opt c => stCd (chkE B N true c sc) es
  | _ => false
end
end G
set_option maxRecDepth 100000
set_option maxHeartbeats 4000000
namespace G
open PySem PySem.Spec PyProof.Rows L2

def okPl (W : Wd) : C → Prop
  | .fld c f _ => FldOk W c f
  | _ => True
def Bl (W : Wd) (B : List Str) : Prop := ∀ x ∈ B, W.mg x = none
/-- what the world must know of the names that are called or read -/
def okE (W : Wd) (k : Nat) : C → Prop
  | .glob x d => GOk W x d
  | .bin _ a b => okE W k a ∧ okE W k b
  | .neg a => okE W k a
  | .cmp _ a b => okE W k a ∧ okE W k b
  | .chain _ _ a b c => okE W k a ∧ okE W k b ∧ okE W k c
  | .and a b => okE W k a ∧ okE W k b
  | .or a b => okE W k a ∧ okE W k b
  | .one a => okE W k a
  | .not a => okE W k a
  | .ife c a b => okE W k c ∧ okE W k a ∧ okE W k b
  | .tup a => okE W k a
  | .lst a => okE W k a
  | .ix a b => okE W k a ∧ okE W k b
  | .sl a lo hi => okE W k a ∧ okE W k lo ∧ okE W k hi
  | .opt a => okE W k a
  | .call f S as => FOk W k f S ∧ okE W k as
  | .bn _ as => okE W k as
  | .lrange as => okE W k as
  | .isin _ a => okE W k a
  | .isin2 _ _ a => okE W k a
  | .lc _ _ it cd el => okE W k it ∧ okE W k cd ∧ okE W k el
  | .cons a as => okE W k a ∧ okE W k as
  | .iseq a => okE W k a
  | .irange as => okE W k as
  | .fld c f a => FldOk W c f ∧ okE W k a
  | .meth c m S o as => MOk W k c m S ∧ okE W k o ∧ okE W k as
  | .methK c m S ks perm o kas => MKOk W k c m S 0 ks perm ∧ okE W k o ∧ okE W k kas
  | .mk c S as => MkOk W k c S ∧ okE W k as
  | .callK f S n ks perm as kas => KOk W k f S n ks perm ∧ okE W k as ∧ okE W k kas
  | .dc _ _ it cd kx el => okE W k it ∧ okE W k cd ∧ okE W k kx ∧ okE W k el
  | .bn2 _ as => okE W k as
  | .cnt a => okE W k a
  | .rev a => okE W k a
  | .bm _ o as => okE W k o ∧ okE W k as
  | .ienum a => okE W k a
  | .izip a b => okE W k a ∧ okE W k b
  | .repr as => okE W k as
  | .dz as => okE W k as
  | .deq _ a b => okE W k a ∧ okE W k b
  | .ieq c S a b => MOk W k c "__eq__" S ∧ okE W k a ∧ okE W k b
  | .isC c a => IsOk W c ∧ okE W k a
  | .lItems a => okE W k a
  | .iitF _ a => okE W k a
  | .lcK _ pl _ _ cd el => okPl W pl ∧ okE W k cd ∧ okE W k el
  | .dcK _ pl _ _ cd kx el => okPl W pl ∧ okE W k cd ∧ okE W k kx ∧ okE W k el
  | _ => True
theorem nmOk_of {x : Str} (h : nmOk x = true) : (x == ("__debug__" : Str)) = false ∧ (x == ("__classdict__" : Str)) = false := by
  unfold nmOk at h
  rw [Bool.and_eq_true, Bool.not_eq_true', Bool.not_eq_true'] at h
  exact h
theorem ty_boot : ∀ T ∈ tyNames, bootBuiltins (Str.ofString T) = some (.type T) ∧ Str.ofString T ≠ "__name__" ∧ (Str.ofString T == ("__debug__" : Str)) = false := by decide +kernel
theorem bn_boot (b : Bn) : True := trivial
section
variable {W : Wd} {N B : List Str} {k : Nat}
def isBoolE : Expr → Bool
  | .BoolOp _ _ _ => true
  | _ => false
/-- the readings of an expression: as a value, as a test, as a part of and/or -/
def Snd (W : Wd) (N B : List Str) (k : Nat) (c : C) : Prop := ∀ (sc : Scope) (E : XK) (X : Cx) (e : Expr), Good W N sc k E X → okE W k c → (chkE B N false c sc e = true → PEW W E X e (wE c)) ∧ (chkE B N true c sc e = true → PTW W E X e (wT (wE c))) ∧ (isBoolE e = true → chkE B N true c sc e = true → PWW W E X e (wT (wE c)))
def SndA (W : Wd) (N B : List Str) (k : Nat) (c : C) : Prop := ∀ (sc : Scope) (E : XK) (X : Cx) (es : List Expr), Good W N sc k E X → okE W k c → chkA B N c sc es = true → PAW W E X es (wA c) ∧ PAO W E X es (wA c)
def SndO (W : Wd) (N B : List Str) (k : Nat) (c : C) : Prop := ∀ (sc : Scope) (E : XK) (X : Cx) (e : Option Expr), Good W N sc k E X → okE W k c → chkO B N c sc e = true → POW W E X e (wO c)
def SndI (W : Wd) (N B : List Str) (k : Nat) (c : C) : Prop := ∀ (sc : Scope) (E : XK) (X : Cx) (t e : Expr), Good W N sc k E X → okE W k c → chkI B N c sc t e = true → PIW W E X t e (wI c)
def SndF (W : Wd) (N B : List Str) (k : Nat) (c : C) : Prop := ∀ (sc : Scope) (E : XK) (X : Cx) (es : List Expr), Good W N sc k E X → okE W k c → chkIf B N c sc es = true → PTsW W E X es (wTt c)
def SndK (W : Wd) (N B : List Str) (k : Nat) (c : C) : Prop := ∀ (sc : Scope) (E : XK) (X : Cx) (ks : List Keyword), Good W N sc k E X → okE W k c → chkA B N c sc (ks.map (·.value)) = true → PKW W E X ks (wA c)
structure Sound (W : Wd) (N B : List Str) (k : Nat) (c : C) : Prop where
  e : Snd W N B k c
  a : SndA W N B k c
  o : SndO W N B k c
  i : SndI W N B k c
  f : SndF W N B k c
  kw : SndK W N B k c
theorem gw_of {sc : Scope} {E : XK} {X : Cx} {tg : Tg} {t : Expr} (g : Good W N sc k E X) (h : chkG N sc tg t = true) : PGW W X t tg := by
  cases tg with
  | one i =>
    cases t <;> first | (unfold chkG at h; cases h; done) | skip
    rename_i x px
    unfold chkG at h
    rw [Bool.and_eq_true] at h
    exact gw_name g (of_decide_eq_true h.1) h.2
  | many is =>
    cases t <;> first | (unfold chkG at h; cases h; done) | skip
    rename_i ts j px
    unfold chkG at h
    have go : ∀ (is : List Nat) (ts : List Expr), tgsB N sc (is.map fun i => (i, false)) ts = true → PGsW W X ts is ∧ nmsOnly ts = true ∧ is.length = ts.length := by
      intro is
      induction is with
      | nil => intro ts h; cases ts <;> first | exact ⟨gsw_nil, rfl, rfl⟩ | cases h
      | cons i is ih =>
        intro ts h
        cases ts with
        | nil => cases h
        | cons t ts =>
          cases t <;> first | (rw [List.map_cons] at h; unfold tgsB at h; cases h; done) | skip
          rename_i x px
          rw [List.map_cons, tgsB, Bool.and_eq_true, Bool.and_eq_true] at h
          obtain ⟨q1, q2, q3⟩ := ih ts h.2
          refine ⟨gsw_cons g (of_decide_eq_true h.1.1) h.1.2 q1, ?_, by rw [List.length_cons, List.length_cons, q3]⟩
          unfold nmsOnly at *
          rw [List.all_cons, q2]; rfl
    obtain ⟨q1, q2, q3⟩ := go is ts h
    exact gw_tup g q2 q3 q1
/-- where a value is plain, its test is too -/
theorem snd_plain {c : C} (hr : ∀ sc e, chkE B N true c sc e = chkE B N false c sc e) (h : ∀ (sc : Scope) (E : XK) (X : Cx) (e : Expr), Good W N sc k E X → okE W k c → chkE B N false c sc e = true → PEW W E X e (wE c) ∧ plainT e = true) : Snd W N B k c := fun sc E X e g ok =>
  ⟨fun hc => (h sc E X e g ok hc).1, fun hc => by
    rw [hr] at hc
    exact tw_val (h sc E X e g ok hc).2 (h sc E X e g ok hc).1, fun hb hc => by
    rw [hr] at hc
    have := (h sc E X e g ok hc).2
    cases e <;> first | (cases hb; done) | (cases this; done)⟩
theorem no_a {c : C} (h : ∀ sc es, chkA B N c sc es = false) : SndA W N B k c := fun sc E X es g ok hc => by rw [h] at hc; cases hc
theorem no_o {c : C} (h : ∀ sc es, chkO B N c sc es = false) : SndO W N B k c := fun sc E X es g ok hc => by rw [h] at hc; cases hc
theorem no_i {c : C} (h : ∀ sc t es, chkI B N c sc t es = false) : SndI W N B k c := fun sc E X t es g ok hc => by rw [h] at hc; cases hc
theorem no_k {c : C} (h : ∀ sc es, chkA B N c sc es = false) : SndK W N B k c := fun sc E X ks g ok hc => by rw [h] at hc; cases hc
theorem no_f {c : C} (h : ∀ sc es, chkIf B N c sc es = false) : SndF W N B k c := fun sc E X es g ok hc => by rw [h] at hc; cases hc
theorem no_e {c : C} (h : ∀ t sc es, chkE B N t c sc es = false) : Snd W N B k c := fun sc E X es g ok => ⟨fun hc => (by rw [h] at hc; cases hc), fun hc => (by rw [h] at hc; cases hc), fun _ hc => (by rw [h] at hc; cases hc)⟩
theorem sc_var {i : Nat}  : Sound W N B k (.var i) := by
  refine ⟨snd_plain (fun _ _ => rfl) fun sc E X e g ok h => ?_, no_a fun _ _ => rfl, no_o fun _ _ => rfl, no_i fun _ _ _ => rfl, no_f fun _ _ => rfl, no_k fun _ _ => rfl⟩
  replace h : stVar N i sc e = true := h
  unfold stVar at h
  split at h
  · rename_i x px
    try simp only [Bool.and_eq_true, beq_iff_eq, decide_eq_true_eq, Bool.not_eq_true'] at h
    obtain ⟨d1, d2⟩ := nmOk_of h.2.2
    exact ⟨ew_var g h.1 h.2.1 d1 d2, rfl⟩
  · cases h
theorem sc_k {d : D} : Sound W N B k (.k d) := by
  refine ⟨snd_plain (fun _ _ => rfl) fun sc E X e g ok h => ?_, no_a fun _ _ => rfl, no_o fun _ _ => rfl, no_i fun _ _ _ => rfl, no_f fun _ _ => rfl, no_k fun _ _ => rfl⟩
  replace h : stK d e = true := h
  unfold stK at h
  split at h
  · rename_i cc j px
    unfold chkK at h
    split at h
    · rw [beq_iff_eq] at h; subst h; exact ⟨ew_int, rfl⟩
    · rw [beq_iff_eq] at h; subst h; exact ⟨ew_bl, rfl⟩
    · exact ⟨ew_non, rfl⟩
    · rw [Bool.and_eq_true, beq_iff_eq] at h; obtain ⟨h1, h2⟩ := h; subst h1; exact ⟨ew_str h2, rfl⟩
    · cases h
  · cases h
theorem sc_glob {x : Str} {d : D}  : Sound W N B k (.glob x d) := by
  refine ⟨snd_plain (fun _ _ => rfl) fun sc E X e g ok h => ?_, no_a fun _ _ => rfl, no_o fun _ _ => rfl, no_i fun _ _ _ => rfl, no_f fun _ _ => rfl, no_k fun _ _ => rfl⟩
  replace h : stGlob x sc e = true := h
  unfold stGlob at h
  split at h
  · rename_i y px
    try simp only [Bool.and_eq_true, beq_iff_eq, decide_eq_true_eq, Bool.not_eq_true'] at h
    obtain ⟨d1, d2⟩ := nmOk_of h.2.2
    obtain ⟨h1, h2⟩ := h
    subst h1
    exact ⟨ew_glob g h2.1 d1 ok, rfl⟩
  · cases h
theorem sc_bin {op : Operator} {a b : C} (ha : Sound W N B k a) (hb : Sound W N B k b) : Sound W N B k (.bin op a b) := by
  refine ⟨snd_plain (fun _ _ => rfl) fun sc E X e g ok h => ?_, no_a fun _ _ => rfl, no_o fun _ _ => rfl, no_i fun _ _ _ => rfl, no_f fun _ _ => rfl, no_k fun _ _ => rfl⟩
  replace h : stBin op (chkE B N false a sc) (chkE B N false b sc) e = true := h
  unfold stBin at h
  split at h
  · rename_i l op' r px
    try simp only [Bool.and_eq_true, beq_iff_eq, decide_eq_true_eq, Bool.not_eq_true'] at h
    obtain ⟨⟨h1, h2⟩, h3, h4⟩ := h
    subst h1
    obtain ⟨r, o1, o2⟩ := bin_all g h2
    exact ⟨ew_bin o1 o2 ((ha.e sc E X _ g ok.1).1 h3) ((hb.e sc E X _ g ok.2).1 h4), rfl⟩
  · cases h
theorem sc_neg {a : C} (ha : Sound W N B k a) : Sound W N B k (.neg a) := by
  refine ⟨snd_plain (fun _ _ => rfl) fun sc E X e g ok h => ?_, no_a fun _ _ => rfl, no_o fun _ _ => rfl, no_i fun _ _ _ => rfl, no_f fun _ _ => rfl, no_k fun _ _ => rfl⟩
  replace h : stNeg (chkE B N false a sc) e = true := h
  unfold stNeg at h
  split at h
  · rename_i x px
    try simp only [Bool.and_eq_true, beq_iff_eq, decide_eq_true_eq, Bool.not_eq_true'] at h
    exact ⟨ew_neg ((ha.e sc E X _ g ok).1 h), rfl⟩
  · cases h
theorem sc_cmp {op : CmpOp} {a b : C} (ha : Sound W N B k a) (hb : Sound W N B k b) : Sound W N B k (.cmp op a b) := by
  have main : ∀ (sc : Scope) (E : XK) (X : Cx) (e : Expr), Good W N sc k E X → okE W k (.cmp op a b) → stCmp op (chkE B N false a sc) (chkE B N false b sc) e = true → PEW W E X e (wE (.cmp op a b)) ∧ PTW W E X e (wT (wE (.cmp op a b))) ∧ isBoolE e = false := by
    intro sc E X e g ok h
    unfold stCmp at h
    split at h
    · rename_i l op' r px
      simp only [Bool.and_eq_true, beq_iff_eq, decide_eq_true_eq, Bool.not_eq_true'] at h
      obtain ⟨⟨h1, h2⟩, h3, h4⟩ := h
      subst h1
      obtain ⟨r, o1, o2⟩ := rel_all g op
      exact ⟨ew_cmp o1 o2 h2 ((ha.e sc E X _ g ok.1).1 h3) ((hb.e sc E X _ g ok.2).1 h4), tw_cmp g h2 ((ha.e sc E X _ g ok.1).1 h3) ((hb.e sc E X _ g ok.2).1 h4), rfl⟩
    · cases h
  exact ⟨fun sc E X e g ok => ⟨fun h => (main sc E X e g ok h).1, fun h => (main sc E X e g ok h).2.1, fun hb h => by rw [(main sc E X e g ok h).2.2] at hb; cases hb⟩, no_a fun _ _ => rfl, no_o fun _ _ => rfl, no_i fun _ _ _ => rfl, no_f fun _ _ => rfl, no_k fun _ _ => rfl⟩
theorem sc_chain {o1 o2 : CmpOp} {a b c : C} (ha : Sound W N B k a) (hb : Sound W N B k b) (hc : Sound W N B k c) : Sound W N B k (.chain o1 o2 a b c) := by
  have main : ∀ (sc : Scope) (E : XK) (X : Cx) (e : Expr), Good W N sc k E X → okE W k (.chain o1 o2 a b c) → stChain o1 o2 (chkE B N false a sc) (chkE B N false b sc) (chkE B N false c sc) e = true → PEW W E X e (wE (.chain o1 o2 a b c)) ∧ PTW W E X e (wT (wE (.chain o1 o2 a b c))) ∧ isBoolE e = false := by
    intro sc E X e g ok h
    unfold stChain at h
    split at h
    · rename_i l p1 p2 m r px
      simp only [Bool.and_eq_true, beq_iff_eq, decide_eq_true_eq, Bool.not_eq_true'] at h
      obtain ⟨⟨⟨h1, h1'⟩, h2⟩, h3, h4, h5⟩ := h
      subst h1
      subst h1'
      exact ⟨ew_chain g h2 ((ha.e sc E X _ g ok.1).1 h3) ((hb.e sc E X _ g ok.2.1).1 h4) ((hc.e sc E X _ g ok.2.2).1 h5), tw_chain g h2 ((ha.e sc E X _ g ok.1).1 h3) ((hb.e sc E X _ g ok.2.1).1 h4) ((hc.e sc E X _ g ok.2.2).1 h5), rfl⟩
    · cases h
  exact ⟨fun sc E X e g ok => ⟨fun h => (main sc E X e g ok h).1, fun h => (main sc E X e g ok h).2.1, fun hb h => by rw [(main sc E X e g ok h).2.2] at hb; cases hb⟩, no_a fun _ _ => rfl, no_o fun _ _ => rfl, no_i fun _ _ _ => rfl, no_f fun _ _ => rfl, no_k fun _ _ => rfl⟩
theorem sc_and {a b : C} (ha : Sound W N B k a) (hb : Sound W N B k b) : Sound W N B k (.and a b) := by
  have val : ∀ (sc : Scope) (E : XK) (X : Cx) (e : Expr), Good W N sc k E X → okE W k (.and a b) → stAnd (chkE B N false a sc) (chkE B N false b sc) e = true → PEW W E X e (wE (.and a b)) := by
    intro sc E X e g ok h
    unfold stAnd at h
    split at h
    · simp only [Bool.and_eq_true, beq_iff_eq, decide_eq_true_eq, Bool.not_eq_true'] at h
      exact ew_and ((ha.e sc E X _ g ok.1).1 h.1) ((hb.e sc E X _ g ok.2).1 h.2)
    · cases h
  have tst : ∀ (sc : Scope) (E : XK) (X : Cx) (e : Expr), Good W N sc k E X → okE W k (.and a b) → stAnd (chkE B N true a sc) (chkE B N true b sc) e = true → PWW W E X e (wT (wE (.and a b))) := by
    intro sc E X e g ok h
    unfold stAnd at h
    split at h
    · simp only [Bool.and_eq_true, beq_iff_eq, decide_eq_true_eq, Bool.not_eq_true'] at h
      exact ww_and ((ha.e sc E X _ g ok.1).2.1 h.1) ((hb.e sc E X _ g ok.2).2.2 rfl h.2)
    · cases h
  exact ⟨fun sc E X e g ok => ⟨fun h => val sc E X e g ok h, fun h => (tst sc E X e g ok h).pt, fun _ h => tst sc E X e g ok h⟩, no_a fun _ _ => rfl, no_o fun _ _ => rfl, no_i fun _ _ _ => rfl, no_f fun _ _ => rfl, no_k fun _ _ => rfl⟩
theorem sc_or {a b : C} (ha : Sound W N B k a) (hb : Sound W N B k b) : Sound W N B k (.or a b) := by
  have val : ∀ (sc : Scope) (E : XK) (X : Cx) (e : Expr), Good W N sc k E X → okE W k (.or a b) → stOr (chkE B N false a sc) (chkE B N false b sc) e = true → PEW W E X e (wE (.or a b)) := by
    intro sc E X e g ok h
    unfold stOr at h
    split at h
    · simp only [Bool.and_eq_true, beq_iff_eq, decide_eq_true_eq, Bool.not_eq_true'] at h
      exact ew_or ((ha.e sc E X _ g ok.1).1 h.1) ((hb.e sc E X _ g ok.2).1 h.2)
    · cases h
  have tst : ∀ (sc : Scope) (E : XK) (X : Cx) (e : Expr), Good W N sc k E X → okE W k (.or a b) → stOr (chkE B N true a sc) (chkE B N true b sc) e = true → PWW W E X e (wT (wE (.or a b))) := by
    intro sc E X e g ok h
    unfold stOr at h
    split at h
    · simp only [Bool.and_eq_true, beq_iff_eq, decide_eq_true_eq, Bool.not_eq_true'] at h
      exact ww_or ((ha.e sc E X _ g ok.1).2.1 h.1) ((hb.e sc E X _ g ok.2).2.2 rfl h.2)
    · cases h
  exact ⟨fun sc E X e g ok => ⟨fun h => val sc E X e g ok h, fun h => (tst sc E X e g ok h).pt, fun _ h => tst sc E X e g ok h⟩, no_a fun _ _ => rfl, no_o fun _ _ => rfl, no_i fun _ _ _ => rfl, no_f fun _ _ => rfl, no_k fun _ _ => rfl⟩
theorem sc_one {a : C} (ha : Sound W N B k a) : Sound W N B k (.one a) := by
  have val : ∀ (sc : Scope) (E : XK) (X : Cx) (e : Expr), Good W N sc k E X → okE W k (.one a) → stOne (chkE B N false a sc) e = true → PEW W E X e (wE (.one a)) := by
    intro sc E X e g ok h
    unfold stOne at h
    split at h
    · exact ew_one ((ha.e sc E X _ g ok).1 h)
    · cases h
  have tst : ∀ (sc : Scope) (E : XK) (X : Cx) (e : Expr), Good W N sc k E X → okE W k (.one a) → stOne (chkE B N true a sc) e = true → PWW W E X e (wT (wE (.one a))) := by
    intro sc E X e g ok h
    unfold stOne at h
    split at h
    · exact ww_one ((ha.e sc E X _ g ok).2.1 h)
    · cases h
  exact ⟨fun sc E X e g ok => ⟨fun h => val sc E X e g ok h, fun h => (tst sc E X e g ok h).pt, fun _ h => tst sc E X e g ok h⟩, no_a fun _ _ => rfl, no_o fun _ _ => rfl, no_i fun _ _ _ => rfl, no_f fun _ _ => rfl, no_k fun _ _ => rfl⟩
theorem sc_not {a : C} (ha : Sound W N B k a) : Sound W N B k (.not a) := by
  have val : ∀ (sc : Scope) (E : XK) (X : Cx) (e : Expr), Good W N sc k E X → okE W k (.not a) → stNot (chkE B N false a sc) e = true → PEW W E X e (wE (.not a)) := by
    intro sc E X e g ok h
    unfold stNot at h
    split at h
    · exact ew_not ((ha.e sc E X _ g ok).1 h)
    · cases h
  have tst : ∀ (sc : Scope) (E : XK) (X : Cx) (e : Expr), Good W N sc k E X → okE W k (.not a) → stNot (chkE B N true a sc) e = true → PTW W E X e (wT (wE (.not a))) ∧ isBoolE e = false := by
    intro sc E X e g ok h
    unfold stNot at h
    split at h
    · exact ⟨tw_not ((ha.e sc E X _ g ok).2.1 h), rfl⟩
    · cases h
  exact ⟨fun sc E X e g ok => ⟨fun h => val sc E X e g ok h, fun h => (tst sc E X e g ok h).1, fun hb h => by rw [(tst sc E X e g ok h).2] at hb; cases hb⟩, no_a fun _ _ => rfl, no_o fun _ _ => rfl, no_i fun _ _ _ => rfl, no_f fun _ _ => rfl, no_k fun _ _ => rfl⟩
theorem sc_ife {c a b : C} (hc : Sound W N B k c) (ha : Sound W N B k a) (hb : Sound W N B k b) : Sound W N B k (.ife c a b) := by
  have val : ∀ (sc : Scope) (E : XK) (X : Cx) (e : Expr) (t : Bool), Good W N sc k E X → okE W k (.ife c a b) → stIf t (chkE B N true c sc) (chkE B N false a sc) (chkE B N false b sc) e = true → PEW W E X e (wE (.ife c a b)) ∧ t = false := by
    intro sc E X e t g ok h
    unfold stIf at h
    split at h
    · simp only [Bool.and_eq_true, beq_iff_eq, decide_eq_true_eq, Bool.not_eq_true'] at h
      obtain ⟨h0, h1, h2, h3⟩ := h
      exact ⟨ew_ife ((hc.e sc E X _ g ok.1).2.1 h1) ((ha.e sc E X _ g ok.2.1).1 h2) ((hb.e sc E X _ g ok.2.2).1 h3), h0⟩
    · cases h
  exact ⟨fun sc E X e g ok => ⟨fun h => (val sc E X e false g ok h).1, fun h => absurd (val sc E X e true g ok h).2 (by decide), fun _ h => absurd (val sc E X e true g ok h).2 (by decide)⟩, no_a fun _ _ => rfl, no_o fun _ _ => rfl, no_i fun _ _ _ => rfl, no_f fun _ _ => rfl, no_k fun _ _ => rfl⟩
theorem sc_tup {as : C} (ha : Sound W N B k as) : Sound W N B k (.tup as) := by
  refine ⟨snd_plain (fun _ _ => rfl) fun sc E X e g ok h => ?_, no_a fun _ _ => rfl, no_o fun _ _ => rfl, no_i fun _ _ _ => rfl, no_f fun _ _ => rfl, no_k fun _ _ => rfl⟩
  replace h : stTup (chkA B N as sc) e = true := h
  unfold stTup at h
  split at h
  · skip
    try simp only [Bool.and_eq_true, beq_iff_eq, decide_eq_true_eq, Bool.not_eq_true'] at h
    exact ⟨ew_tup (ha.a sc E X _ g ok h).1, rfl⟩
  · cases h
theorem sc_lst {as : C} (ha : Sound W N B k as) : Sound W N B k (.lst as) := by
  refine ⟨snd_plain (fun _ _ => rfl) fun sc E X e g ok h => ?_, no_a fun _ _ => rfl, no_o fun _ _ => rfl, no_i fun _ _ _ => rfl, no_f fun _ _ => rfl, no_k fun _ _ => rfl⟩
  replace h : stLst (chkA B N as sc) e = true := h
  unfold stLst at h
  split at h
  · skip
    try simp only [Bool.and_eq_true, beq_iff_eq, decide_eq_true_eq, Bool.not_eq_true'] at h
    exact ⟨ew_lst (ha.a sc E X _ g ok h).1, rfl⟩
  · cases h
theorem sc_dct0  : Sound W N B k (.dct0) := by
  refine ⟨snd_plain (fun _ _ => rfl) fun sc E X e g ok h => ?_, no_a fun _ _ => rfl, no_o fun _ _ => rfl, no_i fun _ _ _ => rfl, no_f fun _ _ => rfl, no_k fun _ _ => rfl⟩
  replace h : stDct0 e = true := h
  unfold stDct0 at h
  split at h
  · exact ⟨ew_dct0, rfl⟩
  · cases h
theorem sc_ix {a b : C} (ha : Sound W N B k a) (hb : Sound W N B k b) : Sound W N B k (.ix a b) := by
  refine ⟨snd_plain (fun _ _ => rfl) fun sc E X e g ok h => ?_, no_a fun _ _ => rfl, no_o fun _ _ => rfl, no_i fun _ _ _ => rfl, no_f fun _ _ => rfl, no_k fun _ _ => rfl⟩
  replace h : stIx (chkE B N false a sc) (chkE B N false b sc) e = true := h
  unfold stIx at h
  split at h
  · skip
    try simp only [Bool.and_eq_true, beq_iff_eq, decide_eq_true_eq, Bool.not_eq_true'] at h
    exact ⟨ew_ix g h.1 ((ha.e sc E X _ g ok.1).1 h.2.1) ((hb.e sc E X _ g ok.2).1 h.2.2), rfl⟩
  · cases h
theorem sc_sl {a lo hi : C} (ha : Sound W N B k a) (hl : Sound W N B k lo) (hh : Sound W N B k hi) : Sound W N B k (.sl a lo hi) := by
  refine ⟨snd_plain (fun _ _ => rfl) fun sc E X e g ok h => ?_, no_a fun _ _ => rfl, no_o fun _ _ => rfl, no_i fun _ _ _ => rfl, no_f fun _ _ => rfl, no_k fun _ _ => rfl⟩
  replace h : stSl (chkE B N false a sc) (chkO B N lo sc) (chkO B N hi sc) e = true := h
  unfold stSl at h
  split at h
  · skip
    try simp only [Bool.and_eq_true, beq_iff_eq, decide_eq_true_eq, Bool.not_eq_true'] at h
    exact ⟨ew_sl g ((ha.e sc E X _ g ok.1).1 h.1) (hl.o sc E X _ g ok.2.1 h.2.1) (hh.o sc E X _ g ok.2.2 h.2.2), rfl⟩
  · cases h
theorem sc_call {f : Str} {S : FSpec} {as : C} (hB : Bl W B) (ha : Sound W N B k as) : Sound W N B k (.call f S as) := by
  refine ⟨snd_plain (fun _ _ => rfl) fun sc E X e g ok h => ?_, no_a fun _ _ => rfl, no_o fun _ _ => rfl, no_i fun _ _ _ => rfl, no_f fun _ _ => rfl, no_k fun _ _ => rfl⟩
  replace h : stCall f sc (chkA B N as sc) e = true := h
  unfold stCall at h
  split at h
  · rename_i f1 px e1 es pos1
    simp only [Bool.and_eq_true, beq_iff_eq, List.contains_iff_mem] at h
    obtain ⟨⟨h1, h2, h3⟩, h4, h5⟩ := h
    subst h1
    exact ⟨ew_call g h2 (nmOk_of h3).1 ok.1 h4 (ha.a sc E X _ g ok.2 h5).1, rfl⟩
  · cases h
theorem sc_bn {b : Bn} {as : C} (hB : Bl W B) (ha : Sound W N B k as) : Sound W N B k (.bn b as) := by
  refine ⟨snd_plain (fun _ _ => rfl) fun sc E X e g ok h => ?_, no_a fun _ _ => rfl, no_o fun _ _ => rfl, no_i fun _ _ _ => rfl, no_f fun _ _ => rfl, no_k fun _ _ => rfl⟩
  replace h : stBn B b sc (chkA B N as sc) e = true := h
  unfold stBn at h
  split at h
  · rename_i f1 px e1 es pos1
    simp only [Bool.and_eq_true, beq_iff_eq, List.contains_iff_mem] at h
    obtain ⟨⟨h1, h2, h3⟩, h4, h5⟩ := h
    subst h1
    exact ⟨ew_bn b g h3 (hB _ h2) h4 (ha.a sc E X _ g ok h5).1, rfl⟩
  · cases h
theorem sc_lrange {as : C} (hB : Bl W B) (ha : Sound W N B k as) : Sound W N B k (.lrange as) := by
  refine ⟨snd_plain (fun _ _ => rfl) fun sc E X e g ok h => ?_, no_a fun _ _ => rfl, no_o fun _ _ => rfl, no_i fun _ _ _ => rfl, no_f fun _ _ => rfl, no_k fun _ _ => rfl⟩
  replace h : stLr B sc (chkA B N as sc) e = true := h
  unfold stLr at h
  split at h
  · rename_i l1 pl r1 px e1 es p1 pos1
    simp only [Bool.and_eq_true, beq_iff_eq, List.contains_iff_mem] at h
    obtain ⟨⟨⟨h1, h1b⟩, ⟨h2, h3⟩, h2b, h3b⟩, h4, h5⟩ := h
    subst h1
    subst h1b
    exact ⟨ew_lrange g h3 h3b (hB _ h2) (hB _ h2b) h4 (ha.a sc E X _ g ok h5).1, rfl⟩
  · cases h
theorem sc_isin {T : String} {a : C} (hB : Bl W B) (ha : Sound W N B k a) : Sound W N B k (.isin T a) := by
  refine ⟨snd_plain (fun _ _ => rfl) fun sc E X e g ok h => ?_, no_a fun _ _ => rfl, no_o fun _ _ => rfl, no_i fun _ _ _ => rfl, no_f fun _ _ => rfl, no_k fun _ _ => rfl⟩
  replace h : stIs B T sc (chkE B N false a sc) e = true := h
  unfold stIs at h
  split at h
  · rename_i f1 px e1 t1 pt1 pos1
    simp only [Bool.and_eq_true, beq_iff_eq, List.contains_iff_mem] at h
    obtain ⟨⟨⟨⟨h1, h2⟩, h3⟩, ⟨h4, h5⟩, h6, h7⟩, h8, h9⟩ := h
    subst h1
    subst h2
    obtain ⟨t1, t2, t3⟩ := ty_boot T h3
    exact ⟨ew_isin g h5 (hB _ h4) h7 (hB _ h6) t1 t2 t3 h8 ((ha.e sc E X _ g ok).1 h9), rfl⟩
  · cases h
theorem sc_isin2 {T T' : String} {a : C} (hB : Bl W B) (ha : Sound W N B k a) : Sound W N B k (.isin2 T T' a) := by
  refine ⟨snd_plain (fun _ _ => rfl) fun sc E X e g ok h => ?_, no_a fun _ _ => rfl, no_o fun _ _ => rfl, no_i fun _ _ _ => rfl, no_f fun _ _ => rfl, no_k fun _ _ => rfl⟩
  replace h : stIs2 B T T' sc (chkE B N false a sc) e = true := h
  unfold stIs2 at h
  split at h
  · rename_i f1 px e1 t1 pt1 t2 pt2 j1 pj1 pos1
    simp only [Bool.and_eq_true, beq_iff_eq, List.contains_iff_mem] at h
    obtain ⟨⟨⟨⟨⟨⟨h1, h2⟩, h3⟩, h2b⟩, h3b⟩, ⟨h4, h5⟩, ⟨h6, h7⟩, h6b, h7b⟩, h8, h9⟩ := h
    subst h1
    subst h2
    subst h2b
    obtain ⟨t1, t2, t3⟩ := ty_boot T h3
    obtain ⟨u1, u2, u3⟩ := ty_boot T' h3b
    exact ⟨ew_isin2 g h5 (hB _ h4) h7 (hB _ h6) t1 t2 t3 h7b (hB _ h6b) u1 u2 u3 h8 ((ha.e sc E X _ g ok).1 h9), rfl⟩
  · cases h
theorem sc_lc {own : List (Str × Nat)} {tg : Tg} {it cd el : C} (hi : Sound W N B k it) (hc : Sound W N B k cd) (he : Sound W N B k el) : Sound W N B k (.lc own tg it cd el) := by
  refine ⟨snd_plain (fun _ _ => rfl) fun sc E X e g ok h => ?_, no_a fun _ _ => rfl, no_o fun _ _ => rfl, no_i fun _ _ _ => rfl, no_f fun _ _ => rfl, no_k fun _ _ => rfl⟩
  replace h : stLc N own tg sc (chkI B N it sc) (chkIf B N cd) (chkE B N false el) e = true := h
  unfold stLc at h
  split at h
  · rename_i elt t iter ifs as scope px
    simp only [Bool.and_eq_true, beq_iff_eq] at h
    obtain ⟨⟨⟨⟨h1, h2⟩, h3⟩, h4⟩, h5, h6, h7, h8⟩ := h
    subst h1
    exact ⟨ew_lc g h2 h3 h4 (hi.i sc E X _ _ g ok.1 h5) ⟨fun X' g' => gw_of g' h6, fun X' g' => hc.f _ _ _ _ g' ok.2.1 h7, fun X' g' => (he.e _ _ _ _ g' ok.2.2).1 h8⟩, rfl⟩
  · cases h
theorem sc_nil : Sound W N B k .nil := by
  refine ⟨no_e fun _ _ _ => rfl, fun sc E X es g ok h => ?_, no_o fun _ _ => rfl, no_i fun _ _ _ => rfl, no_f fun _ _ => rfl, fun sc E X ks g ok h => ?_⟩
  · replace h : es.isEmpty = true := h
    cases es
    · exact ⟨aw_nil, ao_nil⟩
    · cases h
  · cases ks
    · exact kw_nil
    · cases h
theorem sc_cons {a as : C} (ha : Sound W N B k a) (hs : Sound W N B k as) : Sound W N B k (.cons a as) := by
  refine ⟨no_e fun _ _ _ => rfl, fun sc E X es g ok h => ?_, no_o fun _ _ => rfl, no_i fun _ _ _ => rfl, no_f fun _ _ => rfl, fun sc E X ks g ok h => ?_⟩
  · replace h : stCons (chkE B N false a sc) (chkA B N as sc) es = true := h
    unfold stCons at h
    split at h
    · simp only [Bool.and_eq_true] at h
      exact ⟨aw_cons h.1 ((ha.e sc E X _ g ok.1).1 h.2.1) (hs.a sc E X _ g ok.2 h.2.2).1, ao_cons h.1 ((ha.e sc E X _ g ok.1).1 h.2.1) (hs.a sc E X _ g ok.2 h.2.2).2⟩
    · cases h
  · cases ks with
    | nil => cases h
    | cons kw ks =>
      obtain ⟨nm, e, kp⟩ := kw
      replace h : (noStar e && (chkE B N false a sc e && chkA B N as sc (ks.map (·.value)))) = true := h
      simp only [Bool.and_eq_true] at h
      exact kw_cons ((ha.e sc E X _ g ok.1).1 h.2.1) (hs.kw sc E X _ g ok.2 h.2.2)
theorem sc_no : Sound W N B k .no := by
  refine ⟨no_e fun _ _ _ => rfl, no_a fun _ _ => rfl, fun sc E X e g ok h => ?_, no_i fun _ _ _ => rfl, fun sc E X es g ok h => ?_, no_k fun _ _ => rfl⟩
  · replace h : e.isNone = true := h
    cases e
    · exact ow_none
    · cases h
  · replace h : es.isEmpty = true := h
    cases es
    · exact ts_nil
    · cases h
theorem sc_opt {a : C} (ha : Sound W N B k a) : Sound W N B k (.opt a) := by
  refine ⟨no_e fun _ _ _ => rfl, no_a fun _ _ => rfl, fun sc E X e g ok h => ?_, no_i fun _ _ _ => rfl, fun sc E X es g ok h => ?_, no_k fun _ _ => rfl⟩
  · replace h : stSome (chkE B N false a sc) e = true := h
    unfold stSome at h
    split at h
    · exact ow_some ((ha.e sc E X _ g ok).1 h)
    · cases h
  · replace h : stCd (chkE B N true a sc) es = true := h
    unfold stCd at h
    split at h
    · exact ts_one ((ha.e sc E X _ g ok).2.1 h)
    · cases h
theorem sc_iseq {a : C} (ha : Sound W N B k a) : Sound W N B k (.iseq a) :=
  ⟨no_e fun _ _ _ => rfl, no_a fun _ _ => rfl, no_o fun _ _ => rfl, fun sc E X t e g ok h => iw_seq g ((ha.e sc E X _ g ok).1 h), no_f fun _ _ => rfl, no_k fun _ _ => rfl⟩
theorem sc_irange {as : C} (hB : Bl W B) (ha : Sound W N B k as) : Sound W N B k (.irange as) := by
  refine ⟨no_e fun _ _ _ => rfl, no_a fun _ _ => rfl, no_o fun _ _ => rfl, fun sc E X t e g ok h => ?_, no_f fun _ _ => rfl, no_k fun _ _ => rfl⟩
  replace h : stRg B sc (chkA B N as sc) e = true := h
  unfold stRg at h
  split at h
  · simp only [Bool.and_eq_true, beq_iff_eq, List.contains_iff_mem] at h
    obtain ⟨⟨h1, h2, h3⟩, h4, h5⟩ := h
    subst h1
    exact iw_range g h3 (hB _ h2) h4 (ha.a sc E X _ g ok h5).1
  · cases h
theorem sc_fld {c f : Str} {a : C} (ha : Sound W N B k a) : Sound W N B k (.fld c f a) := by
  refine ⟨snd_plain (fun _ _ => rfl) fun sc E X e g ok h => ?_, no_a fun _ _ => rfl, no_o fun _ _ => rfl, no_i fun _ _ _ => rfl, no_f fun _ _ => rfl, no_k fun _ _ => rfl⟩
  replace h : stFld f (chkE B N false a sc) e = true := h
  unfold stFld at h
  split at h
  · simp only [Bool.and_eq_true, beq_iff_eq] at h
    obtain ⟨⟨h1, h2⟩, h3⟩ := h
    subst h1
    exact ⟨ew_fld g h2 ok.1 ((ha.e sc E X _ g ok.2).1 h3), rfl⟩
  · cases h
theorem sc_meth {c m : Str} {S : FSpec} {o as : C} (ho : Sound W N B k o) (ha : Sound W N B k as) : Sound W N B k (.meth c m S o as) := by
  refine ⟨snd_plain (fun _ _ => rfl) fun sc E X e g ok h => ?_, no_a fun _ _ => rfl, no_o fun _ _ => rfl, no_i fun _ _ _ => rfl, no_f fun _ _ => rfl, no_k fun _ _ => rfl⟩
  replace h : stMeth m (chkE B N false o sc) (chkA B N as sc) e = true := h
  unfold stMeth at h
  split at h
  · rename_i x g1 ap es cp
    simp only [Bool.and_eq_true, beq_iff_eq, decide_eq_true_eq] at h
    obtain ⟨⟨⟨⟨h1, h2⟩, h3⟩, h4⟩, h5, h6, h7⟩ := h
    subst h1
    refine ⟨?_, rfl⟩
    cases es with
    | nil =>
      have : as = .nil := by
        cases as <;> first | rfl | (cases h7; done)
      subst this
      exact ew_meth0 g h2 (by rw [beq_iff_eq]; exact h3) ok.1 ((ho.e sc E X _ g ok.2.1).1 h6)
    | cons e1 es => exact ew_meth g h2 (by rw [beq_iff_eq]; exact h3) ok.1 h5 h4 ((ho.e sc E X _ g ok.2.1).1 h6) (ha.a sc E X _ g ok.2.2 h7).1
  · cases h
theorem sc_methK {c m : Str} {S : FSpec} {ks : List Str} {perm : List Nat} {o kas : C} (ho : Sound W N B k o) (ha : Sound W N B k kas) : Sound W N B k (.methK c m S ks perm o kas) := by
  refine ⟨snd_plain (fun _ _ => rfl) fun sc E X e g ok h => ?_, no_a fun _ _ => rfl, no_o fun _ _ => rfl, no_i fun _ _ _ => rfl, no_f fun _ _ => rfl, no_k fun _ _ => rfl⟩
  replace h : stMethK m ks (chkE B N false o sc) (chkA B N kas sc) e = true := h
  unfold stMethK at h
  split at h
  · simp only [Bool.and_eq_true, beq_iff_eq, decide_eq_true_eq] at h
    obtain ⟨⟨⟨⟨h1, h2⟩, h3⟩, h4⟩, h5, h6, h7⟩ := h
    subst h1
    exact ⟨ew_methK0 g h2 (by rw [beq_iff_eq]; exact h3) ok.1 h5 h4 ((ho.e sc E X _ g ok.2.1).1 h6) (ha.kw sc E X _ g ok.2.2 h7), rfl⟩
  · cases h
theorem sc_mk {c : Str} {S : FSpec} {as : C} (ha : Sound W N B k as) : Sound W N B k (.mk c S as) := by
  refine ⟨snd_plain (fun _ _ => rfl) fun sc E X e g ok h => ?_, no_a fun _ _ => rfl, no_o fun _ _ => rfl, no_i fun _ _ _ => rfl, no_f fun _ _ => rfl, no_k fun _ _ => rfl⟩
  replace h : stCall c sc (chkA B N as sc) e = true := h
  unfold stCall at h
  split at h
  · simp only [Bool.and_eq_true, beq_iff_eq, List.contains_iff_mem] at h
    obtain ⟨⟨h1, h2, h3⟩, h4, h5⟩ := h
    subst h1
    exact ⟨ew_mk g h2 (nmOk_of h3).1 ok.1 h4 (ha.a sc E X _ g ok.2 h5).1, rfl⟩
  · cases h
theorem sc_callK {f : Str} {S : FSpec} {n : Nat} {ks : List Str} {perm : List Nat} {as kas : C} (ha : Sound W N B k as) (hk : Sound W N B k kas) : Sound W N B k (.callK f S n ks perm as kas) := by
  refine ⟨snd_plain (fun _ _ => rfl) fun sc E X e g ok h => ?_, no_a fun _ _ => rfl, no_o fun _ _ => rfl, no_i fun _ _ _ => rfl, no_f fun _ _ => rfl, no_k fun _ _ => rfl⟩
  replace h : stCallK f n ks sc (chkA B N as sc) (chkA B N kas sc) e = true := h
  unfold stCallK at h
  split at h
  · rename_i g1 px es kws pos1
    simp only [Bool.and_eq_true, beq_iff_eq] at h
    obtain ⟨⟨h1, h2, h3⟩, ⟨h4, h5⟩, h6, h7, h8⟩ := h
    subst h1
    refine ⟨?_, rfl⟩
    cases es with
    | nil =>
      have : as = .nil := by
        cases as <;> first | rfl | (cases h7; done)
      subst this
      have : n = 0 := by
        rw [Bool.or_eq_true] at h5
        rcases h5 with h5 | h5
        · cases h5
        · exact beq_iff_eq.mp h5
      subst this
      exact ew_callK0 g h2 (nmOk_of h3).1 ok.1 h4 (hk.kw sc E X _ g ok.2.2 h8)
    | cons e1 es => exact ew_callK g h2 (nmOk_of h3).1 ok.1 h4 h6 (ha.a sc E X _ g ok.2.1 h7).1 (hk.kw sc E X _ g ok.2.2 h8)
  · cases h
theorem sc_dc {own : List (Str × Nat)} {tg : Tg} {it cd kx el : C} (hi : Sound W N B k it) (hc : Sound W N B k cd) (hk : Sound W N B k kx) (he : Sound W N B k el) : Sound W N B k (.dc own tg it cd kx el) := by
  refine ⟨snd_plain (fun _ _ => rfl) fun sc E X e g ok h => ?_, no_a fun _ _ => rfl, no_o fun _ _ => rfl, no_i fun _ _ _ => rfl, no_f fun _ _ => rfl, no_k fun _ _ => rfl⟩
  replace h : stDc N own tg sc (chkI B N it sc) (chkIf B N cd) (chkE B N false kx) (chkE B N false el) e = true := h
  unfold stDc at h
  split at h
  · simp only [Bool.and_eq_true, beq_iff_eq] at h
    obtain ⟨⟨⟨⟨h1, h2⟩, h3⟩, h4⟩, h5, h6, h7, h8, h9⟩ := h
    subst h1
    exact ⟨ew_dc g h2 h3 h4 (hi.i sc E X _ _ g ok.1 h5) ⟨fun X' g' => gw_of g' h6, fun X' g' => hc.f _ _ _ _ g' ok.2.1 h7, fun X' g' => (he.e _ _ _ _ g' ok.2.2.2).1 h9⟩ fun X' g' => (hk.e _ _ _ _ g' ok.2.2.1).1 h8, rfl⟩
  · cases h
theorem sc_bn2 {b : Bn2} {as : C} (hB : Bl W B) (ha : Sound W N B k as) : Sound W N B k (.bn2 b as) := by
  refine ⟨snd_plain (fun _ _ => rfl) fun sc E X e g ok h => ?_, no_a fun _ _ => rfl, no_o fun _ _ => rfl, no_i fun _ _ _ => rfl, no_f fun _ _ => rfl, no_k fun _ _ => rfl⟩
  replace h : stBn2 B b sc (chkA B N as sc) e = true := h
  unfold stBn2 at h
  split at h
  · simp only [Bool.and_eq_true, beq_iff_eq, List.contains_iff_mem] at h
    obtain ⟨⟨h1, h2, h3⟩, h4, h5⟩ := h
    subst h1
    exact ⟨ew_bn2 b g h3 (hB _ h2) h4 (ha.a sc E X _ g ok h5).1, rfl⟩
  · cases h
theorem sc_cnt {a : C} (hB : Bl W B) (ha : Sound W N B k a) : Sound W N B k (.cnt a) := by
  refine ⟨snd_plain (fun _ _ => rfl) fun sc E X e g ok h => ?_, no_a fun _ _ => rfl, no_o fun _ _ => rfl, no_i fun _ _ _ => rfl, no_f fun _ _ => rfl, no_k fun _ _ => rfl⟩
  replace h : stCnt B sc (chkE B N false a sc) e = true := h
  unfold stCnt at h
  split at h
  · simp only [Bool.and_eq_true, beq_iff_eq, List.contains_iff_mem] at h
    obtain ⟨⟨⟨h1, h2⟩, ⟨h3, h4⟩, h5, h6⟩, h7, h8⟩ := h
    subst h1
    subst h2
    exact ⟨ew_cnt g h4 (hB _ h3) h6 (hB _ h5) h7 ((ha.e sc E X _ g ok).1 h8), rfl⟩
  · cases h
theorem sc_rev {a : C} (ha : Sound W N B k a) : Sound W N B k (.rev a) := by
  refine ⟨snd_plain (fun _ _ => rfl) fun sc E X e g ok h => ?_, no_a fun _ _ => rfl, no_o fun _ _ => rfl, no_i fun _ _ _ => rfl, no_f fun _ _ => rfl, no_k fun _ _ => rfl⟩
  replace h : stRev (chkE B N false a sc) e = true := h
  unfold stRev at h
  split at h
  · simp only [Bool.and_eq_true, beq_iff_eq] at h
    obtain ⟨h1, h2⟩ := h
    subst h1
    exact ⟨ew_rev g ((ha.e sc E X _ g ok).1 h2), rfl⟩
  · cases h
theorem sc_bm {m : Bm} {o as : C} (ho : Sound W N B k o) (ha : Sound W N B k as) : Sound W N B k (.bm m o as) := by
  refine ⟨snd_plain (fun _ _ => rfl) fun sc E X e g ok h => ?_, no_a fun _ _ => rfl, no_o fun _ _ => rfl, no_i fun _ _ _ => rfl, no_f fun _ _ => rfl, no_k fun _ _ => rfl⟩
  replace h : stBm m (chkE B N false o sc) (chkA B N as sc) e = true := h
  unfold stBm at h
  split at h
  · simp only [Bool.and_eq_true, beq_iff_eq, decide_eq_true_eq] at h
    obtain ⟨⟨⟨⟨h1, h2⟩, h3⟩, h4⟩, h5, h6, h7⟩ := h
    subst h1
    exact ⟨ew_bm m g h2 (by rw [beq_iff_eq]; exact h3) h5 h4 ((ho.e sc E X _ g ok.1).1 h6) (ha.a sc E X _ g ok.2 h7).1, rfl⟩
  · cases h
theorem sc_ienum {a : C} (hB : Bl W B) (ha : Sound W N B k a) : Sound W N B k (.ienum a) := by
  refine ⟨no_e fun _ _ _ => rfl, no_a fun _ _ => rfl, no_o fun _ _ => rfl, fun sc E X t e g ok h => ?_, no_f fun _ _ => rfl, no_k fun _ _ => rfl⟩
  replace h : stEnum B sc (chkE B N false a sc) t e = true := h
  unfold stEnum at h
  split at h
  · simp only [Bool.and_eq_true, beq_iff_eq, List.contains_iff_mem] at h
    obtain ⟨⟨h1, h2, h3⟩, h4, h5⟩ := h
    subst h1
    exact iw_enum g h3 (hB _ h2) h4 ((ha.e sc E X _ g ok).1 h5)
  · cases h
theorem sc_izip {a b : C} (hB : Bl W B) (ha : Sound W N B k a) (hb : Sound W N B k b) : Sound W N B k (.izip a b) := by
  refine ⟨no_e fun _ _ _ => rfl, no_a fun _ _ => rfl, no_o fun _ _ => rfl, fun sc E X t e g ok h => ?_, no_f fun _ _ => rfl, no_k fun _ _ => rfl⟩
  replace h : stZip B sc (chkE B N false a sc) (chkE B N false b sc) t e = true := h
  unfold stZip at h
  split at h
  · simp only [Bool.and_eq_true, beq_iff_eq, List.contains_iff_mem] at h
    obtain ⟨⟨h1, h2, h3⟩, ⟨h4, h5⟩, h6, h7⟩ := h
    subst h1
    exact iw_zip g h3 (hB _ h2) h4 h5 ((ha.e sc E X _ g ok.1).1 h6) ((hb.e sc E X _ g ok.2).1 h7)
  · cases h
theorem sc_repr {as : C} (hB : Bl W B) (ha : Sound W N B k as) : Sound W N B k (.repr as) := by
  refine ⟨snd_plain (fun _ _ => rfl) fun sc E X e g ok h => ?_, no_a fun _ _ => rfl, no_o fun _ _ => rfl, no_i fun _ _ _ => rfl, no_f fun _ _ => rfl, no_k fun _ _ => rfl⟩
  replace h : stRepr B sc (chkA B N as sc) e = true := h
  unfold stRepr at h
  split at h
  · simp only [Bool.and_eq_true, beq_iff_eq, List.contains_iff_mem] at h
    obtain ⟨⟨h1, h2, h3⟩, h4, h5⟩ := h
    subst h1
    exact ⟨ew_repr g h3 (hB _ h2) h4 (ha.a sc E X _ g ok h5).1, rfl⟩
  · cases h
theorem sc_dz {as : C} (hB : Bl W B) (ha : Sound W N B k as) : Sound W N B k (.dz as) := by
  refine ⟨snd_plain (fun _ _ => rfl) fun sc E X e g ok h => ?_, no_a fun _ _ => rfl, no_o fun _ _ => rfl, no_i fun _ _ _ => rfl, no_f fun _ _ => rfl, no_k fun _ _ => rfl⟩
  replace h : stDz B sc (chkA B N as sc) e = true := h
  unfold stDz at h
  split at h
  · simp only [Bool.and_eq_true, beq_iff_eq, List.contains_iff_mem] at h
    obtain ⟨⟨⟨h1, h2⟩, ⟨h3, h4⟩, h5, h6⟩, h7, h8⟩ := h
    subst h1
    subst h2
    exact ⟨ew_dz g h4 h6 (hB _ h3) (hB _ h5) h7 (ha.a sc E X _ g ok h8).1, rfl⟩
  · cases h
theorem sc_deq {neg : Bool} {a b : C} (ha : Sound W N B k a) (hb : Sound W N B k b) : Sound W N B k (.deq neg a b) := by
  have main : ∀ (sc : Scope) (E : XK) (X : Cx) (e : Expr), Good W N sc k E X → okE W k (.deq neg a b) → stDeq neg (chkE B N false a sc) (chkE B N false b sc) e = true → PEW W E X e (wE (.deq neg a b)) ∧ PTW W E X e (wT (wE (.deq neg a b))) ∧ isBoolE e = false := by
    intro sc E X e g ok h
    unfold stDeq at h
    split at h
    · rename_i l op' r px
      simp only [Bool.and_eq_true, beq_iff_eq, Bool.not_eq_true'] at h
      obtain ⟨⟨h1, h2⟩, h3, h4⟩ := h
      subst h1
      have q := ew_deq (pos := px) g h2 ((ha.e sc E X _ g ok.1).1 h3) ((hb.e sc E X _ g ok.2).1 h4)
      exact ⟨q.1, q.2, rfl⟩
    · cases h
  exact ⟨fun sc E X e g ok => ⟨fun h => (main sc E X e g ok h).1, fun h => (main sc E X e g ok h).2.1, fun hb h => by rw [(main sc E X e g ok h).2.2] at hb; cases hb⟩, no_a fun _ _ => rfl, no_o fun _ _ => rfl, no_i fun _ _ _ => rfl, no_f fun _ _ => rfl, no_k fun _ _ => rfl⟩
theorem sc_ieq {c : Str} {S : FSpec} {a b : C} (ha : Sound W N B k a) (hb : Sound W N B k b) : Sound W N B k (.ieq c S a b) := by
  have main : ∀ (sc : Scope) (E : XK) (X : Cx) (e : Expr), Good W N sc k E X → okE W k (.ieq c S a b) → stDeq false (chkE B N false a sc) (chkE B N false b sc) e = true → PEW W E X e (wE (.ieq c S a b)) ∧ PTW W E X e (wT (wE (.ieq c S a b))) ∧ isBoolE e = false := by
    intro sc E X e g ok h
    unfold stDeq at h
    split at h
    · rename_i l op' r px
      simp only [Bool.and_eq_true, beq_iff_eq, Bool.not_eq_true'] at h
      obtain ⟨⟨h1, h2⟩, h3, h4⟩ := h
      subst h1
      have q := ew_ieq (pos := px) g ok.1 h2 ((ha.e sc E X _ g ok.2.1).1 h3) ((hb.e sc E X _ g ok.2.2).1 h4)
      exact ⟨q.1, q.2, rfl⟩
    · cases h
  exact ⟨fun sc E X e g ok => ⟨fun h => (main sc E X e g ok h).1, fun h => (main sc E X e g ok h).2.1, fun hb h => by rw [(main sc E X e g ok h).2.2] at hb; cases hb⟩, no_a fun _ _ => rfl, no_o fun _ _ => rfl, no_i fun _ _ _ => rfl, no_f fun _ _ => rfl, no_k fun _ _ => rfl⟩
theorem sc_isC {c : Str} {a : C} (hB : Bl W B) (ha : Sound W N B k a) : Sound W N B k (.isC c a) := by
  refine ⟨snd_plain (fun _ _ => rfl) fun sc E X e g ok h => ?_, no_a fun _ _ => rfl, no_o fun _ _ => rfl, no_i fun _ _ _ => rfl, no_f fun _ _ => rfl, no_k fun _ _ => rfl⟩
  replace h : stIsC B c sc (chkE B N false a sc) e = true := h
  unfold stIsC at h
  split at h
  · rename_i g1 p1 x t p2 pos
    simp only [Bool.and_eq_true, beq_iff_eq] at h
    obtain ⟨⟨⟨h1, h2⟩, ⟨h3, h4⟩, h5, h6⟩, h7, h8⟩ := h
    subst h1
    subst h2
    exact ⟨ew_isC (x := t) g h4 (hB _ (List.contains_iff_mem.mp h3)) h5 (nmOk_of h6).1 ok.1 h7 ((ha.e sc E X _ g ok.2).1 h8), rfl⟩
  · cases h
theorem sc_lItems {a : C} (hB : Bl W B) (ha : Sound W N B k a) : Sound W N B k (.lItems a) := by
  refine ⟨snd_plain (fun _ _ => rfl) fun sc E X e g ok h => ?_, no_a fun _ _ => rfl, no_o fun _ _ => rfl, no_i fun _ _ _ => rfl, no_f fun _ _ => rfl, no_k fun _ _ => rfl⟩
  replace h : stLItems B sc (chkE B N false a sc) e = true := h
  unfold stLItems at h
  split at h
  · rename_i l p1 x m ap cp pos
    simp only [Bool.and_eq_true, beq_iff_eq] at h
    obtain ⟨⟨⟨h1, h2⟩, h3, h4⟩, ⟨h5, h6⟩, h7⟩ := h
    subst h1
    subst h2
    exact ⟨ew_litems g h5 (by rw [h6]; simp) h4 (hB _ (List.contains_iff_mem.mp h3)) ((ha.e sc E X _ g ok).1 h7), rfl⟩
  · cases h
theorem stItF_of {kd : Dk} {a : Ck} {t e : Expr} (h : stItF kd a t e = true) : ∃ x, dkB kd t e = some x ∧ a x = true := by
  unfold stItF at h
  split at h
  · rename_i x q; exact ⟨x, q, h⟩
  · cases h
theorem sc_iitF {kd : Dk} {a : C} (ha : Sound W N B k a) : Sound W N B k (.iitF kd a) := by
  refine ⟨no_e fun _ _ _ => rfl, no_a fun _ _ => rfl, no_o fun _ _ => rfl, fun sc E X t e g ok h => ?_, no_f fun _ _ => rfl, no_k fun _ _ => rfl⟩
  obtain ⟨x, q, hx⟩ := stItF_of (show stItF kd (chkE B N false a sc) t e = true from h)
  exact iw_itF q ((ha.e sc E X _ g ok).1 hx)
theorem pl_of {sc : Scope} {E : XK} {X : Cx} {pl : C} {e : Expr} (g : Good W N sc k E X) (ok : okPl W pl) (h : stPl N sc pl e = true) : PlW W X e (wPl pl) := by
  unfold stPl at h
  split at h
  · rename_i i x p
    rw [Bool.and_eq_true, Bool.and_eq_true, decide_eq_true_eq] at h
    exact pl_var g h.1 h.2.1 (nmOk_of h.2.2).1 (nmOk_of h.2.2).2
  · rename_i c f i x p1 g1 p2
    rw [Bool.and_eq_true, Bool.and_eq_true, Bool.and_eq_true, decide_eq_true_eq, beq_iff_eq] at h
    obtain ⟨h0, h1, h2, h3⟩ := h
    subst h0
    exact pl_fld g ok h1 h2 (nmOk_of h3).1 (nmOk_of h3).2
  · cases h
theorem sc_lcK {kd : Dk} {pl : C} {own : List (Str × Nat)} {tg : Tg} {cd el : C} (hc : Sound W N B k cd) (he : Sound W N B k el) : Sound W N B k (.lcK kd pl own tg cd el) := by
  refine ⟨snd_plain (fun _ _ => rfl) fun sc E X e g ok h => ?_, no_a fun _ _ => rfl, no_o fun _ _ => rfl, no_i fun _ _ _ => rfl, no_f fun _ _ => rfl, no_k fun _ _ => rfl⟩
  replace h : stLcK N kd own tg sc (stPl N sc pl) (chkIf B N cd) (chkE B N false el) e = true := h
  unfold stLcK at h
  split at h
  · rename_i elt t iter ifs as scope px
    simp only [Bool.and_eq_true, beq_iff_eq] at h
    obtain ⟨⟨⟨⟨h1, h2⟩, h3⟩, h4⟩, h5, h6, h7, h8⟩ := h
    subst h1
    obtain ⟨x, q, hx⟩ := stItF_of h5
    exact ⟨ew_lcK g h2 h3 h4 q (pl_of g ok.1 hx) ⟨fun X' g' => gw_of g' h6, fun X' g' => hc.f _ _ _ _ g' ok.2.1 h7, fun X' g' => (he.e _ _ _ _ g' ok.2.2).1 h8⟩, rfl⟩
  · cases h
theorem sc_dcK {kd : Dk} {pl : C} {own : List (Str × Nat)} {tg : Tg} {cd kx el : C} (hc : Sound W N B k cd) (hk : Sound W N B k kx) (he : Sound W N B k el) : Sound W N B k (.dcK kd pl own tg cd kx el) := by
  refine ⟨snd_plain (fun _ _ => rfl) fun sc E X e g ok h => ?_, no_a fun _ _ => rfl, no_o fun _ _ => rfl, no_i fun _ _ _ => rfl, no_f fun _ _ => rfl, no_k fun _ _ => rfl⟩
  replace h : stDcK N kd own tg sc (stPl N sc pl) (chkIf B N cd) (chkE B N false kx) (chkE B N false el) e = true := h
  unfold stDcK at h
  split at h
  · rename_i key elt t iter ifs as scope px
    simp only [Bool.and_eq_true, beq_iff_eq] at h
    obtain ⟨⟨⟨⟨h1, h2⟩, h3⟩, h4⟩, h5, h6, h7, h8, h9⟩ := h
    subst h1
    obtain ⟨x, q, hx⟩ := stItF_of h5
    exact ⟨ew_dcK g h2 h3 h4 q (pl_of g ok.1 hx) ⟨fun X' g' => gw_of g' h6, fun X' g' => hc.f _ _ _ _ g' ok.2.1 h7, fun X' g' => (he.e _ _ _ _ g' ok.2.2.2).1 h9⟩ fun X' g' => (hk.e _ _ _ _ g' ok.2.2.1).1 h8, rfl⟩
  · cases h
theorem soundC (hB : Bl W B) : ∀ c : C, Sound W N B k c := by
  intro c
  induction c with
  | var i => exact sc_var
  | k d => exact sc_k
  | glob x d => exact sc_glob
  | bin op a b ha hb => exact sc_bin ha hb
  | neg a ha => exact sc_neg ha
  | cmp op a b ha hb => exact sc_cmp ha hb
  | chain o1 o2 a b c ha hb hc => exact sc_chain ha hb hc
  | and a b ha hb => exact sc_and ha hb
  | or a b ha hb => exact sc_or ha hb
  | one a ha => exact sc_one ha
  | not a ha => exact sc_not ha
  | ife c a b hc ha hb => exact sc_ife hc ha hb
  | tup as ha => exact sc_tup ha
  | lst as ha => exact sc_lst ha
  | ix a b ha hb => exact sc_ix ha hb
  | dct0 => exact sc_dct0
  | sl a lo hi ha hl hh => exact sc_sl ha hl hh
  | no => exact sc_no
  | opt a ha => exact sc_opt ha
  | call f S as ha => exact sc_call hB ha
  | bn b as ha => exact sc_bn hB ha
  | lrange as ha => exact sc_lrange hB ha
  | isin T a ha => exact sc_isin hB ha
  | isin2 T T' a ha => exact sc_isin2 hB ha
  | lc own tg it cd el hi hc he => exact sc_lc hi hc he
  | nil => exact sc_nil
  | cons a as ha hs => exact sc_cons ha hs
  | iseq a ha => exact sc_iseq ha
  | irange as ha => exact sc_irange hB ha
  | fld c f a ha => exact sc_fld ha
  | meth c m S o as ho ha => exact sc_meth ho ha
  | methK c m S ks perm o kas ho ha => exact sc_methK ho ha
  | mk c S as ha => exact sc_mk ha
  | callK f S n ks perm as kas ha hk => exact sc_callK ha hk
  | dc own tg it cd kx el hi hc hk he => exact sc_dc hi hc hk he
  | bn2 b as ha => exact sc_bn2 hB ha
  | cnt a ha => exact sc_cnt hB ha
  | rev a ha => exact sc_rev ha
  | bm m o as ho ha => exact sc_bm ho ha
  | ienum a ha => exact sc_ienum hB ha
  | izip a b ha hb => exact sc_izip hB ha hb
  | repr as ha => exact sc_repr hB ha
  | dz as ha => exact sc_dz hB ha
  | deq neg a b ha hb => exact sc_deq ha hb
  | ieq c S a b ha hb => exact sc_ieq ha hb
  | isC c a ha => exact sc_isC hB ha
  | lItems a ha => exact sc_lItems hB ha
  | iitF kd a ha => exact sc_iitF ha
  | lcK kd pl own tg cd el _ hc he => exact sc_lcK hc he
  | dcK kd pl own tg cd kx el _ hc hk he => exact sc_dcK hc hk he
end
end G
set_option maxRecDepth 100000
set_option maxHeartbeats 4000000
namespace G
open PySem PySem.Spec PyProof.Rows L2

/-! ### the core: statements -/
/-- a statement, then the rest, met at what is chosen -/
def wCut (w1 w2 : WS) : WS := fun δ p => ∃ I : Env → Prop, w1 δ { p with nx := I } ∧ ∀ δ', I δ' → w2 δ' p
inductive S where
  | nil | cons (s r : S) | frz (Js : List Nat) (r : S) | cut (s r : S)
  | pass | brk | cont | never | doc
  | expr (a : C) | ret (a : C) | retN
  | asg (i : Nat) (ow : Bool) (a : C)
  | asgLc (i : Nat) (ow : Bool) (own : List (Str × Nat)) (tg : Tg) (it cd el : C)
  | unp (is : List Nat) (a : C)
  | par2 (i : Nat) (o1 : Bool) (j : Nat) (o2 : Bool) (as : C)
  | par3 (i : Nat) (o1 : Bool) (j : Nat) (o2 : Bool) (l : Nat) (o3 : Bool) (as : C)
  | parT (ts : List (Nat × Bool)) (as : C)
  | ifs (c : C) (a b : S)
  | whl (c : C) (b : S)
  | for_ (tg : Tg) (it : C) (b : S)
  | forK (tg : Tg) (i : Nat) (b : S)
  | setI (i : Nat) (kk v : C)
  | setSt (o kk v : C)
  | setF (i : Nat) (c f : Str) (a : C)
  | aug (op : Operator) (i : Nat) (a : C)
  | augL (i : Nat) (a : C)
  | mut0 (i : Nat) (m : Mt)
  | mut1 (i : Nat) (m : Mt) (as : C)
  | mutA0 (j i : Nat) (m : Mt)
  | mutA1 (j i : Nat) (m : Mt) (as : C)
  | mutP0 (j i : Nat) (m : Mt)
  | mutP1 (j i : Nat) (m : Mt) (as : C)
  | unpS (i j : Nat) (ow : Bool) (a : C)
  | augD (i : Nat) (kk a : C)
  | clrD (i : Nat)
  | asgDc (i : Nat) (ow : Bool) (own : List (Str × Nat)) (tg : Tg) (it cd kx el : C)
  | asgLcK (i : Nat) (ow : Bool) (kd : Dk) (pl : C) (own : List (Str × Nat)) (tg : Tg) (cd el : C)
  | asgDcK (i : Nat) (ow : Bool) (kd : Dk) (pl : C) (own : List (Str × Nat)) (tg : Tg) (cd kx el : C)
  | forD (kd : Dk) (tg : Tg) (pl : C) (b : S)
def wS : S → WS
  | .nil => wNext
  | .cons a r => wSeqS (wS a) (wS r)
  | .frz Js r => fun δ p => wS r (frzL δ Js) p
  | .cut a r => wCut (wS a) (wS r)
  | .pass => wNext
  | .brk => wBrk
  | .cont => wCont
  | .never => wNever
  | .doc => wNext
  | .expr a => wDrop (wE a)
  | .ret a => wRet (wE a)
  | .retN => wRetN
  | .asg i ow a => wAsg i ow (wE a)
  | .asgLc i ow own tg it cd el => wAsg i ow (wLc (own.map (·.2)) tg (wI it) (wTt cd) (wE el))
  | .unp is a => wUnp is (wE a)
  | .par2 i o1 j o2 as => wPar [(i, o1), (j, o2)] (wA as)
  | .par3 i o1 j o2 l o3 as => wPar [(i, o1), (j, o2), (l, o3)] (wA as)
  | .parT ts as => wPar ts (fun δ K X => wA as δ (fun rs => rs.length ≤ big ∧ K rs) X)
  | .ifs c a b => wIfS (wT (wE c)) (wS a) (wS b)
  | .whl c b => wWhile (wT (wE c)) (wS b)
  | .for_ tg it b => wFor tg (wI it) (wS b)
  | .forK tg i b => wForK tg i (wS b)
  | .setI i kk v => wSet i (wE kk) (wE v)
  | .setSt o kk v => wSetSt (wE o) (wE kk) (wE v)
  | .setF i c f a => wSetF i c f (wE a)
  | .aug op i a => wAug op i (wE a)
  | .augL i a => wAugL i (wE a)
  | .mut0 i m => wMutE i m wNil
  | .mut1 i m as => wMutE i m (wA as)
  | .mutA0 j i m => wMutA j i m wNil
  | .mutA1 j i m as => wMutA j i m (wA as)
  | .mutP0 j i m => wMutP j i m wNil
  | .mutP1 j i m as => wMutP j i m (wA as)
  | .unpS i j ow a => wUnpS i j ow (wE a)
  | .augD i kk a => wAugD i (wE kk) (wE a)
  | .clrD i => wClrD i
  | .asgDc i ow own tg it cd kx el => wAsg i ow (wDc (own.map (·.2)) tg (wI it) (wTt cd) (wE kx) (wE el))
  | .asgLcK i ow kd pl own tg cd el => wAsg i ow (wLcK kd (wPl pl) (own.map (·.2)) tg (wTt cd) (wE el))
  | .asgDcK i ow kd pl own tg cd kx el => wAsg i ow (wDcK kd (wPl pl) (own.map (·.2)) tg (wTt cd) (wE kx) (wE el))
  | .forD kd tg pl b => wForD kd tg (wPl pl) (wS b)
def okS (W : Wd) (k : Nat) : S → Prop
  | .cons a r => okS W k a ∧ okS W k r
  | .frz _ r => okS W k r
  | .cut a r => okS W k a ∧ okS W k r
  | .expr a => okE W k a
  | .ret a => okE W k a
  | .asg _ _ a => okE W k a
  | .asgLc _ _ _ _ it cd el => okE W k it ∧ okE W k cd ∧ okE W k el
  | .unp _ a => okE W k a
  | .par2 _ _ _ _ as => okE W k as
  | .par3 _ _ _ _ _ _ as => okE W k as
  | .parT _ as => okE W k as
  | .ifs c a b => okE W k c ∧ okS W k a ∧ okS W k b
  | .whl c b => okE W k c ∧ okS W k b
  | .for_ _ it b => okE W k it ∧ okS W k b
  | .forK _ _ b => okS W k b
  | .setI _ kk v => okE W k kk ∧ okE W k v
  | .setSt o kk v => okE W k o ∧ okE W k kk ∧ okE W k v
  | .setF _ c f a => FldOk W c f ∧ okE W k a
  | .aug _ _ a => okE W k a
  | .augL _ a => okE W k a
  | .mut1 _ _ as => okE W k as
  | .mutA1 _ _ _ as => okE W k as
  | .mutP1 _ _ _ as => okE W k as
  | .unpS _ _ _ a => okE W k a
  | .augD _ kk a => okE W k kk ∧ okE W k a
  | .asgDc _ _ _ _ it cd kx el => okE W k it ∧ okE W k cd ∧ okE W k kx ∧ okE W k el
  | .asgLcK _ _ _ pl _ _ cd el => okPl W pl ∧ okE W k cd ∧ okE W k el
  | .asgDcK _ _ _ pl _ _ cd kx el => okPl W pl ∧ okE W k cd ∧ okE W k kx ∧ okE W k el
  | .forD _ _ pl b => okPl W pl ∧ okS W k b
  | _ => True
abbrev Sk := Stmt → Bool
abbrev Bk := List Stmt → Bool
def seVis (N : List Str) (sc : Scope) (i : Nat) (x : Str) : Bool := decide (N[i]? = some x) && (visB sc x && nmOk x)
def seLoc (N : List Str) (sc : Scope) (i : Nat) (x : Str) : Bool := decide (N[i]? = some x) && locB sc x
def seLcl (N : List Str) (sc : Scope) (i : Nat) (x : Str) : Bool := decide (N[i]? = some x) && decide (sc.names.lookup x = some .local)
def ssPass : Sk
  | .Pass _ => true
  | _ => false
def ssBrk : Sk
  | .Break _ => true
  | _ => false
def ssCont : Sk
  | .Continue _ => true
  | _ => false
def ssDoc : Sk
  | .Expr (.Constant (.str _) _ _) _ => true
  | _ => false
def ssExpr (a : Ck) : Sk
  | .Expr e _ => noComp e && a e
  | _ => false
def ssRet (a : Ck) : Sk
  | .Return (some e) _ => a e
  | _ => false
def ssRetN : Sk
  | .Return none _ => true
  | _ => false
def ssAsg (N : List Str) (sc : Scope) (i : Nat) (a : Ck) : Sk
  | .Assign [.Name x _] e _ => seLoc N sc i x && (noComp e && a e)
  | _ => false
def ssLc (N : List Str) (own : List (Str × Nat)) (tg : Tg) (sc : Scope) (i : Nat) (it : Expr → Ck) (cd : Scope → Cs) (el : Scope → Ck) : Sk
  | .Assign [.Name x p2] (.ListComp elt [⟨t, iter, ifs, as⟩] scope p3) _ => seLcl N sc i x && (p2.line == p3.line) && !(scope.names.any fun (n, k) => n == x && (k == .local || k == .cell)) && (as == 0 && blkC N sc scope own && ownOk own tg && noSet iter && (it t iter && (chkG N scope tg t && (cd scope ifs && el scope elt))))
  | _ => false
def ssUnp (N : List Str) (sc : Scope) (is : List Nat) (a : Ck) : Sk
  | .Assign [.Tuple ts j p2] e _ => chkG N sc (.many is) (.Tuple ts j p2) && (noComp e && noTuple e && a e)
  | _ => false
def ssPar2 (N : List Str) (sc : Scope) (i j : Nat) (as : Cs) : Sk
  | .Assign [.Tuple [.Name x px, .Name y py] _ _] (.Tuple [a, b] _ _) _ => seLcl N sc i x && seLcl N sc j y && !(i == j) && decide (swapP [.Name x px, .Name y py] [a, b] false (kindB sc) = some (some [x, y])) && as [a, b]
  | _ => false
def ssPar3 (N : List Str) (sc : Scope) (i j l : Nat) (as : Cs) : Sk
  | .Assign [.Tuple [.Name x px, .Name y py, .Name z pz] _ _] (.Tuple [a, b, c] _ _) _ => seLcl N sc i x && seLcl N sc j y && seLcl N sc l z && !(i == j) && !(i == l) && !(j == l) && decide (swapP [.Name x px, .Name y py, .Name z pz] [a, b, c] false (kindB sc) = some (some [x, y, z])) && as [a, b, c]
  | _ => false
def ssParT (N : List Str) (sc : Scope) (ts : List (Nat × Bool)) (as : Cs) : Sk
  | .Assign [.Tuple es _ _] (.Tuple vs _ _) _ => tgsB N sc ts es && decide (swapP es vs false (kindB sc) = some none) && as vs
  | _ => false
def ssIf (c : Ck) (a b : Bk) : Sk
  | .If q s1 s2 _ => c q && (a s1 && b s2)
  | _ => false
def ssWhl (c : Ck) (a : Bk) : Sk
  | .While q s1 [] _ => c q && a s1
  | _ => false
def ssFor (N : List Str) (sc : Scope) (tg : Tg) (it : Expr → Ck) (a : Bk) : Sk
  | .For t iter body [] _ => noSet iter && chkG N sc tg t && (it t iter && a body)
  | _ => false
def ssForK (N : List Str) (sc : Scope) (tg : Tg) (i : Nat) (a : Bk) : Sk
  | .For t (.Name x _) body [] _ => seVis N sc i x && chkG N sc tg t && a body
  | _ => false
def ssSet (N : List Str) (sc : Scope) (i : Nat) (kk v : Ck) : Sk
  | .Assign [.Subscript (.Name x _) b _] a _ => seVis N sc i x && (noSlice b && noComp a && noTuple a) && (kk b && v a)
  | _ => false
def ssSetF (N : List Str) (sc : Scope) (i : Nat) (f : Str) (a : Ck) : Sk
  | .Assign [.Attribute (.Name x _) g _] e _ => seVis N sc i x && (f == g) && a e
  | _ => false
def ssSetSt (o kk v : Ck) : Sk
  | .Assign [.Subscript eo b _] a _ => (noSlice b && noComp a && noTuple a) && (o eo && (kk b && v a))
  | _ => false
def ssAug (N : List Str) (sc : Scope) (op : Operator) (i : Nat) (a : Ck) : Sk
  | .AugAssign (.Name x _) op' e _ => op == op' && augB op && (seLoc N sc i x && a e)
  | _ => false
def ssAugL (N : List Str) (sc : Scope) (i : Nat) (a : Ck) : Sk
  | .AugAssign (.Name x _) .Add e _ => seLoc N sc i x && a e
  | _ => false
def seMut0 (N : List Str) (sc : Scope) (i : Nat) (m : Mt) : Ck
  | .Call (.Attribute (.Name x _) nm ap) [] [] cp => nm == m.nm && (ap.endLine == cp.line) && seVis N sc i x
  | _ => false
def seMut1 (N : List Str) (sc : Scope) (i : Nat) (m : Mt) (as : Cs) : Ck
  | .Call (.Attribute (.Name x _) nm ap) (e :: es) [] cp => nm == m.nm && (ap.endLine == cp.line) && seVis N sc i x && ((e :: es).all noStar && decide ((e :: es).length < 20) && as (e :: es))
  | _ => false
def ssMutE (a : Ck) : Sk
  | .Expr e _ => noComp e && a e
  | _ => false
def ssMutA (N : List Str) (sc : Scope) (j : Nat) (a : Ck) : Sk
  | .Assign [.Name x _] e _ => seLoc N sc j x && (noComp e && a e)
  | _ => false
def ssMutP (N : List Str) (sc : Scope) (j : Nat) (a : Ck) : Sk
  | .Expr (.Call (.Attribute (.Name x _) nm ap) [e] [] cp) _ => nm == ("append" : Str) && (ap.endLine == cp.line) && seVis N sc j x && (noStar e && a e)
  | _ => false
def ssUnpS (N : List Str) (sc : Scope) (i j : Nat) (a : Ck) : Sk
  | .Assign [.Tuple [.Name x _, .Starred (.Name y _) _] _ _] e _ => seLoc N sc i x && seLoc N sc j y && (noComp e && noTuple e && a e)
  | _ => false
def ssAugD (N : List Str) (sc : Scope) (i : Nat) (kk a : Ck) : Sk
  | .AugAssign (.Subscript (.Name x _) b _) .Add e _ => seVis N sc i x && noSlice b && (kk b && a e)
  | _ => false
def ssClrD (N : List Str) (sc : Scope) (i : Nat) : Sk
  | .Expr (.Call (.Attribute (.Name x _) nm ap) [] [] cp) _ => nm == ("clear" : Str) && (ap.endLine == cp.line) && seVis N sc i x
  | _ => false
def ssDc (N : List Str) (own : List (Str × Nat)) (tg : Tg) (sc : Scope) (i : Nat) (it : Expr → Ck) (cd : Scope → Cs) (kx el : Scope → Ck) : Sk
  | .Assign [.Name x p2] (.DictComp key elt [⟨t, iter, ifs, as⟩] scope p3) _ => seLcl N sc i x && (p2.line == p3.line) && !(scope.names.any fun (n, k) => n == x && (k == .local || k == .cell)) && (as == 0 && blkC N sc scope own && ownOk own tg && noSet iter && (it t iter && (chkG N scope tg t && (cd scope ifs && (kx scope key && el scope elt)))))
  | _ => false
def ssLcK (N : List Str) (kd : Dk) (own : List (Str × Nat)) (tg : Tg) (sc : Scope) (i : Nat) (pl : Ck) (cd : Scope → Cs) (el : Scope → Ck) : Sk
  | .Assign [.Name x p2] (.ListComp elt [⟨t, iter, ifs, as⟩] scope p3) _ => seLcl N sc i x && (p2.line == p3.line) && !(scope.names.any fun (n, k) => n == x && (k == .local || k == .cell)) && (as == 0 && blkC N sc scope own && ownOk own tg && noSet iter && (stItF kd pl t iter && (chkG N scope tg t && (cd scope ifs && el scope elt))))
  | _ => false
def ssDcK (N : List Str) (kd : Dk) (own : List (Str × Nat)) (tg : Tg) (sc : Scope) (i : Nat) (pl : Ck) (cd : Scope → Cs) (kx el : Scope → Ck) : Sk
  | .Assign [.Name x p2] (.DictComp key elt [⟨t, iter, ifs, as⟩] scope p3) _ => seLcl N sc i x && (p2.line == p3.line) && !(scope.names.any fun (n, k) => n == x && (k == .local || k == .cell)) && (as == 0 && blkC N sc scope own && ownOk own tg && noSet iter && (stItF kd pl t iter && (chkG N scope tg t && (cd scope ifs && (kx scope key && el scope elt)))))
  | _ => false
def ssForD (N : List Str) (sc : Scope) (kd : Dk) (tg : Tg) (pl : Ck) (a : Bk) : Sk
  | .For t iter body [] _ => noSet iter && chkG N sc tg t && (stItF kd pl t iter && a body)
  | _ => false
def sbNil : Bk := List.isEmpty
def sbCons (a : Sk) (r : Bk) : Bk
  | s :: ss => a s && r ss
  | _ => false
mutual
def chkS (B N : List Str) (s : S) (sc : Scope) (st : Stmt) : Bool := match s with
  | .pass => ssPass st
  | .brk => ssBrk st
  | .cont => ssCont st
  | .never => true
  | .doc => ssDoc st
  | .expr a => ssExpr (chkE B N false a sc) st
  | .ret a => ssRet (chkE B N false a sc) st
  | .retN => ssRetN st
  | .asg i _ a => ssAsg N sc i (chkE B N false a sc) st
  | .asgLc i _ own tg it cd el => ssLc N own tg sc i (chkI B N it sc) (chkIf B N cd) (chkE B N false el) st
  | .unp is a => ssUnp N sc is (chkE B N false a sc) st
  | .par2 i _ j _ as => ssPar2 N sc i j (chkA B N as sc) st
  | .par3 i _ j _ l _ as => ssPar3 N sc i j l (chkA B N as sc) st
  | .parT ts as => ssParT N sc ts (chkA B N as sc) st
  | .ifs c a b => ssIf (chkE B N true c sc) (chkB B N a sc) (chkB B N b sc) st
  | .whl c b => ssWhl (chkE B N true c sc) (chkB B N b sc) st
  | .for_ tg it b => ssFor N sc tg (chkI B N it sc) (chkB B N b sc) st
  | .forK tg i b => ssForK N sc tg i (chkB B N b sc) st
  | .setI i kk v => ssSet N sc i (chkE B N false kk sc) (chkE B N false v sc) st
  | .setSt o kk v => ssSetSt (chkE B N false o sc) (chkE B N false kk sc) (chkE B N false v sc) st
  | .setF i _ f a => ssSetF N sc i f (chkE B N false a sc) st
  | .aug op i a => ssAug N sc op i (chkE B N false a sc) st
  | .augL i a => ssAugL N sc i (chkE B N false a sc) st
  | .mut0 i m => ssMutE (seMut0 N sc i m) st
  | .mut1 i m as => ssMutE (seMut1 N sc i m (chkA B N as sc)) st
  | .mutA0 j i m => ssMutA N sc j (seMut0 N sc i m) st
  | .mutA1 j i m as => ssMutA N sc j (seMut1 N sc i m (chkA B N as sc)) st
  | .mutP0 j i m => ssMutP N sc j (seMut0 N sc i m) st
  | .mutP1 j i m as => ssMutP N sc j (seMut1 N sc i m (chkA B N as sc)) st
  | .unpS i j _ a => ssUnpS N sc i j (chkE B N false a sc) st
  | .augD i kk a => ssAugD N sc i (chkE B N false kk sc) (chkE B N false a sc) st
  | .clrD i => ssClrD N sc i st
  | .asgDc i _ own tg it cd kx el => ssDc N own tg sc i (chkI B N it sc) (chkIf B N cd) (chkE B N false kx) (chkE B N false el) st
  | .asgLcK i _ kd pl own tg cd el => ssLcK N kd own tg sc i (stPl N sc pl) (chkIf B N cd) (chkE B N false el) st
  | .asgDcK i _ kd pl own tg cd kx el => ssDcK N kd own tg sc i (stPl N sc pl) (chkIf B N cd) (chkE B N false kx) (chkE B N false el) st
  | .forD kd tg pl b => ssForD N sc kd tg (stPl N sc pl) (chkB B N b sc) st
  | _ => false
def chkB (B N : List Str) (s : S) (sc : Scope) (st : List Stmt) : Bool := match s with
  | .nil => sbNil st
  | .cons a r => sbCons (chkS B N a sc) (chkB B N r sc) st
  | .frz _ r => chkB B N r sc st
  | .cut a r => sbCons (chkS B N a sc) (chkB B N r sc) st
  | _ => false
end
section
variable {W : Wd} {N B : List Str} {k : Nat}
theorem seVis_of {sc : Scope} {i : Nat} {x : Str} (h : seVis N sc i x = true) : N[i]? = some x ∧ visB sc x = true ∧ (x == ("__debug__" : Str)) = false ∧ (x == ("__classdict__" : Str)) = false := by
  unfold seVis at h
  rw [Bool.and_eq_true, Bool.and_eq_true, decide_eq_true_eq] at h
  exact ⟨h.1, h.2.1, (nmOk_of h.2.2).1, (nmOk_of h.2.2).2⟩
theorem seLoc_of {sc : Scope} {i : Nat} {x : Str} (h : seLoc N sc i x = true) : N[i]? = some x ∧ locB sc x = true := by
  unfold seLoc at h
  rw [Bool.and_eq_true, decide_eq_true_eq] at h
  exact h
theorem seLcl_of {sc : Scope} {i : Nat} {x : Str} (h : seLcl N sc i x = true) : N[i]? = some x ∧ sc.names.lookup x = some .local := by
  unfold seLcl at h
  rw [Bool.and_eq_true, decide_eq_true_eq, decide_eq_true_eq] at h
  exact h
def SndS (W : Wd) (N B : List Str) (k : Nat) (s : S) : Prop := ∀ (sc : Scope) (E : XK) (X : Cx) (st : Stmt), Good W N sc k E X → X.env.scope = sc → okS W k s → chkS B N s sc st = true → PSW W E X st (wS s)
def SndB (W : Wd) (N B : List Str) (k : Nat) (s : S) : Prop := ∀ (sc : Scope) (E : XK) (X : Cx) (st : List Stmt), Good W N sc k E X → X.env.scope = sc → okS W k s → chkB B N s sc st = true → PBW W E X st (wS s)
structure SoundS (W : Wd) (N B : List Str) (k : Nat) (c : S) : Prop where
  s : SndS W N B k c
  b : SndB W N B k c
theorem no_b {s : S} (h : ∀ sc st, chkB B N s sc st = false) : SndB W N B k s := fun sc E X st g hs ok hc => by rw [h] at hc; cases hc
theorem no_s {s : S} (h : ∀ sc st, chkS B N s sc st = false) : SndS W N B k s := fun sc E X st g hs ok hc => by rw [h] at hc; cases hc
theorem mut0_of {sc : Scope} {E : XK} {X : Cx} {i : Nat} {m : Mt} {e : Expr} (g : Good W N sc k E X) (h : seMut0 N sc i m e = true) : PMW W E X e i m wNil := by
  unfold seMut0 at h
  split at h
  · rename_i x p1 nm ap cp
    simp only [Bool.and_eq_true] at h
    obtain ⟨⟨h1, h2⟩, h3⟩ := h
    obtain ⟨q1, q2, q3, q4⟩ := seVis_of h3
    rw [beq_iff_eq] at h1
    subst h1
    exact mw_of0 g q1 q2 q3 q4 h2
  · cases h
theorem mut1_of {sc : Scope} {E : XK} {X : Cx} {i : Nat} {m : Mt} {as : C} {e : Expr} (g : Good W N sc k E X) (ha : SndA W N B k as) (ok : okE W k as) (h : seMut1 N sc i m (chkA B N as sc) e = true) : PMW W E X e i m (wA as) := by
  unfold seMut1 at h
  split at h
  · rename_i x p1 nm ap e1 es cp
    simp only [Bool.and_eq_true] at h
    obtain ⟨⟨⟨h1, h2⟩, h3⟩, ⟨h4, h5⟩, h6⟩ := h
    obtain ⟨q1, q2, q3, q4⟩ := seVis_of h3
    rw [beq_iff_eq] at h1
    subst h1
    exact mw_of1 g q1 q2 q3 q4 h4 (of_decide_eq_true h5) h2 (ha sc E X _ g ok h6).1
  · cases h
theorem ss_pass  (hB : Bl W B)  : SoundS W N B k (.pass) := by
  refine ⟨fun sc E X st g hs ok h => ?_, no_b fun _ _ => rfl⟩
  replace h : ssPass st = true := h
  unfold ssPass at h
  split at h
  · skip
    try simp only [Bool.and_eq_true, Bool.not_eq_true', beq_eq_false_iff_ne, decide_eq_true_eq, ne_eq] at h
    exact sw_pass
  · cases h
theorem ss_brk  (hB : Bl W B)  : SoundS W N B k (.brk) := by
  refine ⟨fun sc E X st g hs ok h => ?_, no_b fun _ _ => rfl⟩
  replace h : ssBrk st = true := h
  unfold ssBrk at h
  split at h
  · skip
    try simp only [Bool.and_eq_true, Bool.not_eq_true', beq_eq_false_iff_ne, decide_eq_true_eq, ne_eq] at h
    exact sw_break
  · cases h
theorem ss_cont  (hB : Bl W B)  : SoundS W N B k (.cont) := by
  refine ⟨fun sc E X st g hs ok h => ?_, no_b fun _ _ => rfl⟩
  replace h : ssCont st = true := h
  unfold ssCont at h
  split at h
  · skip
    try simp only [Bool.and_eq_true, Bool.not_eq_true', beq_eq_false_iff_ne, decide_eq_true_eq, ne_eq] at h
    exact sw_cont
  · cases h
theorem ss_doc  (hB : Bl W B)  : SoundS W N B k (.doc) := by
  refine ⟨fun sc E X st g hs ok h => ?_, no_b fun _ _ => rfl⟩
  replace h : ssDoc st = true := h
  unfold ssDoc at h
  split at h
  · skip
    try simp only [Bool.and_eq_true, Bool.not_eq_true', beq_eq_false_iff_ne, decide_eq_true_eq, ne_eq] at h
    exact sw_doc
  · cases h
theorem ss_never (hB : Bl W B) : SoundS W N B k .never := ⟨fun _ _ _ _ _ _ _ _ => sw_never, no_b fun _ _ => rfl⟩
theorem ss_expr {a : C} (hB : Bl W B)  : SoundS W N B k (.expr a) := by
  refine ⟨fun sc E X st g hs ok h => ?_, no_b fun _ _ => rfl⟩
  replace h : ssExpr (chkE B N false a sc) st = true := h
  unfold ssExpr at h
  split at h
  · skip
    try simp only [Bool.and_eq_true, Bool.not_eq_true', beq_eq_false_iff_ne, decide_eq_true_eq, ne_eq] at h
    exact sw_expr h.1 (((soundC hB a).e sc E X _ g ok).1 h.2)
  · cases h
theorem ss_ret {a : C} (hB : Bl W B)  : SoundS W N B k (.ret a) := by
  refine ⟨fun sc E X st g hs ok h => ?_, no_b fun _ _ => rfl⟩
  replace h : ssRet (chkE B N false a sc) st = true := h
  unfold ssRet at h
  split at h
  · skip
    try simp only [Bool.and_eq_true, Bool.not_eq_true', beq_eq_false_iff_ne, decide_eq_true_eq, ne_eq] at h
    exact sw_ret (((soundC hB a).e sc E X _ g ok).1 h)
  · cases h
theorem ss_retN  (hB : Bl W B)  : SoundS W N B k (.retN) := by
  refine ⟨fun sc E X st g hs ok h => ?_, no_b fun _ _ => rfl⟩
  replace h : ssRetN st = true := h
  unfold ssRetN at h
  split at h
  · skip
    try simp only [Bool.and_eq_true, Bool.not_eq_true', beq_eq_false_iff_ne, decide_eq_true_eq, ne_eq] at h
    exact sw_retN
  · cases h
theorem ss_asg {i : Nat} {ow : Bool} {a : C} (hB : Bl W B)  : SoundS W N B k (.asg i ow a) := by
  refine ⟨fun sc E X st g hs ok h => ?_, no_b fun _ _ => rfl⟩
  replace h : ssAsg N sc i (chkE B N false a sc) st = true := h
  unfold ssAsg at h
  split at h
  · skip
    try simp only [Bool.and_eq_true, Bool.not_eq_true', beq_eq_false_iff_ne, decide_eq_true_eq, ne_eq] at h
    exact sw_set g (seLoc_of h.1).1 (seLoc_of h.1).2 h.2.1 (((soundC hB a).e sc E X _ g ok).1 h.2.2)
  · cases h
theorem ss_asgLc {i : Nat} {ow : Bool} {own : List (Str × Nat)} {tg : Tg} {it cd el : C} (hB : Bl W B)  : SoundS W N B k (.asgLc i ow own tg it cd el) := by
  refine ⟨fun sc E X st g hs ok h => ?_, no_b fun _ _ => rfl⟩
  replace h : ssLc N own tg sc i (chkI B N it sc) (chkIf B N cd) (chkE B N false el) st = true := h
  unfold ssLc at h
  split at h
  · rename_i x p2 elt t iter ifs as scope p3 pos
    try simp only [Bool.and_eq_true, Bool.not_eq_true', beq_eq_false_iff_ne, decide_eq_true_eq, ne_eq] at h
    obtain ⟨⟨⟨h0, h0b⟩, h0c⟩, ⟨⟨⟨h1, h2⟩, h3⟩, h4⟩, h5, h6, h7, h8⟩ := h
    rw [beq_iff_eq] at h1
    subst h1
    exact sw_setLc g (seLcl_of h0).1 (seLcl_of h0).2 h0b h0c h2 h3 h4 ((soundC hB it).i sc E X _ _ g ok.1 h5) ⟨fun X' g' => gw_of g' h6, fun X' g' => (soundC hB cd).f _ _ _ _ g' ok.2.1 h7, fun X' g' => ((soundC hB el).e _ _ _ _ g' ok.2.2).1 h8⟩
  · cases h
theorem ss_unp {is : List Nat} {a : C} (hB : Bl W B)  : SoundS W N B k (.unp is a) := by
  refine ⟨fun sc E X st g hs ok h => ?_, no_b fun _ _ => rfl⟩
  replace h : ssUnp N sc is (chkE B N false a sc) st = true := h
  unfold ssUnp at h
  split at h
  · skip
    try simp only [Bool.and_eq_true, Bool.not_eq_true', beq_eq_false_iff_ne, decide_eq_true_eq, ne_eq] at h
    exact sw_unp (gw_of g h.1) h.2.1.1 h.2.1.2 (((soundC hB a).e sc E X _ g ok).1 h.2.2)
  · cases h
theorem ss_par2 {i j : Nat} {o1 o2 : Bool} {as : C} (hB : Bl W B)  : SoundS W N B k (.par2 i o1 j o2 as) := by
  refine ⟨fun sc E X st g hs ok h => ?_, no_b fun _ _ => rfl⟩
  replace h : ssPar2 N sc i j (chkA B N as sc) st = true := h
  unfold ssPar2 at h
  split at h
  · skip
    try simp only [Bool.and_eq_true, Bool.not_eq_true', beq_eq_false_iff_ne, decide_eq_true_eq, ne_eq] at h
    obtain ⟨⟨⟨⟨h1, h2⟩, h3⟩, h4⟩, h5⟩ := h
    exact sw_par2 g hs (seLcl_of h1).1 (seLcl_of h2).1 h3 (seLcl_of h1).2 (seLcl_of h2).2 h4 ((soundC hB as).a sc E X _ g ok h5).2
  · cases h
theorem ss_par3 {i j l : Nat} {o1 o2 o3 : Bool} {as : C} (hB : Bl W B)  : SoundS W N B k (.par3 i o1 j o2 l o3 as) := by
  refine ⟨fun sc E X st g hs ok h => ?_, no_b fun _ _ => rfl⟩
  replace h : ssPar3 N sc i j l (chkA B N as sc) st = true := h
  unfold ssPar3 at h
  split at h
  · skip
    try simp only [Bool.and_eq_true, Bool.not_eq_true', beq_eq_false_iff_ne, decide_eq_true_eq, ne_eq] at h
    obtain ⟨⟨⟨⟨⟨⟨⟨h1, h2⟩, h3⟩, h4⟩, h5⟩, h6⟩, h7⟩, h8⟩ := h
    exact sw_par3 g hs (seLcl_of h1).1 (seLcl_of h2).1 (seLcl_of h3).1 h4 h5 h6 (seLcl_of h1).2 (seLcl_of h2).2 (seLcl_of h3).2 h7 ((soundC hB as).a sc E X _ g ok h8).2
  · cases h
theorem ss_parT {ts : List (Nat × Bool)} {as : C} (hB : Bl W B)  : SoundS W N B k (.parT ts as) := by
  refine ⟨fun sc E X st g hs ok h => ?_, no_b fun _ _ => rfl⟩
  replace h : ssParT N sc ts (chkA B N as sc) st = true := h
  unfold ssParT at h
  split at h
  · skip
    try simp only [Bool.and_eq_true, Bool.not_eq_true', beq_eq_false_iff_ne, decide_eq_true_eq, ne_eq] at h
    exact sw_parT g hs h.1.1 h.1.2 ((soundC hB as).a sc E X _ g ok h.2).2
  · cases h
theorem ss_ifs {c : C} {a b : S} (hB : Bl W B) (ha : SoundS W N B k a) (hb : SoundS W N B k b) : SoundS W N B k (.ifs c a b) := by
  refine ⟨fun sc E X st g hs ok h => ?_, no_b fun _ _ => rfl⟩
  replace h : ssIf (chkE B N true c sc) (chkB B N a sc) (chkB B N b sc) st = true := h
  unfold ssIf at h
  split at h
  · skip
    try simp only [Bool.and_eq_true, Bool.not_eq_true', beq_eq_false_iff_ne, decide_eq_true_eq, ne_eq] at h
    exact sw_if (((soundC hB c).e sc E X _ g ok.1).2.1 h.1) (ha.b sc E X _ g hs ok.2.1 h.2.1) (hb.b sc E X _ g hs ok.2.2 h.2.2)
  · cases h
theorem ss_whl {c : C} {a : S} (hB : Bl W B) (ha : SoundS W N B k a) : SoundS W N B k (.whl c a) := by
  refine ⟨fun sc E X st g hs ok h => ?_, no_b fun _ _ => rfl⟩
  replace h : ssWhl (chkE B N true c sc) (chkB B N a sc) st = true := h
  unfold ssWhl at h
  split at h
  · skip
    try simp only [Bool.and_eq_true, Bool.not_eq_true', beq_eq_false_iff_ne, decide_eq_true_eq, ne_eq] at h
    exact sw_while g (((soundC hB c).e sc E X _ g ok.1).2.1 h.1) (ha.b sc E X _ g hs ok.2 h.2)
  · cases h
theorem ss_for {tg : Tg} {it : C} {a : S} (hB : Bl W B) (ha : SoundS W N B k a) : SoundS W N B k (.for_ tg it a) := by
  refine ⟨fun sc E X st g hs ok h => ?_, no_b fun _ _ => rfl⟩
  replace h : ssFor N sc tg (chkI B N it sc) (chkB B N a sc) st = true := h
  unfold ssFor at h
  split at h
  · skip
    try simp only [Bool.and_eq_true, Bool.not_eq_true', beq_eq_false_iff_ne, decide_eq_true_eq, ne_eq] at h
    exact sw_for g h.1.1 ((soundC hB it).i sc E X _ _ g ok.1 h.2.1) (gw_of g h.1.2) (ha.b sc E X _ g hs ok.2 h.2.2)
  · cases h
theorem ss_forK {tg : Tg} {i : Nat} {a : S} (hB : Bl W B) (ha : SoundS W N B k a) : SoundS W N B k (.forK tg i a) := by
  refine ⟨fun sc E X st g hs ok h => ?_, no_b fun _ _ => rfl⟩
  replace h : ssForK N sc tg i (chkB B N a sc) st = true := h
  unfold ssForK at h
  split at h
  · skip
    try simp only [Bool.and_eq_true, Bool.not_eq_true', beq_eq_false_iff_ne, decide_eq_true_eq, ne_eq] at h
    obtain ⟨q1, q2, q3, q4⟩ := seVis_of h.1.1
    exact sw_forK g q1 q2 q3 q4 (gw_of g h.1.2) (ha.b sc E X _ g hs ok h.2)
  · cases h
theorem ss_setI {i : Nat} {kk v : C} (hB : Bl W B)  : SoundS W N B k (.setI i kk v) := by
  refine ⟨fun sc E X st g hs ok h => ?_, no_b fun _ _ => rfl⟩
  replace h : ssSet N sc i (chkE B N false kk sc) (chkE B N false v sc) st = true := h
  unfold ssSet at h
  split at h
  · skip
    try simp only [Bool.and_eq_true, Bool.not_eq_true', beq_eq_false_iff_ne, decide_eq_true_eq, ne_eq] at h
    obtain ⟨⟨h1, ⟨h2, h3⟩, h4⟩, h5, h6⟩ := h
    obtain ⟨q1, q2, q3, q4⟩ := seVis_of h1
    exact sw_setI g q1 q2 q3 q4 h2 h3 h4 (((soundC hB kk).e sc E X _ g ok.1).1 h5) (((soundC hB v).e sc E X _ g ok.2).1 h6)
  · cases h
theorem ss_setSt {o kk v : C} (hB : Bl W B)  : SoundS W N B k (.setSt o kk v) := by
  refine ⟨fun sc E X st g hs ok h => ?_, no_b fun _ _ => rfl⟩
  replace h : ssSetSt (chkE B N false o sc) (chkE B N false kk sc) (chkE B N false v sc) st = true := h
  unfold ssSetSt at h
  split at h
  · skip
    try simp only [Bool.and_eq_true, Bool.not_eq_true', beq_eq_false_iff_ne, decide_eq_true_eq, ne_eq] at h
    exact sw_setSt h.1.1.1 h.1.1.2 h.1.2 (((soundC hB o).e sc E X _ g ok.1).1 h.2.1) (((soundC hB kk).e sc E X _ g ok.2.1).1 h.2.2.1) (((soundC hB v).e sc E X _ g ok.2.2).1 h.2.2.2)
  · cases h
theorem ss_setF {i : Nat} {c f : Str} {a : C} (hB : Bl W B)  : SoundS W N B k (.setF i c f a) := by
  refine ⟨fun sc E X st g hs ok h => ?_, no_b fun _ _ => rfl⟩
  replace h : ssSetF N sc i f (chkE B N false a sc) st = true := h
  unfold ssSetF at h
  split at h
  · skip
    try simp only [Bool.and_eq_true, Bool.not_eq_true', beq_eq_false_iff_ne, decide_eq_true_eq, ne_eq] at h
    obtain ⟨⟨h1, h2⟩, h3⟩ := h
    obtain ⟨q1, q2, q3, q4⟩ := seVis_of h1
    rw [beq_iff_eq] at h2
    subst h2
    exact sw_setF g q1 q2 q3 q4 ok.1 (((soundC hB a).e sc E X _ g ok.2).1 h3)
  · cases h
theorem ss_aug {op : Operator} {i : Nat} {a : C} (hB : Bl W B)  : SoundS W N B k (.aug op i a) := by
  refine ⟨fun sc E X st g hs ok h => ?_, no_b fun _ _ => rfl⟩
  replace h : ssAug N sc op i (chkE B N false a sc) st = true := h
  unfold ssAug at h
  split at h
  · skip
    try simp only [Bool.and_eq_true, Bool.not_eq_true', beq_eq_false_iff_ne, decide_eq_true_eq, ne_eq] at h
    obtain ⟨⟨h1, h2⟩, h3, h4⟩ := h
    rw [beq_iff_eq] at h1
    subst h1
    exact sw_aug g h2 (seLoc_of h3).1 (seLoc_of h3).2 (((soundC hB a).e sc E X _ g ok).1 h4)
  · cases h
theorem ss_augL {i : Nat} {a : C} (hB : Bl W B)  : SoundS W N B k (.augL i a) := by
  refine ⟨fun sc E X st g hs ok h => ?_, no_b fun _ _ => rfl⟩
  replace h : ssAugL N sc i (chkE B N false a sc) st = true := h
  unfold ssAugL at h
  split at h
  · skip
    try simp only [Bool.and_eq_true, Bool.not_eq_true', beq_eq_false_iff_ne, decide_eq_true_eq, ne_eq] at h
    exact sw_augL g (seLoc_of h.1).1 (seLoc_of h.1).2 (((soundC hB a).e sc E X _ g ok).1 h.2)
  · cases h
theorem ss_mut0 {i : Nat} {m : Mt} (hB : Bl W B)  : SoundS W N B k (.mut0 i m) := by
  refine ⟨fun sc E X st g hs ok h => ?_, no_b fun _ _ => rfl⟩
  replace h : ssMutE (seMut0 N sc i m) st = true := h
  unfold ssMutE at h
  split at h
  · skip
    try simp only [Bool.and_eq_true, Bool.not_eq_true', beq_eq_false_iff_ne, decide_eq_true_eq, ne_eq] at h
    exact sw_mutE h.1 (mut0_of g h.2)
  · cases h
theorem ss_mut1 {i : Nat} {m : Mt} {as : C} (hB : Bl W B)  : SoundS W N B k (.mut1 i m as) := by
  refine ⟨fun sc E X st g hs ok h => ?_, no_b fun _ _ => rfl⟩
  replace h : ssMutE (seMut1 N sc i m (chkA B N as sc)) st = true := h
  unfold ssMutE at h
  split at h
  · skip
    try simp only [Bool.and_eq_true, Bool.not_eq_true', beq_eq_false_iff_ne, decide_eq_true_eq, ne_eq] at h
    exact sw_mutE h.1 (mut1_of g (soundC hB as).a ok h.2)
  · cases h
theorem ss_mutA0 {j i : Nat} {m : Mt} (hB : Bl W B)  : SoundS W N B k (.mutA0 j i m) := by
  refine ⟨fun sc E X st g hs ok h => ?_, no_b fun _ _ => rfl⟩
  replace h : ssMutA N sc j (seMut0 N sc i m) st = true := h
  unfold ssMutA at h
  split at h
  · skip
    try simp only [Bool.and_eq_true, Bool.not_eq_true', beq_eq_false_iff_ne, decide_eq_true_eq, ne_eq] at h
    exact sw_mutA g (seLoc_of h.1).1 (seLoc_of h.1).2 h.2.1 (mut0_of g h.2.2)
  · cases h
theorem ss_mutA1 {j i : Nat} {m : Mt} {as : C} (hB : Bl W B)  : SoundS W N B k (.mutA1 j i m as) := by
  refine ⟨fun sc E X st g hs ok h => ?_, no_b fun _ _ => rfl⟩
  replace h : ssMutA N sc j (seMut1 N sc i m (chkA B N as sc)) st = true := h
  unfold ssMutA at h
  split at h
  · skip
    try simp only [Bool.and_eq_true, Bool.not_eq_true', beq_eq_false_iff_ne, decide_eq_true_eq, ne_eq] at h
    exact sw_mutA g (seLoc_of h.1).1 (seLoc_of h.1).2 h.2.1 (mut1_of g (soundC hB as).a ok h.2.2)
  · cases h
theorem ss_mutP0 {j i : Nat} {m : Mt} (hB : Bl W B)  : SoundS W N B k (.mutP0 j i m) := by
  refine ⟨fun sc E X st g hs ok h => ?_, no_b fun _ _ => rfl⟩
  replace h : ssMutP N sc j (seMut0 N sc i m) st = true := h
  unfold ssMutP at h
  split at h
  · skip
    try simp only [Bool.and_eq_true, Bool.not_eq_true', beq_eq_false_iff_ne, decide_eq_true_eq, ne_eq] at h
    obtain ⟨⟨⟨h1, h2⟩, h3⟩, h4, h5⟩ := h
    obtain ⟨q1, q2, q3, q4⟩ := seVis_of h3
    rw [beq_iff_eq] at h1
    subst h1
    exact sw_mutP g q1 q2 q3 q4 h2 h4 (mut0_of g h5)
  · cases h
theorem ss_mutP1 {j i : Nat} {m : Mt} {as : C} (hB : Bl W B)  : SoundS W N B k (.mutP1 j i m as) := by
  refine ⟨fun sc E X st g hs ok h => ?_, no_b fun _ _ => rfl⟩
  replace h : ssMutP N sc j (seMut1 N sc i m (chkA B N as sc)) st = true := h
  unfold ssMutP at h
  split at h
  · skip
    try simp only [Bool.and_eq_true, Bool.not_eq_true', beq_eq_false_iff_ne, decide_eq_true_eq, ne_eq] at h
    obtain ⟨⟨⟨h1, h2⟩, h3⟩, h4, h5⟩ := h
    obtain ⟨q1, q2, q3, q4⟩ := seVis_of h3
    rw [beq_iff_eq] at h1
    subst h1
    exact sw_mutP g q1 q2 q3 q4 h2 h4 (mut1_of g (soundC hB as).a ok h5)
  · cases h
theorem ss_unpS {i j : Nat} {ow : Bool} {a : C} (hB : Bl W B)  : SoundS W N B k (.unpS i j ow a) := by
  refine ⟨fun sc E X st g hs ok h => ?_, no_b fun _ _ => rfl⟩
  replace h : ssUnpS N sc i j (chkE B N false a sc) st = true := h
  unfold ssUnpS at h
  split at h
  · skip
    try simp only [Bool.and_eq_true, Bool.not_eq_true', beq_eq_false_iff_ne, decide_eq_true_eq, ne_eq] at h
    obtain ⟨⟨h1, h2⟩, ⟨h3, h4⟩, h5⟩ := h
    exact sw_unpS g (seLoc_of h1).1 (seLoc_of h1).2 (seLoc_of h2).1 (seLoc_of h2).2 h3 h4 (((soundC hB a).e sc E X _ g ok).1 h5)
  · cases h
theorem ss_augD {i : Nat} {kk a : C} (hB : Bl W B)  : SoundS W N B k (.augD i kk a) := by
  refine ⟨fun sc E X st g hs ok h => ?_, no_b fun _ _ => rfl⟩
  replace h : ssAugD N sc i (chkE B N false kk sc) (chkE B N false a sc) st = true := h
  unfold ssAugD at h
  split at h
  · skip
    try simp only [Bool.and_eq_true, Bool.not_eq_true', beq_eq_false_iff_ne, decide_eq_true_eq, ne_eq] at h
    obtain ⟨⟨h1, h2⟩, h3, h4⟩ := h
    obtain ⟨q1, q2, q3, q4⟩ := seVis_of h1
    exact sw_augD g q1 q2 q3 q4 h2 (((soundC hB kk).e sc E X _ g ok.1).1 h3) (((soundC hB a).e sc E X _ g ok.2).1 h4)
  · cases h
theorem ss_clrD {i : Nat} (hB : Bl W B)  : SoundS W N B k (.clrD i) := by
  refine ⟨fun sc E X st g hs ok h => ?_, no_b fun _ _ => rfl⟩
  replace h : ssClrD N sc i st = true := h
  unfold ssClrD at h
  split at h
  · skip
    try simp only [Bool.and_eq_true, Bool.not_eq_true', beq_eq_false_iff_ne, decide_eq_true_eq, ne_eq] at h
    obtain ⟨⟨h1, h2⟩, h3⟩ := h
    obtain ⟨q1, q2, q3, q4⟩ := seVis_of h3
    rw [beq_iff_eq] at h1
    subst h1
    exact sw_clrD g q1 q2 q3 q4 h2
  · cases h
theorem ss_asgDc {i : Nat} {ow : Bool} {own : List (Str × Nat)} {tg : Tg} {it cd kx el : C} (hB : Bl W B)  : SoundS W N B k (.asgDc i ow own tg it cd kx el) := by
  refine ⟨fun sc E X st g hs ok h => ?_, no_b fun _ _ => rfl⟩
  replace h : ssDc N own tg sc i (chkI B N it sc) (chkIf B N cd) (chkE B N false kx) (chkE B N false el) st = true := h
  unfold ssDc at h
  split at h
  · rename_i x p2 key elt t iter ifs as scope p3 pos
    try simp only [Bool.and_eq_true, Bool.not_eq_true', beq_eq_false_iff_ne, decide_eq_true_eq, ne_eq] at h
    obtain ⟨⟨⟨h0, h0b⟩, h0c⟩, ⟨⟨⟨h1, h2⟩, h3⟩, h4⟩, h5, h6, h7, h8, h9⟩ := h
    rw [beq_iff_eq] at h1
    subst h1
    exact sw_setDc g (seLcl_of h0).1 (seLcl_of h0).2 h0b h0c h2 h3 h4 ((soundC hB it).i sc E X _ _ g ok.1 h5) ⟨fun X' g' => gw_of g' h6, fun X' g' => (soundC hB cd).f _ _ _ _ g' ok.2.1 h7, fun X' g' => ((soundC hB el).e _ _ _ _ g' ok.2.2.2).1 h9⟩ fun X' g' => ((soundC hB kx).e _ _ _ _ g' ok.2.2.1).1 h8
  · cases h
theorem ss_asgLcK {i : Nat} {ow : Bool} {kd : Dk} {pl : C} {own : List (Str × Nat)} {tg : Tg} {cd el : C} (hB : Bl W B)  : SoundS W N B k (.asgLcK i ow kd pl own tg cd el) := by
  refine ⟨fun sc E X st g hs ok h => ?_, no_b fun _ _ => rfl⟩
  replace h : ssLcK N kd own tg sc i (stPl N sc pl) (chkIf B N cd) (chkE B N false el) st = true := h
  unfold ssLcK at h
  split at h
  · rename_i x p2 elt t iter ifs as scope p3 pos
    try simp only [Bool.and_eq_true, Bool.not_eq_true', beq_eq_false_iff_ne, decide_eq_true_eq, ne_eq] at h
    obtain ⟨⟨⟨h0, h0b⟩, h0c⟩, ⟨⟨⟨h1, h2⟩, h3⟩, h4⟩, h5, h6, h7, h8⟩ := h
    rw [beq_iff_eq] at h1
    subst h1
    obtain ⟨y, q, hx⟩ := stItF_of h5
    exact sw_setLcK g (seLcl_of h0).1 (seLcl_of h0).2 h0b h0c h2 h3 h4 q (pl_of g ok.1 hx) ⟨fun X' g' => gw_of g' h6, fun X' g' => (soundC hB cd).f _ _ _ _ g' ok.2.1 h7, fun X' g' => ((soundC hB el).e _ _ _ _ g' ok.2.2).1 h8⟩
  · cases h
theorem ss_asgDcK {i : Nat} {ow : Bool} {kd : Dk} {pl : C} {own : List (Str × Nat)} {tg : Tg} {cd kx el : C} (hB : Bl W B)  : SoundS W N B k (.asgDcK i ow kd pl own tg cd kx el) := by
  refine ⟨fun sc E X st g hs ok h => ?_, no_b fun _ _ => rfl⟩
  replace h : ssDcK N kd own tg sc i (stPl N sc pl) (chkIf B N cd) (chkE B N false kx) (chkE B N false el) st = true := h
  unfold ssDcK at h
  split at h
  · rename_i x p2 key elt t iter ifs as scope p3 pos
    try simp only [Bool.and_eq_true, Bool.not_eq_true', beq_eq_false_iff_ne, decide_eq_true_eq, ne_eq] at h
    obtain ⟨⟨⟨h0, h0b⟩, h0c⟩, ⟨⟨⟨h1, h2⟩, h3⟩, h4⟩, h5, h6, h7, h8, h9⟩ := h
    rw [beq_iff_eq] at h1
    subst h1
    obtain ⟨y, q, hx⟩ := stItF_of h5
    exact sw_setDcK g (seLcl_of h0).1 (seLcl_of h0).2 h0b h0c h2 h3 h4 q (pl_of g ok.1 hx) ⟨fun X' g' => gw_of g' h6, fun X' g' => (soundC hB cd).f _ _ _ _ g' ok.2.1 h7, fun X' g' => ((soundC hB el).e _ _ _ _ g' ok.2.2.2).1 h9⟩ fun X' g' => ((soundC hB kx).e _ _ _ _ g' ok.2.2.1).1 h8
  · cases h
theorem ss_forD {kd : Dk} {tg : Tg} {pl : C} {a : S} (hB : Bl W B) (ha : SoundS W N B k a) : SoundS W N B k (.forD kd tg pl a) := by
  refine ⟨fun sc E X st g hs ok h => ?_, no_b fun _ _ => rfl⟩
  replace h : ssForD N sc kd tg (stPl N sc pl) (chkB B N a sc) st = true := h
  unfold ssForD at h
  split at h
  · skip
    try simp only [Bool.and_eq_true, Bool.not_eq_true', beq_eq_false_iff_ne, decide_eq_true_eq, ne_eq] at h
    obtain ⟨y, q, hx⟩ := stItF_of h.2.1
    exact sw_forD g h.1.1 q (pl_of g ok.1 hx) (gw_of g h.1.2) (ha.b sc E X _ g hs ok.2 h.2.2)
  · cases h
theorem ss_nil : SoundS W N B k .nil := by
  refine ⟨no_s fun _ _ => rfl, fun sc E X st g hs ok h => ?_⟩
  replace h : st.isEmpty = true := h
  cases st
  · exact bw_nil
  · cases h
theorem ss_cons {a r : S} (ha : SoundS W N B k a) (hr : SoundS W N B k r) : SoundS W N B k (.cons a r) := by
  refine ⟨no_s fun _ _ => rfl, fun sc E X st g hs ok h => ?_⟩
  replace h : sbCons (chkS B N a sc) (chkB B N r sc) st = true := h
  unfold sbCons at h
  split at h
  · rw [Bool.and_eq_true] at h
    exact bw_cons (ha.s sc E X _ g hs ok.1 h.1) (hr.b sc E X _ g hs ok.2 h.2)
  · cases h
theorem ss_cut {a r : S} (ha : SoundS W N B k a) (hr : SoundS W N B k r) : SoundS W N B k (.cut a r) := by
  refine ⟨no_s fun _ _ => rfl, fun sc E X st g hs ok h => ?_⟩
  replace h : sbCons (chkS B N a sc) (chkB B N r sc) st = true := h
  unfold sbCons at h
  split at h
  · rw [Bool.and_eq_true] at h
    obtain ⟨t1, p1, e1⟩ := ha.s sc E X _ g hs ok.1 h.1
    obtain ⟨t2, p2, e2⟩ := hr.b sc E X _ g hs ok.2 h.2
    refine ⟨_, pss_cons p1 p2, ?_⟩
    intro Hd H0 A H σ δ p D e hw l
    obtain ⟨I, hw, hI⟩ := hw
    exact e1 Hd H0 A H σ δ _ _ e hw ⟨fun A' H' σ' δ' e' h' => e2 Hd H0 A' H' σ' δ' p D e' (hI δ' h') l, l.bk, l.ct, l.rt, l.ex⟩
  · cases h
theorem ss_frz {Js : List Nat} {r : S} (hr : SoundS W N B k r) : SoundS W N B k (.frz Js r) := by
  refine ⟨no_s fun _ _ => rfl, fun sc E X st g hs ok h => ?_⟩
  obtain ⟨t, pt, et⟩ := hr.b sc E X st g hs ok h
  exact ⟨t, pt, fun Hd H0 A H σ δ p D e hw l => et Hd H0 _ H σ _ p D (e.frzL (Js := Js)) hw l⟩
theorem soundS (hB : Bl W B) : ∀ s : S, SoundS W N B k s := by
  intro s
  induction s with
  | nil => exact ss_nil
  | cons a r ha hr => exact ss_cons ha hr
  | frz Js r hr => exact ss_frz hr
  | cut a r ha hr => exact ss_cut ha hr
  | ifs c a b ha hb => exact ss_ifs hB ha hb
  | whl c a ha => exact ss_whl hB ha
  | for_ tg it a ha => exact ss_for hB ha
  | forK tg i a ha => exact ss_forK hB ha
  | forD kd tg pl a ha => exact ss_forD hB ha
  | pass  => exact ss_pass hB
  | brk  => exact ss_brk hB
  | cont  => exact ss_cont hB
  | never  => exact ss_never hB
  | doc  => exact ss_doc hB
  | expr _ => exact ss_expr hB
  | ret _ => exact ss_ret hB
  | retN  => exact ss_retN hB
  | asg _ _ _ => exact ss_asg hB
  | asgLc _ _ _ _ _ _ _ => exact ss_asgLc hB
  | unp _ _ => exact ss_unp hB
  | par2 _ _ _ _ _ => exact ss_par2 hB
  | par3 _ _ _ _ _ _ _ => exact ss_par3 hB
  | parT _ _ => exact ss_parT hB
  | setI _ _ _ => exact ss_setI hB
  | setSt _ _ _ => exact ss_setSt hB
  | setF _ _ _ _ => exact ss_setF hB
  | aug _ _ _ => exact ss_aug hB
  | augL _ _ => exact ss_augL hB
  | mut0 _ _ => exact ss_mut0 hB
  | mut1 _ _ _ => exact ss_mut1 hB
  | mutA0 _ _ _ => exact ss_mutA0 hB
  | mutA1 _ _ _ _ => exact ss_mutA1 hB
  | mutP0 _ _ _ => exact ss_mutP0 hB
  | mutP1 _ _ _ _ => exact ss_mutP1 hB
  | unpS _ _ _ _ => exact ss_unpS hB
  | augD _ _ _ => exact ss_augD hB
  | clrD _ => exact ss_clrD hB
  | asgDc _ _ _ _ _ _ _ _ => exact ss_asgDc hB
  | asgLcK _ _ _ _ _ _ _ _ => exact ss_asgLcK hB
  | asgDcK _ _ _ _ _ _ _ _ _ => exact ss_asgDcK hB
end
end G
set_option maxRecDepth 100000
set_option maxHeartbeats 4000000
namespace G
open PySem PySem.Spec PyProof.Rows L2
section
variable {W : Wd} {N B ps : List Str} {k : Nat}

/-! ### a def keeps what its core promises -/
theorem good_def {qual : Str} {scope : Scope} {f : Addr} {cdv : Value} {A : Around} {outer : List PySem.Env} {s : Shared} {H : Hp} {E : XK} (S : FnScope N ps scope) (gd : noGd A) (hr : Room k (A.deeper (envOfC qual scope s.heap.objs.size f cdv))) :
    Good W N scope k E (cxOf (L2.CX W.P W.w) W.P W.w W.K W.mg W.base N qual scope f cdv A outer s H E) := by
  have tk : Takes (cxOf (L2.CX W.P W.w) W.P W.w W.K W.mg W.base N qual scope f cdv A outer s H E) (fun cls d _ H => E cls d H) := takes_of rfl rfl rfl rfl
  refine ⟨rfl, rfl, rfl, rfl, rfl, rfl, S.nd, fun x h => ?_, fun x h => ?_, fun x h => h, fun x h => ?_, fun x h => h, S.kind, rfl, hr, gd, passes_of rfl, passes_call tk fun _ _ _ _ h => h, tk⟩
  · unfold visB at h
    split at h
    · rename_i q; exact .inl q
    · rename_i q; exact .inr (.inl q)
    · rename_i q; exact .inr (.inr q)
    · cases h
  · unfold locB at h
    split at h
    · rename_i q; exact ⟨.inl q, .inl rfl⟩
    · rename_i q; exact ⟨.inr q, .inl rfl⟩
    · cases h
  · unfold glB at h
    split at h
    · rename_i q; exact q
    · cases h
def env0 (n : Nat) (ds : List D) : Env := ds.map Sl.fz ++ List.replicate (n - ds.length) Sl.un
theorem env_start {Hd : Addr → Prop} {H : Hp} {ds : List D} {vs : List V} (st : StOk W H) (hd : ∀ a, Hd a → ∃ o, H a = some o) (r : RepL W (fz (fun z => inSa W z ∨ Hd z) H) ds vs) : EnvOk W Hd H (fun _ => none) H (L2.start N vs) (env0 N.length ds) := by
  have hl := r.length
  refine ⟨Kx.refl H, st, ?_, fun i s hs => ?_, fun i j a h => (by cases h), fun i a h => (by cases h), hd, fun _ _ => rfl⟩
  · unfold L2.start env0
    rw [List.length_append, List.length_append, List.length_map, List.length_map, List.length_replicate, List.length_replicate, hl]
  · have sub : Kp (fz (fun z => inSa W z ∨ Hd z) H) (fz (Rsv W Hd fun _ => none) H) := fz_kp fun z o n h => ⟨fun q => n (by
      rcases q with q | q | ⟨i, q⟩
      · exact .inl q
      · exact .inr q
      · cases q), h⟩
    unfold env0 at hs
    rw [List.getElem?_append] at hs
    split at hs
    · rename_i hi
      rw [List.getElem?_map] at hs
      cases q : ds[i]? with
      | none => rw [q] at hs; cases hs
      | some d =>
        rw [q] at hs
        cases hs
        obtain ⟨v, h1, h2⟩ := r.get q
        refine ⟨rfl, v, ?_, h2.mono sub.ex⟩
        unfold L2.start
        rw [List.getElem?_append_left (by rw [List.length_map, hl]; simpa using hi), List.getElem?_map, h1]
        rfl
    · rw [List.getElem?_replicate] at hs
      split at hs
      · cases hs; rfl
      · cases hs
def stPst (K : Bool → D → Prop) (X : Xn → Prop) : Pst := { nx := fun _ => K false .non, rt := K, ex := X }
/-- what is to be shown of a def -/
def VC (spec : FSpec) (N : List Str) (core : S) : Prop := ∀ ds K X, ds.length = spec.ar → spec.wp ds K X → wS core (env0 N.length ds) (stPst K X)
theorem fn_core {x qual : Str} {st : Stmt} {f : Addr} {fd : FuncData} (core : S) (spec : FSpec) (F : Fun W.K x qual st f fd) (Sc : FnScope N ps (defScope st)) (hB : Bl W B) (hc : chkB B N core (defScope st) (defBody st) = true) (ok : okS W k core) (har : spec.ar = ps.length)
    (vc : VC spec N core) : FnG W.P W.w W.K W.mg W.base (L2.CX W.P W.w) (k + 1) f fd ps (spOf W spec) := by
  refine fun_okG F Sc (fun vs H Q E h => ?_) fun cdv A outer s H vs Q E hr gd h => ?_
  · obtain ⟨Hd, ds, _, _, _, _, r, hl, _⟩ := h
    rw [r.length, hl, har]
  · obtain ⟨Hd, ds, K, Xp, st0, hd, r, hl, hp, hq, hx⟩ := h
    have g := good_def (W := W) (outer := outer) (H := H) (E := E) Sc gd hr
    obtain ⟨t, pt, et⟩ := (soundS hB core).b _ E _ _ g rfl ok hc
    refine ⟨t, pt, et Hd H _ H _ _ _ _ (env_start st0 hd r) (vc ds K Xp hl hp) ⟨fun A' H' σ' δ' e' h' => ?_, fun _ _ _ _ _ h' => h'.elim, fun _ _ _ _ _ h' => h'.elim, fun v H' o d kx st' rt h' => hq o d h' v H' kx st' rt, fun y cls d H' kx st' hy hx' => hx y hx' cls d H' kx st' hy⟩⟩
    exact hq false .non h' .non H' e'.b0 e'.st (by show Rep W (fz (fun z => inSa W z ∨ Hd z) H') .non .non; rw [Rep])
/-- THE RULE for a def of the text -/
theorem fok_def {x qual : Str} {st : Stmt} {f : Addr} {fd : FuncData} (core : S) (spec : FSpec) (F : Fun W.K x qual st f fd) (Sc : FnScope N ps (defScope st)) (hb : Binds W.K fd ps []) (hm : W.mg x = some (.ref f)) (hB : Bl W B) (hc : chkB B N core (defScope st) (defBody st) = true) (ok : okS W k core) (har : spec.ar = ps.length)
    (vc : VC spec N core) : FOk W (k + 1) x spec :=
  ⟨f, fd, ps, fn_core core spec F Sc hB hc ok har vc, hm, F.kp, hb⟩
end
end G
set_option maxRecDepth 100000
set_option maxHeartbeats 4000000
namespace G
open PySem PySem.Spec PyProof.Rows L2
/-! ### __init__ by its core: the object is called @ -/
def Wd.on (W : Wd) (x C : Addr) : Wd := { W with me := some x, cl := fun c => if c = ("@" : Str) then some C else W.cl c }
mutual
def nmD : D → Bool
  | .lst ds => nmL ds
  | .tup ds => nmL ds
  | .dic ds => nmK ds
  | .ins c ds => !(c == ("@" : Str)) && nmF ds
  | _ => true
def nmL : List D → Bool
  | [] => true
  | d :: ds => nmD d && nmL ds
def nmK : List (Key × D) → Bool
  | [] => true
  | (_, d) :: ds => nmD d && nmK ds
def nmF : List (Str × D) → Bool
  | [] => true
  | (_, d) :: ds => nmD d && nmF ds
end
section
variable {W : Wd} {x C : Addr} {F : Hp}
theorem cla_on (hat : W.cl ("@" : Str) = none) {c : Str} {C' a : Addr} (h : ClA W c C' a) : ClA (W.on x C) c C' a := by
  have hc : c ≠ ("@" : Str) := fun e => by
    have := h.1
    rw [e, hat] at this
    cases this
  refine ⟨?_, fun e => (hc e).elim⟩
  show (if c = ("@" : Str) then some C else W.cl c) = _
  rw [if_neg hc]; exact h.1
theorem cla_off {c : Str} {C' a : Addr} (hc : c ≠ ("@" : Str)) (h : ClA (W.on x C) c C' a) : ClA W c C' a := by
  have h1 : (if c = ("@" : Str) then some C else W.cl c) = some C' := h.1
  rw [if_neg hc] at h1
  exact ⟨h1, fun e => (hc e).elim⟩
mutual
theorem rep_on (hat : W.cl ("@" : Str) = none) : ∀ (d : D) {v : V}, Rep W F d v → Rep (W.on x C) F d v
  | .non, _, h => by rw [Rep] at h ⊢; exact h
  | .bl _, _, h => by rw [Rep] at h ⊢; exact h
  | .int _, _, h => by rw [Rep] at h ⊢; exact h
  | .str _, _, h => by rw [Rep] at h ⊢; exact h
  | .st _, _, h => by rw [Rep] at h ⊢; exact h
  | .stc _, _, h => by rw [Rep] at h ⊢; exact h
  | .scr _, _, h => by rw [Rep] at h ⊢; exact h
  | .lst ds, _, h => by
    rw [Rep] at h ⊢
    obtain ⟨a, vs, h1, h2, h3⟩ := h
    exact ⟨a, vs, h1, h2, repL_on hat ds h3⟩
  | .tup ds, _, h => by
    rw [Rep] at h ⊢
    obtain ⟨a, vs, h1, h2, h3⟩ := h
    exact ⟨a, vs, h1, h2, repL_on hat ds h3⟩
  | .dic ds, _, h => by
    rw [Rep] at h ⊢
    obtain ⟨a, vs, h1, h2, h3⟩ := h
    exact ⟨a, vs, h1, h2, repK_on hat ds h3⟩
  | .ins c ds, _, h => by
    rw [Rep] at h ⊢
    obtain ⟨a, C', dx, fs, h1, h2, h3, h4⟩ := h
    exact ⟨a, C', dx, fs, h1, cla_on hat h2, h3, repF_on hat ds h4⟩
theorem repL_on (hat : W.cl ("@" : Str) = none) : ∀ (ds : List D) {vs : List V}, RepL W F ds vs → RepL (W.on x C) F ds vs
  | [], _, h => by rw [RepL] at h ⊢; exact h
  | d :: ds, _, h => by
    rw [RepL] at h ⊢
    obtain ⟨v, r, h1, h2, h3⟩ := h
    exact ⟨v, r, h1, rep_on hat d h2, repL_on hat ds h3⟩
theorem repK_on (hat : W.cl ("@" : Str) = none) : ∀ (ds : List (Key × D)) {vs : List (Key × V)}, RepK W F ds vs → RepK (W.on x C) F ds vs
  | [], _, h => by rw [RepK] at h ⊢; exact h
  | (_, d) :: ds, _, h => by
    rw [RepK] at h ⊢
    obtain ⟨v, r, h1, h2, h3⟩ := h
    exact ⟨v, r, h1, rep_on hat d h2, repK_on hat ds h3⟩
theorem repF_on (hat : W.cl ("@" : Str) = none) : ∀ (ds : List (Str × D)) {vs : List (Str × V)}, RepF W F ds vs → RepF (W.on x C) F ds vs
  | [], _, h => by rw [RepF] at h ⊢; exact h
  | (_, d) :: ds, _, h => by
    rw [RepF] at h ⊢
    obtain ⟨v, r, h1, h2, h3⟩ := h
    exact ⟨v, r, h1, rep_on hat d h2, repF_on hat ds h3⟩
end
mutual
theorem rep_off : ∀ (d : D) {v : V}, nmD d = true → Rep (W.on x C) F d v → Rep W F d v
  | .non, _, _, h => by rw [Rep] at h ⊢; exact h
  | .bl _, _, _, h => by rw [Rep] at h ⊢; exact h
  | .int _, _, _, h => by rw [Rep] at h ⊢; exact h
  | .str _, _, _, h => by rw [Rep] at h ⊢; exact h
  | .st _, _, _, h => by rw [Rep] at h ⊢; exact h
  | .stc _, _, _, h => by rw [Rep] at h ⊢; exact h
  | .scr _, _, _, h => by rw [Rep] at h ⊢; exact h
  | .lst ds, _, n, h => by
    rw [nmD] at n
    rw [Rep] at h ⊢
    obtain ⟨a, vs, h1, h2, h3⟩ := h
    exact ⟨a, vs, h1, h2, repL_off ds n h3⟩
  | .tup ds, _, n, h => by
    rw [nmD] at n
    rw [Rep] at h ⊢
    obtain ⟨a, vs, h1, h2, h3⟩ := h
    exact ⟨a, vs, h1, h2, repL_off ds n h3⟩
  | .dic ds, _, n, h => by
    rw [nmD] at n
    rw [Rep] at h ⊢
    obtain ⟨a, vs, h1, h2, h3⟩ := h
    exact ⟨a, vs, h1, h2, repK_off ds n h3⟩
  | .ins c ds, _, n, h => by
    rw [nmD, Bool.and_eq_true] at n
    rw [Rep] at h ⊢
    obtain ⟨a, C', dx, fs, h1, h2, h3, h4⟩ := h
    exact ⟨a, C', dx, fs, h1, cla_off (by simpa using n.1) h2, h3, repF_off ds n.2 h4⟩
theorem repL_off : ∀ (ds : List D) {vs : List V}, nmL ds = true → RepL (W.on x C) F ds vs → RepL W F ds vs
  | [], _, _, h => by rw [RepL] at h ⊢; exact h
  | d :: ds, _, n, h => by
    rw [nmL, Bool.and_eq_true] at n
    rw [RepL] at h ⊢
    obtain ⟨v, r, h1, h2, h3⟩ := h
    exact ⟨v, r, h1, rep_off d n.1 h2, repL_off ds n.2 h3⟩
theorem repK_off : ∀ (ds : List (Key × D)) {vs : List (Key × V)}, nmK ds = true → RepK (W.on x C) F ds vs → RepK W F ds vs
  | [], _, _, h => by rw [RepK] at h ⊢; exact h
  | (_, d) :: ds, _, n, h => by
    rw [nmK, Bool.and_eq_true] at n
    rw [RepK] at h ⊢
    obtain ⟨v, r, h1, h2, h3⟩ := h
    exact ⟨v, r, h1, rep_off d n.1 h2, repK_off ds n.2 h3⟩
theorem repF_off : ∀ (ds : List (Str × D)) {vs : List (Str × V)}, nmF ds = true → RepF (W.on x C) F ds vs → RepF W F ds vs
  | [], _, _, h => by rw [RepF] at h ⊢; exact h
  | (_, d) :: ds, _, n, h => by
    rw [nmF, Bool.and_eq_true] at n
    rw [RepF] at h ⊢
    obtain ⟨v, r, h1, h2, h3⟩ := h
    exact ⟨v, r, h1, rep_off d n.1 h2, repF_off ds n.2 h3⟩
end
end
def initPst (c : Str) (K : Bool → D → Prop) (X : Xn → Prop) : Pst := { nx := fun δ => ∃ fs r, δ = .ow (.ins "@" fs) :: r ∧ nmF fs = true ∧ K true (.ins c fs), rt := fun _ _ => False, ex := fun y => X y ∧ y.c ≠ ("@" : Str) ∧ nmF y.fs = true }
/-- what is to be shown of an __init__ -/
def VCI (c : Str) (spec : FSpec) (N : List Str) (core : S) : Prop := ∀ ds K X, ds.length = spec.ar → spec.wp ds K X → wS core (.ow (.ins "@" []) :: env0 (N.length - 1) ds) (initPst c K X)
section
variable {W : Wd} {N B ps : List Str} {k : Nat}
theorem fn_init {nm qual c : Str} {st : Stmt} {f : Addr} {fd : FuncData} (core : S) (spec : FSpec) (hat : W.cl ("@" : Str) = none) (F : Fun W.K nm qual st f fd) (Sc : FnScope N ps (defScope st)) (hN : 1 ≤ N.length) (hB : Bl W B) (hc : chkB B N core (defScope st) (defBody st) = true)
    (ok : ∀ a C, W.cl c = some C → okS (W.on a C) k core) (har : ps.length = spec.ar + 1)
    (vc : VCI c spec N core) : FnG W.P W.w W.K W.mg W.base (L2.CX W.P W.w) (k + 1) f fd ps (spInit W c spec) := by
  refine fun_okG F Sc (fun vs H Q E h => ?_) fun cdv A outer s H vs Q E hr gd h => ?_
  · obtain ⟨x, C, dx, us, Hd, ds, _, _, rfl, _, _, _, _, _, _, r, hl, _⟩ := h
    rw [List.length_cons, r.length, hl, har]
  · obtain ⟨x, C, dx, us, Hd, ds, Kp0, Xp0, rfl, hC, hx, nS, nH, st0, hd, r, hl, hp, hq, hxn⟩ := h
    have g := good_def (W := W.on x C) (outer := outer) (H := H) (E := E) Sc gd hr
    obtain ⟨t, pt, et⟩ := (soundS (W := W.on x C) hB core).b _ E _ _ g rfl (ok x C hC) hc
    refine ⟨t, pt, et Hd (fz (fun z => z = x) H) (fun i => if i = 0 then some x else none) H _ _ (initPst c Kp0 Xp0) _ ?_ (vc ds Kp0 Xp0 hl hp) ⟨fun A' H' σ' δ' e' h' => ?_, fun _ _ _ _ _ h' => h'.elim, fun _ _ _ _ _ h' => h'.elim, fun _ _ _ _ _ _ _ h' => h'.elim, fun y cls d H' kx st' hy hx' => ?_⟩⟩
    · have hrl := r.length
      have rsv : ∀ z, Rsv (W.on x C) Hd (fun i => if i = 0 then some x else none) z → (inSa W z ∨ Hd z ∨ z = x) := fun z q => by
        rcases q with q | q | ⟨i, q⟩
        · exact .inl q
        · exact .inr (.inl q)
        · dsimp only at q
          split at q
          · cases q; exact .inr (.inr rfl)
          · cases q
      refine ⟨fun z o n q => (fz_some q).2, st0, ?_, fun i sl hs => ?_, fun i j a h1 h2 => ?_, fun i a h1 => ?_, hd, fun i hi => ?_⟩
      · show (L2.start N (V.ref x :: us)).length = (Sl.ow (D.ins "@" []) :: env0 (N.length - 1) ds).length
        unfold L2.start env0
        simp only [List.length_append, List.length_map, List.length_cons, List.length_replicate]
        omega
      · cases i with
        | zero =>
          cases hs
          exact ⟨x, rfl, rfl, C, dx, [], ⟨by show (if ("@" : Str) = "@" then some C else W.cl "@") = some C; rw [if_pos rfl], fun _ => rfl⟩, hx, by rw [RepF]⟩
        | succ i =>
          rw [List.getElem?_cons_succ] at hs
          unfold env0 at hs
          rw [List.getElem?_append] at hs
          split at hs
          · rw [List.getElem?_map] at hs
            cases q : ds[i]? with
            | none => rw [q] at hs; cases hs
            | some d =>
              rw [q] at hs
              cases hs
              obtain ⟨v, h1, h2⟩ := r.get q
              refine ⟨by simp, v, ?_, rep_on hat d (h2.mono (fz_kp fun z o n w => ⟨fun q => n (rsv z q), w⟩).ex)⟩
              have hlt : i < us.length := (List.getElem?_eq_some_iff.mp h1).1
              show ((L2.start N (V.ref x :: us))[i + 1]?).join = some v
              unfold L2.start
              rw [List.getElem?_append_left (by simp; omega), List.map_cons, List.getElem?_cons_succ, List.getElem?_map, h1]
              rfl
          · rw [List.getElem?_replicate] at hs
            split at hs
            · cases hs
              show (if i + 1 = 0 then some x else none) = none
              simp
            · cases hs
      · by_cases e1 : i = 0
        · by_cases e2 : j = 0
          · omega
          · rw [if_neg e2] at h2; cases h2
        · rw [if_neg e1] at h1; cases h1
      · split at h1
        · cases h1
          exact ⟨fz_none rfl, nS, nH⟩
        · cases h1
      · rw [if_neg]
        intro e
        subst e
        simp at hi
    · obtain ⟨fs, rr, rfl, hnm, hpost⟩ := h'
      obtain ⟨a, q1, q2, C', dx', vs', q3, q4, q5⟩ := e'.sl 0 _ rfl
      have ha : a = x := by
        have := q3.2 rfl
        exact (Option.some.inj this).symm
      subst ha
      have hC' : C' = C := by
        have : (if ("@" : Str) = "@" then some C else W.cl "@") = some C' := q3.1
        rw [if_pos rfl] at this
        exact (Option.some.inj this).symm
      subst hC'
      refine hq _ hpost H' (fun z o hz n h => e'.b0 z o n (fz_of hz h)) e'.st ⟨C', dx', vs', ⟨hC, fun e => by rw [e, hat] at hC; cases hC⟩, q4, (repF_off fs hnm q5).mono (fz_kp fun z o n w => ⟨fun q => n ?_, w⟩).ex⟩
      rcases q with q | q | q
      · exact .inl q
      · exact .inr (.inl q)
      · exact .inr (.inr ⟨0, by rw [q]; exact q1⟩)
    · obtain ⟨h1, h2, h3⟩ := hx'
      refine hxn y h1 cls d H' (fun z o hz n h => kx z o n (fz_of hz h)) st' ?_
      obtain ⟨C2, c1, c2, c3⟩ := hy
      have c1' : (if y.c = ("@" : Str) then some C else W.cl y.c) = some C2 := c1
      rw [if_neg h2] at c1'
      refine ⟨C2, c1', c2, ?_⟩
      rcases c3 with c3 | ⟨a, fs, j1, j2, j3⟩
      · exact .inl c3
      · exact .inr ⟨a, fs, j1, j2, repF_off _ h3 j3⟩
end
end G
set_option maxRecDepth 100000
set_option maxHeartbeats 4000000
namespace G
open PySem PySem.Spec PyProof.Rows L2

/-! ### a def of the text, as the head's end tells it -/
structure FnTxt (K : PySem.W.Frag) (x : Str) (st : Stmt) : Prop where
  ex : ∃ f fd, Fun K x x st f fd ∧ PySem.W.nsIn K mainGlobals x = some (some (.ref f))
theorem fnTxt_mk {K : PySem.W.Frag} {x : Str} {st : Stmt} {f : Addr} {oc : Value} {od an : Option Addr} {osl : Array (Option Value)} {kV doc pm cdv ct : Value} (a : PySem.W.nsIn K mainGlobals x = some (some (.ref f)))
    (l : K.lookup f = some ⟨oc, od, .func (PySem.W.fnOf x x (defArgs st) (defBody st) (defScope st) .none kV doc pm an cdv ct), osl⟩) (c : PySem.W.codeIn K cdv x = true) (k : PySem.W.keepIn K (.ref f) = true) : FnTxt K x st :=
  ⟨f, _, fun_mk l c k, a⟩
/-- how the parameters bind -/
def BindOk (x : Str) (st : Stmt) (ps : List Str) : Prop := ∀ (kV doc pm : Value) (an : Option Addr) (cdv ct : Value) (us : List Value), us.length = ps.length → bindArgs (PySem.W.fnOf x x (defArgs st) (defBody st) (defScope st) .none kV doc pm an cdv ct) ⟨us, []⟩ = pure (ps.zip us)
section
variable {W : Wd} {N B ps : List Str} {k : Nat}
theorem fok_txt {x : Str} {st : Stmt} (core : S) (spec : FSpec) (T : FnTxt W.K x st) (hmg : ∀ f, PySem.W.nsIn W.K mainGlobals x = some (some (.ref f)) → W.mg x = some (.ref f)) (Sc : FnScope N ps (defScope st)) (hb : BindOk x st ps) (hB : Bl W B) (hc : chkB B N core (defScope st) (defBody st) = true) (ok : okS W k core) (har : spec.ar = ps.length)
    (vc : VC spec N core) : FOk W (k + 1) x spec := by
  obtain ⟨f, fd, F, a⟩ := T.ex
  exact fok_def core spec F Sc (F.binds hb) (hmg f a) hB hc ok har vc

/-! ### the draws' state is made -/
theorem repL_ints {F : Hp} : ∀ {ns : List Int} {vs : List V}, RepL W F (ns.map D.int) vs → vs = ns.map V.int
  | [], vs, h => by rw [List.map_nil, RepL] at h; exact h
  | n :: ns, vs, h => by
    rw [List.map_cons, RepL] at h
    obtain ⟨v, r, rfl, h1, h2⟩ := h
    rw [Rep] at h1
    rw [h1, repL_ints h2]; rfl
def cellsOf (ns : List Int) : List Int := (ns.take 63).map fun z => (z.natAbs : Int)
def cellC (x : Str) (j : Nat) : C := .lc [(x, j)] (.one j) (.iseq (.sl (.var 0) .no (.opt (.k (.int 63))))) .no (.bn .abs (.cons (.var j) .nil))
theorem cut63 (ns : List Int) : cutL ns none (some 63) = ns.take 63 := by
  unfold cutL HT.sIx
  simp
theorem cells_go {δ : Env} {j : Nat} (hj : j < δ.length) : ∀ (ns : List Int) (acc : List D) (K : List D → Prop), K (acc ++ (ns.map fun z => D.int (z.natAbs : Int))) →
    lcGo (lcStep (.one j) wYes (wBlt absS (wCons (wVar j) wNil)) δ) (ns.map D.int) acc K
  | [], acc, K, h => by simpa [lcGo] using h
  | n :: ns, acc, K, h => by
    rw [List.map_cons, lcGo]
    refine ⟨_, rfl, ?_⟩
    have hv : ∀ (K : R → Prop) (X : Xn → Prop), K (.v (.int n)) → wVar j (List.set δ j (Sl.fz (D.int n))) K X := fun K X h => by
      unfold wVar
      rw [List.getElem?_set_self hj]
      exact h
    simp only [wYes, wBlt, wCons, wNil, ↓reduceIte]
    refine hv _ _ ⟨.v (.int n), n, rfl, rfl, rfl, ?_⟩
    refine cells_go hj ns _ K ?_
    show K ((acc ++ [D.int (n.natAbs : Int)]) ++ _)
    rw [List.append_assoc]
    exact h
theorem cells_wp {ns : List Int} {δ : Env} {x : Str} {j : Nat} {K : R → Prop} {Xp : Xn → Prop} (h0 : δ[0]? = some (.fz (.scr ns))) (hj : j < δ.length) (hn : noOw δ [j] = true) (hk : K (.own (.lst ((cellsOf ns).map D.int)))) : wE (cellC x j) δ K Xp := by
  show wLc [j] (.one j) (wSeq (wSl (wVar 0) wNoPart (wPart (wC (.int 63))))) wYes (wBlt absS (wCons (wVar j) wNil)) δ K Xp
  refine ⟨hn, ?_⟩
  have hv : ∀ (K : R → Prop) (X : Xn → Prop), K (.v (.scr ns)) → wVar 0 δ K X := fun K X h => by
    unfold wVar
    rw [h0]
    exact h
  simp only [wSeq, wSl, wNoPart, wPart, wC]
  refine hv _ _ ⟨63, rfl, ?_⟩
  show ∃ ds, seqD (.lst ((cutL ns none (some 63)).map D.int)) = some ds ∧ _
  rw [cut63]
  refine ⟨_, rfl, ?_, ?_⟩
  · rw [List.length_map, List.length_take]
    exact Nat.le_trans (Nat.min_le_left _ _) (by decide)
  · refine cells_go (by unfold wipeD; simpa using hj) _ [] _ ?_
    have : (List.map (fun z => D.int (z.natAbs : Int)) (List.take 63 ns)) = (cellsOf ns).map D.int := by
      unfold cellsOf
      rw [List.map_map]; rfl
    rw [List.nil_append, this]
    exact hk
theorem bits_lt {z : Int} (h : Builtin.Int.intBits z ≤ 1048576) : ((z.natAbs : Int)).natAbs < 2 ^ 1048577 := by
  rw [Int.natAbs_natCast]
  unfold Builtin.Int.intBits at h
  split at h
  · rename_i q
    rw [beq_iff_eq] at q
    subst q
    exact Nat.lt_of_lt_of_le (show 0 < 2 ^ 0 by decide) (Nat.pow_le_pow_right (by decide) (Nat.zero_le _))
  · exact Nat.lt_of_lt_of_le Nat.lt_log2_self (Nat.pow_le_pow_right (by decide) (by omega))
/-- what the def that makes the state promises -/
def spSt (W : Wd) : Sp := fun vs H Q _ => ∃ (a : Addr) (ns : List Int), vs = [.ref a] ∧ SqL W.K H a (ns.map V.int) ∧ (∀ z ∈ ns, Builtin.Int.intBits z ≤ 1048576) ∧ ∀ p c l H', Kp H H' → H p = none → H c = none → StAt l p c H' → Q (.ref p) H'
theorem cells_ok {ns : List Int} (h : ∀ z ∈ ns, Builtin.Int.intBits z ≤ 1048576) : ∀ z ∈ cellsOf ns, 0 ≤ z ∧ z.natAbs < 2 ^ 1048577 := by
  intro z hz
  unfold cellsOf at hz
  obtain ⟨y, h1, rfl⟩ := List.mem_map.mp hz
  exact ⟨by omega, bits_lt (h y (List.mem_of_mem_take h1))⟩
theorem cells_len (ns : List Int) : (cellsOf ns).length ≤ 63 := by
  unfold cellsOf
  rw [List.length_map, List.length_take]
  exact Nat.min_le_left _ _
/-- [cells, 0, 1] laid down -/
theorem st_end {H H1 : Hp} {c p : Addr} {cells : List Int} (k : Kp H H1) (hc : H c = none) (h1 : H1 c = some (.lst (cells.map V.int))) (hp : H1 p = none) (ok : ∀ z ∈ cells, 0 ≤ z ∧ z.natAbs < 2 ^ 1048577) (l1 : 1 ≤ cells.length) (l2 : cells.length ≤ 63) :
    Kp H (upd H1 p (.lst [.ref c, .int 0, .int 1])) ∧ H p = none ∧ StAt cells.length p c (upd H1 p (.lst [.ref c, .int 0, .int 1])) := by
  have hpc : p ≠ c := fun e => by rw [e, h1] at hp; cases hp
  refine ⟨fun z o h => ?_, ?_, hpc, 0, 1, cells, upd_same, ?_, by decide, by decide, by decide, rfl, l1, l2, ok⟩
  · rw [upd_ne (ne_of_none (k z o h) hp)]; exact k z o h
  · cases e : H p with
    | none => rfl
    | some o => rw [k p o e] at hp; cases hp
  · rw [upd_ne (Ne.symm hpc)]; exact h1
def isState1 (B N : List Str) (x : Str) (sc : Scope) : List Stmt → Bool
  | [.Return (some (.List [.BoolOp .Or [e, .List [.Constant (.int z) _ _] _] _, .Constant (.int z0) _ _, .Constant (.int z1) _ _] _)) _] => z == 7 && z0 == 0 && z1 == 1 && noStar e && chkE B N false (cellC x 1) sc e
  | _ => false
theorem state1_ok {y x qual : Str} {st : Stmt} {f : Addr} {fd : FuncData} (hsa : W.sa = none) (F : Fun W.K y qual st f fd) (Sc : FnScope N ps (defScope st)) (hN : N.length = 2) (hps : ps.length = 1) (hB : Bl W B) (hc : isState1 B N x (defScope st) (defBody st) = true) : FnG W.P W.w W.K W.mg W.base (L2.CX W.P W.w) (k + 1) f fd ps (spSt W) := by
  refine fun_okG F Sc (fun vs H Q E h => ?_) fun cdv A outer s H vs Q E hr gd h => ?_
  · obtain ⟨a, ns, rfl, _⟩ := h
    exact hps.symm
  · obtain ⟨a, ns, rfl, hS, hbits, hq⟩ := h
    have g := good_def (W := W) (outer := outer) (H := H) (E := E) Sc gd hr
    unfold isState1 at hc
    split at hc
    · rename_i e z k1 p1 p2 p3 z0 k2 p4 z1 k3 p5 p6 p7 hbody
      simp only [Bool.and_eq_true, beq_iff_eq] at hc
      obtain ⟨⟨⟨⟨rfl, rfl⟩, rfl⟩, hst⟩, hc⟩ := hc
      rw [hbody]
      obtain ⟨te, pe, ev⟩ := ((soundC hB (cellC x 1)).e _ E _ _ g (by simp only [cellC, okE, and_self])).1 hc
      refine ⟨_, pss_cons (ps_ret (pe_lst (pa_cons (pe_orT pe (pe_one (pe_lst (pa_cons pe_int pa_nil (star_is rfl))))) (pa_cons pe_int (pa_cons pe_int pa_nil (star_is rfl)) (star_is rfl)) (star_is rfl)))) pss_nil, ?_⟩
      have hnS : ∀ z, ¬ inSa W z := fun z hz => by unfold inSa at hz; rw [hsa] at hz; exact hz
      have st0 : StOk W H := by unfold StOk; rw [hsa]; trivial
      have kf : Ex H (fz (fun z => inSa W z ∨ False) H) := (show Kp H _ from fun z o h => fz_of (fun q => q.elim (hnS z) id) h).ex
      have e0 := env_start (N := N) (W := W) (Hd := fun _ => False) (H := H) (ds := [.scr ns]) (vs := [.ref a]) st0 (fun _ h => h.elim) (.one (by rw [Rep]; exact ⟨a, rfl, kf.l hS⟩))
      show te (L2.start N [.ref a]) H _
      refine ev (fun _ => False) H _ H _ _ (fun r => r = .own (.lst ((cellsOf ns).map D.int))) (fun _ => False) _ e0 (cells_wp (by rw [hN]; rfl) (by rw [hN]; exact Nat.lt_succ_self 1) (by rw [hN]; rfl) rfl) ?_ XOk.none
      intro v H' r kx s1 rr hr'
      subst hr'
      obtain ⟨c, rfl, hc0, hcR, us, hu1, hu2⟩ := rr
      cases repL_ints hu2
      have kk : Kp H H' := fun z o h => kx z o (hnS z) h
      refine ⟨_, .inl ⟨_, .of hu1, rfl⟩, ?_⟩
      cases hcs : cellsOf ns with
      | nil =>
        rw [if_neg (by simp)]
        refine ⟨by show 1 ≤ sizeLine; decide, fun c' hc' => ?_⟩
        refine ⟨by show 3 ≤ sizeLine; decide, fun p hp => ?_⟩
        have kk' : Kp H (upd H' c' (.lst [.int 7])) := fun z o h => by rw [upd_ne (ne_of_none (kk z o h) hc')]; exact kk z o h
        have hc0' : H c' = none := by
          cases e : H c' with
          | none => rfl
          | some o => rw [kk c' o e] at hc'; cases hc'
        obtain ⟨q1, q2, q3⟩ := st_end (cells := [7]) kk' hc0' upd_same hp (fun z hz => by rw [List.mem_singleton] at hz; subst hz; exact ⟨by decide, Nat.lt_of_lt_of_le (show 7 < 2 ^ 3 by decide) (Nat.pow_le_pow_right (by decide) (by decide))⟩) (by decide) (by decide)
        exact hq p c' _ _ q1 q2 hc0' q3
      | cons y ys =>
        rw [if_pos (by simp)]
        refine ⟨by show 3 ≤ sizeLine; decide, fun p hp => ?_⟩
        obtain ⟨q1, q2, q3⟩ := st_end (cells := cellsOf ns) kk hc0 hu1 hp (cells_ok hbits) (by rw [hcs]; exact Nat.succ_le_succ (Nat.zero_le _)) (cells_len ns)
        exact hq p c _ _ q1 q2 hc0 q3
    · cases hc
end
end G
set_option maxRecDepth 100000
set_option maxHeartbeats 4000000
namespace G
open PySem PySem.Spec PyProof.Rows L2
/-! ### the law: the state is made, then all the rest -/
def Wd.at (W : Wd) (a c : Addr) (l : Nat) : Wd := { W with sa := some (a, c), cn := l }
def spLaw (K : PySem.W.Frag) : Sp := fun vs H Q _ => ∃ (a : Addr) (ns : List Int), vs = [.ref a] ∧ SqL K H a (ns.map V.int) ∧ ns.length ≤ 63 ∧ (∀ z ∈ ns, Builtin.Int.intBits z ≤ 1048576) ∧ ∀ H', Q (.bl true) H'
def lawPst : Pst := { nx := fun _ => False, rt := fun _ d => d = .bl true }
def isLaw (B N : List Str) (f : Str) (core : S) (sc : Scope) : List Stmt → Bool
  | .Assign [.Name s _] (.Call (.Name g _) [.Name x _] [] _) _ :: rest => seLoc N sc 1 s && seVis N sc 0 x && g == f && (glB sc g && nmOk g) && chkB B N core sc rest
  | _ => false
theorem pss_any (X : Cx) (st : List Stmt) : PSs X st (fun D σ H => ∃ t, PSs X st t ∧ t D σ H) := ⟨fun pins s σ H D I ⟨_, pt, h⟩ => pt.run pins s σ H D I h⟩
section
variable {W : Wd} {N B ps : List Str} {k : Nat}
theorem fn_law {y qual fs : Str} {st : Stmt} {f : Addr} {fd : FuncData} {fS : Addr} {fdS : FuncData} {psS : List Str} (core : S) (F : Fun W.K y qual st f fd) (Sc : FnScope N ps (defScope st)) (hN : 2 ≤ N.length) (hps : ps.length = 1) (hB : Bl W B)
    (FS : FnG W.P W.w W.K W.mg W.base (L2.CX W.P W.w) k fS fdS psS (spSt W)) (hmS : W.mg fs = some (.ref fS)) (hkS : PySem.W.keepIn W.K (.ref fS) = true) (hbS : Binds W.K fdS psS [])
    (hc : isLaw B N fs core (defScope st) (defBody st) = true) (ok : ∀ a c l, okS (W.at a c l) k core)
    (vc : ∀ (l : Nat) (ns : List Int), 1 ≤ l → l ≤ 63 → ns.length ≤ 63 → wS core (env0 N.length [.scr ns, .st l]) lawPst) : FnG W.P W.w W.K W.mg W.base (L2.CX W.P W.w) (k + 1) f fd ps (spLaw W.K) := by
  refine fun_okG F Sc (fun vs H Q E h => ?_) fun cdv A outer s H vs Q E hr gd h => ?_
  · obtain ⟨a, ns, rfl, _⟩ := h
    exact hps.symm
  · obtain ⟨a, ns, rfl, hS, hlen, hbits, hq⟩ := h
    have g := good_def (W := W) (outer := outer) (H := H) (E := E) Sc gd hr
    unfold isLaw at hc
    split at hc
    · rename_i sx p1 gx p2 x p3 p4 p5 rest hbody
      simp only [Bool.and_eq_true, beq_iff_eq] at hc
      obtain ⟨⟨⟨⟨h1, h2⟩, h3⟩, h4, h5⟩, h6⟩ := hc
      subst h3
      obtain ⟨s1, s2⟩ := seLoc_of h1
      obtain ⟨x1, x2, x3, x4⟩ := seVis_of h2
      rw [hbody]
      -- the rest is read in each world
      have rd : ∀ p c l, ∃ t, PSs (cxOf (L2.CX W.P W.w) W.P W.w W.K W.mg W.base N qual (defScope st) f cdv A outer s H E) rest t ∧ EvS (W.at p c l) E t (wS core) := fun p c l => by
        have g' := good_def (W := W.at p c l) (outer := outer) (H := H) (E := E) Sc gd hr
        exact (soundS (W := W.at p c l) (fun x hx => hB x hx) core).b _ E _ _ g' rfl (ok p c l) h6
      refine ⟨_, pss_cons (ps_set (i := 1) Sc.nd s1 (g.loc sx s2).1 (ge_call (E := E) FS g.room g.gd (g.gl gx h4) hmS hkS hbS (by have := g.px; exact this) (pa_cons (pe_var x1 (g.vis x x2) x3 x4) pa_nil (star_is rfl)) (nmOk_of h5).1 (star_is rfl) (star_none rfl)) rfl (g.loc sx s2).2) (pss_any _ _), ?_⟩
      have st1 : (L2.start N [V.ref a])[0]?.join = some (.ref a) := rfl
      refine ⟨.ref a, slot_get st1, ?_⟩
      refine ⟨a, ns, rfl, hS, hbits, fun p c l H' kk hp0 hc0 hst => ?_⟩
      obtain ⟨t, pt, et⟩ := rd p c l
      refine ⟨t, pt, ?_⟩
      have hst' : StOk (W.at p c l) H' := hst
      have hl : 1 ≤ l ∧ l ≤ 63 := by
        obtain ⟨_, _, _, cells, _, _, _, _, _, q1, q2, q3, _⟩ := hst
        exact ⟨q2, q3⟩
      have kf : Ex H (fz (fun z => inSa (W.at p c l) z ∨ False) H') := (show Kp H _ from fun z o h => fz_of (fun q => by
        rcases q with (q | q) | q
        · rw [q, hp0] at h; cases h
        · rw [q, hc0] at h; cases h
        · exact q) (kk z o h)).ex
      have e0 := env_start (N := N) (W := W.at p c l) (Hd := fun _ => False) (H := H') (ds := [.scr ns, .st l]) (vs := [.ref a, .ref p]) hst' (fun _ h => h.elim) (.cons (by rw [Rep]; exact ⟨a, rfl, kf.l hS⟩) (.one (by rw [Rep]; exact ⟨p, c, rfl, rfl, rfl⟩)))
      have hσ : (L2.start N [V.ref a]).set 1 (some (.ref p)) = L2.start N [V.ref a, V.ref p] := by
        unfold L2.start
        obtain ⟨n, hn⟩ : ∃ n, N.length = n + 2 := ⟨N.length - 2, by omega⟩
        rw [hn]
        simp [List.replicate_succ]
      show t _ ((L2.start N [V.ref a]).set 1 (some (.ref p))) H'
      rw [hσ]
      exact et (fun _ => False) H' _ H' _ _ lawPst _ e0 (vc l ns hl.1 hl.2 hlen) ⟨fun _ _ _ _ _ h => h.elim, fun _ _ _ _ _ h => h.elim, fun _ _ _ _ _ h => h.elim, fun v H'' o d _ _ rt hd => by
        cases hd
        cases o with
        | false =>
          have rt' : Rep (W.at p c l) (fz (fun z => inSa (W.at p c l) z ∨ False) H'') (.bl true) v := rt
          rw [Rep] at rt'
          subst rt'
          exact hq H''
        | true =>
          obtain ⟨z, _, _, _, _, w⟩ := rt
          exact w.elim, XOk.none⟩
    · cases hc
end
end G
set_option maxRecDepth 100000
set_option maxHeartbeats 4000000
namespace G
open PySem PySem.Spec PyProof.Rows L2

/-! ### tools for the plain part -/
theorem eqD_int {i j : Int} : eqD (.int i) (.int j) = decide (i = j) := by
  unfold eqD
  rw [pyD, pyD, PyData.eqv]
  exact Bool.eq_iff_iff.mpr (by simp)
theorem eqD_bl {i j : Bool} : eqD (.bl i) (.bl j) = (i == j) := by
  unfold eqD
  rw [pyD, pyD, PyData.eqv]
theorem eqD_str {i j : Str} : eqD (.str i) (.str j) = decide (i = j) := by
  unfold eqD
  rw [pyD, pyD, PyData.eqv]
  exact Bool.eq_iff_iff.mpr (by simp)
def eqL (xs ys : List D) : Bool := PyData.eqvAll (pyL xs) (pyL ys)
theorem eqD_lst {i j : List D} : eqD (.lst i) (.lst j) = eqL i j := by
  unfold eqD eqL
  rw [pyD, pyD, PyData.eqv]
theorem eqD_tup {i j : List D} : eqD (.tup i) (.tup j) = eqL i j := by
  unfold eqD eqL
  rw [pyD, pyD, PyData.eqv]
theorem pyD_non : pyD .non = .none := by simp [pyD]
theorem eqD_non : eqD .non .non = true := by
  unfold eqD
  rw [pyD_non, PyData.eqv]
theorem eqD_nt {j : List D} : eqD .non (.tup j) = false := by
  unfold eqD
  rw [pyD_non, pyD, PyData.eqv]
theorem eqD_tn {j : List D} : eqD (.tup j) .non = false := by
  unfold eqD
  rw [pyD_non, pyD, PyData.eqv]
theorem eqL_nil : eqL [] [] = true := by unfold eqL; rw [pyL, PyData.eqvAll]
theorem eqL_nc {x : D} {xs : List D} : eqL [] (x :: xs) = false := by unfold eqL; rw [pyL, pyL, PyData.eqvAll]
theorem eqL_cn {x : D} {xs : List D} : eqL (x :: xs) [] = false := by unfold eqL; rw [pyL, pyL, PyData.eqvAll]
theorem eqL_cc {x y : D} {xs ys : List D} : eqL (x :: xs) (y :: ys) = (eqD x y && eqL xs ys) := by unfold eqL eqD; rw [pyL, pyL, PyData.eqvAll]
theorem eqL_ints : ∀ {xs ys : List Int}, eqL (xs.map D.int) (ys.map D.int) = decide (xs = ys)
  | [], [] => eqL_nil
  | [], y :: ys => by rw [List.map_nil, List.map_cons, eqL_nc]; simp
  | x :: xs, [] => by rw [List.map_nil, List.map_cons, eqL_cn]; simp
  | x :: xs, y :: ys => by
    rw [List.map_cons, List.map_cons, eqL_cc, eqD_int, eqL_ints]
    exact Bool.eq_iff_iff.mpr (by simp)
theorem eqL_isNil {xs : List D} : eqL xs [] = xs.isEmpty := by
  cases xs
  · exact eqL_nil
  · exact eqL_cn
theorem sh_int {n : Nat} {i : Int} : sh n (.int i) = true := by rw [sh]
theorem sh_bl {n : Nat} {i : Bool} : sh n (.bl i) = true := by rw [sh]
theorem sh_str {n : Nat} {i : Str} : sh n (.str i) = true := by rw [sh]
theorem sh_non {n : Nat} : sh n .non = true := by rw [sh]
theorem sh_lst {n : Nat} {xs : List D} : sh (n + 1) (.lst xs) = shL n xs := by rw [sh]
theorem sh_tup {n : Nat} {xs : List D} : sh (n + 1) (.tup xs) = shL n xs := by rw [sh]
theorem shL_nil {n : Nat} : shL n [] = true := by rw [shL]
theorem shL_cons {n : Nat} {x : D} {xs : List D} : shL n (x :: xs) = (sh n x && shL n xs) := by rw [shL]
theorem shL_ints {n : Nat} : ∀ {xs : List Int}, shL n (xs.map D.int) = true
  | [] => shL_nil
  | x :: xs => by rw [List.map_cons, shL_cons, sh_int, shL_ints]; rfl
theorem sh60_lst {xs : List D} : sh 60 (.lst xs) = shL 59 xs := sh_lst
theorem sh60_tup {xs : List D} : sh 60 (.tup xs) = shL 59 xs := sh_tup
theorem sh59_lst {xs : List D} : sh 59 (.lst xs) = shL 58 xs := sh_lst
theorem sh59_tup {xs : List D} : sh 59 (.tup xs) = shL 58 xs := sh_tup
theorem sh58_lst {xs : List D} : sh 58 (.lst xs) = shL 57 xs := sh_lst
theorem sh58_tup {xs : List D} : sh 58 (.tup xs) = shL 57 xs := sh_tup
theorem sh57_lst {xs : List D} : sh 57 (.lst xs) = shL 56 xs := sh_lst
theorem sh57_tup {xs : List D} : sh 57 (.tup xs) = shL 56 xs := sh_tup

theorem forGo_inv {tg : Tg} {wb : WS} {p : Pst} (I : List D → Env → Prop) (hstep : ∀ d r δ (K : Env → Prop), I (d :: r) δ → (∀ δ', I r δ' → K δ') → ∃ δ', asgT tg d δ = some δ' ∧ wb δ' { p with nx := K, ct := K, bk := p.nx })
    (hend : ∀ δ, I [] δ → p.nx δ) : ∀ (ds : List D) (δ : Env), I ds δ → forGo tg wb ds δ p
  | [], δ, h => hend δ h
  | d :: r, δ, h => by
    rw [forGo]
    exact hstep d r δ _ h fun δ' h' => forGo_inv I hstep hend r δ' h'
theorem lcGo_map {step : D → (Option D → Prop) → Prop} {f : D → D} : ∀ (ds acc : List D) (K : List D → Prop), (∀ d ∈ ds, ∀ k : Option D → Prop, k (some (f d)) → step d k) → K (acc ++ ds.map f) → lcGo step ds acc K
  | [], acc, K, _, h => by simpa [lcGo] using h
  | d :: ds, acc, K, hs, h => by
    rw [lcGo]
    refine hs d List.mem_cons_self _ ?_
    exact lcGo_map ds _ K (fun d' hd => hs d' (List.mem_cons_of_mem _ hd)) (by simpa using h)
theorem lcGo_filter {step : D → (Option D → Prop) → Prop} {f : D → Option D} : ∀ (ds acc : List D) (K : List D → Prop), (∀ d ∈ ds, ∀ k : Option D → Prop, k (f d) → step d k) → K (acc ++ ds.filterMap f) → lcGo step ds acc K
  | [], acc, K, _, h => by simpa [lcGo] using h
  | d :: ds, acc, K, hs, h => by
    rw [lcGo]
    refine hs d List.mem_cons_self _ ?_
    cases e : f d with
    | none =>
      refine lcGo_filter (f := f) ds acc K (fun d' hd => hs d' (List.mem_cons_of_mem _ hd)) ?_
      rw [List.filterMap_cons, e] at h
      exact h
    | some y =>
      refine lcGo_filter (f := f) ds _ K (fun d' hd => hs d' (List.mem_cons_of_mem _ hd)) ?_
      rw [List.filterMap_cons, e] at h
      simpa using h
/-- each item gives something that is as P says -/
theorem lcGo_any {step : D → (Option D → Prop) → Prop} {P : D → Prop} : ∀ (ds acc : List D) (K : List D → Prop), (∀ d ∈ ds, ∀ k : Option D → Prop, (∀ e, P e → k (some e)) → step d k) → (∀ es : List D, es.length = ds.length → (∀ e ∈ es, P e) → K (acc ++ es)) → lcGo step ds acc K
  | [], acc, K, _, h => by rw [lcGo]; simpa using h [] rfl (by simp)
  | d :: ds, acc, K, hs, h => by
    rw [lcGo]
    refine hs d List.mem_cons_self _ fun e he => ?_
    refine lcGo_any ds _ K (fun d' hd => hs d' (List.mem_cons_of_mem _ hd)) fun es h1 h2 => ?_
    rw [List.append_assoc]
    exact h (e :: es) (by rw [List.length_cons, List.length_cons, h1]) (fun e' he' => by
      rcases List.mem_cons.mp he' with rfl | he'
      · exact he
      · exact h2 e' he')
theorem MulOk.of {i j : Int} (hi : i.natAbs < 2 ^ 100000) (hj : j.natAbs < 2 ^ 100000) : MulOk i j := by
  have l : ∀ z : Int, z.natAbs < 2 ^ 100000 → z.natAbs.log2 < 100000 := fun z h => by
    by_cases q : z.natAbs = 0
    · rw [q]; decide
    · exact (Nat.log2_lt q).mpr h
  exact .inr (show _ + _ < 1000000 from by have := l i hi; have := l j hj; omega)
theorem MulOk.left {i j : Int} (h1 : -(2 ^ 64) < i) (h2 : i < 2 ^ 64) : MulOk i j := .inl (.inl ⟨h1, h2⟩)
theorem MulOk.right {i j : Int} (h1 : -(2 ^ 64) < j) (h2 : j < 2 ^ 64) : MulOk i j := .inl (.inr ⟨h1, h2⟩)
theorem DivOk.of {i j : Int} (h0 : 0 < j) (hj : j.natAbs < 2 ^ 9000) : DivOk i j := .inr ⟨h0, by
  rw [Nat.log2_lt (by omega)]
  exact hj⟩
theorem DivOk.small {i j : Int} (h0 : 0 < j) (hj : j < 1073741824) : DivOk i j := .inl ⟨h0, hj⟩
theorem rgN_one {i j : Int} : rgN i j 1 = (j - i).toNat := by
  unfold rgN Builtin.Range.rangeSize
  simp
  omega
theorem rgL_one (n : Nat) : rgL 0 1 n = (List.range n).map fun (m : Nat) => (m : Int) := by
  unfold rgL
  refine List.map_congr_left fun m _ => ?_
  omega

end G
set_option maxRecDepth 100000
set_option maxHeartbeats 4000000
namespace G
open PySem PySem.Spec PyProof.Rows L2
/-! ### the plain machine: what is wanted, one step at a time -/
section
variable {δ : Env} {K : R → Prop} {KA : List R → Prop} {X : Xn → Prop} {p : Pst} {a b c r as : C} {i j : Nat} {d : D} {x y z : R} {rs : List R}
theorem Rd_v : (R.v d).d = d := (rfl)
theorem Rd_own : (R.own d).d = d := (rfl)
theorem Rd_sl : (R.sl i d).d = d := (rfl)
theorem Rfr_v : (R.v d).fr = true := (rfl)
theorem Rfr_own : (R.own d).fr = true := (rfl)
theorem Rfr_sl : (R.sl i d).fr = false := (rfl)
def kV (i : Nat) : Option Sl → (R → Prop) → Prop
  | some (.fz d), K => K (.v d)
  | some (.ow d), K => K (.sl i d)
  | _, _ => False
theorem kV_fz : kV i (some (.fz d)) K = K (.v d) := (rfl)
theorem kV_ow : kV i (some (.ow d)) K = K (.sl i d) := (rfl)
theorem kV_un : kV i (some .un) K = False := (rfl)
theorem m_var : wE (.var i) δ K X = kV i δ[i]? K := by
  show wVar i δ K X = _
  unfold wVar kV
  cases δ[i]? with
  | none => rfl
  | some q => cases q <;> rfl
theorem m_k : wE (.k d) δ K X = K (.v d) := (rfl)
theorem m_glob {n : Str} : wE (.glob n d) δ K X = K (.v d) := (rfl)
def condR (z : R) (A B : Prop) : Prop := ∃ t, z.d = .bl t ∧ if t = true then A else B
theorem condR_v {t : Bool} {A B : Prop} : condR (.v (.bl t)) A B = if t = true then A else B := by
  unfold condR
  apply propext
  constructor
  · rintro ⟨t', h, h'⟩
    cases h
    exact h'
  · intro h
    exact ⟨t, rfl, h⟩
theorem ex_bl {t : Bool} {P : Bool → Prop} : (∃ b, (R.v (.bl t)).d = .bl b ∧ P b) = P t := by
  apply propext
  constructor
  · rintro ⟨t', h, h'⟩
    cases h
    exact h'
  · intro h
    exact ⟨t, rfl, h⟩
theorem ex_int {t : Int} {P : Int → Prop} : (∃ b, (R.v (.int t)).d = .int b ∧ P b) = P t := by
  apply propext
  constructor
  · rintro ⟨t', h, h'⟩
    cases h
    exact h'
  · intro h
    exact ⟨t, rfl, h⟩
def binD (op : Operator) (u v : D) (K : R → Prop) : Prop := binS op (.v u) (.v v) K
def relD (op : CmpOp) (u v : D) (K : R → Prop) : Prop := relS op (.v u) (.v v) K
def kB2 (op : Operator) (x : R) (K : R → Prop) : R → Prop := fun y => binS op x y K
def kB1 (op : Operator) (b : C) (δ : Env) (K : R → Prop) (X : Xn → Prop) : R → Prop := fun x => wE b δ (kB2 op x K) X
theorem m_bin {op : Operator} : (wE (.bin op a b) δ K X) = (wE a δ (kB1 op b δ K X) X) := (rfl)
theorem m_kB1 {op : Operator} : (kB1 op b δ K X x) = (wE b δ (kB2 op x K) X) := (rfl)
theorem m_kB2 {op : Operator} : (kB2 op x K y) = (binD op x.d y.d K) := by cases op <;> rfl
theorem b_Add {i j : Int} : (binD .Add (.int i) (.int j) K) = (K (.v (.int (i + j)))) := (rfl)
theorem b_Sub {i j : Int} : (binD .Sub (.int i) (.int j) K) = (K (.v (.int (i - j)))) := (rfl)
theorem b_Mult {i j : Int} : (binD .Mult (.int i) (.int j) K) = (MulOk i j ∧ K (.v (.int (i * j)))) := (rfl)
theorem b_Div {i j : Int} : (binD .FloorDiv (.int i) (.int j) K) = (DivOk i j ∧ K (.v (.int (i / j)))) := (rfl)
theorem b_Mod {i j : Int} : (binD .Mod (.int i) (.int j) K) = (0 < j ∧ K (.v (.int (i % j)))) := (rfl)
theorem b_Pow {i j : Int} : (binD .Pow (.int i) (.int j) K) = (CPow i j ∧ K (.v (.int (i ^ j.toNat)))) := (rfl)
theorem b_AddL {xs ys : List D} : (binD .Add (.lst xs) (.lst ys) K) = (xs.length + ys.length ≤ big ∧ K (.own (.lst (xs ++ ys)))) := (rfl)
theorem b_AddT {xs ys : List D} : (binD .Add (.tup xs) (.tup ys) K) = (xs.length + ys.length ≤ big ∧ K (.v (.tup (xs ++ ys)))) := (rfl)
theorem b_AddS {s t : Str} : (binD .Add (.str s) (.str t) K) = (s.length + t.length ≤ big ∧ K (.v (.str (s ++ t)))) := (rfl)
theorem b_MulL {xs : List D} {j : Int} : (binD .Mult (.lst xs) (.int j) K) = (j < 2 ^ 62 ∧ -(2 ^ 62) ≤ j ∧ xs.length * j.toNat ≤ big ∧ K (.own (.lst (List.replicate j.toNat xs).flatten))) := (rfl)
def kNeg (K : R → Prop) : R → Prop := fun x => ∃ i, x.d = .int i ∧ K (.v (.int (-i)))
theorem m_neg  : (wE (.neg a) δ K X) = (wE a δ (kNeg K) X) := (rfl)
theorem m_kNeg {i : Int} : (kNeg K (.v (.int i))) = (K (.v (.int (-i)))) := ex_int
def kC2 (op : CmpOp) (x : R) (K : R → Prop) : R → Prop := fun y => relS op x y K
def kC1 (op : CmpOp) (b : C) (δ : Env) (K : R → Prop) (X : Xn → Prop) : R → Prop := fun x => wE b δ (kC2 op x K) X
theorem m_cmp {op : CmpOp} : (wE (.cmp op a b) δ K X) = (wE a δ (kC1 op b δ K X) X) := (rfl)
theorem m_kC1 {op : CmpOp} : (kC1 op b δ K X x) = (wE b δ (kC2 op x K) X) := (rfl)
theorem m_relS {op : CmpOp} : (relS op x y K) = (relD op x.d y.d K) := by cases op <;> rfl
theorem m_kC2 {op : CmpOp} : (kC2 op x K y) = (relD op x.d y.d K) := by cases op <;> rfl
theorem r_Lt {i j : Int} : (relD .Lt (.int i) (.int j) K) = (K (.v (.bl (decide (i < j))))) := (rfl)
theorem r_LtE {i j : Int} : (relD .LtE (.int i) (.int j) K) = (K (.v (.bl (decide (i ≤ j))))) := (rfl)
theorem r_Gt {i j : Int} : (relD .Gt (.int i) (.int j) K) = (K (.v (.bl (decide (j < i))))) := (rfl)
theorem r_GtE {i j : Int} : (relD .GtE (.int i) (.int j) K) = (K (.v (.bl (decide (j ≤ i))))) := (rfl)
theorem r_Eq {u v : D} : (relD .Eq u v K) = (sh 60 u = true ∧ sh 60 v = true ∧ K (.v (.bl (eqD u v)))) := by show (_ ∧ _ ∧ K (.v (.bl (false != eqD u v)))) = _; rw [Bool.false_bne]; rfl
theorem r_NotEq {u v : D} : (relD .NotEq u v K) = (sh 60 u = true ∧ sh 60 v = true ∧ K (.v (.bl (!eqD u v)))) := by show (_ ∧ _ ∧ K (.v (.bl (true != eqD u v)))) = _; rw [Bool.true_bne]; rfl
theorem r_IsN {u : D} : (relD .Is u .non K) = (K (.v (.bl (isNon u)))) := by show K (.v (.bl (false != isNon u))) = _; rw [Bool.false_bne]
theorem r_IsNotN {u : D} : (relD .IsNot u .non K) = (K (.v (.bl (!isNon u)))) := by show K (.v (.bl (true != isNon u))) = _; rw [Bool.true_bne]
theorem r_IsB {u v : Bool} : (relD .Is (.bl u) (.bl v) K) = (K (.v (.bl (u == v)))) := by show (∃ a, _ ∧ K (.v (.bl (false != (a == v))))) = _; simp [Rd_v]
theorem r_IsNotB {u v : Bool} : (relD .IsNot (.bl u) (.bl v) K) = (K (.v (.bl (!(u == v))))) := by show (∃ a, _ ∧ K (.v (.bl (true != (a == v))))) = _; simp [Rd_v]
theorem r_InL {u : D} {ys : List D} : (relD .In u (.lst ys) K) = (flatD u = true ∧ ys.all flatD = true ∧ K (.v (.bl (inD u ys)))) := by show (_ ∧ _ ∧ K (.v (.bl (false != inD u ys)))) = _; rw [Bool.false_bne]; rfl
theorem r_InT {u : D} {ys : List D} : (relD .In u (.tup ys) K) = (flatD u = true ∧ ys.all flatD = true ∧ K (.v (.bl (inD u ys)))) := by show (_ ∧ _ ∧ K (.v (.bl (false != inD u ys)))) = _; rw [Bool.false_bne]; rfl
theorem r_InD {u : D} {kds : List (Key × D)} : (relD .In u (.dic kds) K) = (∃ k, keyD u = some k ∧ K (.v (.bl ((getK kds k).isSome)))) := by show (∃ k, _ ∧ K (.v (.bl (false != (getK kds k).isSome)))) = _; simp only [Bool.false_bne]; rfl
theorem r_NotInL {u : D} {ys : List D} : (relD .NotIn u (.lst ys) K) = (flatD u = true ∧ ys.all flatD = true ∧ K (.v (.bl (!inD u ys)))) := by show (_ ∧ _ ∧ K (.v (.bl (true != inD u ys)))) = _; rw [Bool.true_bne]; rfl
theorem r_NotInT {u : D} {ys : List D} : (relD .NotIn u (.tup ys) K) = (flatD u = true ∧ ys.all flatD = true ∧ K (.v (.bl (!inD u ys)))) := by show (_ ∧ _ ∧ K (.v (.bl (true != inD u ys)))) = _; rw [Bool.true_bne]; rfl
theorem r_NotInD {u : D} {kds : List (Key × D)} : (relD .NotIn u (.dic kds) K) = (∃ k, keyD u = some k ∧ K (.v (.bl (!(getK kds k).isSome)))) := by show (∃ k, _ ∧ K (.v (.bl (true != (getK kds k).isSome)))) = _; simp only [Bool.true_bne]; rfl
def kH3 (o2 : CmpOp) (c : C) (δ : Env) (K : R → Prop) (X : Xn → Prop) (y : R) : R → Prop := fun z => condR z (wE c δ (kC2 o2 y K) X) (K (.v (.bl false)))
def kH2 (o1 o2 : CmpOp) (c : C) (δ : Env) (K : R → Prop) (X : Xn → Prop) (x : R) : R → Prop := fun y => relS o1 x y (kH3 o2 c δ K X y)
def kH1 (o1 o2 : CmpOp) (b c : C) (δ : Env) (K : R → Prop) (X : Xn → Prop) : R → Prop := fun x => wE b δ (kH2 o1 o2 c δ K X x) X
theorem m_chain {o1 o2 : CmpOp} : (wE (.chain o1 o2 a b c) δ K X) = (wE a δ (kH1 o1 o2 b c δ K X) X) := (rfl)
theorem m_kH1 {o1 o2 : CmpOp} : (kH1 o1 o2 b c δ K X x) = (wE b δ (kH2 o1 o2 c δ K X x) X) := (rfl)
theorem m_kH2 {o1 o2 : CmpOp} : (kH2 o1 o2 c δ K X x y) = (relD o1 x.d y.d (kH3 o2 c δ K X y)) := by cases o1 <;> rfl
theorem m_kH3 {o2 : CmpOp} : (kH3 o2 c δ K X y z) = (condR z (wE c δ (kC2 o2 y K) X) (K (.v (.bl false)))) := (rfl)
def kAnd (r : C) (δ : Env) (K : R → Prop) (X : Xn → Prop) : R → Prop := fun x => condR x (wE r δ K X) (K (.v (.bl false)))
theorem m_and  : (wE (.and a r) δ K X) = (wE a δ (kAnd r δ K X) X) := (rfl)
theorem m_kAnd  : (kAnd r δ K X x) = (condR x (wE r δ K X) (K (.v (.bl false)))) := (rfl)
def kOr (r : C) (δ : Env) (K : R → Prop) (X : Xn → Prop) : R → Prop := fun x => condR x (K (.v (.bl true))) (wE r δ K X)
theorem m_or  : (wE (.or a r) δ K X) = (wE a δ (kOr r δ K X) X) := (rfl)
theorem m_kOr  : (kOr r δ K X x) = (condR x (K (.v (.bl true))) (wE r δ K X)) := (rfl)
theorem m_one  : (wE (.one a) δ K X) = (wE a δ K X) := (rfl)
def kNot (K : R → Prop) : R → Prop := fun x => ∃ b, x.d = .bl b ∧ K (.v (.bl (!b)))
theorem m_not  : (wE (.not a) δ K X) = (wE a δ (kNot K) X) := (rfl)
theorem m_kNot {t : Bool} : (kNot K (.v (.bl t))) = (K (.v (.bl (!t)))) := ex_bl
def kIfe (a b : C) (δ : Env) (K : R → Prop) (X : Xn → Prop) : R → Prop := fun x => condR x (wE a δ K X) (wE b δ K X)
theorem m_ife  : (wE (.ife c a b) δ K X) = (wE c δ (kIfe a b δ K X) X) := (rfl)
theorem m_kIfe  : (kIfe a b δ K X x) = (condR x (wE a δ K X) (wE b δ K X)) := (rfl)
def kA2 (x : R) (KA : List R → Prop) : List R → Prop := fun rs => KA (x :: rs)
def kA1 (as : C) (δ : Env) (KA : List R → Prop) (X : Xn → Prop) : R → Prop := fun x => wA as δ (kA2 x KA) X
theorem m_anil  : (wA .nil δ KA X) = (KA []) := (rfl)
theorem m_acons  : (wA (.cons a as) δ KA X) = (wE a δ (kA1 as δ KA X) X) := (rfl)
theorem m_kA1  : (kA1 as δ KA X x) = (wA as δ (kA2 x KA) X) := (rfl)
theorem m_kA2  : (kA2 x KA rs) = (KA (x :: rs)) := (rfl)
def kTup (K : R → Prop) : List R → Prop := fun rs => allFr rs = true ∧ rs.length ≤ big ∧ K (.v (.tup (dsOf rs)))
theorem m_tup  : (wE (.tup as) δ K X) = (wA as δ (kTup K) X) := (rfl)
theorem m_kTup  : (kTup K rs) = (allFr rs = true ∧ rs.length ≤ big ∧ K (.v (.tup (dsOf rs)))) := (rfl)
def kLst (K : R → Prop) : List R → Prop := fun rs => allFr rs = true ∧ rs.length ≤ big ∧ K (.own (.lst (dsOf rs)))
theorem m_lst  : (wE (.lst as) δ K X) = (wA as δ (kLst K) X) := (rfl)
theorem m_kLst  : (kLst K rs) = (allFr rs = true ∧ rs.length ≤ big ∧ K (.own (.lst (dsOf rs)))) := (rfl)
theorem m_dct0  : (wE .dct0 δ K X) = (K (.own (.dic []))) := (rfl)
def ixD (u v : D) (K : R → Prop) : Prop := ixS (.v u) (.v v) K
def kI2 (x : R) (K : R → Prop) : R → Prop := fun y => ixS x y K
def kI1 (b : C) (δ : Env) (K : R → Prop) (X : Xn → Prop) : R → Prop := fun x => wE b δ (kI2 x K) X
theorem m_ix  : (wE (.ix a b) δ K X) = (wE a δ (kI1 b δ K X) X) := (rfl)
theorem m_kI1  : (kI1 b δ K X x) = (wE b δ (kI2 x K) X) := (rfl)
theorem m_kI2  : (kI2 x K y) = (ixD x.d y.d K) := (rfl)
theorem i_lst {xs : List D} {i : Int} : (ixD (.lst xs) (.int i) K) = (∃ d, atI xs i = some d ∧ K (.v d)) := by show (∃ i' d, _ ∧ _ ∧ _) = _; simp [Rd_v]
theorem i_tup {xs : List D} {i : Int} : (ixD (.tup xs) (.int i) K) = (∃ d, atI xs i = some d ∧ K (.v d)) := by show (∃ i' d, _ ∧ _ ∧ _) = _; simp [Rd_v]
theorem i_str {s : Str} {i : Int} : (ixD (.str s) (.int i) K) = (s.length ≤ big ∧ ∃ c, atI s.cps.toList i = some c ∧ K (.v (.str ⟨#[c]⟩))) := by show (∃ i' d, _ ∧ _ ∧ _ ∧ _) = _; simp [Rd_v]
theorem i_dic {kds : List (Key × D)} {v : D} : (ixD (.dic kds) v K) = (∃ k, keyD v = some k ∧ ∃ d, getK kds k = some d ∧ K (.v d)) := by show (∃ i' d, _ ∧ _ ∧ _) = _; simp [Rd_v]
theorem i_st0 {l : Nat} : (ixD (.st l) (.int 0) K) = (K (.v (.stc l))) := by show ((_ ∧ _) ∨ (_ ∧ _) ∨ (_ ∧ _)) = _; simp [Rd_v]
theorem i_st1 {l : Nat} : (ixD (.st l) (.int 1) K) = (∀ n : Int, 0 ≤ n → K (.v (.int n))) := by show ((_ ∧ _) ∨ (_ ∧ _) ∨ (_ ∧ _)) = _; simp [Rd_v]
theorem i_st2 {l : Nat} : (ixD (.st l) (.int 2) K) = (∀ n : Int, 0 ≤ n → n < 2147483647 → K (.v (.int n))) := by show ((_ ∧ _) ∨ (_ ∧ _) ∨ (_ ∧ _)) = _; simp [Rd_v]
theorem i_stc {l : Nat} {i : Int} : (ixD (.stc l) (.int i) K) = (1 ≤ l → l ≤ 63 → 0 ≤ i ∧ i < l ∧ ∀ z : Int, 0 ≤ z → z.natAbs < 2 ^ 1048577 → K (.v (.int z))) := by show (1 ≤ l → l ≤ 63 → ∃ i' : Int, _ ∧ _ ∧ _ ∧ _) = _; simp [Rd_v]
theorem at_of {xs : List D} {n : Nat} {u : D} (h : n < xs.length) (hu : xs[n]? = some u) : L2.atI xs (n : Int) = some u := by
  unfold L2.atI L2.ixN
  rw [if_pos (by omega), if_pos (by omega)]
  simpa using hu
theorem at_0 {u0 : D} {us : List D} : (L2.atI (u0 :: us) 0) = (some u0) := at_of (n := 0) (by simp only [List.length_cons]; omega) rfl
theorem at_1 {u0 u1 : D} {us : List D} : (L2.atI (u0 :: u1 :: us) 1) = (some u1) := at_of (n := 1) (by simp only [List.length_cons]; omega) rfl
theorem at_2 {u0 u1 u2 : D} {us : List D} : (L2.atI (u0 :: u1 :: u2 :: us) 2) = (some u2) := at_of (n := 2) (by simp only [List.length_cons]; omega) rfl
theorem at_3 {u0 u1 u2 u3 : D} {us : List D} : (L2.atI (u0 :: u1 :: u2 :: u3 :: us) 3) = (some u3) := at_of (n := 3) (by simp only [List.length_cons]; omega) rfl
theorem at_4 {u0 u1 u2 u3 u4 : D} {us : List D} : (L2.atI (u0 :: u1 :: u2 :: u3 :: u4 :: us) 4) = (some u4) := at_of (n := 4) (by simp only [List.length_cons]; omega) rfl
def slD (u : D) (lo hi : Option Int) (K : R → Prop) : Prop := slS (.v u) lo hi K
def kO (K : Option Int → Prop) : R → Prop := fun x => ∃ i, x.d = .int i ∧ K (some i)
def kS3 (x : R) (lo : Option Int) (K : R → Prop) : Option Int → Prop := fun hi => slS x lo hi K
def kS2 (hi : C) (δ : Env) (K : R → Prop) (X : Xn → Prop) (x : R) : Option Int → Prop := fun lo => wO hi δ (kS3 x lo K) X
def kS1 (lo hi : C) (δ : Env) (K : R → Prop) (X : Xn → Prop) : R → Prop := fun x => wO lo δ (kS2 hi δ K X x) X
theorem m_sl {lo hi : C} : (wE (.sl a lo hi) δ K X) = (wE a δ (kS1 lo hi δ K X) X) := (rfl)
theorem m_kS1 {lo hi : C} : (kS1 lo hi δ K X x) = (wO lo δ (kS2 hi δ K X x) X) := (rfl)
theorem m_kS2 {hi : C} {lo : Option Int} : (kS2 hi δ K X x lo) = (wO hi δ (kS3 x lo K) X) := (rfl)
theorem m_kS3 {lo hi : Option Int} : (kS3 x lo K hi) = (slD x.d lo hi K) := (rfl)
theorem m_ono {KO : Option Int → Prop} : (wO .no δ KO X) = (KO none) := (rfl)
theorem m_oopt {KO : Option Int → Prop} : (wO (.opt c) δ KO X) = (wE c δ (kO KO) X) := (rfl)
theorem m_kO {KO : Option Int → Prop} {i : Int} : (kO KO (.v (.int i))) = (KO (some i)) := ex_int
theorem s_lst {xs : List D} {lo hi : Option Int} : (slD (.lst xs) lo hi K) = (K (.own (.lst (cutL xs lo hi)))) := (rfl)
theorem s_tup {xs : List D} {lo hi : Option Int} : (slD (.tup xs) lo hi K) = (K (.v (.tup (cutL xs lo hi)))) := (rfl)
theorem s_str {s : Str} {lo hi : Option Int} : (slD (.str s) lo hi K) = (s.length ≤ big ∧ K (.v (.str (cutS s lo hi)))) := (rfl)
theorem s_scr {ns : List Int} {lo hi : Option Int} : (slD (.scr ns) lo hi K) = (K (.own (.lst ((cutL ns lo hi).map D.int)))) := (rfl)
def kCall (S : FSpec) (K : R → Prop) (X : Xn → Prop) : List R → Prop := fun rs => callS S rs K X
theorem m_call {f : Str} {S : FSpec} : (wE (.call f S as) δ K X) = (wA as δ (kCall S K X) X) := (rfl)
theorem ex_all {α : Type} {f : α → D} {Q : α → Prop} {P : D → Prop} : (∀ d, (∃ x, d = f x ∧ Q x) → P d) = ∀ x, Q x → P (f x) :=
  propext ⟨fun h x q => h _ ⟨x, rfl, q⟩, fun h _ ⟨x, e, q⟩ => by rw [e]; exact h x q⟩
theorem ex_all2 {α β : Type} {f : α → β → D} {Q : α → β → Prop} {P : D → Prop} : (∀ d, (∃ x y, d = f x y ∧ Q x y) → P d) = ∀ x y, Q x y → P (f x y) :=
  propext ⟨fun h x y q => h _ ⟨x, y, rfl, q⟩, fun h _ ⟨x, y, e, q⟩ => by rw [e]; exact h x y q⟩
theorem eq_all {u : D} {P : D → Prop} : (∀ d, d = u → P d) = P u := propext ⟨fun h => h _ rfl, fun h _ e => by rw [e]; exact h⟩
theorem or_all {Q1 Q2 P : D → Prop} : (∀ d, (Q1 d ∨ Q2 d) → P d) = ((∀ d, Q1 d → P d) ∧ ∀ d, Q2 d → P d) := propext ⟨fun h => ⟨fun d q => h d (.inl q), fun d q => h d (.inr q)⟩, fun h d q => q.elim (h.1 d) (h.2 d)⟩
theorem eq_all2 {u : D} {A : Prop} {P : D → Prop} : (∀ d, d = u ∧ A → P d) = (A → P u) := propext ⟨fun h q => h _ ⟨rfl, q⟩, fun h _ ⟨e, q⟩ => by rw [e]; exact h q⟩
theorem no_all {P : D → Prop} : (∀ d, False → P d) = True := propext ⟨fun _ => trivial, fun _ _ h => h.elim⟩
theorem no_allx {P : Xn → Prop} : (∀ d, False → P d) = True := propext ⟨fun _ => trivial, fun _ _ h => h.elim⟩
theorem m_kCall {S : FSpec} : (kCall S K X rs) = (rs.length = S.ar ∧ S.wp (dsOf rs) (callK rs K) X) := (rfl)
theorem m_callF  : (callK rs K false d) = ((allFr rs = true ∨ safe false d = true) ∧ K (.v d)) := (rfl)
theorem m_callT  : (callK rs K true d) = ((allFr rs = true ∨ safe true d = true) ∧ K (.own d)) := (rfl)
def kBn (b : Bn) (K : R → Prop) : List R → Prop := fun rs => b.sem rs K
theorem m_bn {q : Bn} : (wE (.bn q as) δ K X) = (wA as δ (kBn q K) X) := (rfl)
def lenD (u : D) (K : R → Prop) : Prop := lenS [.v u] K
theorem m_len  : (kBn .len K [x]) = (lenD x.d K) := by show (∃ y, [x] = [y] ∧ _) = (∃ y, [R.v x.d] = [y] ∧ _); simp [Rd_v]
theorem l_lst {xs : List D} : (lenD (.lst xs) K) = (K (.v (.int xs.length))) := by show (∃ y, [R.v _] = [y] ∧ _) = _; simp [Rd_v]
theorem l_tup {xs : List D} : (lenD (.tup xs) K) = (K (.v (.int xs.length))) := by show (∃ y, [R.v _] = [y] ∧ _) = _; simp [Rd_v]
theorem l_str {s : Str} : (lenD (.str s) K) = (s.length ≤ big ∧ K (.v (.int s.length))) := by show (∃ y, [R.v _] = [y] ∧ _) = _; simp [Rd_v]
theorem l_dic {xs : List (Key × D)} : (lenD (.dic xs) K) = (K (.v (.int xs.length))) := by show (∃ y, [R.v _] = [y] ∧ _) = _; simp [Rd_v]
theorem l_scr {xs : List Int} : (lenD (.scr xs) K) = (K (.v (.int xs.length))) := by show (∃ y, [R.v _] = [y] ∧ _) = _; simp [Rd_v]
theorem l_stc {l : Nat} : (lenD (.stc l) K) = (1 ≤ l → l ≤ 63 → K (.v (.int l))) := by show (∃ y, [R.v _] = [y] ∧ _) = _; simp [Rd_v]
theorem m_abs {i : Int} : (kBn .abs K [.v (.int i)]) = (K (.v (.int i.natAbs))) := by show (∃ y i', [R.v _] = [y] ∧ _) = _; simp [Rd_v]
theorem m_min {i j : Int} : (kBn .min K [.v (.int i), .v (.int j)]) = (K (.v (.int (min i j)))) := propext ⟨fun ⟨_, _, _, _, h1, h2, h3, h4⟩ => (by cases h1; cases h2; cases h3; exact h4), fun h => ⟨_, _, _, _, rfl, rfl, rfl, h⟩⟩
theorem m_max {i j : Int} : (kBn .max K [.v (.int i), .v (.int j)]) = (K (.v (.int (max i j)))) := propext ⟨fun ⟨_, _, _, _, h1, h2, h3, h4⟩ => (by cases h1; cases h2; cases h3; exact h4), fun h => ⟨_, _, _, _, rfl, rfl, rfl, h⟩⟩
theorem m_sum  : (kBn .sum K [x]) = (∃ ns : List Int, x.d = .lst (ns.map D.int) ∧ K (.v (.int ns.sum))) := by show (∃ (y : R) (ns : List Int), [x] = [y] ∧ _) = _; simp [Rd_v]
theorem m_all  : (kBn .all K [x]) = (∃ bs : List Bool, x.d = .lst (bs.map D.bl) ∧ K (.v (.bl (bs.all id)))) := by show (∃ (y : R) (bs : List Bool), [x] = [y] ∧ _) = _; simp [Rd_v]
theorem m_any  : (kBn .any K [x]) = (∃ bs : List Bool, x.d = .lst (bs.map D.bl) ∧ K (.v (.bl (bs.any id)))) := by show (∃ (y : R) (bs : List Bool), [x] = [y] ∧ _) = _; simp [Rd_v]
def listD (u : D) (K : R → Prop) : Prop := listS [.v u] K
def tupleD (u : D) (K : R → Prop) : Prop := tupleS [.v u] K
theorem m_list  : (kBn .list K [x]) = (listD x.d K) := by show (∃ y, [x] = [y] ∧ _) = (∃ y, [R.v x.d] = [y] ∧ _); simp [Rd_v]
theorem m_tuple  : (kBn .tuple K [x]) = (tupleD x.d K) := by show (∃ y, [x] = [y] ∧ _) = (∃ y, [R.v x.d] = [y] ∧ _); simp [Rd_v]
theorem li_lst {xs : List D} : (listD (.lst xs) K) = (K (.own (.lst xs))) := by show (∃ y, [R.v _] = [y] ∧ _) = _; simp [Rd_v]
theorem tu_lst {xs : List D} : (tupleD (.lst xs) K) = (K (.v (.tup xs))) := by show (∃ y, [R.v _] = [y] ∧ _) = _; simp [Rd_v]
theorem li_tup {xs : List D} : (listD (.tup xs) K) = (K (.own (.lst xs))) := by show (∃ y, [R.v _] = [y] ∧ _) = _; simp [Rd_v]
theorem tu_tup {xs : List D} : (tupleD (.tup xs) K) = (K (.v (.tup xs))) := by show (∃ y, [R.v _] = [y] ∧ _) = _; simp [Rd_v]
theorem m_sorted  : (kBn .sorted K [x]) = (sortS [x] K) := (rfl)
def kLr (K : R → Prop) : List R → Prop := fun rs => ∃ i j c, rgArgs rs = some (i, j, c) ∧ RgIn i j c ∧ rgN i j c ≤ big ∧ K (.own (.lst ((rgL i c (rgN i j c)).map D.int)))
theorem m_lrange  : (wE (.lrange as) δ K X) = (wA as δ (kLr K) X) := (rfl)
theorem rgA1 {j : Int} : rgArgs [.v (.int j)] = some (0, j, 1) := (rfl)
theorem m_kLr1 {j : Int} : (kLr K [.v (.int j)]) = (RgIn 0 j 1 ∧ rgN 0 j 1 ≤ big ∧ K (.own (.lst ((rgL 0 1 (rgN 0 j 1)).map D.int)))) := propext ⟨fun ⟨_, _, _, h1, h2⟩ => (by rw [rgA1] at h1; cases h1; exact h2), fun h => ⟨_, _, _, rgA1, h⟩⟩
theorem rgA2 {i j : Int} : rgArgs [.v (.int i), .v (.int j)] = some (i, j, 1) := (rfl)
theorem m_kLr2 {i j : Int} : (kLr K [.v (.int i), .v (.int j)]) = (RgIn i j 1 ∧ rgN i j 1 ≤ big ∧ K (.own (.lst ((rgL i 1 (rgN i j 1)).map D.int)))) := propext ⟨fun ⟨_, _, _, h1, h2⟩ => (by rw [rgA2] at h1; cases h1; exact h2), fun h => ⟨_, _, _, rgA2, h⟩⟩
theorem rgA3 {i j c : Int} : rgArgs [.v (.int i), .v (.int j), .v (.int c)] = some (i, j, c) := (rfl)
theorem m_kLr3 {i j c : Int} : (kLr K [.v (.int i), .v (.int j), .v (.int c)]) = (RgIn i j c ∧ rgN i j c ≤ big ∧ K (.own (.lst ((rgL i c (rgN i j c)).map D.int)))) := propext ⟨fun ⟨_, _, _, h1, h2⟩ => (by rw [rgA3] at h1; cases h1; exact h2), fun h => ⟨_, _, _, rgA3, h⟩⟩
def isaD (T : String) (u : D) (K : R → Prop) : Prop := ∃ r, isaB u T = some r ∧ K (.v (.bl r))
def kIs (T : String) (K : R → Prop) : R → Prop := fun x => ∃ r, isaB x.d T = some r ∧ K (.v (.bl r))
theorem m_isin {T : String} : (wE (.isin T a) δ K X) = (wE a δ (kIs T K) X) := (rfl)
theorem m_kIs {T : String} : (kIs T K x) = (isaD T x.d K) := (rfl)
theorem is_int_non  : (isaD "int" .non K) = (K (.v (.bl false))) := by unfold isaD; simp [isaB, tyN, tyAll]
theorem is_int_bl {u : Bool} : (isaD "int" (.bl u) K) = (K (.v (.bl true))) := by unfold isaD; simp [isaB, tyN, tyAll]
theorem is_int_int {u : Int} : (isaD "int" (.int u) K) = (K (.v (.bl true))) := by unfold isaD; simp [isaB, tyN, tyAll]
theorem is_int_str {u : Str} : (isaD "int" (.str u) K) = (K (.v (.bl false))) := by unfold isaD; simp [isaB, tyN, tyAll]
theorem is_int_lst {u : List D} : (isaD "int" (.lst u) K) = (K (.v (.bl false))) := by unfold isaD; simp [isaB, tyN, tyAll]
theorem is_int_tup {u : List D} : (isaD "int" (.tup u) K) = (K (.v (.bl false))) := by unfold isaD; simp [isaB, tyN, tyAll]
theorem is_int_dic {u : List (Key × D)} : (isaD "int" (.dic u) K) = (K (.v (.bl false))) := by unfold isaD; simp [isaB, tyN, tyAll]
theorem is_bool_non  : (isaD "bool" .non K) = (K (.v (.bl false))) := by unfold isaD; simp [isaB, tyN, tyAll]
theorem is_bool_bl {u : Bool} : (isaD "bool" (.bl u) K) = (K (.v (.bl true))) := by unfold isaD; simp [isaB, tyN, tyAll]
theorem is_bool_int {u : Int} : (isaD "bool" (.int u) K) = (K (.v (.bl false))) := by unfold isaD; simp [isaB, tyN, tyAll]
theorem is_bool_str {u : Str} : (isaD "bool" (.str u) K) = (K (.v (.bl false))) := by unfold isaD; simp [isaB, tyN, tyAll]
theorem is_bool_lst {u : List D} : (isaD "bool" (.lst u) K) = (K (.v (.bl false))) := by unfold isaD; simp [isaB, tyN, tyAll]
theorem is_bool_tup {u : List D} : (isaD "bool" (.tup u) K) = (K (.v (.bl false))) := by unfold isaD; simp [isaB, tyN, tyAll]
theorem is_bool_dic {u : List (Key × D)} : (isaD "bool" (.dic u) K) = (K (.v (.bl false))) := by unfold isaD; simp [isaB, tyN, tyAll]
theorem is_str_non  : (isaD "str" .non K) = (K (.v (.bl false))) := by unfold isaD; simp [isaB, tyN, tyAll]
theorem is_str_bl {u : Bool} : (isaD "str" (.bl u) K) = (K (.v (.bl false))) := by unfold isaD; simp [isaB, tyN, tyAll]
theorem is_str_int {u : Int} : (isaD "str" (.int u) K) = (K (.v (.bl false))) := by unfold isaD; simp [isaB, tyN, tyAll]
theorem is_str_str {u : Str} : (isaD "str" (.str u) K) = (K (.v (.bl true))) := by unfold isaD; simp [isaB, tyN, tyAll]
theorem is_str_lst {u : List D} : (isaD "str" (.lst u) K) = (K (.v (.bl false))) := by unfold isaD; simp [isaB, tyN, tyAll]
theorem is_str_tup {u : List D} : (isaD "str" (.tup u) K) = (K (.v (.bl false))) := by unfold isaD; simp [isaB, tyN, tyAll]
theorem is_str_dic {u : List (Key × D)} : (isaD "str" (.dic u) K) = (K (.v (.bl false))) := by unfold isaD; simp [isaB, tyN, tyAll]
theorem is_list_non  : (isaD "list" .non K) = (K (.v (.bl false))) := by unfold isaD; simp [isaB, tyN, tyAll]
theorem is_list_bl {u : Bool} : (isaD "list" (.bl u) K) = (K (.v (.bl false))) := by unfold isaD; simp [isaB, tyN, tyAll]
theorem is_list_int {u : Int} : (isaD "list" (.int u) K) = (K (.v (.bl false))) := by unfold isaD; simp [isaB, tyN, tyAll]
theorem is_list_str {u : Str} : (isaD "list" (.str u) K) = (K (.v (.bl false))) := by unfold isaD; simp [isaB, tyN, tyAll]
theorem is_list_lst {u : List D} : (isaD "list" (.lst u) K) = (K (.v (.bl true))) := by unfold isaD; simp [isaB, tyN, tyAll]
theorem is_list_tup {u : List D} : (isaD "list" (.tup u) K) = (K (.v (.bl false))) := by unfold isaD; simp [isaB, tyN, tyAll]
theorem is_list_dic {u : List (Key × D)} : (isaD "list" (.dic u) K) = (K (.v (.bl false))) := by unfold isaD; simp [isaB, tyN, tyAll]
theorem is_tuple_non  : (isaD "tuple" .non K) = (K (.v (.bl false))) := by unfold isaD; simp [isaB, tyN, tyAll]
theorem is_tuple_bl {u : Bool} : (isaD "tuple" (.bl u) K) = (K (.v (.bl false))) := by unfold isaD; simp [isaB, tyN, tyAll]
theorem is_tuple_int {u : Int} : (isaD "tuple" (.int u) K) = (K (.v (.bl false))) := by unfold isaD; simp [isaB, tyN, tyAll]
theorem is_tuple_str {u : Str} : (isaD "tuple" (.str u) K) = (K (.v (.bl false))) := by unfold isaD; simp [isaB, tyN, tyAll]
theorem is_tuple_lst {u : List D} : (isaD "tuple" (.lst u) K) = (K (.v (.bl false))) := by unfold isaD; simp [isaB, tyN, tyAll]
theorem is_tuple_tup {u : List D} : (isaD "tuple" (.tup u) K) = (K (.v (.bl true))) := by unfold isaD; simp [isaB, tyN, tyAll]
theorem is_tuple_dic {u : List (Key × D)} : (isaD "tuple" (.dic u) K) = (K (.v (.bl false))) := by unfold isaD; simp [isaB, tyN, tyAll]
theorem is_dict_non  : (isaD "dict" .non K) = (K (.v (.bl false))) := by unfold isaD; simp [isaB, tyN, tyAll]
theorem is_dict_bl {u : Bool} : (isaD "dict" (.bl u) K) = (K (.v (.bl false))) := by unfold isaD; simp [isaB, tyN, tyAll]
theorem is_dict_int {u : Int} : (isaD "dict" (.int u) K) = (K (.v (.bl false))) := by unfold isaD; simp [isaB, tyN, tyAll]
theorem is_dict_str {u : Str} : (isaD "dict" (.str u) K) = (K (.v (.bl false))) := by unfold isaD; simp [isaB, tyN, tyAll]
theorem is_dict_lst {u : List D} : (isaD "dict" (.lst u) K) = (K (.v (.bl false))) := by unfold isaD; simp [isaB, tyN, tyAll]
theorem is_dict_tup {u : List D} : (isaD "dict" (.tup u) K) = (K (.v (.bl false))) := by unfold isaD; simp [isaB, tyN, tyAll]
theorem is_dict_dic {u : List (Key × D)} : (isaD "dict" (.dic u) K) = (K (.v (.bl true))) := by unfold isaD; simp [isaB, tyN, tyAll]
def kIs2 (T T' : String) (K : R → Prop) : R → Prop := fun x => ∃ r r', isaB x.d T = some r ∧ isaB x.d T' = some r' ∧ K (.v (.bl (r || r')))
theorem m_isin2 {T T' : String} : (wE (.isin2 T T' a) δ K X) = (wE a δ (kIs2 T T' K) X) := (rfl)
def kEl (k : Option D → Prop) : R → Prop := fun r => r.fr = true ∧ k (some r.d)
def kCd (el : C) (δ : Env) (k : Option D → Prop) : R → Prop := fun x => condR x (wE el δ (kEl k) (fun _ => False)) (k none)
def stepC (tg : Tg) (cd el : C) (δ : Env) : D → (Option D → Prop) → Prop := lcStep tg (wTt cd) (wE el) δ
def stepN (el : C) (δ : Env) (k : Option D → Prop) : Prop := wE el δ (kEl k) fun _ => False
theorem m_stepNo {tg : Tg} {el : C} {k : Option D → Prop} : (stepC tg .no el δ d k) = (∃ δ', asgT tg d δ = some δ' ∧ wE el δ' (kEl k) fun _ => False) := by unfold stepC lcStep; simp only [wTt, wYes, if_true, ↓reduceIte]; rfl
theorem m_stepOpt {tg : Tg} {el : C} {k : Option D → Prop} : (stepC tg (.opt c) el δ d k) = (∃ δ', asgT tg d δ = some δ' ∧ wE c δ' (kCd el δ' k) fun _ => False) := (rfl)
theorem m_kEl {k : Option D → Prop} : (kEl k x) = (x.fr = true ∧ k (some x.d)) := (rfl)
theorem m_kCd {k : Option D → Prop} : (kCd c δ k x) = (condR x (wE c δ (kEl k) (fun _ => False)) (k none)) := (rfl)
def kLcE (K : R → Prop) : List D → Prop := fun acc => K (.own (.lst acc))
def kLc (tg : Tg) (cd el : C) (δ : Env) (K : R → Prop) : List Nat → List D → Prop := fun _ ds => ds.length ≤ big ∧ lcGo (stepC tg cd el δ) ds [] (kLcE K)
theorem m_lc {own : List (Str × Nat)} {tg : Tg} {it cd el : C} : (wE (.lc own tg it cd el) δ K X) = (noOw δ (own.map (·.2)) = true ∧ wI it δ (kLc tg cd el (wipeD δ (own.map (·.2))) K) X) := (rfl)
theorem m_kLc {tg : Tg} {cd el : C} {Js : List Nat} {ds : List D} : (kLc tg cd el δ K Js ds) = (ds.length ≤ big ∧ lcGo (stepC tg cd el δ) ds [] (kLcE K)) := (rfl)
theorem m_kLcE {ds : List D} : (kLcE K ds) = (K (.own (.lst ds))) := (rfl)
def kSq (KI : List Nat → List D → Prop) : R → Prop := fun r => ∃ ds, seqD r.d = some ds ∧ KI (slotsOf [r]) ds
theorem m_iseq {KI : List Nat → List D → Prop} : (wI (.iseq a) δ KI X) = (wE a δ (kSq KI) X) := (rfl)
theorem m_kSq1 {KI : List Nat → List D → Prop} {xs : List D} : (kSq KI (.v (.lst xs))) = (KI [] xs) := by unfold kSq; simp [seqD, R.d, slotsOf]
theorem m_kSq2 {KI : List Nat → List D → Prop} {xs : List D} : (kSq KI (.v (.tup xs))) = (KI [] xs) := by unfold kSq; simp [seqD, R.d, slotsOf]
theorem m_kSq3 {KI : List Nat → List D → Prop} {xs : List D} : (kSq KI (.own (.lst xs))) = (KI [] xs) := by unfold kSq; simp [seqD, R.d, slotsOf]
theorem m_kSq4 {KI : List Nat → List D → Prop} {xs : List D} : (kSq KI (.sl i (.lst xs))) = (KI [i] xs) := by unfold kSq; simp [seqD, R.d, slotsOf]
theorem m_kSq5 {KI : List Nat → List D → Prop} {s : Str} : (kSq KI (.v (.str s))) = (KI [] (strD s)) := by unfold kSq; simp [seqD, R.d, slotsOf]
def kRg (KI : List Nat → List D → Prop) : List R → Prop := fun rs => ∃ i j c, rgArgs rs = some (i, j, c) ∧ RgIn i j c ∧ KI [] ((rgL i c (rgN i j c)).map D.int)
theorem m_irange {KI : List Nat → List D → Prop} : (wI (.irange as) δ KI X) = (wA as δ (kRg KI) X) := (rfl)
theorem m_kRg1 {j : Int} {KI : List Nat → List D → Prop} : (kRg KI [.v (.int j)]) = (RgIn 0 j 1 ∧ KI [] ((rgL 0 1 (rgN 0 j 1)).map D.int)) := propext ⟨fun ⟨_, _, _, h1, h2⟩ => (by rw [rgA1] at h1; cases h1; exact h2), fun h => ⟨_, _, _, rgA1, h⟩⟩
theorem m_kRg2 {i j : Int} {KI : List Nat → List D → Prop} : (kRg KI [.v (.int i), .v (.int j)]) = (RgIn i j 1 ∧ KI [] ((rgL i 1 (rgN i j 1)).map D.int)) := propext ⟨fun ⟨_, _, _, h1, h2⟩ => (by rw [rgA2] at h1; cases h1; exact h2), fun h => ⟨_, _, _, rgA2, h⟩⟩
theorem m_kRg3 {i j c : Int} {KI : List Nat → List D → Prop} : (kRg KI [.v (.int i), .v (.int j), .v (.int c)]) = (RgIn i j c ∧ KI [] ((rgL i c (rgN i j c)).map D.int)) := propext ⟨fun ⟨_, _, _, h1, h2⟩ => (by rw [rgA3] at h1; cases h1; exact h2), fun h => ⟨_, _, _, rgA3, h⟩⟩
variable {s r1 s1 s2 : S}
def seqK (r : S) (p : Pst) : Env → Prop := fun δ => wS r δ p
def seqP (r : S) (p : Pst) : Pst := { p with nx := seqK r p }
theorem m_seqK  : (seqK s p δ) = (wS s δ p) := (rfl)
theorem m_seqP_rt  : ((seqP s p).rt) = (p.rt) := (rfl)
theorem m_seqP_bk  : ((seqP s p).bk) = (p.bk) := (rfl)
theorem m_seqP_ct  : ((seqP s p).ct) = (p.ct) := (rfl)
theorem m_seqP_ex  : ((seqP s p).ex) = (p.ex) := (rfl)
theorem m_seqP_nx  : ((seqP s p).nx) = (seqK s p) := (rfl)
theorem m_nil  : (wS .nil δ p) = (p.nx δ) := (rfl)
theorem m_cons  : (wS (.cons s r1) δ p) = (wS s δ (seqP r1 p)) := (rfl)
theorem m_frzB {Js1 : List Nat} : (wS (.frz Js1 r1) δ p) = (wS r1 (frzL δ Js1) p) := (rfl)
theorem m_pass  : (wS .pass δ p) = (p.nx δ) := (rfl)
theorem m_doc  : (wS .doc δ p) = (p.nx δ) := (rfl)
theorem m_brk  : (wS .brk δ p) = (p.bk δ) := (rfl)
theorem m_cont  : (wS .cont δ p) = (p.ct δ) := (rfl)
theorem m_never  : (wS .never δ p) = (False) := (rfl)
theorem m_retN  : (wS .retN δ p) = (p.rt false .non) := (rfl)
def kDrop (δ : Env) (p : Pst) : R → Prop := fun _ => p.nx δ
theorem m_expr  : (wS (.expr a) δ p) = (wE a δ (kDrop δ p) p.ex) := (rfl)
theorem m_kDrop  : (kDrop δ p x) = (p.nx δ) := (rfl)
theorem m_ret  : (wS (.ret a) δ p) = (wE a δ (retR p) p.ex) := (rfl)
theorem m_retR1  : (retR p (.v d)) = (p.rt false d) := (rfl)
theorem m_retR2  : (retR p (.own d)) = (p.rt true d) := (rfl)
theorem m_retR3  : (retR p (.sl i d)) = (p.rt true d) := (rfl)
def kAsg (i : Nat) (ow : Bool) (δ : Env) (p : Pst) : R → Prop := fun r => ∃ δ', asg1 i ow r δ = some δ' ∧ p.nx δ'
theorem m_asg {ow : Bool} : (wS (.asg i ow a) δ p) = (wE a δ (kAsg i ow δ p) p.ex) := (rfl)
theorem m_asgLc {ow : Bool} {own : List (Str × Nat)} {tg : Tg} {it cd el : C} : (wS (.asgLc i ow own tg it cd el) δ p) = (wE (.lc own tg it cd el) δ (kAsg i ow δ p) p.ex) := (rfl)
theorem m_kAsg1  : (kAsg i false δ p (.v d)) = (p.nx (δ.set i (.fz d))) := by unfold kAsg; simp [asg1, R.d]
theorem m_kAsg2  : (kAsg i false δ p (.own d)) = (p.nx (δ.set i (.fz d))) := by unfold kAsg; simp [asg1, R.d]
theorem m_kAsg3  : (kAsg i true δ p (.own d)) = (i < δ.length ∧ p.nx (δ.set i (.ow d))) := by unfold kAsg asg1; dsimp only; by_cases h : i < δ.length <;> simp [h]
def kUnp (is : List Nat) (δ : Env) (p : Pst) : R → Prop := fun r => r.fr = true ∧ ∃ δ', asgT (.many is) r.d δ = some δ' ∧ p.nx δ'
theorem m_unp {is : List Nat} : (wS (.unp is a) δ p) = (wE a δ (kUnp is δ p) p.ex) := (rfl)
theorem m_kUnp {is : List Nat} : (kUnp is δ p x) = (x.fr = true ∧ ∃ δ', asgT (.many is) x.d δ = some δ' ∧ p.nx δ') := (rfl)
theorem m_tgOne  : (asgT (.one i) d δ) = (some (δ.set i (.fz d))) := (rfl)
theorem m_tgMany {is : List Nat} {ds : List D} : (asgT (.many is) (.tup ds) δ) = (asgN is ds δ) := (rfl)
theorem m_nN  : (asgN [] [] δ) = (some δ) := (rfl)
theorem m_nC {is : List Nat} {ds : List D} : (asgN (i :: is) (d :: ds) δ) = (asgN is ds (δ.set i (.fz d))) := (rfl)
def kPar (ts : List (Nat × Bool)) (δ : Env) (p : Pst) : List R → Prop := fun rs => ∃ δ', asgM ts rs δ = some δ' ∧ p.nx δ'
def kParT (ts : List (Nat × Bool)) (δ : Env) (p : Pst) : List R → Prop := fun rs => rs.length ≤ big ∧ kPar ts δ p rs
theorem m_par2 {o1 o2 : Bool} : (wS (.par2 i o1 j o2 as) δ p) = (wA as δ (kPar [(i, o1), (j, o2)] δ p) p.ex) := (rfl)
theorem m_par3 {o1 o2 o3 : Bool} {l : Nat} : (wS (.par3 i o1 j o2 l o3 as) δ p) = (wA as δ (kPar [(i, o1), (j, o2), (l, o3)] δ p) p.ex) := (rfl)
theorem m_parT {ts : List (Nat × Bool)} : (wS (.parT ts as) δ p) = (wA as δ (kParT ts δ p) p.ex) := (rfl)
theorem m_kParT {ts : List (Nat × Bool)} : (kParT ts δ p rs) = (rs.length ≤ big ∧ kPar ts δ p rs) := (rfl)
theorem m_kParN  : (kPar [] δ p []) = (p.nx δ) := by unfold kPar; simp [asgM]
theorem m_kParF1 {ts : List (Nat × Bool)} : (kPar ((i, false) :: ts) δ p (.v d :: rs)) = (kPar ts (δ.set i (.fz d)) p rs) := by unfold kPar; simp [asgM, asg1, R.d]
theorem m_kParF2 {ts : List (Nat × Bool)} : (kPar ((i, false) :: ts) δ p (.own d :: rs)) = (kPar ts (δ.set i (.fz d)) p rs) := by unfold kPar; simp [asgM, asg1, R.d]
theorem m_kParT1 {ts : List (Nat × Bool)} : (kPar ((i, true) :: ts) δ p (.own d :: rs)) = (i < δ.length ∧ kPar ts (δ.set i (.ow d)) p rs) := by unfold kPar; by_cases h : i < δ.length <;> simp [asgM, asg1, h]
def kIfS (s1 s2 : S) (δ : Env) (p : Pst) : R → Prop := fun x => condR x (wS s1 δ p) (wS s2 δ p)
theorem m_ifs  : (wS (.ifs c s1 s2) δ p) = (wE c δ (kIfS s1 s2 δ p) p.ex) := (rfl)
theorem m_kIfS  : (kIfS s1 s2 δ p x) = (condR x (wS s1 δ p) (wS s2 δ p)) := (rfl)
def kFor (tg : Tg) (s : S) (δ : Env) (p : Pst) : List Nat → List D → Prop := fun Js ds => forGo tg (wS s) ds (frzL δ Js) p
theorem m_for {tg : Tg} {it : C} : (wS (.for_ tg it s) δ p) = (wI it δ (kFor tg s δ p) p.ex) := (rfl)
theorem m_kFor {tg : Tg} {Js : List Nat} {ds : List D} : (kFor tg s δ p Js ds) = (forGo tg (wS s) ds (frzL δ Js) p) := (rfl)
def noEx (p : Pst) : Pst := { p with ex := fun _ => False }
theorem m_noEx_nx  : ((noEx p).nx) = (p.nx) := (rfl)
theorem m_noEx_rt  : ((noEx p).rt) = (p.rt) := (rfl)
theorem m_noEx_bk  : ((noEx p).bk) = (p.bk) := (rfl)
theorem m_noEx_ct  : ((noEx p).ct) = (p.ct) := (rfl)
theorem m_noEx_ex  : ((noEx p).ex) = (fun _ => False) := (rfl)
theorem m_forK1 {tg : Tg} : (wS (.forK tg i s) δ p) = (∃ kds, δ[i]? = some (.fz (.dic kds)) ∧ (kds.all fun kv => keyOk kv.1) = true ∧ forGo tg (wS s) (kds.map fun kv => keyV kv.1) δ (noEx p)) := (rfl)
theorem keyV_i {n : Int} : (keyV (.inl n)) = (.int n) := (rfl)
theorem keyV_s {t : Str} : (keyV (.inr t)) = (.str t) := (rfl)
theorem keyOk_i {n : Int} : (keyOk (.inl n)) = (true) := (rfl)
def kSet2 (i : Nat) (u : D) (δ : Env) (p : Pst) (rv : R) : R → Prop := fun rk => rv.fr = true ∧ setD u rk.d rv.d fun d' => p.nx (δ.set i (.ow d'))
def kSet1 (i : Nat) (u : D) (kk : C) (δ : Env) (p : Pst) : R → Prop := fun rv => wE kk δ (kSet2 i u δ p rv) p.ex
theorem m_setI {kk v : C} : (wS (.setI i kk v) δ p) = (∃ u, δ[i]? = some (.ow u) ∧ ((∃ xs, u = .lst xs) ∨ ∃ kds, u = .dic kds) ∧ wE v δ (kSet1 i u kk δ p) p.ex) := (rfl)
theorem m_kSet1  : (kSet1 i d a δ p x) = (wE a δ (kSet2 i d δ p x) p.ex) := (rfl)
theorem m_kSetL {xs : List D} {n : Int} : (kSet2 i (.lst xs) δ p x (.v (.int n))) = (x.fr = true ∧ ∃ j, ixN xs.length n = some j ∧ p.nx (δ.set i (.ow (.lst (xs.set j x.d))))) := by unfold kSet2 setD; simp [R.d]
theorem m_kSetD {kds : List (Key × D)} : (kSet2 i (.dic kds) δ p x y) = (x.fr = true ∧ ∃ kk, keyD y.d = some kk ∧ kds.length < big ∧ p.nx (δ.set i (.ow (.dic (putD kds kk x.d))))) := by unfold kSet2 setD; simp
def kSt3 (δ : Env) (p : Pst) (rv rb : R) : R → Prop := fun rk => setStS rb.d rk.d rv.d (p.nx δ)
def kSt2 (kk : C) (δ : Env) (p : Pst) (rv : R) : R → Prop := fun rb => wE kk δ (kSt3 δ p rv rb) p.ex
def kSt1 (o kk : C) (δ : Env) (p : Pst) : R → Prop := fun rv => wE o δ (kSt2 kk δ p rv) p.ex
theorem m_setSt  : (wS (.setSt a b c) δ p) = (wE c δ (kSt1 a b δ p) p.ex) := (rfl)
theorem m_kSt1  : (kSt1 a b δ p x) = (wE a δ (kSt2 b δ p x) p.ex) := (rfl)
theorem m_kSt2  : (kSt2 b δ p x y) = (wE b δ (kSt3 δ p x y) p.ex) := (rfl)
theorem m_kSt3  : (kSt3 δ p x y z) = (setStS y.d z.d x.d (p.nx δ)) := (rfl)
theorem m_sst {l : Nat} {i n : Int} {P : Prop} : (setStS (.st l) (.int i) (.int n) P) = ((i = 1 ∨ (i = 2 ∧ n < 2147483647)) ∧ 0 ≤ n ∧ P) := (rfl)
theorem m_sstc {l : Nat} {i z : Int} {P : Prop} : (setStS (.stc l) (.int i) (.int z) P) = ((1 ≤ l → l ≤ 63 → 0 ≤ i ∧ i < l) ∧ 0 ≤ z ∧ z.natAbs < 2 ^ 1048577 ∧ P) := (rfl)
def kAug (op : Operator) (i : Nat) (n : Int) (δ : Env) (p : Pst) : R → Prop := fun r => ∃ m, r.d = .int m ∧ p.nx (δ.set i (.fz (.int (augF op n m))))
theorem m_aug {op : Operator} : (wS (.aug op i a) δ p) = (∃ n, δ[i]? = some (.fz (.int n)) ∧ wE a δ (kAug op i n δ p) p.ex) := (rfl)
theorem m_kAug {op : Operator} {n m : Int} : (kAug op i n δ p (.v (.int m))) = (p.nx (δ.set i (.fz (.int (augF op n m))))) := ex_int
theorem m_augAdd {n m : Int} : (augF .Add n m) = (n + m) := (rfl)
theorem m_augSub {n m : Int} : (augF .Sub n m) = (n - m) := (rfl)
def kAugL (i : Nat) (xs : List D) (δ : Env) (p : Pst) : R → Prop := fun r => ∃ ys, r.d = .lst ys ∧ xs.length + ys.length ≤ big ∧ p.nx (δ.set i (.ow (.lst (xs ++ ys))))
theorem m_augL  : (wS (.augL i a) δ p) = (∃ xs, δ[i]? = some (.ow (.lst xs)) ∧ wE a δ (kAugL i xs δ p) p.ex) := (rfl)
theorem m_kAugL {xs : List D} : (kAugL i xs δ p x) = (∃ ys, x.d = .lst ys ∧ xs.length + ys.length ≤ big ∧ p.nx (δ.set i (.ow (.lst (xs ++ ys))))) := (rfl)
def kMut (i : Nat) (m : Mt) (ds : List D) (δ : Env) (p : Pst) : List R → Prop := fun rs => mutS m (.lst ds) rs fun d' _ => p.nx (δ.set i (.ow d'))
def kMutA (j i : Nat) (m : Mt) (ds : List D) (δ : Env) (p : Pst) : List R → Prop := fun rs => mutS m (.lst ds) rs fun d' x => p.nx ((δ.set i (.ow d')).set j (.fz x))
def kMutP (j i : Nat) (m : Mt) (ds es : List D) (δ : Env) (p : Pst) : List R → Prop := fun rs => mutS m (.lst ds) rs fun d' x => p.nx ((δ.set i (.ow d')).set j (.ow (.lst (es ++ [x]))))
theorem m_mut0 {m : Mt} : (wS (.mut0 i m) δ p) = (∃ ds, δ[i]? = some (.ow (.lst ds)) ∧ kMut i m ds δ p []) := (rfl)
theorem m_mut1 {m : Mt} : (wS (.mut1 i m as) δ p) = (∃ ds, δ[i]? = some (.ow (.lst ds)) ∧ wA as δ (kMut i m ds δ p) p.ex) := (rfl)
theorem m_mutA0 {m : Mt} : (wS (.mutA0 j i m) δ p) = (∃ ds, δ[i]? = some (.ow (.lst ds)) ∧ kMutA j i m ds δ p []) := (rfl)
theorem m_mutA1 {m : Mt} : (wS (.mutA1 j i m as) δ p) = (∃ ds, δ[i]? = some (.ow (.lst ds)) ∧ wA as δ (kMutA j i m ds δ p) p.ex) := (rfl)
theorem m_mutP0 {m : Mt} : (wS (.mutP0 j i m) δ p) = (j ≠ i ∧ ∃ ds es, δ[i]? = some (.ow (.lst ds)) ∧ δ[j]? = some (.ow (.lst es)) ∧ es.length < big ∧ kMutP j i m ds es δ p []) := (rfl)
theorem m_mutP1 {m : Mt} : (wS (.mutP1 j i m as) δ p) = (j ≠ i ∧ ∃ ds es, δ[i]? = some (.ow (.lst ds)) ∧ δ[j]? = some (.ow (.lst es)) ∧ es.length < big ∧ wA as δ (kMutP j i m ds es δ p) p.ex) := (rfl)
theorem mt_append {ds : List D} : (kMut i .append ds δ p [x]) = (x.fr = true ∧ ds.length < big ∧ p.nx (δ.set i (.ow (.lst (ds ++ [x.d]))))) := by unfold kMut mutS; simp
theorem mt_clear {ds : List D} : (kMut i .clear ds δ p []) = (p.nx (δ.set i (.ow (.lst [])))) := by unfold kMut mutS; simp
theorem mt_reverse {ds : List D} : (kMut i .reverse ds δ p []) = (p.nx (δ.set i (.ow (.lst ds.reverse)))) := by unfold kMut mutS; simp
theorem mt_popA {ds : List D} : (kMutA j i .pop ds δ p []) = (∃ x, ds[ds.length - 1]? = some x ∧ p.nx ((δ.set i (.ow (.lst ds.dropLast))).set j (.fz x))) := by unfold kMutA mutS; simp
theorem mt_popAtA {ds : List D} {n : Int} : (kMutA j i .popAt ds δ p [.v (.int n)]) = (ds.length ≤ big ∧ ∃ l, ixN ds.length n = some l ∧ ∃ x, ds[l]? = some x ∧ p.nx ((δ.set i (.ow (.lst (ds.eraseIdx l)))).set j (.fz x))) := by unfold kMutA mutS; simp [R.d]
theorem mt_popAtP {ds : List D} {es : List D} {n : Int} : (kMutP j i .popAt ds es δ p [.v (.int n)]) = (ds.length ≤ big ∧ ∃ l, ixN ds.length n = some l ∧ ∃ x, ds[l]? = some x ∧ p.nx ((δ.set i (.ow (.lst (ds.eraseIdx l)))).set j (.ow (.lst (es ++ [x]))))) := by unfold kMutP mutS; simp [R.d]
def kLg (step : D → (Option D → Prop) → Prop) (ds acc : List D) (KL : List D → Prop) : Option D → Prop := fun o => match o with | some e => lcGo step ds (acc ++ [e]) KL | none => lcGo step ds acc KL
theorem lg_nil {st : D → (Option D → Prop) → Prop} {acc : List D} {KL : List D → Prop} : (lcGo st [] acc KL) = (KL acc) := (rfl)
theorem lg_cons {st : D → (Option D → Prop) → Prop} {ds acc : List D} {KL : List D → Prop} : (lcGo st (d :: ds) acc KL) = (st d (kLg st ds acc KL)) := (rfl)
theorem m_kLgS {st : D → (Option D → Prop) → Prop} {ds acc : List D} {KL : List D → Prop} : (kLg st ds acc KL (some d)) = (lcGo st ds (acc ++ [d]) KL) := (rfl)
theorem m_kLgN {st : D → (Option D → Prop) → Prop} {ds acc : List D} {KL : List D → Prop} : (kLg st ds acc KL none) = (lcGo st ds acc KL) := (rfl)
def forK (tg : Tg) (s : S) (ds : List D) (p : Pst) : Env → Prop := fun δ => forGo tg (wS s) ds δ p
def forP (tg : Tg) (s : S) (ds : List D) (p : Pst) : Pst := { nx := forK tg s ds p, rt := p.rt, bk := p.nx, ct := forK tg s ds p, ex := p.ex }
theorem m_forK {tg : Tg} {ds : List D} : (forK tg s ds p δ) = (forGo tg (wS s) ds δ p) := (rfl)
theorem fg_nil {tg : Tg} : (forGo tg (wS s) [] δ p) = (p.nx δ) := (rfl)
theorem fg_cons {tg : Tg} {ds : List D} : (forGo tg (wS s) (d :: ds) δ p) = (∃ δ', asgT tg d δ = some δ' ∧ wS s δ' (forP tg s ds p)) := (rfl)
theorem m_forP_nx {tg : Tg} {ds : List D} : ((forP tg s ds p).nx) = (forK tg s ds p) := (rfl)
theorem m_forP_ct {tg : Tg} {ds : List D} : ((forP tg s ds p).ct) = (forK tg s ds p) := (rfl)
theorem m_forP_bk {tg : Tg} {ds : List D} : ((forP tg s ds p).bk) = (p.nx) := (rfl)
theorem m_forP_rt {tg : Tg} {ds : List D} : ((forP tg s ds p).rt) = (p.rt) := (rfl)
theorem m_forP_ex {tg : Tg} {ds : List D} : ((forP tg s ds p).ex) = (p.ex) := (rfl)
theorem cast_lit {n : Nat} : (((no_index (OfNat.ofNat n) : Nat) : Int)) = ((OfNat.ofNat n : Int)) := (rfl)
theorem m_frz0  : (frzL δ []) = (δ) := (rfl)
def frzK (i : Nat) (δ : Env) (o : Option Sl) : Env := match o with | some (.ow x) => δ.set i (.fz x) | _ => δ
theorem m_frz1 {Js1 : List Nat} : (frzL δ (i :: Js1)) = (frzK i (frzL δ Js1) (frzL δ Js1)[i]?) := (rfl)
theorem m_frzO  : (frzK i δ (some (.ow d))) = (δ.set i (.fz d)) := (rfl)
theorem m_frzF  : (frzK i δ (some (.fz d))) = (δ) := (rfl)
theorem m_frzU  : (frzK i δ (some .un)) = (δ) := (rfl)
def kWh (s : S) (nx' : Env → Prop) (δ : Env) (p : Pst) : R → Prop := fun x => condR x (wS s δ { nx := nx', rt := p.rt, bk := p.nx, ct := nx', ex := p.ex }) (p.nx δ)
theorem m_kWh {nx' : Env → Prop} : kWh s nx' δ p x = condR x (wS s δ { nx := nx', rt := p.rt, bk := p.nx, ct := nx', ex := p.ex }) (p.nx δ) := (rfl)
theorem wh_rule (I : Nat → Env → Prop) (m : Nat) (h0 : I m δ) (turn : ∀ m δ', I m δ' → ∀ nx' : Env → Prop, (∀ m' δ'', m' < m → I m' δ'' → nx' δ'') → wE c δ' (kWh s nx' δ' p) p.ex) : wS (.whl c s) δ p :=
  ⟨I, ⟨m, h0⟩, fun m δ' h => turn m δ' h (fun δ'' => ∃ m', m' < m ∧ I m' δ'') fun m' _ h1 h2 => ⟨m', h1, h2⟩⟩
theorem for_rule {tg : Tg} (I : List D → Env → Prop) {ds : List D} (h0 : I ds δ) (hstep : ∀ d r δ (nx' : Env → Prop), I (d :: r) δ → (∀ δ', I r δ' → nx' δ') → ∃ δ', asgT tg d δ = some δ' ∧ wS s δ' { nx := nx', rt := p.rt, bk := p.nx, ct := nx', ex := p.ex })
    (hend : ∀ δ, I [] δ → p.nx δ) : forGo tg (wS s) ds δ p := forGo_inv I hstep hend ds δ h0
theorem for_range {tg : Tg} {n : Int} (I : Nat → Env → Prop) (h0 : I 0 δ) (hstep : ∀ (j : Nat) δ (nx' : Env → Prop), (j : Int) < n → I j δ → (∀ δ', I (j + 1) δ' → nx' δ') → ∃ δ', asgT tg (.int j) δ = some δ' ∧ wS s δ' { nx := nx', rt := p.rt, bk := p.nx, ct := nx', ex := p.ex })
    (hend : ∀ δ, I n.toNat δ → p.nx δ) : forGo tg (wS s) ((rgL 0 1 (rgN 0 n 1)).map D.int) δ p := by
  have e : (rgL 0 1 (rgN 0 n 1)).map D.int = ((List.range n.toNat).drop 0).map fun (i : Nat) => D.int (i : Int) := by
    rw [rgN_one, rgL_one, Int.sub_zero, List.drop_zero, List.map_map]
    rfl
  rw [e]
  refine for_rule (fun rem δ => ∃ j, j ≤ n.toNat ∧ rem = ((List.range n.toNat).drop j).map (fun (i : Nat) => D.int (i : Int)) ∧ I j δ) ⟨0, Nat.zero_le _, rfl, h0⟩ ?_ ?_
  · rintro d r δ nx' ⟨j, hj, hr, hI⟩ hn
    have hlt : j < n.toNat := by
      by_cases h : j < n.toNat
      · exact h
      · rw [List.drop_eq_nil_of_le (by rw [List.length_range]; omega)] at hr
        cases hr
    rw [List.drop_eq_getElem_cons (by rw [List.length_range]; exact hlt), List.getElem_range, List.map_cons] at hr
    injection hr with h1 h2
    subst h1
    exact hstep j δ nx' (by omega) hI fun δ' h' => hn δ' ⟨j + 1, hlt, h2, h'⟩
  · rintro δ ⟨j, hj, hr, hI⟩
    have : n.toNat ≤ j := by
      have h := congrArg List.length hr
      rw [List.length_map, List.length_drop, List.length_range] at h
      simp at h
      omega
    rw [show j = n.toNat by omega] at hI
    exact hend δ hI
end
end G
set_option maxRecDepth 100000
set_option maxHeartbeats 4000000
namespace G
open PySem PySem.Spec PyProof.Rows L2
section
variable {δ : Env} {K : R → Prop} {KA : List R → Prop} {X : Xn → Prop} {p : Pst} {a b c r as o kas : C} {i j : Nat} {d : D} {x y z : R} {rs : List R} {cn f m : Str} {S : FSpec}
theorem map_str {xs ys : List Str} : (xs.map D.str = ys.map D.str) = (xs = ys) := propext ⟨fun h => by
  induction xs generalizing ys with
  | nil => cases ys with
    | nil => rfl
    | cons y ys => cases h
  | cons x xs ih => cases ys with
    | nil => cases h
    | cons y ys =>
      rw [List.map_cons, List.map_cons] at h
      injection h with h1 h2
      cases h1
      rw [ih h2], fun h => by rw [h]⟩
theorem map_int {xs ys : List Int} : (xs.map D.int = ys.map D.int) = (xs = ys) := propext ⟨fun h => by
  induction xs generalizing ys with
  | nil => cases ys with
    | nil => rfl
    | cons y ys => cases h
  | cons x xs ih => cases ys with
    | nil => cases h
    | cons y ys =>
      rw [List.map_cons, List.map_cons] at h
      injection h with h1 h2
      cases h1
      rw [ih h2], fun h => by rw [h]⟩
theorem r_InS {s t : Str} : (relD .In (.str s) (.str t) K) = (K (.v (.bl (inStr s t)))) := by show (∃ u, _ ∧ K (.v (.bl (false != inStr u t)))) = _; simp [Rd_v]
theorem r_NotInS {s t : Str} : (relD .NotIn (.str s) (.str t) K) = (K (.v (.bl (!inStr s t)))) := by show (∃ u, _ ∧ K (.v (.bl (true != inStr u t)))) = _; simp [Rd_v]
def is2D (T T' : String) (d : D) (K : R → Prop) : Prop := ∃ r r', isaB d T = some r ∧ isaB d T' = some r' ∧ K (.v (.bl (r || r')))
theorem m_kIs2 {T T' : String} : (kIs2 T T' K x) = (is2D T T' x.d K) := (rfl)
theorem is2_lt_non  : (is2D "list" "tuple" .non K) = (K (.v (.bl false))) := by unfold is2D; simp [isaB, tyN, tyAll]
theorem is2_lt_bl {u : Bool} : (is2D "list" "tuple" (.bl u) K) = (K (.v (.bl false))) := by unfold is2D; simp [isaB, tyN, tyAll]
theorem is2_lt_int {u : Int} : (is2D "list" "tuple" (.int u) K) = (K (.v (.bl false))) := by unfold is2D; simp [isaB, tyN, tyAll]
theorem is2_lt_str {u : Str} : (is2D "list" "tuple" (.str u) K) = (K (.v (.bl false))) := by unfold is2D; simp [isaB, tyN, tyAll]
theorem is2_lt_lst {u : List D} : (is2D "list" "tuple" (.lst u) K) = (K (.v (.bl true))) := by unfold is2D; simp [isaB, tyN, tyAll]
theorem is2_lt_tup {u : List D} : (is2D "list" "tuple" (.tup u) K) = (K (.v (.bl true))) := by unfold is2D; simp [isaB, tyN, tyAll]
theorem is2_lt_dic {u : List (Key × D)} : (is2D "list" "tuple" (.dic u) K) = (K (.v (.bl false))) := by unfold is2D; simp [isaB, tyN, tyAll]
def fldD (cn f : Str) (d : D) (K : R → Prop) : Prop := ∃ fs e, d = .ins cn fs ∧ fs.lookup f = some e ∧ K (.v e)
def kFld (cn f : Str) (K : R → Prop) : R → Prop := fun r => fldD cn f r.d K
theorem m_fld  : (wE (.fld cn f a) δ K X) = (wE a δ (kFld cn f K) X) := (rfl)
theorem m_kFld  : (kFld cn f K x) = (fldD cn f x.d K) := (rfl)
theorem m_fldD {fs : List (Str × D)} : (fldD cn f (.ins cn fs) K) = (∃ e, fs.lookup f = some e ∧ K (.v e)) := propext ⟨fun ⟨_, e, h, q⟩ => (by cases h; exact ⟨e, q⟩), fun ⟨e, q⟩ => ⟨fs, e, rfl, q⟩⟩
def insOk (cn m : Str) (d : D) : Prop := ∃ fs, d = .ins cn fs ∧ fs.lookup m = none
def kMe2 (S : FSpec) (r : R) (K : R → Prop) (X : Xn → Prop) : List R → Prop := fun rs => kCall S K X (r :: rs)
def kMe1 (cn m : Str) (S : FSpec) (as : C) (δ : Env) (K : R → Prop) (X : Xn → Prop) : R → Prop := fun r => insOk cn m r.d ∧ wA as δ (kMe2 S r K X) X
theorem m_meth  : (wE (.meth cn m S o as) δ K X) = (wE o δ (kMe1 cn m S as δ K X) X) := (rfl)
theorem m_kMe1  : (kMe1 cn m S as δ K X x) = (insOk cn m x.d ∧ wA as δ (kMe2 S x K X) X) := (rfl)
theorem m_insOk {fs : List (Str × D)} : (insOk cn m (.ins cn fs)) = (fs.lookup m = none) := propext ⟨fun ⟨_, h, q⟩ => (by cases h; exact q), fun q => ⟨fs, rfl, q⟩⟩
theorem m_kMe2  : (kMe2 S x K X rs) = (kCall S K X (x :: rs)) := (rfl)
theorem m_mk  : (wE (.mk cn S as) δ K X) = (wA as δ (kCall S K X) X) := (rfl)
def kCk2 (S : FSpec) (n l : Nat) (perm : List Nat) (rs : List R) (K : R → Prop) (X : Xn → Prop) : List R → Prop := fun zs => rs.length = n ∧ zs.length = l ∧ kCall S K X (permL perm (rs ++ zs))
def kCk1 (S : FSpec) (n l : Nat) (perm : List Nat) (kas : C) (δ : Env) (K : R → Prop) (X : Xn → Prop) : List R → Prop := fun rs => wA kas δ (kCk2 S n l perm rs K X) X
theorem m_callK {n : Nat} {perm : List Nat} {ks : List Str} : (wE (.callK f S n ks perm as kas) δ K X) = (wA as δ (kCk1 S n ks.length perm kas δ K X) X) := (rfl)
theorem m_kCk1 {n l : Nat} {perm : List Nat} : (kCk1 S n l perm kas δ K X rs) = (wA kas δ (kCk2 S n l perm rs K X) X) := (rfl)
theorem m_kCk2 {n l : Nat} {perm : List Nat} {zs : List R} : (kCk2 S n l perm rs K X zs) = (rs.length = n ∧ zs.length = l ∧ kCall S K X (permL perm (rs ++ zs))) := (rfl)
def kMk2 (S : FSpec) (l : Nat) (perm : List Nat) (r : R) (K : R → Prop) (X : Xn → Prop) : List R → Prop := fun zs => ([] : List R).length = 0 ∧ zs.length = l ∧ kCall S K X (permL perm (r :: [] ++ zs))
def kMk1 (cn m : Str) (S : FSpec) (l : Nat) (perm : List Nat) (kas : C) (δ : Env) (K : R → Prop) (X : Xn → Prop) : R → Prop := fun r => insOk cn m r.d ∧ wA kas δ (kMk2 S l perm r K X) X
theorem m_methK {perm : List Nat} {ks : List Str} : (wE (.methK cn m S ks perm o kas) δ K X) = (wE o δ (kMk1 cn m S ks.length perm kas δ K X) X) := (rfl)
theorem m_kMk1 {l : Nat} {perm : List Nat} : (kMk1 cn m S l perm kas δ K X x) = (insOk cn m x.d ∧ wA kas δ (kMk2 S l perm x K X) X) := (rfl)
theorem m_kMk2 {l : Nat} {perm : List Nat} {zs : List R} : (kMk2 S l perm x K X zs) = (zs.length = l ∧ kCall S K X (permL perm (x :: zs))) := by unfold kMk2; simp
def kDv (rk : R) (k : Option D → Prop) : R → Prop := fun r => (keyD rk.d).isSome = true ∧ r.fr = true ∧ k (some (.tup [rk.d, r.d]))
def kDk (el : C) (δ : Env) (k : Option D → Prop) : R → Prop := fun rk => wE el δ (kDv rk k) (fun _ => False)
def kDcd (kx el : C) (δ : Env) (k : Option D → Prop) : R → Prop := fun x => condR x (wE kx δ (kDk el δ k) (fun _ => False)) (k none)
def stepD (tg : Tg) (cd kx el : C) (δ : Env) : D → (Option D → Prop) → Prop := dcStep tg (wTt cd) (wE kx) (wE el) δ
theorem m_dstepNo {tg : Tg} {kx el : C} {k : Option D → Prop} : (stepD tg .no kx el δ d k) = (∃ δ', asgT tg d δ = some δ' ∧ wE kx δ' (kDk el δ' k) fun _ => False) := by unfold stepD dcStep; simp only [wTt, wYes, if_true, ↓reduceIte]; rfl
theorem m_dstepOpt {tg : Tg} {kx el : C} {k : Option D → Prop} : (stepD tg (.opt c) kx el δ d k) = (∃ δ', asgT tg d δ = some δ' ∧ wE c δ' (kDcd kx el δ' k) fun _ => False) := (rfl)
theorem m_kDcd {kx el : C} {k : Option D → Prop} : (kDcd kx el δ k x) = (condR x (wE kx δ (kDk el δ k) (fun _ => False)) (k none)) := (rfl)
theorem m_kDk {el : C} {k : Option D → Prop} : (kDk el δ k x) = (wE el δ (kDv x k) (fun _ => False)) := (rfl)
theorem m_kDv {k : Option D → Prop} : (kDv x k y) = ((keyD x.d).isSome = true ∧ y.fr = true ∧ k (some (.tup [x.d, y.d]))) := (rfl)
def kDcE (K : R → Prop) : List D → Prop := fun acc => K (.own (.dic (mergeD [] (acc.map prD))))
def kDc (tg : Tg) (cd kx el : C) (δ : Env) (K : R → Prop) : List Nat → List D → Prop := fun _ ds => ds.length ≤ big ∧ lcGo (stepD tg cd kx el δ) ds [] (kDcE K)
theorem m_dc {tg : Tg} {kx el cd it : C} {own : List (Str × Nat)} : (wE (.dc own tg it cd kx el) δ K X) = (noOw δ (own.map (·.2)) = true ∧ wI it δ (kDc tg cd kx el (wipeD δ (own.map (·.2))) K) X) := (rfl)
theorem m_kDc {tg : Tg} {kx el cd : C} {Js : List Nat} {ds : List D} : (kDc tg cd kx el δ K Js ds) = (ds.length ≤ big ∧ lcGo (stepD tg cd kx el δ) ds [] (kDcE K)) := (rfl)
theorem m_kDcE {ds : List D} : (kDcE K ds) = (K (.own (.dic (mergeD [] (ds.map prD))))) := (rfl)
def kBi (b : Bn2) (K : R → Prop) : List R → Prop := fun rs => b.sem rs K
theorem m_bn2 {b2 : Bn2} : (wE (.bn2 b2 as) δ K X) = (wA as δ (kBi b2 K) X) := (rfl)
def dictD (d : D) (K : R → Prop) : Prop := (∃ ps, d = .lst ps ∧ ps.all isPr = true ∧ ps.length ≤ big ∧ K (.own (.dic (mergeD [] (ps.map prD))))) ∨ ∃ kds, d = .dic kds ∧ K (.own (.dic kds))
theorem m_dict  : (kBi .dict K [x]) = (dictD x.d K) := propext ⟨fun ⟨_, e, h⟩ => (by cases e; exact h), fun h => ⟨x, rfl, h⟩⟩
theorem m_dictL {ps : List D} : (dictD (.lst ps) K) = (ps.all isPr = true ∧ ps.length ≤ big ∧ K (.own (.dic (mergeD [] (ps.map prD))))) := by unfold dictD; simp
theorem m_dictD {kds : List (Key × D)} : (dictD (.dic kds) K) = (K (.own (.dic kds))) := by unfold dictD; simp
def intD (d : D) (K : R → Prop) : Prop := (∃ i, d = .int i ∧ K (.v (.int i))) ∨ ∃ t, d = .bl t ∧ K (.v (.int (b2i t)))
theorem m_int  : (kBi .int K [x]) = (intD x.d K) := propext ⟨fun ⟨_, e, h⟩ => (by cases e; exact h), fun h => ⟨x, rfl, h⟩⟩
theorem m_intI {n : Int} : (intD (.int n) K) = (K (.v (.int n))) := by unfold intD; simp
theorem m_intB {t : Bool} : (intD (.bl t) K) = (K (.v (.int (b2i t)))) := by unfold intD; simp
def mxD (mx : Bool) (d : D) (K : R → Prop) : Prop := ∃ ns : List Int, d = .lst (ns.map D.int) ∧ ns ≠ [] ∧ ∀ m ∈ ns, (∀ y ∈ ns, if mx then y ≤ m else m ≤ y) → K (.v (.int m))
theorem m_maxL  : (kBi .maxL K [x]) = (mxD true x.d K) := propext ⟨fun ⟨_, ns, e, h⟩ => (by cases e; exact ⟨ns, h⟩), fun ⟨ns, h⟩ => ⟨x, ns, rfl, h⟩⟩
theorem m_minL  : (kBi .minL K [x]) = (mxD false x.d K) := propext ⟨fun ⟨_, ns, e, h⟩ => (by cases e; exact ⟨ns, h⟩), fun ⟨ns, h⟩ => ⟨x, ns, rfl, h⟩⟩
def cntD (d : D) (K : R → Prop) : Prop := ∃ xs : List Str, (d = .lst (xs.map D.str) ∨ d = .tup (xs.map D.str)) ∧ xs.length ≤ 1000 ∧ K (.v (.int (GS.cnt xs)))
def kCnt (K : R → Prop) : R → Prop := fun r => cntD r.d K
theorem m_cnt  : (wE (.cnt a) δ K X) = (wE a δ (kCnt K) X) := (rfl)
theorem m_kCnt  : (kCnt K x) = (cntD x.d K) := (rfl)
theorem m_cntL {xs : List Str} : (cntD (.lst (xs.map D.str)) K) = (xs.length ≤ 1000 ∧ K (.v (.int (GS.cnt xs)))) := by unfold cntD; simp [map_str]
theorem m_cntT {xs : List Str} : (cntD (.tup (xs.map D.str)) K) = (xs.length ≤ 1000 ∧ K (.v (.int (GS.cnt xs)))) := by unfold cntD; simp [map_str]
def kRev (K : R → Prop) : R → Prop := fun r => ∃ xs, r.d = .lst xs ∧ K (.own (.lst xs.reverse))
theorem m_rev  : (wE (.rev a) δ K X) = (wE a δ (kRev K) X) := (rfl)
theorem m_kRev  : (kRev K x) = (∃ xs, x.d = .lst xs ∧ K (.own (.lst xs.reverse))) := (rfl)
def kBm2 (bm : Bm) (r : R) (K : R → Prop) : List R → Prop := fun rs => bm.sem r rs K
def kBm1 (bm : Bm) (as : C) (δ : Env) (K : R → Prop) (X : Xn → Prop) : R → Prop := fun r => tyB bm.ty r.d = true ∧ wA as δ (kBm2 bm r K) X
theorem m_bm {bm : Bm} : (wE (.bm bm o as) δ K X) = (wE o δ (kBm1 bm as δ K X) X) := (rfl)
theorem m_kBm1 {bm : Bm} : (kBm1 bm as δ K X x) = (tyB bm.ty x.d = true ∧ wA as δ (kBm2 bm x K) X) := (rfl)
theorem m_tyS {s : Str} : (tyB (Bm.ty .join) (.str s)) = (true) := rfl
theorem m_tyL {xs : List D} : (tyB (Bm.ty .index) (.lst xs)) = (true) := rfl
def joinD (d e : D) (K : R → Prop) : Prop := ∃ (s : Str) (ys : List Str), d = .str s ∧ (e = .lst (ys.map D.str) ∨ e = .tup (ys.map D.str)) ∧ (ys.map (·.length)).sum + ys.length * s.length ≤ 16777216 ∧ K (.v (.str (Str.join s ys)))
theorem m_join  : (kBm2 .join x K [y]) = (joinD x.d y.d K) := propext ⟨fun ⟨s, _, ys, h1, e, h⟩ => (by cases e; exact ⟨s, ys, h1, h⟩), fun ⟨s, ys, h1, h⟩ => ⟨s, y, ys, h1, rfl, h⟩⟩
theorem m_joinL {s : Str} {ys : List Str} : (joinD (.str s) (.lst (ys.map D.str)) K) = ((ys.map (·.length)).sum + ys.length * s.length ≤ 16777216 ∧ K (.v (.str (Str.join s ys)))) := by unfold joinD; simp [map_str]
def indexD (d e : D) (K : R → Prop) : Prop := ∃ (ns : List Str) (s : Str) (j : Nat), d = .lst (ns.map D.str) ∧ e = .str s ∧ ns[j]? = some s ∧ (∀ m < j, ns[m]? ≠ some s) ∧ K (.v (.int j))
theorem m_index  : (kBm2 .index x K [y]) = (indexD x.d y.d K) := propext ⟨fun ⟨_, ns, s, j, h1, e, h⟩ => (by cases e; exact ⟨ns, s, j, h1, h⟩), fun ⟨ns, s, j, h1, h⟩ => ⟨y, ns, s, j, h1, rfl, h⟩⟩
theorem m_indexL {ns : List Str} {s : Str} : (indexD (.lst (ns.map D.str)) (.str s) K) = (∃ j : Nat, ns[j]? = some s ∧ (∀ m < j, ns[m]? ≠ some s) ∧ K (.v (.int j))) := by unfold indexD; simp [map_str]
def kEn (KI : List Nat → List D → Prop) : R → Prop := fun r => ∃ ds, itemsD r.d = some ds ∧ KI (slotsOf [r]) (enumD 0 ds)
theorem m_ienum {KI : List Nat → List D → Prop} : (wI (.ienum a) δ KI X) = (wE a δ (kEn KI) X) := (rfl)
theorem m_kEn1 {KI : List Nat → List D → Prop} {xs : List D} : (kEn KI (.v (.lst xs))) = (KI [] (enumD 0 xs)) := by unfold kEn; simp [itemsD, R.d, slotsOf]
theorem m_kEn2 {KI : List Nat → List D → Prop} {xs : List D} : (kEn KI (.own (.lst xs))) = (KI [] (enumD 0 xs)) := by unfold kEn; simp [itemsD, R.d, slotsOf]
theorem m_kEn3 {KI : List Nat → List D → Prop} {xs : List D} : (kEn KI (.sl i (.lst xs))) = (KI [i] (enumD 0 xs)) := by unfold kEn; simp [itemsD, R.d, slotsOf]
theorem m_kEn4 {KI : List Nat → List D → Prop} {xs : List D} : (kEn KI (.v (.tup xs))) = (KI [] (enumD 0 xs)) := by unfold kEn; simp [itemsD, R.d, slotsOf]
def kZp2 (KI : List Nat → List D → Prop) (r : R) : R → Prop := fun r' => ∃ ds es, ((r.d = .lst ds ∧ r'.d = .lst es) ∨ (r.d = .tup ds ∧ r'.d = .tup es)) ∧ KI (slotsOf [r, r']) (zipD ds es)
def kZp1 (KI : List Nat → List D → Prop) (b : C) (δ : Env) (X : Xn → Prop) : R → Prop := fun r => wE b δ (kZp2 KI r) X
theorem m_izip {KI : List Nat → List D → Prop} : (wI (.izip a b) δ KI X) = (wE a δ (kZp1 KI b δ X) X) := (rfl)
theorem m_kZp1 {KI : List Nat → List D → Prop} : (kZp1 KI b δ X x) = (wE b δ (kZp2 KI x) X) := (rfl)
theorem m_kZp2 {KI : List Nat → List D → Prop} : (kZp2 KI x y) = (∃ ds es, ((x.d = .lst ds ∧ y.d = .lst es) ∨ (x.d = .tup ds ∧ y.d = .tup es)) ∧ KI (slotsOf [x, y]) (zipD ds es)) := (rfl)
def kSetF (i : Nat) (cn f : Str) (δ : Env) (p : Pst) : R → Prop := fun r => r.fr = true ∧ ∃ fs, δ[i]? = some (.ow (.ins cn fs)) ∧ fs.length < 1000 ∧ p.nx (δ.set i (.ow (.ins cn (putFD f r.d fs))))
theorem m_setF  : (wS (.setF i cn f a) δ p) = (wE a δ (kSetF i cn f δ p) p.ex) := (rfl)
theorem m_kSetF  : (kSetF i cn f δ p x) = (x.fr = true ∧ ∃ fs, δ[i]? = some (.ow (.ins cn fs)) ∧ fs.length < 1000 ∧ p.nx (δ.set i (.ow (.ins cn (putFD f x.d fs))))) := (rfl)
def kRp (K : R → Prop) : List R → Prop := fun rs => reprS rs K
theorem m_repr  : (wE (.repr as) δ K X) = (wA as δ (kRp K) X) := (rfl)
theorem m_kRp  : (kRp K [x]) = (∃ l e : Bool, rp l e 60 x.d = true ∧ (l = false ∨ e = false) ∧ wt x.d ≤ big ∧ K (.v (.str (shownD x.d)))) := propext ⟨fun ⟨_, l, e, h1, h⟩ => (by cases h1; exact ⟨l, e, h⟩), fun ⟨l, e, h⟩ => ⟨x, l, e, rfl, h⟩⟩
def kDz (K : R → Prop) : List R → Prop := fun rs => ∃ x y ds es ks, rs = [x, y] ∧ x.d = .lst ds ∧ y.d = .lst es ∧ keysD ds = some ks ∧ ks.length = es.length ∧ K (.own (.dic (mergeD [] (ks.zip es))))
def dzD (d e : D) (K : R → Prop) : Prop := ∃ ds es ks, d = .lst ds ∧ e = .lst es ∧ keysD ds = some ks ∧ ks.length = es.length ∧ K (.own (.dic (mergeD [] (ks.zip es))))
theorem m_dz  : (wE (.dz as) δ K X) = (wA as δ (kDz K) X) := (rfl)
theorem m_kDz  : (kDz K [x, y]) = (dzD x.d y.d K) := propext ⟨fun ⟨_, _, ds, es, ks, h1, h⟩ => (by cases h1; exact ⟨ds, es, ks, h⟩), fun ⟨ds, es, ks, h⟩ => ⟨x, y, ds, es, ks, rfl, h⟩⟩
theorem m_dzD {xs ys : List D} : (dzD (.lst xs) (.lst ys) K) = (∃ ks, keysD xs = some ks ∧ ks.length = ys.length ∧ K (.own (.dic (mergeD [] (ks.zip ys))))) := by unfold dzD; simp
def kUnpS (i j : Nat) (ow : Bool) (δ : Env) (p : Pst) : R → Prop := fun r => ∃ d ds, r.d = .tup (d :: ds) ∧ ∃ δ', asg1 j ow (.own (.lst ds)) (δ.set i (.fz d)) = some δ' ∧ p.nx δ'
def unpSD (i j : Nat) (ow : Bool) (δ : Env) (p : Pst) (u : D) : Prop := ∃ d ds, u = .tup (d :: ds) ∧ kAsg j ow (δ.set i (.fz d)) p (.own (.lst ds))
theorem m_unpS {ow : Bool} : (wS (.unpS i j ow a) δ p) = (i ≠ j ∧ wE a δ (kUnpS i j ow δ p) p.ex) := (rfl)
theorem m_kUnpS {ow : Bool} : (kUnpS i j ow δ p x) = (unpSD i j ow δ p x.d) := (rfl)
theorem m_unpSD {ow : Bool} {ds : List D} : (unpSD i j ow δ p (.tup (d :: ds))) = (kAsg j ow (δ.set i (.fz d)) p (.own (.lst ds))) := propext ⟨fun ⟨_, _, h1, h⟩ => (by cases h1; exact h), fun h => ⟨d, ds, rfl, h⟩⟩
def kAd2 (i : Nat) (kds : List (Key × D)) (kk : Key) (n : Int) (δ : Env) (p : Pst) : R → Prop := fun r => ∃ m, r.d = .int m ∧ kds.length < big ∧ p.nx (δ.set i (.ow (.dic (putD kds kk (.int (n + m))))))
def kAd1 (i : Nat) (kds : List (Key × D)) (a : C) (δ : Env) (p : Pst) : R → Prop := fun rk => ∃ kk n, keyD rk.d = some kk ∧ getK kds kk = some (.int n) ∧ wE a δ (kAd2 i kds kk n δ p) p.ex
theorem m_augD  : (wS (.augD i b a) δ p) = (∃ kds, δ[i]? = some (.ow (.dic kds)) ∧ wE b δ (kAd1 i kds a δ p) p.ex) := (rfl)
theorem m_kAd1 {kds : List (Key × D)} : (kAd1 i kds a δ p x) = (∃ kk n, keyD x.d = some kk ∧ getK kds kk = some (.int n) ∧ wE a δ (kAd2 i kds kk n δ p) p.ex) := (rfl)
theorem m_kAd2 {kds : List (Key × D)} {kk : Key} {n m2 : Int} : (kAd2 i kds kk n δ p (.v (.int m2))) = (kds.length < big ∧ p.nx (δ.set i (.ow (.dic (putD kds kk (.int (n + m2))))))) := by unfold kAd2; simp [Rd_v]
theorem m_clrD  : (wS (.clrD i) δ p) = (∃ kds, δ[i]? = some (.ow (.dic kds)) ∧ p.nx (δ.set i (.ow (.dic [])))) := (rfl)
theorem m_asgDc {ow : Bool} {own : List (Str × Nat)} {tg : Tg} {it cd kx el : C} : (wS (.asgDc i ow own tg it cd kx el) δ p) = (wE (.dc own tg it cd kx el) δ (kAsg i ow δ p) p.ex) := (rfl)
def cutP (I : Env → Prop) (p : Pst) : Pst := { p with nx := I }
theorem m_cutP_rt {I : Env → Prop} : ((cutP I p).rt) = (p.rt) := (rfl)
theorem m_cutP_bk {I : Env → Prop} : ((cutP I p).bk) = (p.bk) := (rfl)
theorem m_cutP_ct {I : Env → Prop} : ((cutP I p).ct) = (p.ct) := (rfl)
theorem m_cutP_ex {I : Env → Prop} : ((cutP I p).ex) = (p.ex) := (rfl)
theorem m_cutP_nx {I : Env → Prop} : ((cutP I p).nx) = (I) := (rfl)
theorem m_cut {s1 r1 : G.S} : (wS (.cut s1 r1) δ p) = (∃ I : Env → Prop, wS s1 δ (cutP I p) ∧ ∀ δ', I δ' → wS r1 δ' p) := (rfl)
def kDeq2 (neg : Bool) (x : R) (K : R → Prop) : R → Prop := fun y => deqS neg x y K
def kDeq1 (neg : Bool) (b : C) (δ : Env) (K : R → Prop) (X : Xn → Prop) : R → Prop := fun x => wE b δ (kDeq2 neg x K) X
theorem m_deq {neg : Bool} : (wE (.deq neg a b) δ K X) = (wE a δ (kDeq1 neg b δ K X) X) := (rfl)
theorem m_kDeq1 {neg : Bool} : (kDeq1 neg b δ K X x) = (wE b δ (kDeq2 neg x K) X) := (rfl)
theorem m_kDeqF  : (kDeq2 false x K y) = (∃ n t, n ≤ 8 ∧ EqX n x.d y.d t ∧ K (.v (.bl t))) := (rfl)
theorem m_kDeqT  : (kDeq2 true x K y) = (∃ t, EqF x.d y.d t ∧ K (.v (.bl (!t)))) := (rfl)
def insIs (cn : Str) (d : D) : Prop := ∃ fs, d = .ins cn fs
theorem m_insIs {fs : List (Str × D)} : (insIs cn (.ins cn fs)) = (True) := propext ⟨fun _ => trivial, fun _ => ⟨fs, rfl⟩⟩
def kBlK (K : R → Prop) : R → Prop := fun r => (∃ t, r.d = .bl t) ∧ K r
theorem m_kBlK {t : Bool} : (kBlK K (.v (.bl t))) = (K (.v (.bl t))) := propext ⟨fun h => h.2, fun h => ⟨⟨t, rfl⟩, h⟩⟩
def kIeq2 (cn : Str) (S : FSpec) (x : R) (K : R → Prop) (X : Xn → Prop) : R → Prop := fun y => insIs cn x.d ∧ insIs cn y.d ∧ kCall S (kBlK K) X [x, y]
def kIeq1 (cn : Str) (S : FSpec) (b : C) (δ : Env) (K : R → Prop) (X : Xn → Prop) : R → Prop := fun x => wE b δ (kIeq2 cn S x K X) X
theorem m_ieq  : (wE (.ieq cn S a b) δ K X) = (wE a δ (kIeq1 cn S b δ K X) X) := (rfl)
theorem m_kIeq1  : (kIeq1 cn S b δ K X x) = (wE b δ (kIeq2 cn S x K X) X) := (rfl)
theorem m_kIeq2  : (kIeq2 cn S x K X y) = (insIs cn x.d ∧ insIs cn y.d ∧ kCall S (kBlK K) X [x, y]) := (rfl)
def kIsC (cn : Str) (K : R → Prop) : R → Prop := fun r => insIs cn r.d ∧ K (.v (.bl true))
theorem m_isC  : (wE (.isC cn a) δ K X) = (wE a δ (kIsC cn K) X) := (rfl)
theorem m_kIsC  : (kIsC cn K x) = (insIs cn x.d ∧ K (.v (.bl true))) := (rfl)
def keysOk (kds : List (Key × D)) : Bool := kds.all fun kv => keyOk kv.1
def kLIt (K : R → Prop) : R → Prop := fun r => ∃ kds, (r = .own (.dic kds) ∨ ∃ i, r = .sl i (.dic kds)) ∧ keysOk kds = true ∧ K (.own (.lst (dkL .items kds)))
theorem m_lItems  : (wE (.lItems a) δ K X) = (wE a δ (kLIt K) X) := (rfl)
theorem m_kLIt1 {kds : List (Key × D)} : (kLIt K (.own (.dic kds))) = (keysOk kds = true ∧ K (.own (.lst (dkL .items kds)))) := propext ⟨fun ⟨_, h1, h⟩ => (by rcases h1 with h1 | ⟨_, h1⟩ <;> cases h1; exact h), fun h => ⟨kds, .inl rfl, h⟩⟩
theorem m_kLIt2 {kds : List (Key × D)} : (kLIt K (.sl i (.dic kds))) = (keysOk kds = true ∧ K (.own (.lst (dkL .items kds)))) := propext ⟨fun ⟨_, h1, h⟩ => (by rcases h1 with h1 | ⟨_, h1⟩ <;> cases h1; exact h), fun h => ⟨kds, .inr ⟨i, rfl⟩, h⟩⟩
def kItF (kd : Dk) (KI : List Nat → List D → Prop) : R → Prop := fun r => ∃ kds, r = .own (.dic kds) ∧ keysOk kds = true ∧ KI [] (dkL kd kds)
theorem m_iitF {KI : List Nat → List D → Prop} {kd : Dk} : (wI (.iitF kd a) δ KI X) = (wE a δ (kItF kd KI) X) := (rfl)
theorem m_kItF {KI : List Nat → List D → Prop} {kd : Dk} {kds : List (Key × D)} : (kItF kd KI (.own (.dic kds))) = (keysOk kds = true ∧ KI [] (dkL kd kds)) := propext ⟨fun ⟨_, h1, h⟩ => (by cases h1; exact h), fun h => ⟨kds, rfl, h⟩⟩
def plV (o : Option Sl) (P : List (Key × D) → Prop) : Prop := ∃ kds, o = some (.fz (.dic kds)) ∧ P kds
theorem m_plVar {P : List (Key × D) → Prop} : (wPl (.var i) δ P) = (plV δ[i]? P) := (rfl)
theorem m_plV {P : List (Key × D) → Prop} {kds : List (Key × D)} : (plV (some (.fz (.dic kds))) P) = (P kds) := propext ⟨fun ⟨_, h1, h⟩ => (by cases h1; exact h), fun h => ⟨kds, rfl, h⟩⟩
def plF (cn f : Str) (o : Option Sl) (P : List (Key × D) → Prop) : Prop := ∃ fs kds, (o = some (.fz (.ins cn fs)) ∨ o = some (.ow (.ins cn fs))) ∧ fs.lookup f = some (.dic kds) ∧ P kds
theorem m_plFld {P : List (Key × D) → Prop} : (wPl (.fld cn f (.var i)) δ P) = (plF cn f δ[i]? P) := (rfl)
theorem m_plF1 {P : List (Key × D) → Prop} {fs : List (Str × D)} : (plF cn f (some (.fz (.ins cn fs))) P) = (∃ kds, fs.lookup f = some (.dic kds) ∧ P kds) := propext ⟨fun ⟨_, kds, h1, h⟩ => (by rcases h1 with h1 | h1 <;> cases h1; exact ⟨kds, h⟩), fun ⟨kds, h⟩ => ⟨fs, kds, .inl rfl, h⟩⟩
theorem m_plF2 {P : List (Key × D) → Prop} {fs : List (Str × D)} : (plF cn f (some (.ow (.ins cn fs))) P) = (∃ kds, fs.lookup f = some (.dic kds) ∧ P kds) := propext ⟨fun ⟨_, kds, h1, h⟩ => (by rcases h1 with h1 | h1 <;> cases h1; exact ⟨kds, h⟩), fun ⟨kds, h⟩ => ⟨fs, kds, .inr rfl, h⟩⟩
def kLcK (kd : Dk) (tg : Tg) (cd el : C) (δ : Env) (K : R → Prop) : List (Key × D) → Prop := fun kds => keysOk kds = true ∧ kds.length ≤ big ∧ lcGo (stepC tg cd el δ) (dkL kd kds) [] (kLcE K)
theorem m_lcK {kd : Dk} {pl : C} {own : List (Str × Nat)} {tg : Tg} {cd el : C} : (wE (.lcK kd pl own tg cd el) δ K X) = (noOw δ (own.map (·.2)) = true ∧ wPl pl δ (kLcK kd tg cd el (wipeD δ (own.map (·.2))) K)) := (rfl)
theorem m_kLcK {kd : Dk} {tg : Tg} {cd el : C} {kds : List (Key × D)} : (kLcK kd tg cd el δ K kds) = (keysOk kds = true ∧ kds.length ≤ big ∧ lcGo (stepC tg cd el δ) (dkL kd kds) [] (kLcE K)) := (rfl)
def kDcK (kd : Dk) (tg : Tg) (cd kx el : C) (δ : Env) (K : R → Prop) : List (Key × D) → Prop := fun kds => keysOk kds = true ∧ kds.length ≤ big ∧ lcGo (stepD tg cd kx el δ) (dkL kd kds) [] (kDcE K)
theorem m_dcK {kd : Dk} {pl : C} {own : List (Str × Nat)} {tg : Tg} {cd kx el : C} : (wE (.dcK kd pl own tg cd kx el) δ K X) = (noOw δ (own.map (·.2)) = true ∧ wPl pl δ (kDcK kd tg cd kx el (wipeD δ (own.map (·.2))) K)) := (rfl)
theorem m_kDcK {kd : Dk} {tg : Tg} {cd kx el : C} {kds : List (Key × D)} : (kDcK kd tg cd kx el δ K kds) = (keysOk kds = true ∧ kds.length ≤ big ∧ lcGo (stepD tg cd kx el δ) (dkL kd kds) [] (kDcE K)) := (rfl)
theorem m_asgLcK {ow : Bool} {kd : Dk} {pl : C} {own : List (Str × Nat)} {tg : Tg} {cd el : C} : (wS (.asgLcK i ow kd pl own tg cd el) δ p) = (wE (.lcK kd pl own tg cd el) δ (kAsg i ow δ p) p.ex) := (rfl)
theorem m_asgDcK {ow : Bool} {kd : Dk} {pl : C} {own : List (Str × Nat)} {tg : Tg} {cd kx el : C} : (wS (.asgDcK i ow kd pl own tg cd kx el) δ p) = (wE (.dcK kd pl own tg cd kx el) δ (kAsg i ow δ p) p.ex) := (rfl)
def kForD (kd : Dk) (tg : Tg) (s : G.S) (δ : Env) (p : Pst) : List (Key × D) → Prop := fun kds => keysOk kds = true ∧ forGo tg (wS s) (dkL kd kds) δ (noEx p)
theorem m_forD {kd : Dk} {pl : C} {tg : Tg} {s1 : G.S} : (wS (.forD kd tg pl s1) δ p) = (wPl pl δ (kForD kd tg s1 δ p)) := (rfl)
theorem m_kForD {kd : Dk} {tg : Tg} {s1 : G.S} {kds : List (Key × D)} : (kForD kd tg s1 δ p kds) = (keysOk kds = true ∧ forGo tg (wS s1) (dkL kd kds) δ (noEx p)) := (rfl)
end
end G
set_option maxRecDepth 100000
set_option maxHeartbeats 4000000
open PySem G
local macro_rules | `(tactic| simp_arith [$ls,*]) => `(tactic| simp only [Rd_v, Rd_own, Rd_sl, Rfr_v, Rfr_own, Rfr_sl, kV_fz, kV_ow, kV_un, m_var, m_k, m_glob, ↓condR_v, ↓ex_bl, ↓ex_int, ↓m_bin, ↓m_kB1, m_kB2, b_Add, b_Sub, b_Mult, b_Div, b_Mod, b_Pow, b_AddL, b_AddT, b_AddS, b_MulL, ↓m_neg, m_kNeg, ↓m_cmp, ↓m_kC1, m_relS, m_kC2, r_Lt, r_LtE, r_Gt, r_GtE, r_Eq, r_NotEq, r_IsN, r_IsNotN, r_IsB, r_IsNotB, r_InL, r_InT, r_InD, r_NotInL, r_NotInT, r_NotInD, ↓m_chain, ↓m_kH1, m_kH2, ↓m_kH3, ↓m_and, ↓m_kAnd, ↓m_or, ↓m_kOr, ↓m_one, ↓m_not, m_kNot, ↓m_ife, ↓m_kIfe, ↓m_anil, ↓m_acons, ↓m_kA1, ↓m_kA2, ↓m_tup, m_kTup, ↓m_lst, m_kLst, ↓m_dct0, ↓m_ix, ↓m_kI1, m_kI2, i_lst, i_tup, i_str, i_dic, i_st0, i_st1, i_st2, i_stc, at_0, at_1, at_2, at_3, at_4, ↓m_sl, ↓m_kS1, ↓m_kS2, m_kS3, ↓m_ono, ↓m_oopt, m_kO, s_lst, s_tup, s_str, s_scr, ↓m_call, ex_all, ex_all2, or_all, eq_all2, eq_all, no_all, no_allx, m_kCall, m_callF, m_callT, ↓m_bn, m_len, l_lst, l_tup, l_str, l_dic, l_scr, l_stc, m_abs, m_min, m_max, m_sum, m_all, m_any, m_list, m_tuple, li_lst, tu_lst, li_tup, tu_tup, m_sorted, ↓m_lrange, m_kLr1, m_kLr2, m_kLr3, ↓m_isin, m_kIs, is_int_non, is_int_bl, is_int_int, is_int_str, is_int_lst, is_int_tup, is_int_dic, is_bool_non, is_bool_bl, is_bool_int, is_bool_str, is_bool_lst, is_bool_tup, is_bool_dic, is_str_non, is_str_bl, is_str_int, is_str_str, is_str_lst, is_str_tup, is_str_dic, is_list_non, is_list_bl, is_list_int, is_list_str, is_list_lst, is_list_tup, is_list_dic, is_tuple_non, is_tuple_bl, is_tuple_int, is_tuple_str, is_tuple_lst, is_tuple_tup, is_tuple_dic, is_dict_non, is_dict_bl, is_dict_int, is_dict_str, is_dict_lst, is_dict_tup, is_dict_dic, ↓m_isin2, m_stepNo, m_stepOpt, m_kEl, ↓m_kCd, ↓m_lc, m_kLc, ↓m_kLcE, ↓m_iseq, m_kSq1, m_kSq2, m_kSq3, m_kSq4, m_kSq5, ↓m_irange, m_kRg1, m_kRg2, m_kRg3, ↓m_seqK, m_seqP_rt, m_seqP_bk, m_seqP_ct, m_seqP_ex, m_seqP_nx, ↓m_nil, ↓m_cons, ↓m_frzB, ↓m_pass, ↓m_doc, ↓m_brk, ↓m_cont, ↓m_never, ↓m_retN, ↓m_expr, ↓m_kDrop, ↓m_ret, m_retR1, m_retR2, m_retR3, ↓m_asg, ↓m_asgLc, m_kAsg1, m_kAsg2, m_kAsg3, ↓m_unp, m_kUnp, m_tgOne, m_tgMany, m_nN, m_nC, ↓m_par2, ↓m_par3, ↓m_parT, m_kParT, m_kParN, m_kParF1, m_kParF2, m_kParT1, ↓m_ifs, ↓m_kIfS, ↓m_for, m_kFor, m_noEx_nx, m_noEx_rt, m_noEx_bk, m_noEx_ct, m_noEx_ex, m_forK1, keyV_i, keyV_s, keyOk_i, m_setI, ↓m_kSet1, m_kSetL, m_kSetD, ↓m_setSt, ↓m_kSt1, ↓m_kSt2, m_kSt3, m_sst, m_sstc, m_aug, m_kAug, m_augAdd, m_augSub, m_augL, m_kAugL, m_mut0, m_mut1, m_mutA0, m_mutA1, m_mutP0, m_mutP1, mt_append, mt_clear, mt_reverse, mt_popA, mt_popAtA, mt_popAtP, lg_nil, lg_cons, m_kLgS, m_kLgN, m_forK, m_forP_nx, m_forP_ct, m_forP_bk, m_forP_rt, m_forP_ex, cast_lit, m_frz0, m_frz1, m_frzO, m_frzF, m_frzU, m_kWh, env0, stPst, lawPst, List.map_cons, List.map_nil, List.length_cons, List.length_nil, List.cons_append, List.nil_append, List.append_nil, List.replicate, List.getElem?_cons_zero, List.getElem?_cons_succ, List.getElem?_nil, List.set_cons_zero, List.set_cons_succ, List.set_nil, allFr, dsOf, slotsOf, List.all_cons, List.all_nil, noOw, now_fz, now_un, now_no, wipeD, List.foldr, Bool.and_true, Bool.true_and, Bool.and_self, Nat.zero_add, Nat.reduceAdd, Nat.reduceSub, Nat.reduceLT, Nat.reduceLeDiff, ↓reduceIte, Option.some.injEq, D.int.injEq, D.bl.injEq, D.lst.injEq, D.tup.injEq, D.str.injEq, D.dic.injEq, exists_eq_left, exists_eq_left', exists_eq_right, exists_eq_right', true_and, and_true, Sl.fz.injEq, Sl.ow.injEq, List.cons.injEq, reduceCtorEq, eqD_int, eqD_bl, eqD_str, eqD_lst, eqD_tup, eqD_non, eqD_nt, eqD_tn, sh_int, sh_bl, sh_str, sh_non, sh60_lst, sh60_tup, shL_nil, shL_cons, Bool.not_not, Bool.not_true, Bool.not_false, false_and, and_false, false_or, or_false, true_or, or_true, forall_const, imp_self, implies_true, Bool.false_eq_true, if_true, if_false, decide_eq_true_eq, Bool.not_eq_true', decide_eq_false_iff_not, Bool.not_eq_eq_eq_not, keyD, false_implies, true_implies, big, Int.reduceLT, Int.reduceLE, Int.reduceAdd, Int.reduceSub, Int.reduceMul, Int.reduceNeg, Int.reduceToNat, Nat.reduceMul, Int.reduceEq, Nat.reduceEqDiff, gt_iff_lt, ge_iff_le, exists_eq, exists_eq', exists_false, exists_const, if_false_left, if_false_right, Bool.not_eq_false, Bool.not_eq_true, Bool.and_eq_true, Bool.or_eq_true, Decidable.not_not, decide_true, decide_false, not_true_eq_false, not_false_eq_true, sh59_lst, sh59_tup, sh58_lst, sh58_tup, sh57_lst, sh57_tup, and_self, r_InS, r_NotInS, m_kIs2, is2_lt_non, is2_lt_bl, is2_lt_int, is2_lt_str, is2_lt_lst, is2_lt_tup, is2_lt_dic, ↓m_fld, m_kFld, m_fldD, ↓m_meth, m_kMe1, m_insOk, m_kMe2, ↓m_mk, ↓m_callK, ↓m_kCk1, m_kCk2, ↓m_methK, m_kMk1, m_kMk2, m_dstepNo, m_dstepOpt, ↓m_kDcd, ↓m_kDk, m_kDv, ↓m_dc, m_kDc, m_kDcE, ↓m_bn2, m_dict, m_dictL, m_dictD, m_int, m_intI, m_intB, m_maxL, m_minL, ↓m_cnt, m_kCnt, m_cntL, m_cntT, ↓m_rev, m_kRev, ↓m_bm, m_kBm1, m_tyS, m_tyL, m_join, m_joinL, m_index, m_indexL, ↓m_ienum, m_kEn1, m_kEn2, m_kEn3, m_kEn4, ↓m_izip, ↓m_kZp1, m_kZp2, ↓m_setF, m_kSetF, ↓m_repr, m_kRp, ↓m_dz, m_kDz, m_dzD, m_unpS, m_kUnpS, m_unpSD, m_augD, m_kAd1, m_kAd2, m_clrD, ↓m_asgDc, m_cutP_rt, m_cutP_bk, m_cutP_ct, m_cutP_ex, m_cutP_nx, m_cut, ↓m_deq, ↓m_kDeq1, m_kDeqF, m_kDeqT, m_insIs, m_kBlK, ↓m_ieq, ↓m_kIeq1, m_kIeq2, ↓m_isC, m_kIsC, ↓m_lItems, m_kLIt1, m_kLIt2, ↓m_iitF, m_kItF, m_plVar, m_plV, m_plFld, m_plF1, m_plF2, ↓m_lcK, m_kLcK, ↓m_dcK, m_kDcK, ↓m_asgLcK, ↓m_asgDcK, m_forD, m_kForD, permL, List.filterMap_cons, List.filterMap_nil, initPst, Bool.or_true, Bool.true_or, Bool.or_false, Bool.false_or, Bool.or_self, $ls,*])
local macro_rules | `(tactic| simp_arith) => `(tactic| simp only [Rd_v, Rd_own, Rd_sl, Rfr_v, Rfr_own, Rfr_sl, kV_fz, kV_ow, kV_un, m_var, m_k, m_glob, ↓condR_v, ↓ex_bl, ↓ex_int, ↓m_bin, ↓m_kB1, m_kB2, b_Add, b_Sub, b_Mult, b_Div, b_Mod, b_Pow, b_AddL, b_AddT, b_AddS, b_MulL, ↓m_neg, m_kNeg, ↓m_cmp, ↓m_kC1, m_relS, m_kC2, r_Lt, r_LtE, r_Gt, r_GtE, r_Eq, r_NotEq, r_IsN, r_IsNotN, r_IsB, r_IsNotB, r_InL, r_InT, r_InD, r_NotInL, r_NotInT, r_NotInD, ↓m_chain, ↓m_kH1, m_kH2, ↓m_kH3, ↓m_and, ↓m_kAnd, ↓m_or, ↓m_kOr, ↓m_one, ↓m_not, m_kNot, ↓m_ife, ↓m_kIfe, ↓m_anil, ↓m_acons, ↓m_kA1, ↓m_kA2, ↓m_tup, m_kTup, ↓m_lst, m_kLst, ↓m_dct0, ↓m_ix, ↓m_kI1, m_kI2, i_lst, i_tup, i_str, i_dic, i_st0, i_st1, i_st2, i_stc, at_0, at_1, at_2, at_3, at_4, ↓m_sl, ↓m_kS1, ↓m_kS2, m_kS3, ↓m_ono, ↓m_oopt, m_kO, s_lst, s_tup, s_str, s_scr, ↓m_call, ex_all, ex_all2, or_all, eq_all2, eq_all, no_all, no_allx, m_kCall, m_callF, m_callT, ↓m_bn, m_len, l_lst, l_tup, l_str, l_dic, l_scr, l_stc, m_abs, m_min, m_max, m_sum, m_all, m_any, m_list, m_tuple, li_lst, tu_lst, li_tup, tu_tup, m_sorted, ↓m_lrange, m_kLr1, m_kLr2, m_kLr3, ↓m_isin, m_kIs, is_int_non, is_int_bl, is_int_int, is_int_str, is_int_lst, is_int_tup, is_int_dic, is_bool_non, is_bool_bl, is_bool_int, is_bool_str, is_bool_lst, is_bool_tup, is_bool_dic, is_str_non, is_str_bl, is_str_int, is_str_str, is_str_lst, is_str_tup, is_str_dic, is_list_non, is_list_bl, is_list_int, is_list_str, is_list_lst, is_list_tup, is_list_dic, is_tuple_non, is_tuple_bl, is_tuple_int, is_tuple_str, is_tuple_lst, is_tuple_tup, is_tuple_dic, is_dict_non, is_dict_bl, is_dict_int, is_dict_str, is_dict_lst, is_dict_tup, is_dict_dic, ↓m_isin2, m_stepNo, m_stepOpt, m_kEl, ↓m_kCd, ↓m_lc, m_kLc, ↓m_kLcE, ↓m_iseq, m_kSq1, m_kSq2, m_kSq3, m_kSq4, m_kSq5, ↓m_irange, m_kRg1, m_kRg2, m_kRg3, ↓m_seqK, m_seqP_rt, m_seqP_bk, m_seqP_ct, m_seqP_ex, m_seqP_nx, ↓m_nil, ↓m_cons, ↓m_frzB, ↓m_pass, ↓m_doc, ↓m_brk, ↓m_cont, ↓m_never, ↓m_retN, ↓m_expr, ↓m_kDrop, ↓m_ret, m_retR1, m_retR2, m_retR3, ↓m_asg, ↓m_asgLc, m_kAsg1, m_kAsg2, m_kAsg3, ↓m_unp, m_kUnp, m_tgOne, m_tgMany, m_nN, m_nC, ↓m_par2, ↓m_par3, ↓m_parT, m_kParT, m_kParN, m_kParF1, m_kParF2, m_kParT1, ↓m_ifs, ↓m_kIfS, ↓m_for, m_kFor, m_noEx_nx, m_noEx_rt, m_noEx_bk, m_noEx_ct, m_noEx_ex, m_forK1, keyV_i, keyV_s, keyOk_i, m_setI, ↓m_kSet1, m_kSetL, m_kSetD, ↓m_setSt, ↓m_kSt1, ↓m_kSt2, m_kSt3, m_sst, m_sstc, m_aug, m_kAug, m_augAdd, m_augSub, m_augL, m_kAugL, m_mut0, m_mut1, m_mutA0, m_mutA1, m_mutP0, m_mutP1, mt_append, mt_clear, mt_reverse, mt_popA, mt_popAtA, mt_popAtP, lg_nil, lg_cons, m_kLgS, m_kLgN, m_forK, m_forP_nx, m_forP_ct, m_forP_bk, m_forP_rt, m_forP_ex, cast_lit, m_frz0, m_frz1, m_frzO, m_frzF, m_frzU, m_kWh, env0, stPst, lawPst, List.map_cons, List.map_nil, List.length_cons, List.length_nil, List.cons_append, List.nil_append, List.append_nil, List.replicate, List.getElem?_cons_zero, List.getElem?_cons_succ, List.getElem?_nil, List.set_cons_zero, List.set_cons_succ, List.set_nil, allFr, dsOf, slotsOf, List.all_cons, List.all_nil, noOw, now_fz, now_un, now_no, wipeD, List.foldr, Bool.and_true, Bool.true_and, Bool.and_self, Nat.zero_add, Nat.reduceAdd, Nat.reduceSub, Nat.reduceLT, Nat.reduceLeDiff, ↓reduceIte, Option.some.injEq, D.int.injEq, D.bl.injEq, D.lst.injEq, D.tup.injEq, D.str.injEq, D.dic.injEq, exists_eq_left, exists_eq_left', exists_eq_right, exists_eq_right', true_and, and_true, Sl.fz.injEq, Sl.ow.injEq, List.cons.injEq, reduceCtorEq, eqD_int, eqD_bl, eqD_str, eqD_lst, eqD_tup, eqD_non, eqD_nt, eqD_tn, sh_int, sh_bl, sh_str, sh_non, sh60_lst, sh60_tup, shL_nil, shL_cons, Bool.not_not, Bool.not_true, Bool.not_false, false_and, and_false, false_or, or_false, true_or, or_true, forall_const, imp_self, implies_true, Bool.false_eq_true, if_true, if_false, decide_eq_true_eq, Bool.not_eq_true', decide_eq_false_iff_not, Bool.not_eq_eq_eq_not, keyD, false_implies, true_implies, big, Int.reduceLT, Int.reduceLE, Int.reduceAdd, Int.reduceSub, Int.reduceMul, Int.reduceNeg, Int.reduceToNat, Nat.reduceMul, Int.reduceEq, Nat.reduceEqDiff, gt_iff_lt, ge_iff_le, exists_eq, exists_eq', exists_false, exists_const, if_false_left, if_false_right, Bool.not_eq_false, Bool.not_eq_true, Bool.and_eq_true, Bool.or_eq_true, Decidable.not_not, decide_true, decide_false, not_true_eq_false, not_false_eq_true, sh59_lst, sh59_tup, sh58_lst, sh58_tup, sh57_lst, sh57_tup, and_self, r_InS, r_NotInS, m_kIs2, is2_lt_non, is2_lt_bl, is2_lt_int, is2_lt_str, is2_lt_lst, is2_lt_tup, is2_lt_dic, ↓m_fld, m_kFld, m_fldD, ↓m_meth, m_kMe1, m_insOk, m_kMe2, ↓m_mk, ↓m_callK, ↓m_kCk1, m_kCk2, ↓m_methK, m_kMk1, m_kMk2, m_dstepNo, m_dstepOpt, ↓m_kDcd, ↓m_kDk, m_kDv, ↓m_dc, m_kDc, m_kDcE, ↓m_bn2, m_dict, m_dictL, m_dictD, m_int, m_intI, m_intB, m_maxL, m_minL, ↓m_cnt, m_kCnt, m_cntL, m_cntT, ↓m_rev, m_kRev, ↓m_bm, m_kBm1, m_tyS, m_tyL, m_join, m_joinL, m_index, m_indexL, ↓m_ienum, m_kEn1, m_kEn2, m_kEn3, m_kEn4, ↓m_izip, ↓m_kZp1, m_kZp2, ↓m_setF, m_kSetF, ↓m_repr, m_kRp, ↓m_dz, m_kDz, m_dzD, m_unpS, m_kUnpS, m_unpSD, m_augD, m_kAd1, m_kAd2, m_clrD, ↓m_asgDc, m_cutP_rt, m_cutP_bk, m_cutP_ct, m_cutP_ex, m_cutP_nx, m_cut, ↓m_deq, ↓m_kDeq1, m_kDeqF, m_kDeqT, m_insIs, m_kBlK, ↓m_ieq, ↓m_kIeq1, m_kIeq2, ↓m_isC, m_kIsC, ↓m_lItems, m_kLIt1, m_kLIt2, ↓m_iitF, m_kItF, m_plVar, m_plV, m_plFld, m_plF1, m_plF2, ↓m_lcK, m_kLcK, ↓m_dcK, m_kDcK, ↓m_asgLcK, ↓m_asgDcK, m_forD, m_kForD, permL, List.filterMap_cons, List.filterMap_nil, initPst, Bool.or_true, Bool.true_or, Bool.or_false, Bool.false_or, Bool.or_self])
namespace G
open PySem PySem.Spec PyProof.Rows L2
/-! ### the second way to make the state: cells = [..]; if cells == []: cells = [1]; return [cells, 0, 1] -/
def st2A (x : Str) : S := .asgLc 1 true [(x, 2)] (.one 2) (.iseq (.sl (.var 0) .no (.opt (.k (.int 63))))) .no (.bn .abs (.cons (.var 2) .nil))
def st2B : S := .ifs (.cmp .Eq (.var 1) (.lst .nil)) (.cons (.asg 1 true (.lst (.cons (.k (.int 1)) .nil))) .nil) .nil
def isState2 (B N : List Str) (x : Str) (sc : Scope) : List Stmt → Bool
  | [s1, s2, .Return (some (.List [.Name y _, .Constant (.int z0) _ _, .Constant (.int z1) _ _] _)) _] => chkS B N (st2A x) sc s1 && chkS B N st2B sc s2 && seVis N sc 1 y && z0 == 0 && z1 == 1
  | _ => false
def goodC (ns : List Int) : Env → Prop := fun δ => ∃ cells : List Int, (∃ q, δ = [.fz (.scr ns), .ow (.lst (cells.map D.int)), q]) ∧ (∀ z ∈ cells, 0 ≤ z ∧ z.natAbs < 2 ^ 1048577) ∧ 1 ≤ cells.length ∧ cells.length ≤ 63
theorem st2_wp {x : Str} {ns : List Int} (hbits : ∀ z ∈ ns, Builtin.Int.intBits z ≤ 1048576) : wSeqS (wS (st2A x)) (wS st2B) [.fz (.scr ns), .un, .un] { nx := goodC ns, rt := fun _ _ => False } := by
  refine (show wE (cellC x 2) [.fz (.scr ns), .un, .un] (fun r => ∃ δ', asg1 1 true r [.fz (.scr ns), .un, .un] = some δ' ∧ wS st2B δ' { nx := goodC ns, rt := fun _ _ => False }) (fun _ => False) from ?_)
  refine cells_wp (ns := ns) rfl (by simp) rfl ⟨_, rfl, ?_⟩
  show wS st2B [.fz (.scr ns), .ow (.lst ((cellsOf ns).map D.int)), .un] _
  unfold st2B
  simp_arith
  have ok := cells_ok hbits
  have ln := cells_len ns
  generalize cellsOf ns = cells at *
  rw [eqL_isNil, shL_ints]
  refine ⟨rfl, ?_⟩
  cases cells with
  | nil =>
    simp only [List.map_nil, List.isEmpty_nil, if_true]
    refine ⟨[1], ⟨_, rfl⟩, ?_, by decide, by decide⟩
    intro z hz
    rw [List.mem_singleton] at hz
    subst hz
    exact ⟨by decide, Nat.lt_of_lt_of_le (show 1 < 2 ^ 3 by decide) (Nat.pow_le_pow_right (by decide) (by decide))⟩
  | cons c cs =>
    simp only [List.map_cons, List.isEmpty_cons, Bool.false_eq_true, if_false]
    exact ⟨c :: cs, ⟨_, rfl⟩, ok, by simp, ln⟩
section
variable {W : Wd} {N B ps : List Str} {k : Nat}
theorem state2_ok {y x qual : Str} {st : Stmt} {f : Addr} {fd : FuncData} (hsa : W.sa = none) (F : Fun W.K y qual st f fd) (Sc : FnScope N ps (defScope st)) (hN : N.length = 3) (hps : ps.length = 1) (hB : Bl W B) (hc : isState2 B N x (defScope st) (defBody st) = true) : FnG W.P W.w W.K W.mg W.base (L2.CX W.P W.w) (k + 1) f fd ps (spSt W) := by
  refine fun_okG F Sc (fun vs H Q E h => ?_) fun cdv A outer s H vs Q E hr gd h => ?_
  · obtain ⟨a, ns, rfl, _⟩ := h
    exact hps.symm
  · obtain ⟨a, ns, rfl, hS, hbits, hq⟩ := h
    have g := good_def (W := W) (outer := outer) (H := H) (E := E) Sc gd hr
    unfold isState2 at hc
    split at hc
    · rename_i s1 s2 yv p1 z0 k1 p2 z1 k2 p3 p4 p5 hbody
      simp only [Bool.and_eq_true, beq_iff_eq] at hc
      obtain ⟨⟨⟨⟨h1, h2⟩, h3⟩, rfl⟩, rfl⟩ := hc
      rw [hbody]
      obtain ⟨y1, y2, y3, y4⟩ := seVis_of h3
      obtain ⟨t1, pt1, e1⟩ := (soundS (W := W) (N := N) (k := k) hB (st2A x)).s _ E _ _ g rfl (by simp only [st2A, okS, okE, and_self]) h1
      obtain ⟨t2, pt2, e2⟩ := (soundS (W := W) (N := N) (k := k) hB st2B).s _ E _ _ g rfl (by simp only [st2B, okS, okE, and_self]) h2
      have nS : ∀ z, ¬ inSa W z := fun z hz => by unfold inSa at hz; rw [hsa] at hz; exact hz
      have st0 : StOk W H := by unfold StOk; rw [hsa]; trivial
      have kf : Ex H (fz (fun z => inSa W z ∨ False) H) := (show Kp H _ from fun z o h => fz_of (fun q => q.elim (nS z) id) h).ex
      have e0 := env_start (N := N) (W := W) (Hd := fun _ => False) (H := H) (ds := [.scr ns]) (vs := [.ref a]) st0 (fun _ h => h.elim) (.one (by rw [Rep]; exact ⟨a, rfl, kf.l hS⟩))
      refine ⟨_, pss_cons pt1 (pss_cons pt2 (pss_cons (ps_ret (pe_lst (pa_cons (pe_var y1 (g.vis yv y2) y3 y4) (pa_cons pe_int (pa_cons pe_int pa_nil (star_is rfl)) (star_is rfl)) (star_is rfl)))) pss_nil)), ?_⟩
      rw [hN] at e0
      refine (ev_seq e1 e2) (fun _ => False) H _ H _ _ _ _ e0 (st2_wp (x := x) hbits) ⟨fun A' H' σ' δ' e' h' => ?_, fun _ _ _ _ _ h' => h'.elim, fun _ _ _ _ _ h' => h'.elim, fun _ _ _ _ _ _ _ h' => h'.elim, XOk.none⟩
      obtain ⟨cells, ⟨q, rfl⟩, ok, l1, l2⟩ := h'
      obtain ⟨c, q1, q2, us, q3, q4⟩ := e'.sl 1 _ rfl
      cases repL_ints q4
      have kk : Kp H H' := fun z o h => e'.b0 z o (nS z) h
      refine ⟨.ref c, slot_get q2, by show 3 ≤ sizeLine; decide, fun p hp => ?_⟩
      have hc0 := (e'.new 1 c q1).1
      obtain ⟨w1, w2, w3⟩ := st_end (cells := cells) kk hc0 q3 hp ok l1 l2
      exact hq p c _ _ w1 w2 hc0 w3
    · cases hc
end
end G
set_option maxRecDepth 100000
set_option maxHeartbeats 4000000
namespace G
open PySem PySem.Spec PyProof.Rows L2
/-! ### classes of the text -/
structure ClsTxt (K : PySem.W.Frag) (c : Str) (C : Addr) : Prop where
  ns : PySem.W.nsIn K mainGlobals c = some (some (.ref C))
  cl : Cls K C
  mks : PySem.W.makesIn K C = true
  kc : PySem.W.keepIn K (.ref C) = true
structure MTxt (K : PySem.W.Frag) (C : Addr) (m q : Str) (st : Stmt) : Prop where
  ex : ∃ f fd, Fun K m q st f fd ∧ Meth K C m f
theorem cTxt_mk {K : PySem.W.Frag} {c : Str} {C : Addr} (a : PySem.W.nsIn K mainGlobals c = some (some (.ref C))) (pg : PySem.W.plainGet K C Str.empty = true) (hd : PySem.W.hasDictIn K C = true) (po : PySem.W.plainOver K C = true) (sa : PySem.W.findIn K (.ref C) "__setattr__" = some (some (.builtin "object.__setattr__"))) (mk : PySem.W.makesIn K C = true) (kc : PySem.W.keepIn K (.ref C) = true) : ClsTxt K c C :=
  ⟨a, ⟨pg, hd, po, sa⟩, mk, kc⟩
theorem mTxt_mk {K : PySem.W.Frag} {C : Addr} {m q : Str} {st : Stmt} {f : Addr} {oc : Value} {od an : Option Addr} {osl : Array (Option Value)} {kV doc pm cdv ct : Value} (a : PySem.W.findIn K (.ref C) m = some (some (.ref f))) (i : PySem.W.isFn K (.ref f) = true)
    (l : K.lookup f = some ⟨oc, od, .func (PySem.W.fnOf m q (defArgs st) (defBody st) (defScope st) .none kV doc pm an cdv ct), osl⟩) (c : PySem.W.codeIn K cdv q = true) (k : PySem.W.keepIn K (.ref f) = true) : MTxt K C m q st :=
  ⟨f, _, fun_mk l c k, ⟨a, i, k⟩⟩
def BindOk2 (x q : Str) (st : Stmt) (ps : List Str) : Prop := ∀ (kV doc pm : Value) (an : Option Addr) (cdv ct : Value) (us : List Value), us.length = ps.length → bindArgs (PySem.W.fnOf x q (defArgs st) (defBody st) (defScope st) .none kV doc pm an cdv ct) ⟨us, []⟩ = pure (ps.zip us)
def KBOk (x q : Str) (st : Stmt) (ps : List Str) (n : Nat) (ks : List Str) (perm : List Nat) : Prop := ∀ (kV doc pm : Value) (an : Option Addr) (cdv ct : Value) (us ws : List Value), us.length = n → ws.length = ks.length → bindArgs (PySem.W.fnOf x q (defArgs st) (defBody st) (defScope st) .none kV doc pm an cdv ct) ⟨us, ks.zip ws⟩ = pure (ps.zip (permL perm (us ++ ws)))
section
variable {W : Wd} {N B ps : List Str} {k : Nat}
theorem kb_of {K : PySem.W.Frag} {x q : Str} {st : Stmt} {f : Addr} {fd : FuncData} {n : Nat} {ks : List Str} {perm : List Nat} (F : Fun K x q st f fd) (h : KBOk x q st ps n ks perm) : KB K fd ps n ks perm := by
  obtain ⟨oc, od, kV, doc, pm, an, cdv, ct, osl, rfl, lk, hcd⟩ := F.ex
  exact fun s us ws _ h1 h2 => .of_eq (h kV doc pm an cdv ct us ws h1 h2)
theorem on_at {x C : Addr} : (W.on x C).cl ("@" : Str) = some C := by
  show (if ("@" : Str) = "@" then some C else W.cl "@") = some C
  rw [if_pos rfl]
theorem on_cl {x C : Addr} {c : Str} {o : Option Addr} (n : ¬ c = ("@" : Str)) (h : W.cl c = o) : (W.on x C).cl c = o := by
  show (if c = "@" then some C else W.cl c) = o
  rw [if_neg n]
  exact h
theorem fld_ok {c f : Str} {C : Addr} (hC : W.cl c = some C) (cl : Cls W.K C) (n : NoAttr W.K C f) : FldOk W c f := ⟨C, hC, cl, n⟩
theorem mok_txt {c m q : Str} {C : Addr} {st : Stmt} (core : S) (spec : FSpec) (hC : W.cl c = some C) (cl : Cls W.K C) (T : MTxt W.K C m q st) (Sc : FnScope N ps (defScope st)) (hb : BindOk2 m q st ps) (hB : Bl W B) (hc : chkB B N core (defScope st) (defBody st) = true) (ok : okS W k core) (har : spec.ar = ps.length)
    (vc : VC spec N core) : MOk W (k + 1) c m spec := by
  obtain ⟨f, fd, F, M⟩ := T.ex
  exact ⟨C, f, fd, ps, hC, cl, M, fn_core core spec F Sc hB hc ok har vc, F.binds hb⟩
theorem mkok_txt {c m q : Str} {C : Addr} {st : Stmt} {n : Nat} {ks : List Str} {perm : List Nat} (core : S) (spec : FSpec) (hC : W.cl c = some C) (cl : Cls W.K C) (T : MTxt W.K C m q st) (Sc : FnScope N ps (defScope st)) (hb : KBOk m q st ps (n + 1) ks perm) (hB : Bl W B) (hc : chkB B N core (defScope st) (defBody st) = true) (ok : okS W k core) (har : spec.ar = ps.length)
    (vc : VC spec N core) : MKOk W (k + 1) c m spec n ks perm := by
  obtain ⟨f, fd, F, M⟩ := T.ex
  exact ⟨C, f, fd, ps, hC, cl, M, fn_core core spec F Sc hB hc ok har vc, kb_of F hb⟩
theorem kok_txt {x : Str} {st : Stmt} {n : Nat} {ks : List Str} {perm : List Nat} (core : S) (spec : FSpec) (T : FnTxt W.K x st) (hmg : ∀ f, PySem.W.nsIn W.K mainGlobals x = some (some (.ref f)) → W.mg x = some (.ref f)) (Sc : FnScope N ps (defScope st)) (hb : KBOk x x st ps n ks perm) (hB : Bl W B) (hc : chkB B N core (defScope st) (defBody st) = true) (ok : okS W k core) (har : spec.ar = ps.length)
    (vc : VC spec N core) : KOk W (k + 1) x spec n ks perm := by
  obtain ⟨f, fd, F, a⟩ := T.ex
  exact ⟨f, fd, ps, fn_core core spec F Sc hB hc ok har vc, hmg f a, F.kp, kb_of F hb⟩
theorem mk_txt {c q : Str} {C : Addr} {st : Stmt} (core : S) (spec : FSpec) (hat : W.cl ("@" : Str) = none) (hC : W.cl c = some C) (CT : ClsTxt W.K c C) (hmg : ∀ f, PySem.W.nsIn W.K mainGlobals c = some (some (.ref f)) → W.mg c = some (.ref f)) (T : MTxt W.K C "__init__" q st) (Sc : FnScope N ps (defScope st)) (hN : 1 ≤ N.length) (hb : BindOk2 "__init__" q st ps) (hB : Bl W B) (hc : chkB B N core (defScope st) (defBody st) = true)
    (ok : ∀ a C, W.cl c = some C → okS (W.on a C) k core) (har : ps.length = spec.ar + 1) (vc : VCI c spec N core) : MkOk W (k + 2) c spec := by
  obtain ⟨f, fd, F, M⟩ := T.ex
  exact ⟨k + 1, C, f, fd, ps, rfl, hC, hmg C CT.ns, ⟨CT.mks, M.at_, M.fn, CT.kc⟩, fn_init core spec hat F Sc hN hB hc ok har vc, F.binds hb⟩
end
/-- what isinstance asks of a class of the text -/
structure IsTxt (K : PySem.W.Frag) (C : Addr) : Prop where
  ha : PySem.W.findIn K (.ref C) "__class__" = some (some (.builtin "object.__class__"))
  hn : PySem.W.specialIn K (.builtin "object.__class__") "__get__" = some (some (.builtin "getset_descriptor.__get__"))
  ht : PySem.W.takesIn K (.builtin "object.__class__") = some true
  hm : PySem.W.mroIn K C (.type "object") = some true
theorem is_ok {W : Wd} {c : Str} {C : Addr} (hC : W.cl c = some C) (hm : W.mg c = some (.ref C)) (cl : Cls W.K C) (T : IsTxt W.K C) : IsOk W c := ⟨C, hC, hm, ⟨cl, T.ha, T.hn, T.ht, T.hm, by unfold PySem.W.kitOne; simp⟩⟩
/-! ### comprehensions over mapped lists -/
theorem lcGo_mapG {α : Type} {g : α → D} {step : D → (Option D → Prop) → Prop} (f : α → D) : ∀ (xs : List α) (acc : List D) (K : List D → Prop), (∀ x ∈ xs, ∀ k : Option D → Prop, k (some (f x)) → step (g x) k) → K (acc ++ xs.map f) → lcGo step (xs.map g) acc K
  | [], acc, K, _, h => by rw [List.map_nil, lcGo]; simpa using h
  | x :: xs, acc, K, hs, h => by
    rw [List.map_cons, lcGo]
    refine hs x List.mem_cons_self _ ?_
    refine lcGo_mapG f xs _ K (fun y hy => hs y (List.mem_cons_of_mem _ hy)) ?_
    rw [List.append_assoc]
    exact h
theorem lcGo_filterG {α : Type} {g : α → D} {step : D → (Option D → Prop) → Prop} (p : α → Bool) (f : α → D) : ∀ (xs : List α) (acc : List D) (K : List D → Prop), (∀ x ∈ xs, ∀ k : Option D → Prop, k (if p x = true then some (f x) else none) → step (g x) k) → K (acc ++ (xs.filter p).map f) → lcGo step (xs.map g) acc K
  | [], acc, K, _, h => by rw [List.map_nil, lcGo]; simpa using h
  | x :: xs, acc, K, hs, h => by
    rw [List.map_cons, lcGo]
    refine hs x List.mem_cons_self _ ?_
    by_cases hp : p x = true
    · rw [if_pos hp]
      refine lcGo_filterG p f xs _ K (fun y hy => hs y (List.mem_cons_of_mem _ hy)) ?_
      rw [List.filter_cons_of_pos hp, List.map_cons] at h
      rw [List.append_assoc]
      exact h
    · rw [if_neg hp]
      refine lcGo_filterG p f xs _ K (fun y hy => hs y (List.mem_cons_of_mem _ hy)) ?_
      rw [List.filter_cons_of_neg hp] at h
      exact h
/-- each item gives one of some things -/
theorem lcGo_relG {α β : Type} {g : α → D} {h : β → D} {step : D → (Option D → Prop) → Prop} (P : α → β → Prop) : ∀ (xs : List α) (acc : List D) (K : List D → Prop), (∀ x ∈ xs, ∀ k : Option D → Prop, (∀ y, P x y → k (some (h y))) → step (g x) k) → (∀ ys : List β, ys.length = xs.length → (∀ (i : Nat) (x : α) (y : β), xs[i]? = some x → ys[i]? = some y → P x y) → K (acc ++ ys.map h)) → lcGo step (xs.map g) acc K
  | [], acc, K, _, hk => by rw [List.map_nil, lcGo]; simpa using hk [] rfl (by simp)
  | x :: xs, acc, K, hs, hk => by
    rw [List.map_cons, lcGo]
    refine hs x List.mem_cons_self _ fun y hy => ?_
    refine lcGo_relG P xs _ K (fun z hz => hs z (List.mem_cons_of_mem _ hz)) fun ys hl hP => ?_
    rw [List.append_assoc]
    refine hk (y :: ys) (by rw [List.length_cons, hl, List.length_cons]) fun i a b h1 h2 => ?_
    cases i with
    | zero => cases h1; cases h2; exact hy
    | succ i => exact hP i a b (by simpa using h1) (by simpa using h2)
/-- a for loop over a mapped list -/
theorem for_mapG {α : Type} {g : α → D} {tg : Tg} {s : S} {δ : Env} {p : Pst} (I : List α → Env → Prop) {xs : List α} (h0 : I xs δ) (hstep : ∀ x r δ (nx' : Env → Prop), I (x :: r) δ → (∀ δ', I r δ' → nx' δ') → ∃ δ', asgT tg (g x) δ = some δ' ∧ wS s δ' { nx := nx', rt := p.rt, bk := p.nx, ct := nx', ex := p.ex })
    (hend : ∀ δ, I [] δ → p.nx δ) : forGo tg (wS s) (xs.map g) δ p := by
  refine for_rule (fun ds δ => ∃ r, ds = r.map g ∧ I r δ) ⟨xs, rfl, h0⟩ ?_ ?_
  · rintro d ds δ nx' ⟨r, hr, hI⟩ hn
    cases r with
    | nil => cases hr
    | cons x r =>
      rw [List.map_cons] at hr
      injection hr with h1 h2
      subst h1
      exact hstep x r δ nx' hI fun δ' h' => hn δ' ⟨r, h2, h'⟩
  · rintro δ ⟨r, hr, hI⟩
    cases r with
    | nil => exact hend δ hI
    | cons x r => cases hr
/-- a for loop over a mapped list, each item alike -/
theorem for_each {α : Type} {g : α → D} {tg : Tg} {s : S} {δ : Env} {p : Pst} (I : Env → Prop) {xs : List α} (h0 : I δ) (hstep : ∀ x ∈ xs, ∀ δ (nx' : Env → Prop), I δ → (∀ δ', I δ' → nx' δ') → ∃ δ', asgT tg (g x) δ = some δ' ∧ wS s δ' { nx := nx', rt := p.rt, bk := p.nx, ct := nx', ex := p.ex })
    (hend : ∀ δ, I δ → p.nx δ) : forGo tg (wS s) (xs.map g) δ p := by
  refine for_mapG (fun r δ => (∀ x ∈ r, x ∈ xs) ∧ I δ) ⟨fun _ h => h, h0⟩ ?_ fun δ h => hend δ h.2
  rintro x r δ nx' ⟨hr, hI⟩ hn
  exact hstep x (hr x List.mem_cons_self) δ nx' hI fun δ' h' => hn δ' ⟨fun y hy => hr y (List.mem_cons_of_mem _ hy), h'⟩
end G
set_option maxRecDepth 100000
set_option maxHeartbeats 4000000
open PySem G
namespace R
open PySem G
/-! ### names, rings: the plain side -/
def NameOk (s : Str) : Prop := 1 ≤ s.length ∧ s.length ≤ 8 ∧ ∀ c ∈ s.cps.toList, 97 ≤ c ∧ c ≤ 122
def NamesOk (ns : List Str) : Prop := 2 ≤ ns.length ∧ ns.length ≤ 12 ∧ ns.Nodup ∧ ∀ s ∈ ns, NameOk s
abbrev letters : Str := "abcdefghijklmnopqrstuvwxyz"
theorem in_letters {c : Nat} (h : 97 ≤ c ∧ c ≤ 122) : inStr ⟨#[c]⟩ letters = true := by
  unfold inStr
  have e := PySem.StrLaws.found_one letters c
  rw [e]
  have : ∀ c ∈ List.range' 97 26, c ∈ letters.cps.toList := by decide +kernel
  rw [decide_eq_true_eq]
  exact this c (List.mem_range'_1.mpr (by omega))
def seqS (d : D) (ns : List Str) : Prop := d = .lst (ns.map D.str) ∨ d = .tup (ns.map D.str)
abbrev sp_is_number : Spc := fun ds K _ => ∃ z, ds = [.int z] ∧ K false (.bl true)
abbrev sp_is_name : Spc := fun ds K _ => ∃ s, ds = [.str s] ∧ NameOk s ∧ K false (.bl true)
abbrev sp_are_names : Spc := fun ds K _ => ∃ e ns, ds = [e] ∧ seqS e ns ∧ NamesOk ns ∧ K false (.bl true)
abbrev sp_need_names : Spc := fun ds K _ => ∃ e ns, ds = [e] ∧ seqS e ns ∧ NamesOk ns ∧ K false .non
def g_LETTERS : D := .str letters
def g_MOST_LETTERS : D := .int 8
def g_FEWEST : D := .int 2
def g_MOST : D := .int 12
def N_is_number : List Str := ["thing"]
def c_is_number : S := .cons (.ret (.and (.isin "int" (.var 0)) (.one (.not (.isin "bool" (.var 0)))))) (.nil)
def N_is_name : List Str := ["thing", "letter"]
def c_is_name : S := .cons (.ifs (.or (.not (.isin "str" (.var 0))) (.one (.not (.chain .LtE .LtE (.k (.int 1)) (.bn .len (.cons (.var 0) (.nil))) (.glob "MOST_LETTERS" g_MOST_LETTERS))))) (.cons (.ret (.k (.bl false))) (.nil)) (.nil)) (.cons (.ret (.bn .all (.cons (.lc [("letter", 1)] (.one 1) (.iseq (.var 0)) (.no) (.cmp .In (.var 1) (.glob "LETTERS" g_LETTERS))) (.nil)))) (.nil))
def N_are_names : List Str := ["thing", "name"]
def c_are_names : S := .cons (.ifs (.or (.not (.isin2 "list" "tuple" (.var 0))) (.one (.not (.chain .LtE .LtE (.glob "FEWEST" g_FEWEST) (.bn .len (.cons (.var 0) (.nil))) (.glob "MOST" g_MOST))))) (.cons (.ret (.k (.bl false))) (.nil)) (.nil)) (.cons (.ret (.and (.bn .all (.cons (.lc [("name", 1)] (.one 1) (.iseq (.var 0)) (.no) (.call "is_name" ⟨1, sp_is_name⟩ (.cons (.var 1) (.nil)))) (.nil))) (.one (.cmp .Eq (.cnt (.var 0)) (.bn .len (.cons (.var 0) (.nil))))))) (.nil))
def N_need_names : List Str := ["thing"]
def c_need_names : S := .cons (.ifs (.not (.call "are_names" ⟨1, sp_are_names⟩ (.cons (.var 0) (.nil)))) (.cons (.never) (.nil)) (.nil)) (.nil)
theorem vc_is_number : VC ⟨1, sp_is_number⟩ N_is_number c_is_number := by
  rintro ds K X hl ⟨z, rfl, hK⟩
  unfold c_is_number N_is_number
  simp_arith
  exact hK
theorem vc_is_name : VC ⟨1, sp_is_name⟩ N_is_name c_is_name := by
  rintro ds K X hl ⟨s, rfl, ⟨h1, h2, h3⟩, hK⟩
  unfold c_is_name N_is_name
  simp_arith [g_LETTERS, g_MOST_LETTERS]
  have hlen : (strD s).length = s.length := by unfold strD; rw [List.length_map]; rfl
  refine ⟨by omega, ?_⟩
  rw [if_pos (by omega), if_neg (by omega)]
  refine ⟨by omega, ?_⟩
  refine lcGo_map (f := fun _ => D.bl true) _ _ _ (fun d hd k hk => ?_) ?_
  · unfold strD at hd
    obtain ⟨c, hc, rfl⟩ := List.mem_map.mp hd
    simp_arith [in_letters (h3 c hc)]
    exact hk
  · simp_arith
    refine ⟨(strD s).map fun _ => true, by simp, ?_⟩
    rw [show (((strD s).map fun _ => true).all id) = true by simp]
    exact hK
theorem flat_strs {ns : List Str} : (ns.map D.str).all flatD = true := by
  rw [List.all_map, List.all_eq_true]
  intro x _
  rfl
theorem vc_are_names : VC ⟨1, sp_are_names⟩ N_are_names c_are_names := by
  rintro ds K X hl ⟨e, ns, rfl, hs, ⟨h1, h2, h3, h4⟩, hK⟩
  rcases hs with rfl | rfl
  all_goals
    unfold c_are_names N_are_names
    simp_arith [g_FEWEST, g_MOST, List.length_map]
    rw [if_pos (by omega), if_neg (by omega)]
    refine ⟨by omega, ?_⟩
    refine lcGo_map (f := fun _ => D.bl true) _ _ _ (fun d hd k hk => ?_) ?_
    · obtain ⟨s, hs, rfl⟩ := List.mem_map.mp hd
      simp_arith
      refine ⟨s, rfl, h4 s hs, ?_⟩
      simp_arith
      exact hk
    · simp_arith
      refine ⟨ns.map fun _ => true, by simp, ?_⟩
      rw [show ((ns.map fun _ => true).all id) = true by simp]
      simp_arith
      rw [GS.cnt_nodup h3]
      exact ⟨by omega, by simpa using hK⟩
theorem vc_need_names : VC ⟨1, sp_need_names⟩ N_need_names c_need_names := by
  rintro ds K X hl ⟨e, ns, rfl, hs, h, hK⟩
  unfold c_need_names N_need_names
  simp_arith
  refine ⟨e, ns, rfl, hs, h, ?_⟩
  simp_arith
  exact hK
end R
set_option maxRecDepth 100000
set_option maxHeartbeats 4000000
open PySem G
namespace R
open PySem G
theorem cut_from {α : Type} {xs : List α} {i : Int} (h0 : 0 ≤ i) (h1 : i ≤ xs.length) : cutL xs (some i) none = xs.drop i.toNat := by
  unfold cutL HT.sIx
  dsimp only
  rw [if_neg (by omega), Nat.min_eq_left (by omega), List.take_of_length_le (by rw [List.length_drop]; omega)]
theorem cut_to {α : Type} {xs : List α} {i : Int} (h0 : 0 ≤ i) (h1 : i ≤ xs.length) : cutL xs none (some i) = xs.take i.toNat := by
  unfold cutL HT.sIx
  dsimp only
  rw [if_neg (by omega), Nat.min_eq_left (by omega), List.drop_zero, Nat.sub_zero]
/-- where a name stands -/
def pos : List Str → Str → Nat
  | [], _ => 0
  | x :: r, n => if x = n then 0 else pos r n + 1
theorem pos_at : ∀ {ns : List Str} {n : Str}, n ∈ ns → ns[pos ns n]? = some n ∧ (∀ m < pos ns n, ns[m]? ≠ some n) ∧ pos ns n < ns.length
  | x :: r, n, h => by
    rw [pos]
    by_cases e : x = n
    · rw [if_pos e]
      exact ⟨by rw [e]; rfl, fun m hm => absurd hm (Nat.not_lt_zero m), by simp⟩
    · rw [if_neg e]
      have hr : n ∈ r := by
        rcases List.mem_cons.mp h with h | h
        · exact absurd h.symm e
        · exact h
      obtain ⟨h1, h2, h3⟩ := pos_at hr
      refine ⟨by simpa using h1, fun m hm => ?_, by simpa using h3⟩
      cases m with
      | zero => simpa using e
      | succ m => simpa using h2 m (by omega)
theorem pos_one {ns : List Str} {n : Str} {j : Nat} (h1 : ns[j]? = some n) (h2 : ∀ m < j, ns[m]? ≠ some n) : j = pos ns n := by
  have hm : n ∈ ns := List.mem_of_getElem? h1
  obtain ⟨q1, q2, q3⟩ := pos_at hm
  by_cases a : j < pos ns n
  · exact absurd h1 (q2 j a)
  · by_cases b : pos ns n < j
    · exact absurd q1 (h2 _ b)
    · omega
/-- all, from the seat behind n's on, n last -/
def beh (ns : List Str) (n : Str) : List Str := ns.drop (pos ns n + 1) ++ ns.take (pos ns n + 1)
/-- who sits behind the last goer -/
def sit (ns gs : List Str) : List Str := (beh ns (gs.getLastD Str.empty)).filter fun x => decide (x ∉ gs)
abbrev sp_behind : Spc := fun ds K _ => ∃ e ns n, ds = [e, .str n] ∧ seqS e ns ∧ n ∈ ns ∧ ns.length ≤ 1000 ∧ K true (.lst ((beh ns n).map D.str))
abbrev sp_sitting_behind : Spc := fun ds K _ => ∃ e e' ns gs, ds = [e, e'] ∧ seqS e ns ∧ seqS e' gs ∧ gs ≠ [] ∧ (∀ g ∈ gs, g ∈ ns) ∧ ns.length ≤ 1000 ∧ gs.length ≤ 1000 ∧ K true (.lst ((sit ns gs).map D.str))
def N_behind : List Str := ["names", "name", "at"]
def c_behind : S := .cons (.asg 2 false (.bm .index (.bn .list (.cons (.var 0) (.nil))) (.cons (.var 1) (.nil)))) (.cons (.ret (.bin .Add (.bn .list (.cons (.sl (.var 0) (.opt (.bin .Add (.var 2) (.k (.int 1)))) (.no)) (.nil))) (.bn .list (.cons (.sl (.var 0) (.no) (.opt (.bin .Add (.var 2) (.k (.int 1))))) (.nil))))) (.nil))
def N_sitting_behind : List Str := ["names", "goers", "name"]
def c_sitting_behind : S := .cons (.ret (.lc [("name", 2)] (.one 2) (.iseq (.call "behind" ⟨2, sp_behind⟩ (.cons (.var 0) (.cons (.ix (.var 1) (.neg (.k (.int 1)))) (.nil))))) (.opt (.cmp .NotIn (.var 2) (.var 1))) (.var 2))) (.nil)
theorem vc_behind : VC ⟨2, sp_behind⟩ N_behind c_behind := by
  rintro ds K X hl ⟨e, ns, n, rfl, hs, hn, hb, hK⟩
  obtain ⟨p1, p2, p3⟩ := pos_at hn
  rcases hs with rfl | rfl
  all_goals
    unfold c_behind N_behind
    simp_arith
    refine ⟨pos ns n, p1, p2, ?_⟩
    rw [cut_from (by omega) (by rw [List.length_map]; omega), cut_to (by omega) (by rw [List.length_map]; omega)]
    refine ⟨?_, ?_⟩
    · rw [List.length_drop, List.length_take, List.length_map]; omega
    · rw [show ((pos ns n : Int) + 1).toNat = pos ns n + 1 by omega, ← List.map_drop, ← List.map_take, ← List.map_append]
      exact hK
end R
set_option maxRecDepth 100000
set_option maxHeartbeats 4000000
open PySem G
namespace R
open PySem G
theorem at_last {α : Type} {xs : List α} {x : α} (h : xs.getLast? = some x) : L2.atI xs (-1) = some x := by
  unfold L2.atI L2.ixN
  have hne : xs ≠ [] := fun e => by rw [e] at h; cases h
  have hl : 0 < xs.length := List.length_pos_iff.mpr hne
  rw [if_neg (by decide), if_pos (by omega)]
  rw [List.getLast?_eq_getElem?] at h
  show xs[(-1 + (xs.length : Int)).toNat]? = some x
  rw [show (-1 + (xs.length : Int)).toNat = xs.length - 1 by omega]
  exact h
theorem lastD {gs : List Str} (h : gs ≠ []) : gs.getLast? = some (gs.getLastD Str.empty) ∧ gs.getLastD Str.empty ∈ gs := by
  cases gs with
  | nil => exact absurd rfl h
  | cons a r =>
    rw [List.getLastD_cons, List.getLast?_cons]
    refine ⟨by rw [List.getLastD_eq_getLast?], ?_⟩
    cases r with
    | nil => simp
    | cons b t =>
      have := List.getLast_mem (l := b :: t) (by simp)
      rw [List.getLastD_eq_getLast?, List.getLast?_eq_some_getLast (by simp)]
      exact List.mem_cons_of_mem _ this
theorem inD_strs {x : Str} : ∀ {ns : List Str}, inD (.str x) (ns.map D.str) = decide (x ∈ ns)
  | [] => by simp [inD]
  | n :: ns => by
    have := inD_strs (x := x) (ns := ns)
    unfold inD at this ⊢
    rw [List.map_cons, List.any_cons, this, eqD_str]
    exact Bool.eq_iff_iff.mpr (by simp only [Bool.or_eq_true, decide_eq_true_eq, List.mem_cons]; exact or_congr eq_comm Iff.rfl)
theorem beh_len (ns : List Str) (n : Str) : (beh ns n).length = ns.length := by
  unfold beh
  rw [List.length_append, List.length_drop, List.length_take]; omega
theorem vc_sitting_behind : VC ⟨2, sp_sitting_behind⟩ N_sitting_behind c_sitting_behind := by
  rintro ds K X hl ⟨e, e', ns, gs, rfl, hs, hg, hne, hsub, hb, hb', hK⟩
  obtain ⟨l1, l2⟩ := lastD hne
  have at1 : L2.atI (gs.map D.str) (-1) = some (.str (gs.getLastD Str.empty)) := at_last (by rw [List.getLast?_map, l1]; rfl)
  rcases hg with rfl | rfl
  all_goals
    unfold c_sitting_behind N_sitting_behind
    simp_arith
    refine ⟨_, at1, e, ns, _, rfl, hs, hsub _ l2, hb, ?_⟩
    simp_arith [List.length_map, beh_len]
    refine ⟨by omega, ?_⟩
    refine lcGo_filterG (fun z => decide (z ∉ gs)) D.str _ _ _ (fun s hs' k hk => ?_) ?_
    · simp_arith [inD_strs, flat_strs]
      by_cases hz : s ∈ gs
      · simp only [hz, not_true_eq_false, decide_true, decide_false, if_false, Bool.not_true, Bool.false_eq_true, flatD] at hk ⊢
        exact ⟨trivial, hk⟩
      · simp only [hz, not_false_eq_true, decide_false, decide_true, if_true, Bool.not_false, flatD] at hk ⊢
        exact ⟨trivial, hk⟩
    · rw [List.nil_append]
      simp_arith
      exact hK
end R
set_option maxRecDepth 100000
set_option maxHeartbeats 4000000
namespace R
open PySem G
/-! ### rounds, plain -/
theorem split_uniq {α : Type} {x : α} : ∀ {P P' Q Q' : List α}, (P ++ x :: Q).Nodup → P ++ x :: Q = P' ++ x :: Q' → P = P' ∧ Q = Q'
  | [], [], _, _, _, h => ⟨rfl, by simpa using h⟩
  | [], y :: P', Q, Q', n, h => by
    rw [List.nil_append, List.cons_append] at h
    injection h with h1 h2
    rw [List.nil_append, List.nodup_cons] at n
    exact absurd (by rw [h2]; simp) n.1
  | y :: P, [], Q, Q', n, h => by
    rw [List.nil_append, List.cons_append] at h
    injection h with h1 h2
    rw [List.cons_append, List.nodup_cons] at n
    exact absurd (by rw [h1]; simp) n.1
  | y :: P, z :: P', Q, Q', n, h => by
    rw [List.cons_append, List.cons_append] at h
    injection h with h1 h2
    rw [List.cons_append, List.nodup_cons] at n
    obtain ⟨a, b⟩ := split_uniq n.2 h2
    exact ⟨by rw [h1, a], b⟩
theorem pos_split {n : Str} : ∀ {A B : List Str}, n ∉ A → pos (A ++ n :: B) n = A.length
  | [], B, _ => by rw [List.nil_append, pos, if_pos rfl]; rfl
  | a :: A, B, h => by
    rw [List.cons_append, pos, if_neg (fun e => h (by rw [e]; exact List.mem_cons_self)), pos_split (fun q => h (List.mem_cons_of_mem _ q))]
    rfl
theorem beh_split {n : Str} {A B : List Str} (h : n ∉ A) : beh (A ++ n :: B) n = B ++ A ++ [n] := by
  unfold beh
  rw [pos_split h, List.drop_append, List.take_append]
  rw [List.drop_of_length_le (by omega), List.take_of_length_le (by omega), show A.length + 1 - A.length = 1 by omega]
  simp
theorem split_of {n : Str} {ns : List Str} (h : n ∈ ns) : ∃ A B, ns = A ++ n :: B ∧ n ∉ A := by
  obtain ⟨A, B, e, q⟩ := List.eq_append_cons_of_mem h
  exact ⟨A, B, e, q⟩
theorem beh_nodup {ns : List Str} {n : Str} (h : ns.Nodup) (hn : n ∈ ns) : (beh ns n).Nodup := by
  obtain ⟨A, B, rfl, ha⟩ := split_of hn
  rw [beh_split ha]
  refine List.Perm.nodup ?_ h
  have : (A ++ n :: B).Perm ((n :: B) ++ A) := List.perm_append_comm
  refine this.trans ?_
  rw [List.cons_append]
  exact (List.perm_append_singleton n (B ++ A)).symm
theorem beh_mem {ns : List Str} {n x : Str} (hn : n ∈ ns) : x ∈ beh ns n ↔ x ∈ ns := by
  unfold beh
  rw [List.mem_append]
  constructor
  · rintro (h | h)
    · exact List.mem_of_mem_drop h
    · exact List.mem_of_mem_take h
  · intro h
    rw [← List.take_append_drop (pos ns n + 1) ns, List.mem_append] at h
    exact h.symm
/-- who sits behind the next one -/
theorem beh_turn {ns P Q : List Str} {x y : Str} (nd : ns.Nodup) (hy : y ∈ ns) (h : beh ns y = P ++ x :: Q) : beh ns x = Q ++ P ++ [x] := by
  have hx : x ∈ ns := (beh_mem hy).mp (by rw [h]; simp)
  have ndL := beh_nodup nd hy
  rw [h] at ndL
  obtain ⟨A, B, rfl, ha⟩ := split_of hx
  rw [beh_split ha]
  rw [List.mem_append, List.mem_cons] at hy
  rcases hy with hy | hy | hy
  · obtain ⟨A1, A2, rfl, h1⟩ := split_of hy
    rw [List.append_assoc, List.cons_append, beh_split h1] at h
    have e : A2 ++ x :: B ++ A1 ++ [y] = A2 ++ x :: (B ++ A1 ++ [y]) := by simp
    rw [e] at h
    obtain ⟨rfl, rfl⟩ := split_uniq ndL h.symm
    simp
  · subst hy
    rw [beh_split ha] at h
    obtain ⟨rfl, rfl⟩ := split_uniq ndL h.symm
    simp
  · obtain ⟨B1, B2, rfl, h1⟩ := split_of hy
    have hya : y ∉ A := fun q => by
      rw [List.nodup_append] at nd
      exact nd.2.2 y q y (by simp) rfl
    have hyx : y ≠ x := fun e => by
      rw [List.nodup_append, List.nodup_cons] at nd
      exact nd.2.1.1 (by rw [← e]; simp)
    have e : A ++ x :: (B1 ++ y :: B2) = (A ++ x :: B1) ++ y :: B2 := by simp
    rw [e, beh_split (by simp [hya, hyx, h1])] at h
    have e : B2 ++ (A ++ x :: B1) ++ [y] = (B2 ++ A) ++ x :: (B1 ++ [y]) := by simp
    rw [e] at h
    obtain ⟨rfl, rfl⟩ := split_uniq ndL h.symm
    simp
theorem last_snoc {gs : List Str} {x : Str} : (gs ++ [x]).getLastD Str.empty = x := by
  rw [List.getLastD_eq_getLast?, List.getLast?_append]
  simp
theorem sit_turn {ns gs R1 R2 : List Str} {x : Str} (nd : ns.Nodup) (hg : gs.getLastD Str.empty ∈ ns) (h : sit ns gs = R1 ++ x :: R2) : sit ns (gs ++ [x]) = R2 ++ R1 := by
  unfold sit at h ⊢
  rw [last_snoc]
  obtain ⟨P, Q, h1, h2, h3⟩ := List.filter_eq_append_iff.mp h
  rw [List.filter_eq_cons_iff] at h3
  obtain ⟨Q1, Q2, rfl, h4, h5, h6⟩ := h3
  have ndL := beh_nodup nd hg
  rw [h1] at ndL
  have e : P ++ (Q1 ++ x :: Q2) = (P ++ Q1) ++ x :: Q2 := by simp
  rw [e] at h1 ndL
  rw [beh_turn nd hg h1]
  have nx : x ∉ P ++ Q1 ∧ x ∉ Q2 := by
    rw [List.nodup_append, List.nodup_cons] at ndL
    exact ⟨fun q => ndL.2.2 x q x (by simp) rfl, ndL.2.1.1⟩
  have k : ∀ L : List Str, x ∉ L → (L.filter fun z => decide (z ∉ gs ++ [x])) = L.filter fun z => decide (z ∉ gs) := fun L hL => by
    refine List.filter_congr fun z hz => ?_
    have : z ≠ x := fun e => hL (by rw [← e]; exact hz)
    simp [this]
  rw [List.filter_append, List.filter_append, k _ nx.1, k _ nx.2, List.filter_append, h2, h6]
  have e1 : (Q1.filter fun z => decide (z ∉ gs)) = [] := List.filter_eq_nil_iff.mpr h4
  rw [e1]
  simp
theorem sit_one {ns : List Str} {b : Str} (nd : ns.Nodup) (hb : b ∈ ns) : sit ns [b] = ns.drop (pos ns b + 1) ++ ns.take (pos ns b) := by
  obtain ⟨A, B, rfl, ha⟩ := split_of hb
  unfold sit
  rw [show ([b] : List Str).getLastD Str.empty = b from rfl, beh_split ha, pos_split ha, List.drop_append, List.take_append, List.drop_of_length_le (by omega), show A.length + 1 - A.length = 1 by omega, Nat.sub_self, List.take_of_length_le (by omega)]
  have hB : b ∉ B := by
    rw [List.nodup_append, List.nodup_cons] at nd
    exact nd.2.1.1
  rw [List.filter_append, List.filter_append]
  have k : ∀ L : List Str, b ∉ L → (L.filter fun z => decide (z ∉ [b])) = L := fun L hL => by
    refine List.filter_eq_self.mpr fun z hz => ?_
    have : z ≠ b := fun e => hL (by rw [← e]; exact hz)
    simp [this]
  rw [k _ ha, k _ hB]
  simp
/-- the goers behind y, from those who sit -/
def play (sl : Str → Int) : Nat → List Str → Str → List Str
  | 0, _, _ => []
  | n + 1, row, y =>
    let i := (sl y % row.length).toNat
    let x := row.getD i Str.empty
    x :: play sl n (row.drop (i + 1) ++ row.take i) x
def ordr (ns : List Str) (sl : Str → Int) (b : Str) : List Str := b :: play sl (ns.length - 1) (ns.drop (pos ns b + 1) ++ ns.take (pos ns b)) b
theorem spot_lt {row : List Str} {z : Int} (h : row ≠ []) : (z % row.length).toNat < row.length := by
  have : 0 < row.length := List.length_pos_iff.mpr h
  have := Int.emod_lt_of_pos z (show (0 : Int) < row.length by omega)
  have := Int.emod_nonneg z (show (row.length : Int) ≠ 0 by omega)
  omega
theorem row_split {row : List Str} {i : Nat} (h : i < row.length) : row = row.take i ++ row.getD i Str.empty :: row.drop (i + 1) := by
  have : row.getD i Str.empty = row[i] := by simp [List.getD, h]
  rw [this, ← List.drop_eq_getElem_cons h, List.take_append_drop]
theorem row_len {row : List Str} {i : Nat} (h : i < row.length) : (row.drop (i + 1) ++ row.take i).length = row.length - 1 := by
  rw [List.length_append, List.length_drop, List.length_take]; omega
theorem row_sub {row : List Str} {i : Nat} {z : Str} (h : z ∈ row.drop (i + 1) ++ row.take i) : z ∈ row := by
  rcases List.mem_append.mp h with h | h
  · exact List.mem_of_mem_drop h
  · exact List.mem_of_mem_take h
theorem row_perm {row : List Str} {i : Nat} (h : i < row.length) : (row.getD i Str.empty :: (row.drop (i + 1) ++ row.take i)).Perm row := by
  have e := row_split h
  refine List.Perm.trans ?_ (List.Perm.of_eq e.symm)
  refine List.Perm.trans ?_ List.perm_append_comm
  exact List.Perm.refl _
theorem play_perm {sl : Str → Int} : ∀ {n : Nat} {row : List Str} {y : Str}, row.length = n → (play sl n row y).Perm row
  | 0, row, y, h => by rw [List.length_eq_zero_iff.mp h]; exact List.Perm.refl _
  | n + 1, row, y, h => by
    have hi := spot_lt (row := row) (z := sl y) (by intro e; rw [e] at h; cases h)
    rw [play]
    refine List.Perm.trans (List.Perm.cons _ (play_perm (by rw [row_len hi]; omega))) (row_perm hi)
theorem play_len {sl : Str → Int} : ∀ {n : Nat} {row : List Str} {y : Str}, (play sl n row y).length = n
  | 0, _, _ => rfl
  | n + 1, _, _ => by rw [play, List.length_cons, play_len]
theorem play_congr {f g : Str → Int} : ∀ {n : Nat} {row : List Str} {y : Str}, row.length = n → f y = g y → (∀ z ∈ row, f z = g z) → play f n row y = play g n row y
  | 0, _, _, _, _, _ => rfl
  | n + 1, row, y, hl, h1, h2 => by
    have hi := spot_lt (row := row) (z := g y) (by intro e; rw [e] at hl; cases hl)
    have hm : row.getD (g y % row.length).toNat Str.empty ∈ row := by
      have e : row.getD (g y % row.length).toNat Str.empty = row[(g y % row.length).toNat] := by simp [List.getD, hi]
      rw [e]
      exact List.getElem_mem hi
    rw [play, play, h1]
    try dsimp only
    rw [play_congr (by rw [row_len hi]; omega) (h2 _ hm) fun z hz => h2 z (row_sub hz)]
theorem first_len {ns : List Str} {b : Str} (hb : b ∈ ns) : (ns.drop (pos ns b + 1) ++ ns.take (pos ns b)).length = ns.length - 1 := row_len (pos_at hb).2.2
theorem ordr_congr {ns : List Str} {f g : Str → Int} {b : Str} (hb : b ∈ ns) (h : ∀ z ∈ ns, f z = g z) : ordr ns f b = ordr ns g b := by
  unfold ordr
  rw [play_congr (first_len hb) (h b hb) fun z hz => h z (row_sub hz)]
theorem ordr_len {ns : List Str} {f : Str → Int} {b : Str} (hb : b ∈ ns) : (ordr ns f b).length = ns.length := by
  unfold ordr
  rw [List.length_cons, play_len]
  have := (pos_at hb).2.2
  omega
theorem ordr_perm {ns : List Str} {f : Str → Int} {b : Str} (hb : b ∈ ns) : (ordr ns f b).Perm ns := by
  unfold ordr
  refine List.Perm.trans (List.Perm.cons _ (play_perm (first_len hb))) ?_
  have hp := (pos_at hb)
  have := row_perm hp.2.2
  rw [show ns.getD (pos ns b) Str.empty = b by simp [List.getD, hp.1]] at this
  exact this
theorem sit_mem {ns gs : List Str} {x : Str} (hg : gs.getLastD Str.empty ∈ ns) : x ∈ sit ns gs ↔ x ∈ ns ∧ x ∉ gs := by
  unfold sit
  rw [List.mem_filter, beh_mem hg, decide_eq_true_eq]
end R
set_option maxRecDepth 100000
set_option maxHeartbeats 4000000
open PySem G
namespace R
open PySem G
/-! ### rings: names with slips, seat by seat -/
def dicF (ks : List Str) (f : Str → Int) : List (L2.Key × D) := ks.map fun n => (Sum.inr n, D.int (f n))
def ringF (ns : List Str) (f : Str → Int) : List (Str × D) := [("own_seats", .tup (ns.map D.str)), ("own_slips", .dic (dicF ns f))]
def ringD (ns : List Str) (f : Str → Int) : D := .ins "Ring" (ringF ns f)
theorem look_seats {ns : List Str} {f : Str → Int} : (ringF ns f).lookup ("own_seats" : Str) = some (D.tup (ns.map D.str)) := rfl
theorem look_slips {ns : List Str} {f : Str → Int} : (ringF ns f).lookup ("own_slips" : Str) = some (D.dic (dicF ns f)) := rfl
theorem look_need {ns : List Str} {f : Str → Int} : (ringF ns f).lookup ("need_name" : Str) = none := rfl
theorem look_order {ns : List Str} {f : Str → Int} : (ringF ns f).lookup ("order" : Str) = none := rfl
theorem look_next {ns : List Str} {f : Str → Int} : (ringF ns f).lookup ("next_of" : Str) = none := rfl
theorem look_names {ns : List Str} {f : Str → Int} : (ringF ns f).lookup ("names" : Str) = none := rfl
theorem look_Slips {ns : List Str} {f : Str → Int} : (ringF ns f).lookup ("slips" : Str) = none := rfl
theorem look_slip {ns : List Str} {f : Str → Int} : (ringF ns f).lookup ("slip" : Str) = none := rfl
theorem look_with {ns : List Str} {f : Str → Int} : (ringF ns f).lookup ("with_slip" : Str) = none := rfl
theorem dicF_inj : ∀ {a b : List Str} {f g : Str → Int}, dicF a f = dicF b g → a = b ∧ ∀ n ∈ a, f n = g n
  | [], [], _, _, _ => ⟨rfl, fun _ h => (by cases h)⟩
  | [], _ :: _, _, _, h => by cases h
  | _ :: _, [], _, _, h => by cases h
  | p :: a, q :: b, f, g, h => by
    unfold dicF at h
    rw [List.map_cons, List.map_cons] at h
    injection h with h1 h2
    injection h1 with h3 h4
    injection h3 with h3
    injection h4 with h4
    obtain ⟨h5, h6⟩ := dicF_inj (a := a) (b := b) h2
    subst h3
    refine ⟨by rw [h5], fun n hn => ?_⟩
    rcases List.mem_cons.mp hn with rfl | hn
    · exact h4
    · exact h6 n hn
theorem dicF_congr {a : List Str} {f g : Str → Int} (h : ∀ n ∈ a, f n = g n) : dicF a f = dicF a g := by
  unfold dicF
  exact List.map_congr_left fun n hn => by rw [h n hn]
theorem ringD_congr {a : List Str} {f g : Str → Int} (h : ∀ n ∈ a, f n = g n) : ringD a f = ringD a g := by
  unfold ringD ringF
  rw [dicF_congr h]
theorem ringF_inj {a b : List Str} {f g : Str → Int} (h : ringF a f = ringF b g) : a = b ∧ ∀ n ∈ a, f n = g n := by
  unfold ringF at h
  injection h with _ h
  injection h with h _
  injection h with _ h
  injection h with h
  exact dicF_inj h
theorem ringD_inj {a b : List Str} {f g : Str → Int} (h : ringD a f = ringD b g) : a = b ∧ ∀ n ∈ a, f n = g n := by
  unfold ringD at h
  injection h with _ h
  exact ringF_inj h
theorem getK_F {ks : List Str} {f : Str → Int} {n : Str} (h : n ∈ ks) : getK (dicF ks f) (.inr n) = some (.int (f n)) := by
  unfold getK dicF
  induction ks with
  | nil => cases h
  | cons p r ih =>
    rw [List.map_cons, List.find?_cons]
    by_cases e : p = n
    · have e1 : decide ((Sum.inr p : L2.Key) = Sum.inr n) = true := by simp [e]
      simp only [e1]
      rw [e]; rfl
    · have e1 : decide ((Sum.inr p : L2.Key) = Sum.inr n) = false := by
        rw [decide_eq_false_iff_not]
        intro q
        injection q with q
        exact e q
      simp only [e1]
      refine ih ?_
      rcases List.mem_cons.mp h with h | h
      · exact absurd h.symm e
      · exact h
theorem len_dicF {ks : List Str} {f : Str → Int} : (dicF ks f).length = ks.length := by unfold dicF; rw [List.length_map]
theorem dic_cons {ks : List Str} {f : Str → Int} {n : Str} : dicF (n :: ks) f = (Sum.inr n, D.int (f n)) :: dicF ks f := rfl
/-! setting a slip -/
def setS (f : Str → Int) (n : Str) (z : Int) : Str → Int := fun m => if m = n then z else f m
theorem any_F {ks : List Str} {f : Str → Int} {n : Str} : ((dicF ks f).any fun kv => decide (kv.1 = (Sum.inr n : L2.Key))) = decide (n ∈ ks) := by
  unfold dicF
  rw [List.any_map]
  refine Bool.eq_iff_iff.mpr ?_
  rw [List.any_eq_true, decide_eq_true_eq]
  constructor
  · rintro ⟨x, hx, h⟩
    have h' : (Sum.inr x : L2.Key) = Sum.inr n := of_decide_eq_true h
    injection h' with h'
    rw [← h']; exact hx
  · intro h
    exact ⟨n, h, decide_eq_true rfl⟩
theorem putD_in {f : Str → Int} {n : Str} {z : Int} {ks : List Str} (h : n ∈ ks) : putD (dicF ks f) (.inr n) (.int z) = dicF ks (setS f n z) := by
  unfold putD
  rw [any_F, if_pos (decide_eq_true h)]
  unfold dicF
  rw [List.map_map]
  refine List.map_congr_left fun m hm => ?_
  show (if (Sum.inr m : L2.Key) = Sum.inr n then ((Sum.inr m : L2.Key), D.int z) else (Sum.inr m, D.int (f m))) = _
  unfold setS
  by_cases e : m = n
  · rw [if_pos (by rw [e]), if_pos e]
  · rw [if_neg (by intro q; injection q with q; exact e q), if_neg e]
theorem putD_new {f : Str → Int} {n : Str} {ks : List Str} (h : n ∉ ks) : putD (dicF ks f) (.inr n) (.int (f n)) = dicF (ks ++ [n]) f := by
  unfold putD
  rw [any_F, if_neg (by simp [h])]
  unfold dicF
  rw [List.map_append]
  rfl
theorem merge_F {f : Str → Int} : ∀ {more ks : List Str}, (ks ++ more).Nodup → mergeD (dicF ks f) (dicF more f) = dicF (ks ++ more) f
  | [], ks, _ => by rw [List.append_nil]; rfl
  | n :: more, ks, nd => by
    have hn : n ∉ ks := fun q => by
      rw [List.nodup_append] at nd
      exact nd.2.2 n q n (by simp) rfl
    show mergeD (putD (dicF ks f) (.inr n) (.int (f n))) (dicF more f) = _
    rw [putD_new hn]
    have e : ks ++ n :: more = (ks ++ [n]) ++ more := by simp
    rw [e] at nd ⊢
    exact merge_F nd
theorem merge_F0 {f : Str → Int} {ks : List Str} (nd : ks.Nodup) : mergeD [] (dicF ks f) = dicF ks f := merge_F (ks := []) (more := ks) (by simpa using nd)
abbrev sp_Ring_need_name : Spc := fun ds K _ => ∃ ns f n, ds = [ringD ns f, .str n] ∧ n ∈ ns ∧ K false .non
abbrev sp_Ring_names : Spc := fun ds K _ => ∃ ns f, ds = [ringD ns f] ∧ ns.length ≤ 1000 ∧ K true (.lst (ns.map D.str))
abbrev sp_Ring_slips : Spc := fun ds K _ => ∃ ns f, ds = [ringD ns f] ∧ K true (.dic (dicF ns f))
abbrev sp_Ring_slip : Spc := fun ds K _ => ∃ ns f n, ds = [ringD ns f, .str n] ∧ n ∈ ns ∧ K false (.int (f n))
def N_Ring_need_name : List Str := ["self", "name"]
def c_Ring_need_name : S := .cons (.ifs (.or (.not (.isin "str" (.var 1))) (.one (.cmp .NotIn (.var 1) (.fld "Ring" "own_slips" (.var 0))))) (.cons (.never) (.nil)) (.nil)) (.nil)
def N_Ring_names : List Str := ["self"]
def c_Ring_names : S := .cons (.ret (.bn .list (.cons (.fld "Ring" "own_seats" (.var 0)) (.nil)))) (.nil)
def N_Ring_slips : List Str := ["self"]
def c_Ring_slips : S := .cons (.ret (.bn2 .dict (.cons (.fld "Ring" "own_slips" (.var 0)) (.nil)))) (.nil)
def N_Ring_slip : List Str := ["self", "name"]
def c_Ring_slip : S := .cons (.expr (.meth "Ring" "need_name" ⟨2, sp_Ring_need_name⟩ (.var 0) (.cons (.var 1) (.nil)))) (.cons (.ret (.ix (.fld "Ring" "own_slips" (.var 0)) (.var 1))) (.nil))
def N_Ring___len__ : List Str := ["self"]
def c_Ring___len__ : S := .cons (.ret (.bn .len (.cons (.fld "Ring" "own_seats" (.var 0)) (.nil)))) (.nil)
abbrev sp_Ring___len__ : Spc := fun ds K _ => ∃ ns f, ds = [ringD ns f] ∧ ns.length ≤ 1000 ∧ K false (.int ns.length)
theorem vc_Ring_need_name : VC ⟨2, sp_Ring_need_name⟩ N_Ring_need_name c_Ring_need_name := by
  rintro ds K X hl ⟨ns, f, n, rfl, hn, hK⟩
  unfold c_Ring_need_name N_Ring_need_name
  simp_arith [ringD, look_seats, look_slips, getK_F hn]
  simpa using hK
theorem vc_Ring_names : VC ⟨1, sp_Ring_names⟩ N_Ring_names c_Ring_names := by
  rintro ds K X hl ⟨ns, f, rfl, hb, hK⟩
  unfold c_Ring_names N_Ring_names
  simp_arith [ringD, look_seats, List.length_map]
  first
  | exact hK
  | exact ⟨by omega, hK⟩
theorem vc_Ring_slips : VC ⟨1, sp_Ring_slips⟩ N_Ring_slips c_Ring_slips := by
  rintro ds K X hl ⟨ns, f, rfl, hK⟩
  unfold c_Ring_slips N_Ring_slips
  simp_arith [ringD, look_slips]
  exact hK
theorem vc_Ring_slip : VC ⟨2, sp_Ring_slip⟩ N_Ring_slip c_Ring_slip := by
  rintro ds K X hl ⟨ns, f, n, rfl, hn, hK⟩
  unfold c_Ring_slip N_Ring_slip
  simp_arith [ringD, look_need]
  refine ⟨ns, f, n, rfl, hn, ?_⟩
  simp_arith [look_slips]
  exact ⟨_, getK_F hn, hK⟩
theorem vc_Ring___len__ : VC ⟨1, sp_Ring___len__⟩ N_Ring___len__ c_Ring___len__ := by
  rintro ds K X hl ⟨ns, f, rfl, hb, hK⟩
  unfold c_Ring___len__ N_Ring___len__
  simp_arith [ringD, look_seats, List.length_map]
  exact hK
end R
set_option maxRecDepth 100000
set_option maxHeartbeats 4000000
open PySem G
namespace R
open PySem G
/-- Ring(names, slips) -/
abbrev sp_Ring : Spc := fun ds K _ => ∃ e ns ks f, ds = [e, .dic (dicF ks f)] ∧ seqS e ns ∧ NamesOk ns ∧ ks.length = ns.length ∧ (∀ n ∈ ns, n ∈ ks) ∧ K true (ringD ns f)
def N_Ring___init__ : List Str := ["self", "names", "slips", "name"]
def c_Ring___init__ : S := .cons (.expr (.call "need_names" ⟨1, sp_need_names⟩ (.cons (.var 1) (.nil)))) (.cons (.ifs (.or (.not (.isin "dict" (.var 2))) (.one (.cmp .NotEq (.bn .len (.cons (.var 2) (.nil))) (.bn .len (.cons (.var 1) (.nil)))))) (.cons (.never) (.nil)) (.nil)) (.cons (.ifs (.not (.bn .all (.cons (.lc [("name", 3)] (.one 3) (.iseq (.var 1)) (.no) (.and (.cmp .In (.var 3) (.var 2)) (.one (.call "is_number" ⟨1, sp_is_number⟩ (.cons (.ix (.var 2) (.var 3)) (.nil)))))) (.nil)))) (.cons (.never) (.nil)) (.nil)) (.cons (.setF 0 "@" "own_seats" (.bn .tuple (.cons (.var 1) (.nil)))) (.cons (.setF 0 "@" "own_slips" (.dc [("name", 3)] (.one 3) (.iseq (.var 1)) (.no) (.var 3) (.ix (.var 2) (.var 3)))) (.nil)))))
theorem nmL_strs : ∀ {ns : List Str}, nmL (ns.map D.str) = true
  | [] => by rw [List.map_nil, nmL]
  | n :: ns => by rw [List.map_cons, nmL, nmL_strs]; simp [nmD]
theorem nmK_F : ∀ {ns : List Str} {f : Str → Int}, nmK (dicF ns f) = true
  | [], _ => by show nmK [] = true; rw [nmK]
  | n :: ns, f => by rw [dic_cons, nmK, nmK_F]; simp [nmD]
theorem vc_Ring___init__ : VCI "Ring" ⟨2, sp_Ring⟩ N_Ring___init__ c_Ring___init__ := by
  rintro ds K X hl ⟨e, ns, ks, f, rfl, hs, hn, hk, hin, hK⟩
  have hl2 := hn.2.1
  have hs' := hs
  rcases hs' with rfl | rfl
  all_goals
    unfold c_Ring___init__ N_Ring___init__
    simp_arith
    refine ⟨_, ns, rfl, hs, hn, ?_⟩
    simp_arith [len_dicF, List.length_map, hk]
    refine ⟨by omega, ?_⟩
    refine lcGo_map (f := fun _ => D.bl true) _ _ _ (fun d hd k hk' => ?_) ?_
    · obtain ⟨s, hs', rfl⟩ := List.mem_map.mp hd
      simp_arith [getK_F (hin s hs')]
      refine ⟨_, rfl, ?_⟩
      simp_arith
      simpa using hk'
    · simp_arith
      refine ⟨ns.map fun _ => true, by simp, ?_⟩
      rw [show ((ns.map fun _ => true).all id) = true by simp]
      simp_arith [List.length_map]
      refine ⟨[], rfl, by decide, ?_⟩
      rw [show putFD "own_seats" (D.tup (List.map D.str ns)) [] = [(("own_seats" : Str), D.tup (List.map D.str ns))] from rfl]
      refine ⟨by omega, ?_⟩
      refine lcGo_map (f := fun d => match d with | .str s => D.tup [.str s, .int (f s)] | _ => .non) _ _ _ (fun d hd k hk' => ?_) ?_
      · obtain ⟨s, hs', rfl⟩ := List.mem_map.mp hd
        simp_arith [getK_F (hin s hs')]
        exact ⟨rfl, hk'⟩
      · rw [List.nil_append]
        simp_arith
        refine ⟨_, rfl, by show 1 < 1000; decide, ?_⟩
        have e1 : List.map prD (List.map (fun d => match d with | .str s => D.tup [.str s, .int (f s)] | _ => .non) (List.map D.str ns)) = dicF ns f := by
          rw [List.map_map, List.map_map]
          rfl
        rw [e1, merge_F0 hn.2.2.1]
        rw [show putFD "own_slips" (D.dic (dicF ns f)) [(("own_seats" : Str), D.tup (List.map D.str ns))] = ringF ns f from rfl]
        refine ⟨_, _, ⟨rfl, rfl⟩, ?_, hK⟩
        unfold ringF
        simp only [nmF, nmD, nmL_strs, nmK_F, Bool.and_self]
end R
set_option maxRecDepth 100000
set_option maxHeartbeats 4000000
open PySem G
namespace R
open PySem G
abbrev sp_Ring_with_slip : Spc := fun ds K _ => ∃ ns f n z, ds = [ringD ns f, .str n, .int z] ∧ NamesOk ns ∧ n ∈ ns ∧ K true (ringD ns (setS f n z))
abbrev sp_Ring_order : Spc := fun ds K _ => ∃ ns f b, ds = [ringD ns f, .str b] ∧ NamesOk ns ∧ b ∈ ns ∧ K false (.tup ((ordr ns f b).map D.str))
def N_Ring_with_slip : List Str := ["self", "name", "number", "slips"]
def c_Ring_with_slip : S := .cons (.expr (.meth "Ring" "need_name" ⟨2, sp_Ring_need_name⟩ (.var 0) (.cons (.var 1) (.nil)))) (.cons (.ifs (.not (.call "is_number" ⟨1, sp_is_number⟩ (.cons (.var 2) (.nil)))) (.cons (.never) (.nil)) (.nil)) (.cons (.asg 3 true (.bn2 .dict (.cons (.fld "Ring" "own_slips" (.var 0)) (.nil)))) (.cons (.setI 3 (.var 1) (.var 2)) (.frz [3] (.cons (.ret (.mk "Ring" ⟨2, sp_Ring⟩ (.cons (.fld "Ring" "own_seats" (.var 0)) (.cons (.var 3) (.nil))))) (.nil))))))
def N_Ring_order : List Str := ["self", "begin", "goers", "sitting"]
def c_Ring_order : S := .cons (.expr (.meth "Ring" "need_name" ⟨2, sp_Ring_need_name⟩ (.var 0) (.cons (.var 1) (.nil)))) (.cons (.asg 2 true (.lst (.cons (.var 1) (.nil)))) (.cons (.whl (.cmp .Lt (.bn .len (.cons (.var 2) (.nil))) (.bn .len (.cons (.fld "Ring" "own_seats" (.var 0)) (.nil)))) (.cons (.asg 3 false (.call "sitting_behind" ⟨2, sp_sitting_behind⟩ (.cons (.fld "Ring" "own_seats" (.var 0)) (.cons (.var 2) (.nil))))) (.cons (.mut1 2 .append (.cons (.ix (.var 3) (.bin .Mod (.ix (.fld "Ring" "own_slips" (.var 0)) (.ix (.var 2) (.neg (.k (.int 1))))) (.bn .len (.cons (.var 3) (.nil))))) (.nil))) (.nil)))) (.cons (.ret (.bn .tuple (.cons (.var 2) (.nil)))) (.nil))))
def N_Ring_next_of : List Str := ["self", "begin", "last", "hands"]
def c_Ring_next_of : S := .cons (.asg 2 false (.ix (.meth "Ring" "order" ⟨2, sp_Ring_order⟩ (.var 0) (.cons (.var 1) (.nil))) (.neg (.k (.int 1))))) (.cons (.asg 3 false (.call "behind" ⟨2, sp_behind⟩ (.cons (.fld "Ring" "own_seats" (.var 0)) (.cons (.var 2) (.nil))))) (.cons (.ret (.ix (.var 3) (.bin .Mod (.ix (.fld "Ring" "own_slips" (.var 0)) (.var 2)) (.bn .len (.cons (.var 3) (.nil)))))) (.nil)))
theorem vc_Ring_with_slip : VC ⟨3, sp_Ring_with_slip⟩ N_Ring_with_slip c_Ring_with_slip := by
  rintro ds K X hl ⟨ns, f, n, z, rfl, hr, hn, hK⟩
  have hl2 := hr.2.1
  unfold c_Ring_with_slip N_Ring_with_slip
  simp_arith [ringD, look_need]
  refine ⟨ns, f, n, rfl, hn, ?_⟩
  simp_arith
  refine ⟨z, rfl, ?_⟩
  simp_arith [look_slips, look_seats, len_dicF, putD_in hn]
  refine ⟨by omega, _, ns, ns, _, rfl, .inr rfl, hr, rfl, fun _ h => h, ?_⟩
  simp_arith
  exact hK
/-! ### a round -/
/-- goers so far -/
structure Going (ns : List Str) (f : Str → Int) (b : Str) (gs : List Str) : Prop where
  ne : gs ≠ []
  sub : ∀ g ∈ gs, g ∈ ns
  len : (sit ns gs).length + gs.length = ns.length
  all : gs ++ play f (sit ns gs).length (sit ns gs) (gs.getLastD Str.empty) = ordr ns f b
theorem going_0 {ns : List Str} {f : Str → Int} {b : Str} (nd : ns.Nodup) (hb : b ∈ ns) : Going ns f b [b] := by
  have hl := first_len hb
  have := (pos_at hb).2.2
  refine ⟨by simp, fun g hg => by rw [List.mem_singleton] at hg; rw [hg]; exact hb, ?_, ?_⟩
  · rw [sit_one nd hb, hl]; simp; omega
  · rw [sit_one nd hb, hl]; rfl
theorem going_1 {ns : List Str} {f : Str → Int} {b : Str} {gs : List Str} (nd : ns.Nodup) (g : Going ns f b gs) (h : sit ns gs ≠ []) :
    Going ns f b (gs ++ [(sit ns gs).getD (f (gs.getLastD Str.empty) % (sit ns gs).length).toNat Str.empty]) := by
  have hla := lastD g.ne
  have hi := spot_lt (row := sit ns gs) (z := f (gs.getLastD Str.empty)) h
  have hx : (sit ns gs).getD (f (gs.getLastD Str.empty) % (sit ns gs).length).toNat Str.empty ∈ sit ns gs := by
    rw [List.getD_eq_getElem?_getD, List.getElem?_eq_getElem hi]
    exact List.getElem_mem hi
  have hl := g.sub _ hla.2
  have e := sit_turn nd hl (row_split hi)
  have hlen := row_len hi
  have h0 : 0 < (sit ns gs).length := List.length_pos_iff.mpr h
  refine ⟨by simp, fun z hz => ?_, ?_, ?_⟩
  · rcases List.mem_append.mp hz with hz | hz
    · exact g.sub z hz
    · rw [List.mem_singleton] at hz
      rw [hz]
      exact ((sit_mem hl).mp hx).1
  · rw [e, hlen, List.length_append, List.length_singleton]
    have := g.len
    omega
  · rw [e, hlen, last_snoc, List.append_assoc]
    have := g.all
    obtain ⟨m, hm⟩ : ∃ m, (sit ns gs).length = m + 1 := ⟨(sit ns gs).length - 1, by omega⟩
    rw [hm, play] at this
    rw [hm, Nat.add_sub_cancel]
    rw [← this]
    simp only [hm]
    rfl
theorem getD_at {xs : List Str} {i : Nat} (h : i < xs.length) : L2.atI (xs.map D.str) ((i : Nat) : Int) = some (.str (xs.getD i Str.empty)) := by
  refine at_of (by rw [List.length_map]; exact h) ?_
  rw [List.getElem?_map, List.getElem?_eq_getElem h, List.getD_eq_getElem?_getD, List.getElem?_eq_getElem h]
  rfl
theorem imm_strs {ns : List Str} : safe true (.lst (ns.map D.str)) = true := by
  show immL _ = true
  induction ns with
  | nil => rw [List.map_nil, immL]
  | cons n ns ih => rw [List.map_cons, immL, ih]; simp [imm]
theorem imm_strsT {ns : List Str} : safe false (.tup (ns.map D.str)) = true := by
  show imm _ = true
  rw [imm]
  exact imm_strs (ns := ns)
theorem vc_Ring_order : VC ⟨2, sp_Ring_order⟩ N_Ring_order c_Ring_order := by
  rintro ds K X hl ⟨ns, f, b, rfl, hr, hb, hK⟩
  have hl2 := hr.2.1
  have nd := hr.2.2.1
  unfold c_Ring_order N_Ring_order
  simp_arith [ringD, look_need]
  refine ⟨ns, f, b, rfl, hb, ?_⟩
  simp_arith
  refine wh_rule (fun m δ => ∃ gs q, δ = [.fz (.ins "Ring" (ringF ns f)), .fz (.str b), .ow (.lst (gs.map D.str)), q] ∧ Going ns f b gs ∧ m = (sit ns gs).length) _ ⟨[b], _, rfl, going_0 nd hb, rfl⟩ ?_
  rintro m _ ⟨gs, q, rfl, hg, rfl⟩ nx' hn
  simp_arith [look_seats, look_slips, List.length_map]
  have hla := lastD hg.ne
  have hlin := hg.sub _ hla.2
  have hlen := hg.len
  have at1 : L2.atI (gs.map D.str) (-1) = some (.str (gs.getLastD Str.empty)) := at_last (by rw [List.getLast?_map, hla.1]; rfl)
  by_cases hc : (gs.length : Int) < ns.length
  · rw [if_pos hc]
    have hne : sit ns gs ≠ [] := fun e => by rw [e] at hlen; simp at hlen; omega
    refine ⟨_, _, ns, gs, rfl, .inr rfl, .inl rfl, hg.ne, hg.sub, by omega, by omega, ?_⟩
    simp_arith [look_slips, imm_strs]
    refine ⟨_, at1, _, rfl, _, getK_F hlin, ?_⟩
    have h0 : 0 < (sit ns gs).length := List.length_pos_iff.mpr hne
    simp_arith [List.length_map]
    have hi := spot_lt (row := sit ns gs) (z := f (gs.getLastD Str.empty)) hne
    have hge := Int.emod_nonneg (f (gs.getLastD Str.empty)) (show ((sit ns gs).length : Int) ≠ 0 by omega)
    have hat := getD_at hi
    rw [Int.toNat_of_nonneg hge] at hat
    refine ⟨by omega, _, hat, by omega, ?_⟩
    have g1 := going_1 nd hg hne
    refine hn _ _ ?_ ⟨_, _, by rw [List.map_append]; rfl, g1, rfl⟩
    have := g1.len
    rw [List.length_append, List.length_singleton] at this
    omega
  · rw [if_neg hc]
    have he : sit ns gs = [] := List.length_eq_zero_iff.mp (by omega)
    have := hg.all
    rw [he] at this
    rw [show gs ++ play f ([] : List Str).length [] (gs.getLastD Str.empty) = gs by simp [play]] at this
    rw [this]
    exact hK
/-! who begins next -/
def nxt (ns : List Str) (f : Str → Int) (b : Str) : Str := (beh ns ((ordr ns f b).getLastD Str.empty)).getD (f ((ordr ns f b).getLastD Str.empty) % ns.length).toNat Str.empty
abbrev sp_Ring_next_of : Spc := fun ds K _ => ∃ ns f b, ds = [ringD ns f, .str b] ∧ NamesOk ns ∧ b ∈ ns ∧ K false (.str (nxt ns f b))
theorem last_in {ns : List Str} {f : Str → Int} {b : Str} (hb : b ∈ ns) : (ordr ns f b).getLast? = some ((ordr ns f b).getLastD Str.empty) ∧ (ordr ns f b).getLastD Str.empty ∈ ns := by
  obtain ⟨h1, h2⟩ := lastD (gs := ordr ns f b) (by unfold ordr; simp)
  exact ⟨h1, (ordr_perm hb).mem_iff.mp h2⟩
theorem nxt_congr {ns : List Str} {f g : Str → Int} {b : Str} (hb : b ∈ ns) (h : ∀ z ∈ ns, f z = g z) : nxt ns f b = nxt ns g b := by
  unfold nxt
  rw [ordr_congr hb h, h _ (last_in hb).2]
theorem vc_Ring_next_of : VC ⟨2, sp_Ring_next_of⟩ N_Ring_next_of c_Ring_next_of := by
  rintro ds K X hl ⟨ns, f, b, rfl, hr, hb, hK⟩
  have hl1 := hr.1
  have hl2 := hr.2.1
  obtain ⟨l1, l2⟩ := last_in (f := f) hb
  have at1 : L2.atI ((ordr ns f b).map D.str) (-1) = some (.str ((ordr ns f b).getLastD Str.empty)) := at_last (by rw [List.getLast?_map, l1]; rfl)
  unfold c_Ring_next_of N_Ring_next_of
  simp_arith [ringD, look_order]
  refine ⟨ns, f, b, rfl, hr, hb, ?_⟩
  simp_arith [look_seats]
  refine ⟨_, at1, _, ns, _, rfl, .inr rfl, l2, by omega, ?_⟩
  simp_arith [look_slips]
  refine ⟨_, getK_F l2, ?_⟩
  simp_arith [List.length_map, beh_len]
  refine ⟨by omega, ?_⟩
  have hge := Int.emod_nonneg (f ((ordr ns f b).getLastD Str.empty)) (show (ns.length : Int) ≠ 0 by omega)
  have hlt := Int.emod_lt_of_pos (f ((ordr ns f b).getLastD Str.empty)) (show (0 : Int) < ns.length by omega)
  have hat := getD_at (xs := beh ns ((ordr ns f b).getLastD Str.empty)) (i := (f ((ordr ns f b).getLastD Str.empty) % ns.length).toNat) (by rw [beh_len]; omega)
  rw [Int.toNat_of_nonneg hge] at hat
  exact ⟨_, hat, hK⟩
end R
set_option maxRecDepth 100000
set_option maxHeartbeats 4000000
namespace R
open PySem G
/-! ### texts, plain -/
theorem str_ext {s t : Str} (h : s.cps.toList = t.cps.toList) : s = t := by
  cases s; cases t
  simpa using h
theorem cut7 {w : Str} : (L2.cutS w none (some 7)).cps.toList = w.cps.toList.take 7 := by
  unfold L2.cutS HT.sIx
  have : w.length = w.cps.toList.length := by unfold Str.length; simp
  simp only [List.drop_zero, Nat.sub_zero]
  rw [show (if (7 : Int) < 0 then (7 + (w.length : Int)).toNat else min (Int.toNat 7) w.length) = min 7 w.length from rfl]
  rw [this, List.take_eq_take_min (i := 7)]
theorem cps_app {s t : Str} : (s ++ t).cps.toList = s.cps.toList ++ t.cps.toList := by
  rw [Str.cps_append, Array.toList_append]
theorem len_list {s : Str} : s.length = s.cps.toList.length := by unfold Str.length; simp
def oneS (c : Nat) : Str := ⟨#[c]⟩
theorem join_ones : ∀ {cs : List Nat}, (Str.join Str.empty (cs.map oneS)).cps.toList = cs
  | [] => rfl
  | [c] => rfl
  | c :: d :: cs => by
    have ih := join_ones (cs := d :: cs)
    rw [List.map_cons] at ih
    rw [List.map_cons, List.map_cons, Str.join, cps_app, cps_app, ih]
    · rfl
    · simp
def low (c : Nat) : Prop := 97 ≤ c ∧ c ≤ 122
theorem nameOk_of {s : Str} {cs : List Nat} (h : s.cps.toList = cs) (h1 : 1 ≤ cs.length) (h2 : cs.length ≤ 8) (h3 : ∀ c ∈ cs, low c) : NameOk s := by
  refine ⟨?_, ?_, ?_⟩
  · rw [len_list, h]; exact h1
  · rw [len_list, h]; exact h2
  · rw [h]; exact h3
/-- the candidates -/
def cands (w : Str) : List Str := w :: (List.range' 97 26).map fun c => L2.cutS w none (some 7) ++ oneS c
theorem cand_ok {w : Str} (h : NameOk w) : ∀ s ∈ cands w, NameOk s := by
  intro s hs
  unfold cands at hs
  rcases List.mem_cons.mp hs with rfl | hs
  · exact h
  · obtain ⟨c, hc, rfl⟩ := List.mem_map.mp hs
    obtain ⟨h1, h2, h3⟩ := h
    rw [len_list] at h1 h2
    refine nameOk_of (by rw [cps_app, cut7]) ?_ ?_ ?_
    · rw [List.length_append]; show 1 ≤ _ + 1; omega
    · rw [List.length_append, List.length_take]; show _ + 1 ≤ 8; omega
    · intro d hd
      rcases List.mem_append.mp hd with hd | hd
      · exact h3 d (List.mem_of_mem_take hd)
      · have : d = c := by simpa [oneS] using hd
        rw [this]
        have := List.mem_range'_1.mp hc
        exact ⟨this.1, by omega⟩
theorem cand_nodup {w : Str} : ((List.range' 97 26).map fun c => L2.cutS w none (some 7) ++ oneS c).Nodup := by
  refine List.Pairwise.map _ ?_ (List.nodup_range' (s := 97) (n := 26) (step := 1))
  intro a b hab e
  have := congrArg (fun s : Str => s.cps.toList) e
  rw [cps_app, cps_app] at this
  have := List.append_cancel_left this
  simp [oneS] at this
  exact hab this
theorem sub_len : ∀ {l m : List Str}, l.Nodup → (∀ z ∈ l, z ∈ m) → l.length ≤ m.length
  | [], _, _, _ => Nat.zero_le _
  | a :: l, m, nd, h => by
    rw [List.nodup_cons] at nd
    have ha := h a List.mem_cons_self
    have hl := List.length_erase_of_mem ha
    have hp : 0 < m.length := List.length_pos_of_mem ha
    have := sub_len (m := m.erase a) nd.2 fun z hz => (List.mem_erase_of_ne (fun e => nd.1 (by rw [← e]; exact hz))).mpr (h z (List.mem_cons_of_mem _ hz))
    rw [List.length_cons]
    omega
theorem cand_free {w : Str} {found : List Str} (h : found.length ≤ 12) : ((cands w).filter fun z => decide (z ∉ found)) ≠ [] := by
  intro e
  rw [List.filter_eq_nil_iff] at e
  have hsub : ∀ z ∈ ((List.range' 97 26).map fun c => L2.cutS w none (some 7) ++ oneS c), z ∈ found := fun z hz => by
    have := e z (List.mem_cons_of_mem _ hz)
    simpa using this
  have hlen : ((List.range' 97 26).map fun c => L2.cutS w none (some 7) ++ oneS c).length ≤ found.length := sub_len cand_nodup hsub
  rw [List.length_map, List.length_range'] at hlen
  omega
theorem at_ofG {α : Type} {xs : List α} {n : Nat} {d : α} (h : n < xs.length) (e : xs[n]? = some d) : L2.atI xs (n : Int) = some d := by
  unfold L2.atI L2.ixN
  rw [if_pos (by omega), if_pos (by omega)]
  show xs[((n : Int)).toNat]? = some d
  rw [Int.toNat_natCast]; exact e
theorem at_in {α : Type} {xs : List α} {i : Int} (h0 : 0 ≤ i) (h1 : i < xs.length) : ∃ d, L2.atI xs i = some d ∧ d ∈ xs := by
  obtain ⟨n, rfl⟩ : ∃ n : Nat, i = n := ⟨i.toNat, by omega⟩
  have hn : n < xs.length := by omega
  exact ⟨xs[n], at_ofG hn (List.getElem?_eq_getElem hn), List.getElem_mem hn⟩
theorem shL_strs {n : Nat} : ∀ {xs : List Str}, shL n (xs.map D.str) = true
  | [] => shL_nil
  | x :: xs => by rw [List.map_cons, shL_cons, sh_str, shL_strs]; rfl
theorem map_eraseIdx : ∀ {xs : List Str} {j : Nat}, (xs.map D.str).eraseIdx j = (xs.eraseIdx j).map D.str
  | [], _ => rfl
  | x :: xs, 0 => rfl
  | x :: xs, j + 1 => by rw [List.map_cons, List.eraseIdx_cons_succ, List.eraseIdx_cons_succ, List.map_cons, map_eraseIdx]
theorem erase_perm : ∀ {xs : List Str} {j : Nat} (h : j < xs.length), ([xs[j]] ++ xs.eraseIdx j).Perm xs
  | x :: xs, 0, _ => List.Perm.refl _
  | x :: xs, j + 1, h => by
    have ih := erase_perm (xs := xs) (j := j) (by simpa using h)
    rw [List.eraseIdx_cons_succ]
    exact (List.Perm.swap x _ _).trans (List.Perm.cons x ih)
theorem eqL_strs : ∀ {xs ys : List Str}, eqL (xs.map D.str) (ys.map D.str) = decide (xs = ys)
  | [], [] => by rw [List.map_nil, eqL_nil]; simp
  | [], y :: ys => by rw [List.map_nil, List.map_cons, eqL_nc]; simp
  | x :: xs, [] => by rw [List.map_nil, List.map_cons, eqL_cn]; simp
  | x :: xs, y :: ys => by
    rw [List.map_cons, List.map_cons, eqL_cc, eqL_strs, eqD_str]
    by_cases h1 : x = y <;> by_cases h2 : xs = ys <;> simp [h1, h2]
end R
set_option maxRecDepth 100000
set_option maxHeartbeats 4000000
/-! ### the second family of draws -/
open PySem G
namespace F2
open PySem G R
abbrev sp__law_draw : Spc := fun ds K _ => ∃ l m, ds = [.st l, .int m] ∧ 1 ≤ m ∧ m < 10 ^ 200 ∧ ∀ r, 0 ≤ r → r < m → K false (.int r)
def N__law_draw : List Str := ["_law_state_here", "_law_size_most", "_law_at", "_law_cell"]
def c__law_draw : S := .cons (.asg 2 false (.bin .Mod (.ix (.var 0) (.k (.int 1))) (.bn .len (.cons (.ix (.var 0) (.k (.int 0))) (.nil))))) (.cons (.asg 3 false (.ix (.ix (.var 0) (.k (.int 0))) (.var 2))) (.cons (.ifs (.cmp .GtE (.var 3) (.bin .Pow (.k (.int 10)) (.k (.int 18)))) (.cons (.setSt (.ix (.var 0) (.k (.int 0))) (.var 2) (.bin .FloorDiv (.var 3) (.var 1))) (.cons (.ret (.bin .Mod (.var 3) (.var 1))) (.nil))) (.nil)) (.cons (.setSt (.var 0) (.k (.int 1)) (.bin .Add (.ix (.var 0) (.k (.int 1))) (.k (.int 1)))) (.cons (.setSt (.var 0) (.k (.int 2)) (.bin .Mod (.bin .Add (.bin .Add (.bin .Mult (.ix (.var 0) (.k (.int 2))) (.k (.int 48271))) (.var 3)) (.k (.int 12345))) (.k (.int 2147483647)))) (.cons (.ret (.bin .Mod (.bin .FloorDiv (.bin .Mod (.bin .Mult (.ix (.var 0) (.k (.int 2))) (.ix (.var 0) (.k (.int 2)))) (.k (.int 2147483629))) (.k (.int 16))) (.var 1))) (.nil))))))
theorem vc__law_draw : VC ⟨2, sp__law_draw⟩ N__law_draw c__law_draw := by
  rintro ds K X hl ⟨l, m, rfl, h1, h2, hK⟩
  unfold c__law_draw N__law_draw
  simp_arith
  intro n hn l1 l2
  have hl0 : (l : Int) ≠ 0 := by omega
  have hl1 : (0 : Int) < l := by omega
  refine ⟨hl1, fun _ _ => ⟨Int.emod_nonneg n hl0, Int.emod_lt_of_pos n hl1, fun z hz hz2 => ⟨by unfold L2.CPow; decide, ?_⟩⟩⟩
  have hm0 : m ≠ 0 := by omega
  have hm1 : 0 < m := by omega
  by_cases hc : 10 ^ 18 ≤ z
  · rw [if_pos hc]
    refine ⟨DivOk.of hm1 (Nat.lt_of_le_of_lt (show m.natAbs ≤ 10 ^ 200 by omega) (Nat.lt_of_lt_of_le (show 10 ^ 200 < 2 ^ 700 by decide) (Nat.pow_le_pow_right (by decide) (by decide)))), fun _ _ => ⟨Int.emod_nonneg n hl0, Int.emod_lt_of_pos n hl1⟩, Int.ediv_nonneg hz (Int.le_of_lt hm1), Nat.lt_of_le_of_lt (Int.natAbs_ediv_le_natAbs z m) hz2, hm1, hK _ (Int.emod_nonneg z hm0) (Int.emod_lt_of_pos z hm1)⟩
  · rw [if_neg hc]
    clear hz2
    refine fun a ha => ⟨by omega, fun b hb hb2 => ⟨MulOk.right (by decide) (by decide), Int.emod_lt_of_pos _ (by decide), Int.emod_nonneg _ (by decide), fun d hd hd2 e he he2 => ⟨MulOk.left (by omega) (by omega), DivOk.small (by decide) (by decide), hm1, hK _ (Int.emod_nonneg _ hm0) (Int.emod_lt_of_pos _ hm1)⟩⟩⟩
/-! a pick of a text or of a list -/
abbrev sp__law_pick : Spc := fun ds K _ => (∃ l s, ds = [.st l, .str s] ∧ 1 ≤ s.length ∧ s.length ≤ 100 ∧ ∀ c ∈ s.cps.toList, K false (.str (oneS c))) ∨ ∃ l xs, ds = [.st l, .lst xs] ∧ 1 ≤ xs.length ∧ xs.length ≤ 100 ∧ ∀ d ∈ xs, K false d
def N__law_pick : List Str := ["_law_state_here", "_law_some"]
def c__law_pick : S := .cons (.ret (.ix (.var 1) (.call "_law_draw" ⟨2, sp__law_draw⟩ (.cons (.var 0) (.cons (.bn .len (.cons (.var 1) (.nil))) (.nil)))))) (.nil)
theorem vc__law_pick : VC ⟨2, sp__law_pick⟩ N__law_pick c__law_pick := by
  rintro ds K X hl (⟨l, s, rfl, h1, h2, hK⟩ | ⟨l, xs, rfl, h1, h2, hK⟩)
  · unfold c__law_pick N__law_pick
    simp_arith
    refine ⟨by omega, l, _, rfl, by omega, by omega, fun x h0 h3 => ?_⟩
    simp_arith
    refine ⟨by omega, ?_⟩
    obtain ⟨d, q1, q2⟩ := at_in (xs := s.cps.toList) h0 (by rw [← len_list]; exact h3)
    exact ⟨d, q1, hK d q2⟩
  · unfold c__law_pick N__law_pick
    simp_arith
    refine ⟨l, _, rfl, by omega, by omega, fun x h0 h3 => ?_⟩
    simp_arith
    obtain ⟨d, q1, q2⟩ := at_in h0 h3
    exact ⟨d, q1, hK d q2⟩
/-! a drawn order -/
abbrev sp__law_mixed : Spc := fun ds K _ => ∃ l e ns, ds = [.st l, e] ∧ seqS e ns ∧ ns.length ≤ 1000 ∧ ∀ ms : List Str, ms.Perm ns → K true (.lst (ms.map D.str))
def N__law_mixed : List Str := ["_law_state_here", "_law_some", "_law_left", "_law_found"]
def c__law_mixed : S := .cons (.par2 2 true 3 true (.cons (.bn .list (.cons (.var 1) (.nil))) (.cons (.lst (.nil)) (.nil)))) (.cons (.whl (.cmp .NotEq (.var 2) (.lst (.nil))) (.cons (.mutP1 3 2 .popAt (.cons (.call "_law_draw" ⟨2, sp__law_draw⟩ (.cons (.var 0) (.cons (.bn .len (.cons (.var 2) (.nil))) (.nil)))) (.nil))) (.nil))) (.cons (.ret (.var 3)) (.nil)))
theorem vc__law_mixed : VC ⟨2, sp__law_mixed⟩ N__law_mixed c__law_mixed := by
  rintro ds K X hl ⟨l, e, ns, rfl, hs, hl2, hK⟩
  rcases hs with rfl | rfl
  all_goals
    unfold c__law_mixed N__law_mixed
    simp_arith [List.length_map]
    refine wh_rule (fun m δ => ∃ ls fs : List Str, ∃ q, δ = [.fz (.st l), q, .ow (.lst (ls.map D.str)), .ow (.lst (fs.map D.str))] ∧ (fs ++ ls).Perm ns ∧ m = ls.length) _ ⟨ns, [], _, rfl, by simp, rfl⟩ ?_
    rintro m _ ⟨ls, fs, q, rfl, hp, rfl⟩ nx' hn
    have hpl := hp.length_eq
    rw [List.length_append] at hpl
    simp_arith [shL_strs, eqL_isNil, List.length_map]
    cases ls with
    | nil =>
      rw [if_neg (by simp)]
      exact hK fs (by simpa using hp)
    | cons a t =>
      rw [if_pos (by simp)]
      have hcl : (a :: t).length = t.length + 1 := rfl
      refine ⟨by decide, _, _, rfl, rfl, by rw [List.length_map]; omega, l, _, rfl, by omega, by omega, fun x hx0 hx => ?_⟩
      simp_arith [List.length_map]
      refine ⟨by omega, ?_⟩
      obtain ⟨j, rfl⟩ : ∃ j : Nat, x = j := ⟨x.toNat, by omega⟩
      have hj : j < (a :: t).length := by omega
      refine ⟨j, ?_, .str (a :: t)[j], ?_, ?_⟩
      · unfold L2.ixN
        rw [if_pos (by omega), if_pos (by omega), Int.toNat_natCast]
      · rw [← List.map_cons, List.getElem?_map, List.getElem?_eq_getElem hj]; rfl
      · refine hn _ _ ?_ ⟨(a :: t).eraseIdx j, fs ++ [(a :: t)[j]], q, ?_, ?_, rfl⟩
        · rw [List.length_eraseIdx_of_lt hj]; omega
        · rw [← List.map_cons (f := D.str), List.map_append, R.map_eraseIdx]; rfl
        · refine List.Perm.trans ?_ hp
          rw [List.append_assoc]
          refine List.Perm.append_left fs ?_
          exact erase_perm hj
/-! a slip -/
abbrev sp__law_slip : Spc := fun ds K _ => ∃ l, ds = [.st l] ∧ ∀ z : Int, K false (.int z)
def N__law_slip : List Str := ["_law_state_here", "_law_great", "_law_way", "_law_small"]
def c__law_slip : S := .cons (.par2 2 false 3 false (.cons (.call "_law_draw" ⟨2, sp__law_draw⟩ (.cons (.var 0) (.cons (.k (.int 6)) (.nil)))) (.cons (.bin .Sub (.call "_law_draw" ⟨2, sp__law_draw⟩ (.cons (.var 0) (.cons (.k (.int 31)) (.nil)))) (.k (.int 9))) (.nil)))) (.cons (.ifs (.cmp .Lt (.var 2) (.k (.int 3))) (.cons (.ret (.var 3)) (.nil)) (.nil)) (.cons (.ifs (.cmp .Eq (.var 2) (.k (.int 3))) (.cons (.ret (.bin .Add (.bin .Mult (.k (.int 27720)) (.bin .Sub (.call "_law_draw" ⟨2, sp__law_draw⟩ (.cons (.var 0) (.cons (.k (.int 9)) (.nil)))) (.k (.int 4)))) (.var 3))) (.nil)) (.nil)) (.cons (.asg 1 false (.call "_law_draw" ⟨2, sp__law_draw⟩ (.cons (.var 0) (.cons (.bin .Pow (.k (.int 10)) (.k (.int 57))) (.nil))))) (.cons (.ret (.ix (.lst (.cons (.var 1) (.cons (.bin .Sub (.k (.int 0)) (.var 1)) (.nil)))) (.bin .Sub (.var 2) (.k (.int 4))))) (.nil)))))
theorem vc__law_slip : VC ⟨1, sp__law_slip⟩ N__law_slip c__law_slip := by
  rintro ds K X hl ⟨l, rfl, hK⟩
  unfold c__law_slip N__law_slip
  simp_arith
  refine ⟨l, _, rfl, by decide, by decide, fun x h0 h1 => ?_⟩
  simp_arith
  refine ⟨l, _, rfl, by decide, by decide, fun y h2 h3 => ?_⟩
  simp_arith
  by_cases h1 : x < 3
  · rw [if_pos h1]; exact hK _
  · rw [if_neg h1]
    by_cases h2 : x = 3
    · rw [if_pos h2]
      refine ⟨l, _, rfl, by decide, by decide, fun z h4 h5 => ?_⟩
      simp_arith
      exact ⟨MulOk.left (by decide) (by decide), hK _⟩
    · rw [if_neg h2]
      refine ⟨by unfold L2.CPow; decide, l, _, rfl, by decide, by decide, fun z h4 h5 => ?_⟩
      simp_arith
      by_cases h3 : x = 4
      · subst h3
        exact ⟨_, at_0, hK _⟩
      · have : x = 5 := by omega
        subst this
        exact ⟨_, at_1, hK _⟩
end F2
set_option maxRecDepth 100000
set_option maxHeartbeats 4000000
open PySem G
namespace F2
open PySem G R
abbrev sp__law_slips : Spc := fun ds K _ => ∃ l e ns, ds = [.st l, e] ∧ seqS e ns ∧ ns.Nodup ∧ ns.length ≤ 1000 ∧ ∀ ks f, ks.Perm ns → K true (.dic (dicF ks f))
def N__law_slips : List Str := ["_law_state_here", "_law_names_here", "_law_name"]
def c__law_slips : S := .cons (.ret (.bn2 .dict (.cons (.lc [("_law_name", 2)] (.one 2) (.iseq (.call "_law_mixed" ⟨2, sp__law_mixed⟩ (.cons (.var 0) (.cons (.var 1) (.nil))))) (.no) (.tup (.cons (.var 2) (.cons (.call "_law_slip" ⟨1, sp__law_slip⟩ (.cons (.var 0) (.nil))) (.nil))))) (.nil)))) (.nil)
/-- pairs of names and numbers -/
def prs : List (Str × Int) → List D := fun l => l.map fun p => .tup [.str p.1, .int p.2]
/-- each name gives a pair with a number -/
theorem lcGo_prs {step : D → (Option D → Prop) → Prop} : ∀ (ns : List Str) (acc : List D) (K : List D → Prop), (∀ n ∈ ns, ∀ k : Option D → Prop, (∀ z, k (some (.tup [.str n, .int z]))) → step (.str n) k) → (∀ l : List (Str × Int), l.map (·.1) = ns → K (acc ++ prs l)) → lcGo step (ns.map D.str) acc K
  | [], acc, K, _, h => by rw [List.map_nil, lcGo]; simpa [prs] using h [] rfl
  | n :: ns, acc, K, hs, h => by
    rw [List.map_cons, lcGo]
    refine hs n List.mem_cons_self _ fun z => ?_
    refine lcGo_prs ns _ K (fun n' hn => hs n' (List.mem_cons_of_mem _ hn)) fun l hl => ?_
    rw [List.append_assoc]
    exact h ((n, z) :: l) (by rw [List.map_cons, hl])
def ofL (l : List (Str × Int)) (n : Str) : Int := ((l.find? fun p => decide (p.1 = n)).map (·.2)).getD 0
theorem ofL_eq : ∀ {l : List (Str × Int)}, (l.map (·.1)).Nodup → ∀ p ∈ l, ofL l p.1 = p.2
  | [], _, _, h => by cases h
  | q :: l, nd, p, h => by
    rw [List.map_cons, List.nodup_cons] at nd
    unfold ofL
    rw [List.find?_cons]
    rcases List.mem_cons.mp h with rfl | h
    · simp
    · have hne : q.1 ≠ p.1 := fun e => nd.1 (by rw [e]; exact List.mem_map.mpr ⟨p, h, rfl⟩)
      rw [decide_eq_false hne]
      exact ofL_eq nd.2 p h
theorem prs_dic {l : List (Str × Int)} (nd : (l.map (·.1)).Nodup) : (prs l).map prD = dicF (l.map (·.1)) (ofL l) := by
  unfold prs dicF
  rw [List.map_map, List.map_map]
  refine List.map_congr_left fun p hp => ?_
  show ((Sum.inr p.1 : L2.Key), D.int p.2) = (Sum.inr p.1, D.int (ofL l p.1))
  rw [ofL_eq nd p hp]
theorem prs_pr {l : List (Str × Int)} : (prs l).all isPr = true := by
  unfold prs
  rw [List.all_map, List.all_eq_true]
  intro p _
  rfl
theorem len_prs {l : List (Str × Int)} : (prs l).length = l.length := by unfold prs; rw [List.length_map]
theorem vc__law_slips : VC ⟨2, sp__law_slips⟩ N__law_slips c__law_slips := by
  rintro ds K X hl ⟨l, e, ns, rfl, hs, nd, hl2, hK⟩
  unfold c__law_slips N__law_slips
  simp_arith
  refine ⟨l, e, ns, rfl, hs, hl2, fun ms hp => ?_⟩
  have hpl := hp.length_eq
  simp_arith [List.length_map]
  refine ⟨by omega, lcGo_prs _ _ _ (fun n hn k hk => ?_) fun l' hl' => ?_⟩
  · simp_arith
    refine ⟨l, rfl, fun z => ?_⟩
    simp_arith
    exact hk z
  · rw [List.nil_append]
    have nd' : (l'.map (·.1)).Nodup := by rw [hl']; exact hp.nodup_iff.mpr nd
    have hl3 : l'.length = ms.length := by rw [← hl', List.length_map]
    simp_arith [prs_pr, len_prs]
    rw [prs_dic nd', merge_F0 nd']
    exact ⟨by omega, hK _ _ (by rw [hl']; exact hp)⟩
/-! the law's own round -/
abbrev sp__law_order : Spc := fun ds K _ => ∃ ns ks f b, ds = [.lst (ns.map D.str), .dic (dicF ks f), .str b] ∧ NamesOk ns ∧ (∀ n ∈ ns, n ∈ ks) ∧ b ∈ ns ∧ K false (.tup ((ordr ns f b).map D.str))
def N__law_order : List Str := ["_law_names_here", "_law_slips_here", "_law_first", "_law_at", "_law_row", "_law_found", "_law_spot"]
def c__law_order : S := .cons (.asg 3 false (.bm .index (.var 0) (.cons (.var 2) (.nil)))) (.cons (.par2 4 false 5 true (.cons (.bin .Add (.sl (.var 0) (.opt (.bin .Add (.var 3) (.k (.int 1)))) (.no)) (.sl (.var 0) (.no) (.opt (.var 3)))) (.cons (.lst (.cons (.var 2) (.nil))) (.nil)))) (.cons (.whl (.cmp .NotEq (.var 4) (.lst (.nil))) (.cons (.asg 6 false (.bin .Mod (.ix (.var 1) (.ix (.var 5) (.neg (.k (.int 1))))) (.bn .len (.cons (.var 4) (.nil))))) (.cons (.mut1 5 .append (.cons (.ix (.var 4) (.var 6)) (.nil))) (.cons (.asg 4 false (.bin .Add (.sl (.var 4) (.opt (.bin .Add (.var 6) (.k (.int 1)))) (.no)) (.sl (.var 4) (.no) (.opt (.var 6))))) (.nil))))) (.cons (.ret (.bn .tuple (.cons (.var 5) (.nil)))) (.nil))))
theorem vc__law_order : VC ⟨3, sp__law_order⟩ N__law_order c__law_order := by
  rintro ds K X hl ⟨ns, ks, f, b, rfl, hr, hin, hb, hK⟩
  obtain ⟨p1, p2, p3⟩ := pos_at hb
  have hl2 := hr.2.1
  unfold c__law_order N__law_order
  simp_arith
  refine ⟨pos ns b, p1, p2, ?_⟩
  rw [cut_from (by omega) (by rw [List.length_map]; omega), cut_to (by omega) (by rw [List.length_map]; omega)]
  rw [show ((pos ns b : Int) + 1).toNat = pos ns b + 1 by omega, Int.toNat_natCast, ← List.map_drop, ← List.map_take, ← List.map_append]
  refine ⟨by rw [List.length_map, List.length_map, List.length_drop, List.length_take]; omega, ?_⟩
  refine wh_rule (fun m δ => ∃ row gs q, δ = [.fz (.lst (ns.map D.str)), .fz (.dic (dicF ks f)), .fz (.str b), .fz (.int (pos ns b)), .fz (.lst (row.map D.str)), .ow (.lst (gs.map D.str)), q] ∧ m = row.length ∧ gs ≠ [] ∧ (∀ g ∈ gs, g ∈ ns) ∧ (∀ g ∈ row, g ∈ ns) ∧ row.length + gs.length = ns.length ∧ gs ++ play f row.length row (gs.getLastD Str.empty) = ordr ns f b) _
    ⟨_, [b], .un, rfl, rfl, by simp, fun g hg => by rw [List.mem_singleton] at hg; rw [hg]; exact hb, fun g hg => row_sub hg, by rw [first_len hb, List.length_singleton]; omega, by rw [first_len hb]; rfl⟩ ?_
  rintro m _ ⟨row, gs, q, rfl, rfl, hne, hg, hrow, hlen, hall⟩ nx' hn
  have hla := lastD hne
  have at1 : L2.atI (gs.map D.str) (-1) = some (.str (gs.getLastD Str.empty)) := at_last (by rw [List.getLast?_map, hla.1]; rfl)
  simp_arith [shL_strs, eqL_isNil, List.length_map]
  cases hrw : row with
  | nil =>
    rw [if_neg (by simp)]
    rw [hrw] at hall
    simp only [play, List.length_nil, List.append_nil] at hall
    rw [hall]
    exact hK
  | cons a t =>
    rw [← hrw]
    have hrne : row ≠ [] := by rw [hrw]; simp
    have h0 : 0 < row.length := List.length_pos_iff.mpr hrne
    rw [if_pos (by rw [hrw]; simp)]
    refine ⟨_, at1, _, rfl, _, getK_F (hin _ (hg _ hla.2)), ?_⟩
    have hi := spot_lt (row := row) (z := f (gs.getLastD Str.empty)) hrne
    have hge := Int.emod_nonneg (f (gs.getLastD Str.empty)) (show (row.length : Int) ≠ 0 by omega)
    have hlt := Int.emod_lt_of_pos (f (gs.getLastD Str.empty)) (show (0 : Int) < row.length by omega)
    have hat := getD_at hi
    rw [Int.toNat_of_nonneg hge] at hat
    simp_arith [List.length_map]
    refine ⟨by omega, _, hat, by omega, ?_⟩
    rw [cut_from (by omega) (by rw [List.length_map]; omega), cut_to hge (by rw [List.length_map]; omega)]
    rw [show (f (gs.getLastD Str.empty) % row.length + 1).toNat = (f (gs.getLastD Str.empty) % row.length).toNat + 1 by omega, ← List.map_drop, ← List.map_take, ← List.map_append]
    have hrl := row_len hi
    refine ⟨by rw [List.length_map, List.length_map, List.length_drop, List.length_take]; omega, hn _ _ ?_ ⟨_, gs ++ [row.getD (f (gs.getLastD Str.empty) % row.length).toNat Str.empty], _, by rw [List.map_append (l₁ := gs)]; rfl, rfl, by simp, fun g hg' => ?_, fun g hg' => hrow g (row_sub hg'), ?_, ?_⟩⟩
    · rw [hrl]; omega
    · rcases List.mem_append.mp hg' with h | h
      · exact hg g h
      · rw [List.mem_singleton] at h
        rw [h]
        refine hrow _ ?_
        rw [List.getD_eq_getElem?_getD, List.getElem?_eq_getElem hi]
        exact List.getElem_mem hi
    · rw [hrl, List.length_append, List.length_singleton]; omega
    · rw [hrl, last_snoc, List.append_assoc, ← hall]
      obtain ⟨m, hm⟩ : ∃ m, row.length = m + 1 := ⟨row.length - 1, by omega⟩
      rw [hm, Nat.add_sub_cancel]
      conv => rhs; rw [play]
      simp only [hm]
      rfl
end F2
set_option maxRecDepth 100000
set_option maxHeartbeats 4000000
open PySem G
namespace F2
open PySem G R
abbrev sp__law_names : Spc := fun ds K _ => ∃ l n, ds = [.st l, .int n] ∧ 0 ≤ n ∧ n ≤ 12 ∧ ∀ ns : List Str, ns.Nodup → (∀ s ∈ ns, NameOk s) → (ns.length : Int) = n → K true (.lst (ns.map D.str))
def N__law_names : List Str := ["_law_state_here", "_law_size", "_law_k", "_law_found", "_law_letters", "_law_word", "_law_some", "_law_sign", "_law_one"]
def c__law_names : S := .cons (.parT [(3, true), (4, false)] (.cons (.lst (.nil)) (.cons (.k (.str "abcdefghijklmnopqrstuvwxyz")) (.nil)))) (.cons (.for_ (.one 2) (.irange (.cons (.var 1) (.nil))) (.cons (.asg 5 false (.bm .join (.k (.str "")) (.cons (.lc [("_law_sign", 7)] (.one 7) (.irange (.cons (.bin .Add (.k (.int 1)) (.call "_law_draw" ⟨2, sp__law_draw⟩ (.cons (.var 0) (.cons (.k (.int 8)) (.nil))))) (.nil))) (.no) (.call "_law_pick" ⟨2, sp__law_pick⟩ (.cons (.var 0) (.cons (.var 4) (.nil))))) (.nil)))) (.cons (.asg 5 false (.call "_law_pick" ⟨2, sp__law_pick⟩ (.cons (.var 0) (.cons (.lst (.cons (.var 5) (.cons (.var 5) (.cons (.k (.str "ring")) (.cons (.k (.str "may")) (.cons (.k (.str "sure")) (.cons (.k (.str "far")) (.cons (.k (.str "more")) (.cons (.k (.str "go")) (.cons (.k (.str "come")) (.cons (.k (.str "seat")) (.nil)))))))))))) (.nil))))) (.cons (.asg 6 false (.bin .Add (.lst (.cons (.var 5) (.nil))) (.lc [("_law_sign", 7)] (.one 7) (.iseq (.var 4)) (.no) (.bin .Add (.sl (.var 5) (.no) (.opt (.k (.int 7)))) (.var 7))))) (.cons (.mut1 3 .append (.cons (.ix (.lc [("_law_one", 8)] (.one 8) (.iseq (.var 6)) (.opt (.cmp .NotIn (.var 8) (.var 3))) (.var 8)) (.k (.int 0))) (.nil))) (.nil)))))) (.cons (.ret (.var 3)) (.nil)))
/-- texts of one low letter each -/
theorem ones_of : ∀ {es : List D}, (∀ e ∈ es, ∃ c, low c ∧ e = .str (oneS c)) → ∃ cs : List Nat, es = (cs.map oneS).map D.str ∧ ∀ c ∈ cs, low c
  | [], _ => ⟨[], rfl, fun _ h => by cases h⟩
  | e :: es, h => by
    obtain ⟨c, hc, rfl⟩ := h e List.mem_cons_self
    obtain ⟨cs, rfl, h2⟩ := ones_of (es := es) fun e he => h e (List.mem_cons_of_mem _ he)
    refine ⟨c :: cs, rfl, fun d hd => ?_⟩
    rcases List.mem_cons.mp hd with rfl | hd
    · exact hc
    · exact h2 d hd
theorem low_letters : ∀ c ∈ ("abcdefghijklmnopqrstuvwxyz" : Str).cps.toList, low c := by
  intro c hc
  have : ∀ c ∈ ("abcdefghijklmnopqrstuvwxyz" : Str).cps.toList, 97 ≤ c ∧ c ≤ 122 := by decide +kernel
  exact this c hc
theorem strD_letters : strD "abcdefghijklmnopqrstuvwxyz" = (List.range' 97 26).map fun c => D.str (oneS c) := by
  have : ("abcdefghijklmnopqrstuvwxyz" : Str).cps.toList = List.range' 97 26 := by decide +kernel
  unfold strD
  rw [this]
  rfl
theorem len_ones : ∀ {cs : List Nat}, ((cs.map oneS).map (·.length)).sum = cs.length
  | [] => rfl
  | c :: cs => by
    rw [List.map_cons, List.map_cons, List.sum_cons, len_ones, List.length_cons]
    show 1 + _ = _
    omega
theorem words_ok : ∀ s ∈ (["ring", "may", "sure", "far", "more", "go", "come", "seat"] : List Str), NameOk s := by
  intro s hs
  have : ∀ s ∈ (["ring", "may", "sure", "far", "more", "go", "come", "seat"] : List Str), 1 ≤ s.length ∧ s.length ≤ 8 ∧ ∀ c ∈ s.cps.toList, 97 ≤ c ∧ c ≤ 122 := by decide +kernel
  exact this s hs
theorem vc__law_names : VC ⟨2, sp__law_names⟩ N__law_names c__law_names := by
  rintro ds K X hl ⟨l, n, rfl, h0, h1, hK⟩
  unfold c__law_names N__law_names
  simp_arith
  refine ⟨⟨by decide, by decide, by decide, by decide, by omega, by omega⟩, ?_⟩
  refine for_range (fun j δ => ∃ (ns : List Str) (q2 q5 q6 q7 q8 : Sl), δ = [.fz (.st l), .fz (.int n), q2, .ow (.lst (ns.map D.str)), .fz (.str "abcdefghijklmnopqrstuvwxyz"), q5, q6, q7, q8] ∧ nowB (some q7) = true ∧ nowB (some q8) = true ∧ ns.Nodup ∧ (∀ s ∈ ns, NameOk s) ∧ ns.length = j) ⟨[], _, _, _, _, _, rfl, rfl, rfl, by simp, by simp, rfl⟩ ?_ ?_
  · rintro j _ nx' hj ⟨ns, q2, q5, q6, q7, q8, rfl, n7, n8, nd, hok, rfl⟩ hn
    refine ⟨_, rfl, ?_⟩
    simp_arith
    refine ⟨n7, l, _, rfl, by decide, by decide, fun x x0 x1 => ?_⟩
    simp_arith
    refine ⟨⟨by decide, by decide, by decide, by decide, by omega, by omega⟩, ?_⟩
    have hn8 : (rgN 0 (1 + x) 1) = (1 + x).toNat := by rw [rgN_one, Int.sub_zero]
    refine ⟨by rw [List.length_map, rgL_one, List.length_map, List.length_range, hn8]; omega, ?_⟩
    refine lcGo_any (P := fun e => ∃ c, low c ∧ e = .str (oneS c)) _ _ _ (fun d hd k hk => ?_) fun es hes hP => ?_
    · simp_arith
      refine .inl ⟨l, _, rfl, by decide, by decide, fun c hc => ?_⟩
      simp_arith
      exact hk _ ⟨c, low_letters c hc, rfl⟩
    · rw [List.nil_append]
      obtain ⟨cs, rfl, hcs⟩ := ones_of hP
      rw [List.length_map, List.length_map, List.length_map, rgL_one, List.length_map, List.length_range, hn8] at hes
      have hw0 : NameOk ((Str.ofString "").join (List.map oneS cs)) := nameOk_of (cs := cs) join_ones (by omega) (by omega) hcs
      simp_arith
      refine ⟨by rw [len_ones, List.length_map]; show cs.length + cs.length * 0 ≤ _; omega, .inr ⟨l, _, rfl, by simp, by simp, fun d hd => ?_⟩⟩
      have hw : ∃ w, d = .str w ∧ NameOk w := by
        rcases List.mem_cons.mp hd with rfl | hd
        · exact ⟨_, rfl, hw0⟩
        rcases List.mem_cons.mp hd with rfl | hd
        · exact ⟨_, rfl, hw0⟩
        have hd' : d ∈ (["ring", "may", "sure", "far", "more", "go", "come", "seat"] : List Str).map D.str := hd
        obtain ⟨w, hw, rfl⟩ := List.mem_map.mp hd'
        exact ⟨w, rfl, words_ok w hw⟩
      obtain ⟨w, rfl, hw⟩ := hw
      simp_arith [strD_letters]
      refine ⟨n7, by rw [List.length_map, List.length_range']; decide, ?_⟩
      refine lcGo_map (f := fun d => match d with | .str s => D.str (L2.cutS w none (some 7) ++ s) | _ => .non) _ _ _ (fun d hd k hk => ?_) ?_
      · obtain ⟨c, hc, rfl⟩ := List.mem_map.mp hd
        simp_arith
        have := hw.2.1
        refine ⟨by omega, ?_, hk⟩
        have : (L2.cutS w none (some 7)).length ≤ 7 := by rw [len_list, cut7, List.length_take]; omega
        have : (oneS c).length = 1 := rfl
        omega
      · have e1 : [D.str w] ++ ([] ++ List.map (fun d => match d with | .str s => D.str (L2.cutS w none (some 7) ++ s) | _ => .non) (List.map (fun c => D.str (oneS c)) (List.range' 97 26))) = (cands w).map D.str := by
          unfold cands
          rw [List.nil_append, List.map_map, List.map_cons, List.map_map]
          rfl
        have l1 : (cands w).length = 27 := by unfold cands; rw [List.length_cons, List.length_map, List.length_range']
        simp only [kLcE, m_kB2, Rd_own, b_AddL]
        rw [e1]
        refine ⟨by simp; decide, ?_⟩
        simp_arith [List.length_map, l1]
        refine ⟨n8, ?_⟩
        refine lcGo_filterG (fun z => decide (z ∉ ns)) D.str _ _ _ (fun s hs' k hk => ?_) ?_
        · simp_arith [inD_strs, flat_strs]
          by_cases hz : s ∈ ns
          · simp only [hz, not_true_eq_false, decide_true, decide_false, if_false, Bool.not_true, Bool.false_eq_true, flatD] at hk ⊢
            exact ⟨trivial, hk⟩
          · simp only [hz, not_false_eq_true, decide_false, decide_true, if_true, Bool.not_false, flatD] at hk ⊢
            exact ⟨trivial, hk⟩
        · rw [List.nil_append]
          simp_arith
          have hfree := cand_free (w := w) (found := ns) (by omega)
          obtain ⟨s, r, hsr⟩ := List.exists_cons_of_ne_nil hfree
          have hs : s ∈ (cands w).filter fun z => decide (z ∉ ns) := by rw [hsr]; exact List.mem_cons_self
          rw [List.mem_filter, decide_eq_true_eq] at hs
          rw [hsr]
          refine ⟨.str s, by rw [List.map_cons]; exact at_0, by rw [List.length_map]; omega, ?_⟩
          refine hn _ ⟨ns ++ [s], _, _, _, _, _, by rw [List.map_append]; rfl, n7, n8, ?_, ?_, by rw [List.length_append]; rfl⟩
          · rw [List.nodup_append]
            refine ⟨nd, by simp, fun a ha b hb e => ?_⟩
            rw [List.mem_singleton] at hb
            rw [e, hb] at ha
            exact hs.2 ha
          · intro z hz
            rcases List.mem_append.mp hz with hz | hz
            · exact hok z hz
            · rw [List.mem_singleton] at hz
              rw [hz]
              exact cand_ok hw s hs.1
  · rintro _ ⟨ns, q2, q5, q6, q7, q8, rfl, n7, n8, nd, hok, hlen⟩
    simp_arith
    exact hK ns nd hok (by omega)
end F2
set_option maxRecDepth 100000
set_option maxHeartbeats 4000000
namespace R
open PySem PySem.Spec PyProof.Rows G
theorem play_free {f g : Str → Int} : ∀ {n : Nat} {row : List Str} {y : Str}, (∀ z ∈ (y :: play f n row y).dropLast, f z = g z) → play f n row y = play g n row y
  | 0, _, _, _ => rfl
  | n + 1, row, y, h => by
    have hy : f y = g y := h y (by rw [play]; simp)
    rw [play, play, ← hy]
    try dsimp only
    rw [play_free (n := n) (f := f) (g := g) fun z hz => h z (by rw [play, List.dropLast_cons_of_ne_nil (by simp)]; exact List.mem_cons_of_mem _ hz)]
theorem ordr_free {ns : List Str} {f g : Str → Int} {b : Str} (h : ∀ z ∈ (ordr ns f b).dropLast, f z = g z) : ordr ns f b = ordr ns g b := by
  unfold ordr at h ⊢
  rw [play_free h]
theorem ordr_nodup {ns : List Str} {f : Str → Int} {b : Str} (nd : ns.Nodup) (hb : b ∈ ns) : (ordr ns f b).Nodup := (ordr_perm hb).nodup_iff.mpr nd
theorem ordr_ne {ns : List Str} {f : Str → Int} {b : Str} : ordr ns f b ≠ [] := by unfold ordr; simp
/-- the last goer -/
def lst (ns : List Str) (f : Str → Int) (b : Str) : Str := (ordr ns f b).getLastD Str.empty
theorem lst_in {ns : List Str} {f : Str → Int} {b : Str} (hb : b ∈ ns) : lst ns f b ∈ ns := (last_in hb).2
/-- the last one's slip does not matter -/
theorem ordr_last {ns : List Str} {f : Str → Int} {b : Str} {z : Int} (nd : ns.Nodup) (hb : b ∈ ns) : ordr ns (setS f (lst ns f b) z) b = ordr ns f b := by
  refine (ordr_free fun y hy => ?_).symm
  have nd' := ordr_nodup (f := f) nd hb
  have hl := (last_in (f := f) hb).1
  have e : (ordr ns f b) = (ordr ns f b).dropLast ++ [lst ns f b] := by
    unfold lst
    rw [List.getLastD_eq_getLast?, List.getLast?_eq_some_getLast ordr_ne]
    exact (List.dropLast_concat_getLast ordr_ne).symm
  have hne : y ≠ lst ns f b := fun q => by
    rw [e, List.nodup_append] at nd'
    exact nd'.2.2 y hy (lst ns f b) (by simp) q
  unfold setS
  rw [if_neg hne]
theorem at_lst {ns : List Str} {f : Str → Int} {b : Str} (hb : b ∈ ns) : L2.atI ((ordr ns f b).map D.str) (-1) = some (.str (lst ns f b)) := at_last (by rw [List.getLast?_map, (last_in hb).1]; rfl)
theorem nxt_eq {ns : List Str} {f : Str → Int} {b : Str} : nxt ns f b = (beh ns (lst ns f b)).getD (f (lst ns f b) % ns.length).toNat Str.empty := rfl
/-- seat by seat -/
theorem beh_get {ns : List Str} {n : Str} (hn : n ∈ ns) {i : Nat} (h : i < ns.length) : (beh ns n).getD i Str.empty = ns.getD ((pos ns n + 1 + i) % ns.length) Str.empty := by
  have hp := (pos_at hn).2.2
  unfold beh
  rw [List.getD_eq_getElem?_getD, List.getD_eq_getElem?_getD]
  congr 1
  by_cases h1 : i < ns.length - (pos ns n + 1)
  · rw [List.getElem?_append_left (by rw [List.length_drop]; exact h1), List.getElem?_drop, Nat.mod_eq_of_lt (by omega)]
  · rw [List.getElem?_append_right (by rw [List.length_drop]; omega), List.length_drop, List.getElem?_take_of_lt (by omega)]
    congr 1
    rw [Nat.mod_eq_sub_mod (by omega), Nat.mod_eq_of_lt (by omega)]
    omega
theorem beh_perm {ns : List Str} {n : Str} : (beh ns n).Perm ns := by
  unfold beh
  exact List.perm_append_comm.trans (List.Perm.of_eq (List.take_append_drop _ _))
theorem beh_last {ns : List Str} {n : Str} (hn : n ∈ ns) : (beh ns n).getLast? = some n := by
  obtain ⟨A, B, rfl, ha⟩ := split_of hn
  rw [beh_split ha]
  simp
/-- two sorted lists of the same texts are one -/
theorem range_getD {xs : List Str} : (List.range xs.length).map (fun i => xs.getD i Str.empty) = xs := by
  refine List.ext_getElem (by simp) fun i h1 h2 => ?_
  simp [List.getD, h2]
/-! sorted texts -/
def leS (a b : Str) : Prop := a.cps.toList ≤ b.cps.toList
theorem leS_of {a b : Str} : (ltCps b.cps.toList a.cps.toList = false) = leS a b := by
  rw [ltCps_eq, decide_eq_false_iff_not]
  rfl
theorem leS_trans {a b c : Str} (h : leS a b) (h' : leS b c) : leS a c := List.le_trans h h'
theorem leS_anti {a b : Str} (h : leS a b) (h' : leS b a) : a = b := str_ext (List.le_antisymm h h')
theorem rising_pw : ∀ {l : List Str} {p : Str}, PyProof.Rows.risingS p l = true → (p :: l).Pairwise leS
  | [], _, _ => by simp
  | x :: r, p, h => by
    rw [PyProof.Rows.risingS, Bool.and_eq_true, Bool.not_eq_true', leS_of] at h
    have ih := rising_pw h.2
    rw [List.pairwise_cons]
    refine ⟨fun y hy => ?_, ih⟩
    rcases List.mem_cons.mp hy with rfl | hy
    · exact h.1
    · exact leS_trans h.1 ((List.pairwise_cons.mp ih).1 y hy)
theorem sorted_pw : ∀ {l : List Str}, PyProof.Rows.sortedS l = true → l.Pairwise leS
  | [], _ => .nil
  | _ :: _, h => rising_pw h
theorem pw_uniq {α : Type} {R : α → α → Prop} (anti : ∀ a b, R a b → R b a → a = b) : ∀ {l m : List α}, l.Pairwise R → m.Pairwise R → l.Perm m → l = m
  | [], m, _, _, p => p.nil_eq
  | a :: l, [], _, _, p => by have := p.length_eq; simp at this
  | a :: l, b :: m, hl, hm, p => by
    have hab : a = b := by
      have ha : a ∈ b :: m := p.mem_iff.mp List.mem_cons_self
      have hb : b ∈ a :: l := p.mem_iff.mpr List.mem_cons_self
      rcases List.mem_cons.mp ha with h | h
      · exact h
      · rcases List.mem_cons.mp hb with h' | h'
        · exact h'.symm
        · exact anti a b ((List.pairwise_cons.mp hl).1 b h') ((List.pairwise_cons.mp hm).1 a h)
    subst hab
    rw [pw_uniq anti (List.pairwise_cons.mp hl).2 (List.pairwise_cons.mp hm).2 (List.Perm.cons_inv p)]
theorem sorted_uniq {l m : List Str} (hl : PyProof.Rows.sortedS l = true) (hm : PyProof.Rows.sortedS m = true) (p : l.Perm m) : l = m := pw_uniq (fun _ _ => leS_anti) (sorted_pw hl) (sorted_pw hm) p
theorem ints_uniq {l m : List Int} (hl : l.Pairwise (· ≤ ·)) (hm : m.Pairwise (· ≤ ·)) (p : l.Perm m) : l = m := pw_uniq (fun _ _ => Int.le_antisymm) hl hm p
/-! ranges -/
theorem rng0 {n : Int} : (rgL 0 1 (rgN 0 n 1)).map D.int = (List.range n.toNat).map fun k : Nat => D.int (k : Int) := by
  rw [rgN_one, rgL_one, Int.sub_zero, List.map_map]
  rfl
theorem rngI {i n : Int} : (rgL i 1 (rgN i n 1)).map D.int = (List.range (n - i).toNat).map fun k : Nat => D.int (i + k) := by
  unfold rgL
  rw [rgN_one, List.map_map]
  refine List.map_congr_left fun k _ => ?_
  show D.int (i + (k : Int) * 1) = _
  rw [Int.mul_one]
end R
set_option maxRecDepth 100000
set_option maxHeartbeats 4000000
namespace R
open PySem PySem.Spec PyProof.Rows G
/-! ### rings turned, renamed, with slips by multiples, mirrored -/
def row0 (ns : List Str) (b : Str) : List Str := ns.drop (pos ns b + 1) ++ ns.take (pos ns b)
theorem row0_split {b : Str} {A B : List Str} (h : b ∉ A) : row0 (A ++ b :: B) b = B ++ A := by
  unfold row0
  rw [pos_split h]
  simp
theorem row0_len {ns : List Str} {b : Str} (hb : b ∈ ns) : (row0 ns b).length = ns.length - 1 := first_len hb
theorem row0_sub {ns : List Str} {b z : Str} (h : z ∈ row0 ns b) : z ∈ ns := row_sub h
theorem ordr_row {ns : List Str} {f : Str → Int} {b : Str} : ordr ns f b = b :: play f (ns.length - 1) (row0 ns b) b := rfl
theorem beh_row0 {ns : List Str} {b : Str} (hb : b ∈ ns) : beh ns b = row0 ns b ++ [b] := by
  obtain ⟨A, B, rfl, ha⟩ := split_of hb
  rw [beh_split ha, row0_split ha]
def rot (ns : List Str) (k : Nat) : List Str := ns.drop k ++ ns.take k
theorem rot_perm {ns : List Str} {k : Nat} : (rot ns k).Perm ns := List.perm_append_comm.trans (List.Perm.of_eq (List.take_append_drop _ _))
theorem rot_row0 {ns : List Str} {b : Str} (nd : ns.Nodup) (hb : b ∈ ns) (k : Nat) : row0 (rot ns k) b = row0 ns b := by
  obtain ⟨A, B, rfl, ha⟩ := split_of hb
  rw [row0_split ha]
  unfold rot
  by_cases h : k ≤ A.length
  · rw [List.drop_append_of_le_length h, List.take_append_of_le_length h, List.append_assoc, List.cons_append, row0_split fun q => ha (List.mem_of_mem_drop q), List.append_assoc, List.take_append_drop]
  · obtain ⟨j, rfl⟩ : ∃ j, k = A.length + (1 + j) := ⟨k - A.length - 1, by omega⟩
    have hB : b ∉ B := by
      rw [List.nodup_append] at nd
      exact (List.nodup_cons.mp nd.2.1).1
    rw [List.drop_append, List.take_append, List.drop_eq_nil_of_le (by omega), List.nil_append, List.take_of_length_le (by omega), show A.length + (1 + j) - A.length = j + 1 by omega, List.drop_succ_cons, List.take_succ_cons, ← List.append_assoc]
    rw [row0_split (by rw [List.mem_append]; rintro (q | q); exact hB (List.mem_of_mem_drop q); exact ha q), ← List.append_assoc, List.take_append_drop]
theorem rot_ordr {ns : List Str} {f : Str → Int} {b : Str} (nd : ns.Nodup) (hb : b ∈ ns) (k : Nat) : ordr (rot ns k) f b = ordr ns f b := by
  rw [ordr_row, ordr_row, rot_row0 nd hb, rot_perm.length_eq]
theorem nxt_row {ns : List Str} {f : Str → Int} {b : Str} (hb : b ∈ ns) : nxt ns f b = (row0 ns (lst ns f b) ++ [lst ns f b]).getD (f (lst ns f b) % ns.length).toNat Str.empty := by
  rw [nxt_eq, beh_row0 (lst_in hb)]
theorem rot_nxt {ns : List Str} {f : Str → Int} {b : Str} (nd : ns.Nodup) (hb : b ∈ ns) (k : Nat) : nxt (rot ns k) f b = nxt ns f b := by
  have e : lst (rot ns k) f b = lst ns f b := by unfold lst; rw [rot_ordr nd hb]
  rw [nxt_row (rot_perm.mem_iff.mpr hb), nxt_row hb, e, rot_row0 nd (lst_in hb), rot_perm.length_eq]
theorem getD_map {g : Str → Str} {row : List Str} {i : Nat} (h : i < row.length) : (row.map g).getD i Str.empty = g (row.getD i Str.empty) := by
  simp [List.getD, h]
theorem getD_mem {row : List Str} {i : Nat} (h : i < row.length) : row.getD i Str.empty ∈ row := by
  have e : row.getD i Str.empty = row[i] := by simp [List.getD, h]
  rw [e]
  exact List.getElem_mem h
theorem play_map {f f' : Str → Int} {g : Str → Str} : ∀ {n : Nat} {row : List Str} {y : Str}, row.length = n → (∀ z, (z = y ∨ z ∈ row) → ∀ m : Nat, 1 ≤ m → m ≤ n → f' (g z) % m = f z % m) → play f' n (row.map g) (g y) = (play f n row y).map g
  | 0, _, _, _, _ => rfl
  | n + 1, row, y, hl, h => by
    have hi := spot_lt (row := row) (z := f y) (by intro e; rw [e] at hl; cases hl)
    rw [play, play]
    try dsimp only
    rw [List.length_map, h y (.inl rfl) row.length (by omega) (by omega), getD_map hi, ← List.map_drop, ← List.map_take, ← List.map_append, List.map_cons]
    rw [play_map (by rw [row_len hi]; omega) fun z hz m h1 h2 => h z ?_ m h1 (by omega)]
    rcases hz with rfl | hz
    · exact .inr (getD_mem hi)
    · exact .inr (row_sub hz)
theorem row0_map {ns : List Str} {g : Str → Str} {b : Str} (hb : b ∈ ns) (inj : ∀ a ∈ ns, g a = g b → a = b) : row0 (ns.map g) (g b) = (row0 ns b).map g := by
  obtain ⟨A, B, rfl, ha⟩ := split_of hb
  rw [row0_split ha, List.map_append, List.map_cons, row0_split, List.map_append]
  intro q
  obtain ⟨a, h1, h2⟩ := List.mem_map.mp q
  exact ha (by rw [← inj a (by simp [h1]) h2]; exact h1)
theorem ordr_map {ns : List Str} {f f' : Str → Int} {g : Str → Str} {b : Str} (hb : b ∈ ns) (inj : ∀ a ∈ ns, ∀ c ∈ ns, g a = g c → a = c) (h : ∀ z ∈ ns, ∀ m : Nat, 1 ≤ m → m ≤ ns.length → f' (g z) % m = f z % m) : ordr (ns.map g) f' (g b) = (ordr ns f b).map g := by
  rw [ordr_row, ordr_row, row0_map hb (fun a ha => inj a ha b hb), List.length_map, List.map_cons, play_map (row0_len hb) fun z hz m h1 h2 => h z (by rcases hz with rfl | hz; exact hb; exact row0_sub hz) m h1 (by omega)]
theorem lst_map {ns : List Str} {f f' : Str → Int} {g : Str → Str} {b : Str} (hb : b ∈ ns) (inj : ∀ a ∈ ns, ∀ c ∈ ns, g a = g c → a = c) (h : ∀ z ∈ ns, ∀ m : Nat, 1 ≤ m → m ≤ ns.length → f' (g z) % m = f z % m) : lst (ns.map g) f' (g b) = g (lst ns f b) := by
  have hl := (last_in (f := f) hb).1
  unfold lst
  rw [ordr_map hb inj h, List.getLastD_eq_getLast?, List.getLast?_map, hl]
  rfl
theorem nxt_map {ns : List Str} {f f' : Str → Int} {g : Str → Str} {b : Str} (hb : b ∈ ns) (inj : ∀ a ∈ ns, ∀ c ∈ ns, g a = g c → a = c) (h : ∀ z ∈ ns, ∀ m : Nat, 1 ≤ m → m ≤ ns.length → f' (g z) % m = f z % m) : nxt (ns.map g) f' (g b) = g (nxt ns f b) := by
  have hl := lst_in (f := f) hb
  have hp : 0 < ns.length := List.length_pos_of_mem hb
  rw [nxt_row hb, nxt_row (List.mem_map_of_mem hb), lst_map hb inj h, row0_map hl (fun a ha => inj a ha _ hl), List.length_map, h _ hl ns.length (by omega) (Nat.le_refl _)]
  rw [show (row0 ns (lst ns f b)).map g ++ [g (lst ns f b)] = (row0 ns (lst ns f b) ++ [lst ns f b]).map g by simp, getD_map]
  have := spot_lt (row := ns) (z := f (lst ns f b)) (by intro e; rw [e] at hp; cases hp)
  rw [List.length_append, row0_len hl, List.length_singleton]
  omega
theorem map_idS {xs : List Str} : xs.map (fun s => s) = xs := List.map_id' xs
theorem ordr_mod {ns : List Str} {f f' : Str → Int} {b : Str} (hb : b ∈ ns) (h : ∀ z ∈ ns, ∀ m : Nat, 1 ≤ m → m ≤ ns.length → f' z % m = f z % m) : ordr ns f' b = ordr ns f b := by
  have := ordr_map (g := fun s => s) hb (fun _ _ _ _ e => e) h
  rwa [map_idS, map_idS] at this
theorem nxt_mod {ns : List Str} {f f' : Str → Int} {b : Str} (hb : b ∈ ns) (h : ∀ z ∈ ns, ∀ m : Nat, 1 ≤ m → m ≤ ns.length → f' z % m = f z % m) : nxt ns f' b = nxt ns f b := by
  have := nxt_map (g := fun s => s) hb (fun _ _ _ _ e => e) h
  rwa [map_idS] at this
/-! the mirror -/
theorem neg_mod {a : Int} {m : Nat} (h : 0 < m) : ((-1 - a) % m).toNat = m - 1 - (a % m).toNat := by
  have h1 := Int.emod_nonneg a (show (m : Int) ≠ 0 by omega)
  have h2 := Int.emod_lt_of_pos a (show (0 : Int) < m by omega)
  have e : (-1 - a) % (m : Int) = (m : Int) - 1 - a % m := by
    have : -1 - a = ((m : Int) - 1 - a % m) + m * (-(a / m) - 1) := by
      have := Int.mul_ediv_add_emod a m
      rw [Int.mul_sub, Int.mul_neg]
      omega
    rw [this, Int.add_mul_emod_self_left, Int.emod_eq_of_lt (by omega) (by omega)]
  rw [e]
  omega
theorem rev_getD {row : List Str} {i : Nat} (h : i < row.length) : row.reverse.getD (row.length - 1 - i) Str.empty = row.getD i Str.empty := by
  rw [List.getD_eq_getElem?_getD, List.getD_eq_getElem?_getD, List.getElem?_reverse (by omega)]
  congr 2
  omega
theorem play_rev {f f' : Str → Int} : ∀ {n : Nat} {row : List Str} {y : Str}, row.length = n → (∀ z ∈ (y :: play f n row y).dropLast, f' z = -1 - f z) → play f' n row.reverse y = play f n row y
  | 0, _, _, _, _ => rfl
  | n + 1, row, y, hl, h => by
    have hi := spot_lt (row := row) (z := f y) (by intro e; rw [e] at hl; cases hl)
    have hy : f' y = -1 - f y := h y (by rw [play]; simp)
    rw [play, play]
    try dsimp only
    rw [hy, List.length_reverse, neg_mod (by omega), rev_getD hi]
    have e1 : row.reverse.drop (row.length - 1 - (f y % row.length).toNat + 1) ++ row.reverse.take (row.length - 1 - (f y % row.length).toNat) = (row.drop ((f y % row.length).toNat + 1) ++ row.take (f y % row.length).toNat).reverse := by
      rw [List.reverse_append, List.reverse_take, List.reverse_drop]
      congr 2 <;> omega
    rw [e1, play_rev (by rw [row_len hi]; omega) fun z hz => h z (by rw [play, List.dropLast_cons_of_ne_nil (by simp)]; exact List.mem_cons_of_mem _ hz)]
theorem row0_rev {ns : List Str} {b : Str} (nd : ns.Nodup) (hb : b ∈ ns) : row0 ns.reverse b = (row0 ns b).reverse := by
  obtain ⟨A, B, rfl, ha⟩ := split_of hb
  have hB : b ∉ B := by
    rw [List.nodup_append] at nd
    exact (List.nodup_cons.mp nd.2.1).1
  rw [row0_split ha, List.reverse_append, List.reverse_cons, List.append_assoc, List.singleton_append, row0_split (by simpa using hB), List.reverse_append]
theorem ordr_rev {ns : List Str} {f f' : Str → Int} {b : Str} (nd : ns.Nodup) (hb : b ∈ ns) (h : ∀ z ∈ (ordr ns f b).dropLast, f' z = -1 - f z) : ordr ns.reverse f' b = ordr ns f b := by
  rw [ordr_row] at h
  rw [ordr_row, ordr_row, row0_rev nd hb, List.length_reverse, play_rev (row0_len hb) h]
theorem nxt_rev {ns : List Str} {f f' : Str → Int} {b : Str} (nd : ns.Nodup) (hb : b ∈ ns) (h : ∀ z ∈ (ordr ns f b).dropLast, f' z = -1 - f z) (hl : f' (lst ns f b) = -2 - f (lst ns f b)) : nxt ns.reverse f' b = nxt ns f b := by
  have e : lst ns.reverse f' b = lst ns f b := by unfold lst; rw [ordr_rev nd hb h]
  have hm := lst_in (f := f) hb
  have hp : 0 < ns.length := List.length_pos_of_mem hb
  have hlen := row0_len hm
  rw [nxt_row (List.mem_reverse.mpr hb), nxt_row hb, e, row0_rev nd hm, List.length_reverse, hl, show -2 - f (lst ns f b) = -1 - (f (lst ns f b) + 1) by omega, neg_mod hp]
  have h1 := Int.emod_nonneg (f (lst ns f b)) (show (ns.length : Int) ≠ 0 by omega)
  have h2 := Int.emod_lt_of_pos (f (lst ns f b)) (show (0 : Int) < ns.length by omega)
  have e2 : (f (lst ns f b) + 1) % (ns.length : Int) = if f (lst ns f b) % ns.length = ns.length - 1 then 0 else f (lst ns f b) % ns.length + 1 := by
    rw [← Int.emod_add_emod]
    split
    · rename_i q; rw [q, show (ns.length : Int) - 1 + 1 = ns.length by omega, Int.emod_self]
    · exact Int.emod_eq_of_lt (by omega) (by omega)
  rw [e2]
  have last : ∀ (R : List Str), R.length = ns.length - 1 → (R ++ [lst ns f b]).getD (ns.length - 1) Str.empty = lst ns f b := fun R hR => by
    rw [List.getD_eq_getElem?_getD, ← hR]; simp
  split
  · rename_i q
    rw [q, show ((0 : Int).toNat) = 0 by rfl, Nat.sub_zero, last _ (by rw [List.length_reverse, hlen]), show ((ns.length : Int) - 1).toNat = ns.length - 1 by omega, last _ hlen]
  · rename_i q
    have ga : ∀ (R S : List Str) (i : Nat), i < R.length → (R ++ S).getD i Str.empty = R.getD i Str.empty := fun R S i hi => by rw [List.getD_eq_getElem?_getD, List.getD_eq_getElem?_getD, List.getElem?_append_left hi]
    rw [ga _ _ _ (by rw [List.length_reverse, hlen]; omega), ga _ _ _ (by rw [hlen]; omega)]
    rw [← rev_getD (row := row0 ns (lst ns f b)) (by rw [hlen]; omega), hlen]
    congr 1
    omega
end R
set_option maxRecDepth 100000
set_option maxHeartbeats 4000000
namespace R
open PySem PySem.Spec PyProof.Rows G L2
section
variable {δ : G.Env} {p : Pst} {s : S}
theorem for_rangeI {tg : Tg} {i n : Int} (I : Nat → G.Env → Prop) (h0 : I 0 δ) (hstep : ∀ (j : Nat) δ (nx' : G.Env → Prop), i + (j : Int) < n → I j δ → (∀ δ', I (j + 1) δ' → nx' δ') → ∃ δ', asgT tg (.int (i + j)) δ = some δ' ∧ wS s δ' { nx := nx', rt := p.rt, bk := p.nx, ct := nx', ex := p.ex })
    (hend : ∀ δ, I (n - i).toNat δ → p.nx δ) : forGo tg (wS s) ((rgL i 1 (rgN i n 1)).map D.int) δ p := by
  rw [rngI]
  refine for_rule (fun rem δ => ∃ j, j ≤ (n - i).toNat ∧ rem = ((List.range (n - i).toNat).drop j).map (fun (k : Nat) => D.int (i + k)) ∧ I j δ) ⟨0, Nat.zero_le _, rfl, h0⟩ ?_ ?_
  · rintro d r δ nx' ⟨j, hj, hr, hI⟩ hn
    have hlt : j < (n - i).toNat := by
      by_cases h : j < (n - i).toNat
      · exact h
      · rw [List.drop_eq_nil_of_le (by rw [List.length_range]; omega)] at hr
        cases hr
    rw [List.drop_eq_getElem_cons (by rw [List.length_range]; exact hlt), List.getElem_range, List.map_cons] at hr
    injection hr with h1 h2
    subst h1
    exact hstep j δ nx' (by omega) hI fun δ' h' => hn δ' ⟨j + 1, hlt, h2, h'⟩
  · rintro δ ⟨j, hj, hr, hI⟩
    have : (n - i).toNat ≤ j := by
      have h := congrArg List.length hr
      rw [List.length_map, List.length_drop, List.length_range] at h
      simp at h
      omega
    rw [show j = (n - i).toNat by omega] at hI
    exact hend δ hI
end
mutual
theorem eqD_refl : ∀ (n : Nat) (d : D), sh n d = true → eqD d d = true
  | _, .non, _ => eqD_non
  | _, .bl b, _ => by rw [eqD_bl]; simp
  | _, .int b, _ => by rw [eqD_int]; simp
  | _, .str b, _ => by rw [eqD_str]; simp
  | 0, .lst xs, hs => by rw [sh] at hs; cases hs
  | n + 1, .lst xs, hs => by rw [eqD_lst]; exact eqL_refl n xs (by rwa [sh_lst] at hs)
  | 0, .tup xs, hs => by rw [sh] at hs; cases hs
  | n + 1, .tup xs, hs => by rw [eqD_tup]; exact eqL_refl n xs (by rwa [sh_tup] at hs)
  | n, .dic _, hs => by rw [sh] at hs; cases hs
  | n, .ins _ _, hs => by rw [sh] at hs; cases hs
  | n, .st _, hs => by rw [sh] at hs; cases hs
  | n, .stc _, hs => by rw [sh] at hs; cases hs
  | n, .scr _, hs => by rw [sh] at hs; cases hs
theorem eqL_refl : ∀ (n : Nat) (xs : List D), shL n xs = true → eqL xs xs = true
  | _, [], _ => eqL_nil
  | n, x :: xs, hs => by
    rw [shL_cons, Bool.and_eq_true] at hs
    rw [eqL_cc, eqD_refl n x hs.1, eqL_refl n xs hs.2]; rfl
end
theorem shL_map {α : Type} {g : α → D} {n : Nat} : ∀ {xs : List α}, (∀ x ∈ xs, sh n (g x) = true) → shL n (xs.map g) = true
  | [], _ => by rw [List.map_nil, shL_nil]
  | x :: xs, h => by rw [List.map_cons, shL_cons, h x (by simp), shL_map fun y hy => h y (List.mem_cons_of_mem _ hy)]; rfl
/-! dicts from names to anything -/
def dicG (ks : List Str) (F : Str → D) : List (L2.Key × D) := ks.map fun n => (Sum.inr n, F n)
theorem dicF_G {ks : List Str} {f : Str → Int} : dicF ks f = dicG ks fun n => .int (f n) := rfl
theorem getK_G {ks : List Str} {F : Str → D} {n : Str} (h : n ∈ ks) : getK (dicG ks F) (.inr n) = some (F n) := by
  unfold getK dicG
  induction ks with
  | nil => cases h
  | cons p r ih =>
    rw [List.map_cons, List.find?_cons]
    by_cases e : p = n
    · have e1 : decide ((Sum.inr p : L2.Key) = Sum.inr n) = true := by simp [e]
      simp only [e1]
      rw [e]; rfl
    · have e1 : decide ((Sum.inr p : L2.Key) = Sum.inr n) = false := by
        rw [decide_eq_false_iff_not]
        intro q
        injection q with q
        exact e q
      simp only [e1]
      refine ih ?_
      rcases List.mem_cons.mp h with h | h
      · exact absurd h.symm e
      · exact h
theorem any_G {ks : List Str} {F : Str → D} {n : Str} : ((dicG ks F).any fun kv => decide (kv.1 = (Sum.inr n : L2.Key))) = decide (n ∈ ks) := by
  unfold dicG
  rw [List.any_map]
  refine Bool.eq_iff_iff.mpr ?_
  rw [List.any_eq_true, decide_eq_true_eq]
  constructor
  · rintro ⟨x, hx, h⟩
    have h' : (Sum.inr x : L2.Key) = Sum.inr n := of_decide_eq_true h
    injection h' with h'
    rw [← h']; exact hx
  · intro h
    exact ⟨n, h, decide_eq_true rfl⟩
theorem putG_new {F : Str → D} {n : Str} {ks : List Str} (h : n ∉ ks) : putD (dicG ks F) (.inr n) (F n) = dicG (ks ++ [n]) F := by
  unfold putD
  rw [any_G, if_neg (by simp [h])]
  unfold dicG
  rw [List.map_append]
  rfl
def setG (F : Str → D) (n : Str) (z : D) : Str → D := fun m => if m = n then z else F m
theorem putG_in {F : Str → D} {n : Str} {z : D} {ks : List Str} (h : n ∈ ks) : putD (dicG ks F) (.inr n) z = dicG ks (setG F n z) := by
  unfold putD
  rw [any_G, if_pos (decide_eq_true h)]
  unfold dicG
  rw [List.map_map]
  refine List.map_congr_left fun m hm => ?_
  show (if (Sum.inr m : L2.Key) = Sum.inr n then ((Sum.inr m : L2.Key), z) else (Sum.inr m, F m)) = _
  unfold setG
  by_cases e : m = n
  · rw [if_pos (by rw [e]), if_pos e]
  · rw [if_neg (by intro q; injection q with q; exact e q), if_neg e]
theorem merge_G {F : Str → D} : ∀ {more ks : List Str}, (ks ++ more).Nodup → mergeD (dicG ks F) (dicG more F) = dicG (ks ++ more) F
  | [], ks, _ => by rw [List.append_nil]; rfl
  | n :: more, ks, nd => by
    have hn : n ∉ ks := fun q => by
      rw [List.nodup_append] at nd
      exact nd.2.2 n q n (by simp) rfl
    show mergeD (putD (dicG ks F) (.inr n) (F n)) (dicG more F) = _
    rw [putG_new hn]
    have e : ks ++ n :: more = (ks ++ [n]) ++ more := by simp
    rw [e] at nd ⊢
    exact merge_G nd
theorem merge_G0 {F : Str → D} {ks : List Str} (nd : ks.Nodup) : mergeD [] (dicG ks F) = dicG ks F := merge_G (ks := []) (more := ks) (by simpa using nd)
theorem keysD_strs : ∀ {ns : List Str}, keysD (ns.map D.str) = some (ns.map Sum.inr)
  | [] => rfl
  | n :: ns => by rw [List.map_cons, keysD, keysD_strs]; rfl
theorem nd_inj {xs : List Str} (nd : xs.Nodup) {i j : Nat} (hi : i < xs.length) (hj : j < xs.length) (e : xs[i] = xs[j]) : i = j := by
  have h := List.pairwise_iff_getElem.mp nd
  rcases Nat.lt_trichotomy i j with q | q | q
  · exact absurd e (h i j hi hj q)
  · exact q
  · exact absurd e.symm (h j i hj hi q)
theorem pos_get {ns : List Str} (nd : ns.Nodup) {i : Nat} (h : i < ns.length) : pos ns ns[i] = i :=
  (pos_one (List.getElem?_eq_getElem h) fun m hm q => by
    obtain ⟨h3, h4⟩ := List.getElem?_eq_some_iff.mp q
    have := nd_inj nd h3 h h4
    omega).symm
/-- the name that stands where n stands -/
def ren (ns ms : List Str) (n : Str) : Str := ms.getD (pos ns n) Str.empty
theorem map_ren {ns ms : List Str} (nd : ns.Nodup) (hl : ns.length = ms.length) : ns.map (ren ns ms) = ms := by
  refine List.ext_getElem (by simp [hl]) fun i h1 h2 => ?_
  rw [List.getElem_map]
  have h3 : i < ns.length := by omega
  unfold ren
  rw [pos_get nd h3]
  simp [List.getD, h2]
theorem zip_map {g : Str → Str} : ∀ {ns : List Str}, (ns.map (Sum.inr : Str → L2.Key)).zip ((ns.map g).map D.str) = dicG ns fun n => .str (g n)
  | [] => rfl
  | n :: ns => by
    rw [List.map_cons, List.map_cons, List.map_cons, List.zip_cons_cons, zip_map]; rfl
theorem zip_ren {ns ms : List Str} (nd : ns.Nodup) (hl : ns.length = ms.length) : (ns.map (Sum.inr : Str → L2.Key)).zip (ms.map D.str) = dicG ns fun n => .str (ren ns ms n) := by
  conv => lhs; rw [← map_ren nd hl]
  exact zip_map
theorem ren_inj {ns ms : List Str} (nd : ms.Nodup) (hl : ns.length = ms.length) : ∀ a ∈ ns, ∀ c ∈ ns, ren ns ms a = ren ns ms c → a = c := by
  intro a ha c hc e
  have h1 := pos_at ha
  have h2 := pos_at hc
  unfold ren at e
  have g1 : ms.getD (pos ns a) Str.empty = ms[pos ns a]'(by omega) := by simp [List.getD, show pos ns a < ms.length by omega]
  have g2 : ms.getD (pos ns c) Str.empty = ms[pos ns c]'(by omega) := by simp [List.getD, show pos ns c < ms.length by omega]
  rw [g1, g2] at e
  have := nd_inj nd _ _ e
  have q := h1.1
  rw [this, h2.1] at q
  exact (Option.some.inj q).symm
end R
set_option maxRecDepth 100000
set_option maxHeartbeats 4000000
/-! ### orders and their places -/
open PySem G
namespace R
open PySem G
/-- who sits, behind the one at place i -/
def sa (row : List Str) (i : Nat) : List Str := row.drop (i + 1) ++ row.take i
def decL : List Str → List Nat → List Str
  | _, [] => []
  | row, i :: is => row.getD i Str.empty :: decL (sa row i) is
def idxL : List Str → List Str → List Nat
  | _, [] => []
  | row, x :: xs => pos row x :: idxL (sa row (pos row x)) xs
def dec (ns : List Str) (b : Str) (is : List Nat) : List Str := b :: decL (row0 ns b) is
/-- numbers, each with how many sit there -/
def rstD : Nat → List Nat → List D
  | _, [] => []
  | m, i :: is => .tup [.int i, .int m] :: rstD (m - 1) is
/-- places for m who sit -/
def Fits : Nat → List Nat → Prop
  | m, [] => m = 0
  | m, i :: is => i < m ∧ Fits (m - 1) is
abbrev sp_is_order : Spc := fun ds K _ => ∃ e ns, ∃ os : List Str, ds = [e, .tup (os.map D.str)] ∧ seqS e ns ∧ NamesOk ns ∧ os.Perm ns ∧ K false (.bl true)
abbrev sp_require_order : Spc := fun ds K _ => ∃ e ns, ∃ os : List Str, ds = [e, .tup (os.map D.str)] ∧ seqS e ns ∧ NamesOk ns ∧ os.Perm ns ∧ K false .non
abbrev sp_require_beginner : Spc := fun ds K _ => ∃ e ns b, ds = [e, .str b] ∧ seqS e ns ∧ NamesOk ns ∧ b ∈ ns ∧ K false .non
abbrev sp_seated_after : Spc := fun ds K _ => ∃ row : List Str, ∃ i : Nat, ds = [.lst (row.map D.str), .int i] ∧ i < row.length ∧ row.length ≤ 1000 ∧ K true (.lst ((sa row i).map D.str))
abbrev sp_rests_of : Spc := fun ds K _ => ∃ e ns b fs, ds = [e, .tup ((b :: fs).map D.str)] ∧ seqS e ns ∧ NamesOk ns ∧ (b :: fs).Perm ns ∧ K false (.tup (rstD (ns.length - 1) (idxL (row0 ns b) fs)))
abbrev sp_are_indexes : Spc := fun ds K _ => ∃ (is : List Nat) (m : Nat), ds = [.tup (is.map fun i : Nat => D.int i), .int m] ∧ Fits m is ∧ m ≤ 1000 ∧ K false (.bl true)
abbrev sp_decode : Spc := fun ds K _ => ∃ e ns b, ∃ is : List Nat, ds = [e, .str b, .tup (is.map fun i : Nat => D.int i)] ∧ seqS e ns ∧ NamesOk ns ∧ b ∈ ns ∧ Fits (ns.length - 1) is ∧ K false (.tup ((dec ns b is).map D.str))
abbrev sp_order_by : Spc := sp_decode
def N_is_order : List Str := ["names", "thing", "part"]
def c_is_order : S := .cons (.ifs (.or (.not (.isin "tuple" (.var 1))) (.or (.cmp .NotEq (.bn .len (.cons (.var 1) (.nil))) (.bn .len (.cons (.var 0) (.nil)))) (.one (.not (.bn .all (.cons (.lc [("part", 2)] (.one 2) (.iseq (.var 1)) (.no) (.call "is_name" ⟨1, sp_is_name⟩ (.cons (.var 2) (.nil)))) (.nil))))))) (.cons (.ret (.k (.bl false))) (.nil)) (.nil)) (.cons (.ret (.cmp .Eq (.bn .sorted (.cons (.var 1) (.nil))) (.bn .sorted (.cons (.var 0) (.nil))))) (.nil))
def N_require_order : List Str := ["names", "thing"]
def c_require_order : S := .cons (.ifs (.not (.call "is_order" ⟨2, sp_is_order⟩ (.cons (.var 0) (.cons (.var 1) (.nil))))) (.cons (.never) (.nil)) (.nil)) (.nil)
def N_require_beginner : List Str := ["names", "begin"]
def c_require_beginner : S := .cons (.ifs (.or (.not (.call "is_name" ⟨1, sp_is_name⟩ (.cons (.var 1) (.nil)))) (.one (.cmp .NotIn (.var 1) (.var 0)))) (.cons (.never) (.nil)) (.nil)) (.nil)
def N_seated_after : List Str := ["seated", "index"]
def c_seated_after : S := .cons (.ret (.bin .Add (.sl (.var 0) (.opt (.bin .Add (.var 1) (.k (.int 1)))) (.no)) (.sl (.var 0) (.no) (.opt (.var 1))))) (.nil)
def N_rests_of : List Str := ["names", "order", "name", "begin", "seated", "rests", "index", "followers"]
def c_rests_of : S := .cons (.expr (.call "need_names" ⟨1, sp_need_names⟩ (.cons (.var 0) (.nil)))) (.cons (.expr (.call "require_order" ⟨2, sp_require_order⟩ (.cons (.var 0) (.cons (.var 1) (.nil))))) (.cons (.unpS 3 7 false (.var 1)) (.cons (.par2 4 false 5 true (.cons (.sl (.call "behind" ⟨2, sp_behind⟩ (.cons (.var 0) (.cons (.var 3) (.nil)))) (.no) (.opt (.neg (.k (.int 1))))) (.cons (.lst (.nil)) (.nil)))) (.cons (.for_ (.one 2) (.iseq (.var 7)) (.cons (.asg 6 false (.bm .index (.var 4) (.cons (.var 2) (.nil)))) (.cons (.mut1 5 .append (.cons (.tup (.cons (.var 6) (.cons (.bn .len (.cons (.var 4) (.nil))) (.nil)))) (.nil))) (.cons (.asg 4 false (.call "seated_after" ⟨2, sp_seated_after⟩ (.cons (.var 4) (.cons (.var 6) (.nil))))) (.nil))))) (.cons (.ret (.bn .tuple (.cons (.var 5) (.nil)))) (.nil))))))
def N_are_indexes : List Str := ["thing", "count", "at", "index"]
def c_are_indexes : S := .cons (.ifs (.or (.not (.isin "tuple" (.var 0))) (.one (.cmp .NotEq (.bn .len (.cons (.var 0) (.nil))) (.var 1)))) (.cons (.ret (.k (.bl false))) (.nil)) (.nil)) (.cons (.ret (.bn .all (.cons (.lc [("at", 2), ("index", 3)] (.many [2, 3]) (.ienum (.var 0)) (.no) (.and (.call "is_number" ⟨1, sp_is_number⟩ (.cons (.var 3) (.nil))) (.one (.chain .LtE .Lt (.k (.int 0)) (.var 3) (.bin .Sub (.var 1) (.var 2)))))) (.nil)))) (.nil))
def N_decode : List Str := ["names", "begin", "indexes", "index", "seated", "goers"]
def c_decode : S := .cons (.par2 4 false 5 true (.cons (.sl (.call "behind" ⟨2, sp_behind⟩ (.cons (.var 0) (.cons (.var 1) (.nil)))) (.no) (.opt (.neg (.k (.int 1))))) (.cons (.lst (.cons (.var 1) (.nil))) (.nil)))) (.cons (.for_ (.one 3) (.iseq (.var 2)) (.cons (.mut1 5 .append (.cons (.ix (.var 4) (.var 3)) (.nil))) (.cons (.asg 4 false (.call "seated_after" ⟨2, sp_seated_after⟩ (.cons (.var 4) (.cons (.var 3) (.nil))))) (.nil)))) (.cons (.ret (.bn .tuple (.cons (.var 5) (.nil)))) (.nil)))
def N_order_by : List Str := ["names", "begin", "places"]
def c_order_by : S := .cons (.expr (.call "need_names" ⟨1, sp_need_names⟩ (.cons (.var 0) (.nil)))) (.cons (.expr (.call "require_beginner" ⟨2, sp_require_beginner⟩ (.cons (.var 0) (.cons (.var 1) (.nil))))) (.cons (.ifs (.not (.call "are_indexes" ⟨2, sp_are_indexes⟩ (.cons (.var 2) (.cons (.bin .Sub (.bn .len (.cons (.var 0) (.nil))) (.k (.int 1))) (.nil))))) (.cons (.never) (.nil)) (.nil)) (.cons (.ret (.call "decode" ⟨3, sp_decode⟩ (.cons (.var 0) (.cons (.var 1) (.cons (.var 2) (.nil)))))) (.nil))))
theorem cut_last {α : Type} {xs : List α} {x : α} : cutL (xs ++ [x]) none (some (-1)) = xs := by
  unfold cutL HT.sIx
  dsimp only
  rw [if_pos (by omega), List.length_append, List.length_singleton, List.drop_zero, Nat.sub_zero]
  rw [show (-1 + ((xs.length + 1 : Nat) : Int)).toNat = xs.length by omega]
  simp
theorem sorted_eq {u v : List Str} (h1 : PyProof.Rows.sortedS u = true) (h2 : PyProof.Rows.sortedS v = true) (p : u.Perm v) : u = v := sorted_uniq h1 h2 p
theorem all_true {α : Type} {xs : List α} : ((xs.map fun _ => D.bl true).all fun d => match d with | .bl b => b | _ => false) = true := by
  rw [List.all_map, List.all_eq_true]; intros; rfl
theorem vc_is_order : VC ⟨2, sp_is_order⟩ N_is_order c_is_order := by
  rintro ds K X hl ⟨e, ns, os, rfl, hs, hns, hp, hK⟩
  have hpl := hp.length_eq
  have h12 := hns.2.1
  rcases hs with rfl | rfl
  all_goals
    unfold c_is_order N_is_order
    simp_arith [List.length_map, hpl]
    refine ⟨by omega, lcGo_mapG (fun _ => D.bl true) _ _ _ (fun n hn k hk => ?_) ?_⟩
    · simp_arith
      refine ⟨n, rfl, hns.2.2.2 n (hp.mem_iff.mp hn), ?_⟩
      simp_arith
      exact hk
    · rw [List.nil_append]
      simp_arith
      refine ⟨os.map fun _ => true, by simp, ?_⟩
      rw [show ((os.map fun _ => true).all id) = true by simp]
      simp_arith
      refine ⟨_, rfl, .inr (.inr (.inr (.inl ⟨os, rfl, by omega, fun m1 p1 s1 => ?_⟩)))⟩
      simp_arith
      refine ⟨_, rfl, ?_⟩
      first | refine .inr (.inl ⟨ns, rfl, by omega, fun m2 p2 s2 => ?_⟩) | refine .inr (.inr (.inr (.inl ⟨ns, rfl, by omega, fun m2 p2 s2 => ?_⟩)))
      have em : m1 = m2 := sorted_uniq s1 s2 (p1.trans (hp.trans p2.symm))
      subst em
      simp_arith [shL_strs, eqL_strs]
      exact hK
theorem vc_require_order : VC ⟨2, sp_require_order⟩ N_require_order c_require_order := by
  rintro ds K X hl ⟨e, ns, os, rfl, hs, hns, hp, hK⟩
  unfold c_require_order N_require_order
  simp_arith
  refine ⟨e, ns, os, rfl, hs, hns, hp, ?_⟩
  simp_arith
  exact hK
theorem vc_require_beginner : VC ⟨2, sp_require_beginner⟩ N_require_beginner c_require_beginner := by
  rintro ds K X hl ⟨e, ns, b, rfl, hs, hns, hb, hK⟩
  rcases hs with rfl | rfl
  all_goals
    unfold c_require_beginner N_require_beginner
    simp_arith
    refine ⟨b, rfl, hns.2.2.2 b hb, ?_⟩
    simp_arith [inD_strs, flat_strs]
    exact ⟨rfl, hb, hK⟩
theorem vc_seated_after : VC ⟨2, sp_seated_after⟩ N_seated_after c_seated_after := by
  rintro ds K X hl ⟨row, i, rfl, hi, hl2, hK⟩
  unfold c_seated_after N_seated_after
  simp_arith
  rw [cut_from (by omega) (by rw [List.length_map]; omega), cut_to (by omega) (by rw [List.length_map]; omega), ← List.map_drop, ← List.map_take, ← List.map_append]
  rw [show ((i : Int) + 1).toNat = i + 1 by omega, Int.toNat_natCast]
  exact ⟨by rw [List.length_map, List.length_map, List.length_drop, List.length_take]; omega, hK⟩
theorem vc_rests_of : VC ⟨2, sp_rests_of⟩ N_rests_of c_rests_of := by
  rintro ds K X hl ⟨e, ns, b, fs, rfl, hs, hns, hp, hK⟩
  have h12 := hns.2.1
  have hb : b ∈ ns := hp.mem_iff.mp List.mem_cons_self
  unfold c_rests_of N_rests_of
  simp_arith
  refine ⟨e, ns, rfl, hs, hns, ?_⟩
  simp_arith
  refine ⟨e, ns, b :: fs, rfl, hs, hns, hp, ?_⟩
  simp_arith
  refine ⟨by decide, e, ns, b, rfl, hs, hb, by omega, ?_⟩
  simp_arith
  rw [beh_row0 hb, List.map_append, List.map_cons, List.map_nil, cut_last]
  have hp0 : fs.Perm (row0 ns b) := by
    refine List.Perm.cons_inv (a := b) (hp.trans ?_)
    obtain ⟨A, B, rfl, ha⟩ := split_of hb
    rw [row0_split ha]
    exact (List.perm_append_comm (l₁ := A) (l₂ := b :: B))
  have hl0 := row0_len hb
  refine for_mapG (fun r δ => ∃ (row : List Str) (acc : List D) (q2 q6 : Sl), δ = [.fz e, .fz (.tup (D.str b :: fs.map D.str)), q2, .fz (.str b), .fz (.lst (row.map D.str)), .ow (.lst acc), q6, .fz (.lst (fs.map D.str))] ∧ r.Perm row ∧ acc ++ rstD row.length (idxL row r) = rstD (ns.length - 1) (idxL (row0 ns b) fs) ∧ acc.length + r.length ≤ 12) ⟨_, _, _, _, rfl, hp0, by rw [hl0]; rfl, by rw [hp0.length_eq, hl0, List.length_nil]; omega⟩ ?_ ?_
  · rintro x r _ nx' ⟨row, acc, q2, q6, rfl, hpr, hacc, hlen⟩ hn
    have hx : x ∈ row := hpr.mem_iff.mp List.mem_cons_self
    obtain ⟨a1, a2, a3⟩ := pos_at hx
    have hrl := hpr.length_eq
    rw [List.length_cons] at hrl hlen
    refine ⟨_, rfl, ?_⟩
    simp_arith [List.length_map]
    refine ⟨pos row x, a1, a2, by omega, row, pos row x, rfl, a3, by omega, ?_⟩
    simp_arith
    refine hn _ ⟨sa row (pos row x), _, _, _, rfl, ?_, ?_, by rw [List.length_append, List.length_singleton]; omega⟩
    · refine List.Perm.cons_inv (a := x) (hpr.trans ?_)
      have := row_perm a3
      rw [show row.getD (pos row x) Str.empty = x by simp [List.getD, a1]] at this
      exact this.symm
    · rw [List.append_assoc, ← hacc, idxL, rstD, show (sa row (pos row x)).length = row.length - 1 from row_len a3]
      rfl
  · rintro _ ⟨row, acc, q2, q6, rfl, hpr, hacc, hlen⟩
    simp_arith
    rw [idxL, rstD, List.append_nil] at hacc
    rw [hacc]
    exact hK
theorem fits_len : ∀ {m : Nat} {is : List Nat}, Fits m is → is.length = m
  | m, [], h => by rw [Fits] at h; rw [h]; rfl
  | m, i :: is, h => by
    rw [Fits] at h
    have := fits_len h.2
    rw [List.length_cons]
    omega
theorem fits_at : ∀ {m : Nat} {is : List Nat}, Fits m is → ∀ (j i : Nat), is[j]? = some i → i + j < m
  | m, [], h, j, i, e => by simp at e
  | m, i0 :: is, h, 0, i, e => by
    rw [Fits] at h
    have : i0 = i := by simpa using e
    omega
  | m, i0 :: is, h, j + 1, i, e => by
    rw [Fits] at h
    have := fits_at h.2 j i (by simpa using e)
    omega
/-- a comprehension over an enumeration, always the same answer -/
theorem lcGo_enumT {α : Type} {g : α → D} {step : D → (Option D → Prop) → Prop} {v : D} : ∀ (xs : List α) (k : Nat) (acc : List D) (K : List D → Prop), (∀ (j : Nat) (x : α), xs[j]? = some x → ∀ kk : Option D → Prop, kk (some v) → step (.tup [.int ((k + j : Nat) : Int), g x]) kk) → K (acc ++ xs.map fun _ => v) → lcGo step (enumD k (xs.map g)) acc K
  | [], k, acc, K, _, h => by rw [List.map_nil, enumD, lcGo]; simpa using h
  | x :: xs, k, acc, K, hs, h => by
    rw [List.map_cons, enumD, lcGo]
    refine hs 0 x rfl _ ?_
    refine lcGo_enumT xs (k + 1) _ K (fun j y hy kk hk => ?_) (by rw [List.append_assoc]; exact h)
    have := hs (j + 1) y (by simpa using hy) kk hk
    rwa [show k + (j + 1) = k + 1 + j by omega] at this
theorem vc_are_indexes : VC ⟨2, sp_are_indexes⟩ N_are_indexes c_are_indexes := by
  rintro ds K X hl ⟨is, m, rfl, hf, h12, hK⟩
  have hlen := fits_len hf
  unfold c_are_indexes N_are_indexes
  simp_arith [List.length_map, enumD_len]
  rw [hlen, if_neg (by simp)]
  refine ⟨by omega, lcGo_enumT (v := .bl true) _ _ _ _ (fun j i hi kk hk => ?_) ?_⟩
  · have := fits_at hf j i hi
    simp_arith
    refine ⟨_, rfl, ?_⟩
    simp_arith
    rw [decide_eq_true (by omega)]
    exact hk
  · rw [List.nil_append]
    simp_arith
    refine ⟨is.map fun _ => true, by simp, ?_⟩
    rw [show ((is.map fun _ => true).all id) = true by simp]
    exact hK
theorem vc_decode : VC ⟨3, sp_decode⟩ N_decode c_decode := by
  rintro ds K X hl ⟨e, ns, b, is, rfl, hs, hns, hb, hf, hK⟩
  have h12 := hns.2.1
  unfold c_decode N_decode
  simp_arith
  refine ⟨e, ns, b, rfl, hs, hb, by omega, ?_⟩
  simp_arith
  rw [beh_row0 hb, List.map_append, List.map_cons, List.map_nil, cut_last]
  have hl0 := row0_len hb
  refine for_mapG (fun r δ => ∃ (row : List Str) (acc : List Str) (q3 : Sl), δ = [.fz e, .fz (.str b), .fz (.tup (is.map fun i : Nat => D.int i)), q3, .fz (.lst (row.map D.str)), .ow (.lst (acc.map D.str))] ∧ Fits row.length r ∧ acc ++ decL row r = dec ns b is ∧ acc.length + row.length ≤ 13) ⟨_, [b], _, rfl, by rw [hl0]; exact hf, rfl, by rw [hl0, List.length_singleton]; omega⟩ ?_ ?_
  · rintro i r _ nx' ⟨row, acc, q3, rfl, hfr, hacc, hlen⟩ hn
    rw [Fits] at hfr
    refine ⟨_, rfl, ?_⟩
    simp_arith [List.length_map]
    refine ⟨_, getD_at hfr.1, by omega, row, i, rfl, hfr.1, by omega, ?_⟩
    simp_arith
    have hsl : (sa row i).length = row.length - 1 := row_len hfr.1
    refine hn _ ⟨sa row i, acc ++ [row.getD i Str.empty], _, by rw [List.map_append]; rfl, by rw [hsl]; exact hfr.2, by rw [List.append_assoc, ← hacc]; rfl, by rw [hsl, List.length_append, List.length_singleton]; omega⟩
  · rintro _ ⟨row, acc, q3, rfl, hfr, hacc, hlen⟩
    simp_arith
    rw [decL, List.append_nil] at hacc
    rw [hacc]
    exact hK
theorem vc_order_by : VC ⟨3, sp_order_by⟩ N_order_by c_order_by := by
  rintro ds K X hl ⟨e, ns, b, is, rfl, hs, hns, hb, hf, hK⟩
  have h12 := hns.2.1
  unfold c_order_by N_order_by
  simp_arith
  refine ⟨e, ns, rfl, hs, hns, ?_⟩
  simp_arith
  refine ⟨e, ns, b, rfl, hs, hns, hb, ?_⟩
  rcases hs with rfl | rfl
  all_goals
    simp_arith [List.length_map]
    refine ⟨is, ns.length - 1, by rw [show ((ns.length - 1 : Nat) : Int) = (ns.length : Int) - 1 by have := hns.1; omega], hf, by omega, ?_⟩
    simp_arith
    first | refine ⟨_, ns, b, is, rfl, .inl rfl, hns, hb, hf, ?_⟩ | refine ⟨_, ns, b, is, rfl, .inr rfl, hns, hb, hf, ?_⟩
    simp_arith
    exact hK
end R
set_option maxRecDepth 100000
set_option maxHeartbeats 4000000
namespace R
open PySem PySem.Spec PyProof.Rows G
theorem sa_len {row : List Str} {i : Nat} (h : i < row.length) : (sa row i).length = row.length - 1 := row_len h
theorem getD_pos {row : List Str} {x : Str} (h : x ∈ row) : row.getD (pos row x) Str.empty = x := by
  simp [List.getD, (pos_at h).1]
theorem sa_perm {row : List Str} {i : Nat} (h : i < row.length) : (row.getD i Str.empty :: sa row i).Perm row := row_perm h
theorem sa_rest {row fs : List Str} {x : Str} (h : (x :: fs).Perm row) : fs.Perm (sa row (pos row x)) := by
  have hx : x ∈ row := h.mem_iff.mp List.mem_cons_self
  refine List.Perm.cons_inv (a := x) (h.trans ?_)
  have := sa_perm (pos_at hx).2.2
  rw [getD_pos hx] at this
  exact this.symm
theorem idxL_fits : ∀ {fs row : List Str}, fs.Perm row → Fits row.length (idxL row fs)
  | [], row, h => by
    rw [idxL, Fits]
    rw [← h.length_eq]; rfl
  | x :: fs, row, h => by
    have hx : x ∈ row := h.mem_iff.mp List.mem_cons_self
    rw [idxL, Fits]
    refine ⟨(pos_at hx).2.2, ?_⟩
    rw [← sa_len (pos_at hx).2.2]
    exact idxL_fits (sa_rest h)
theorem decL_idxL : ∀ {fs row : List Str}, fs.Perm row → decL row (idxL row fs) = fs
  | [], row, h => rfl
  | x :: fs, row, h => by
    have hx : x ∈ row := h.mem_iff.mp List.mem_cons_self
    rw [idxL, decL, getD_pos hx, decL_idxL (sa_rest h)]
theorem decL_perm : ∀ {is : List Nat} {row : List Str}, Fits row.length is → (decL row is).Perm row
  | [], row, h => by
    rw [Fits] at h
    rw [List.length_eq_zero_iff.mp h]; exact List.Perm.refl _
  | i :: is, row, h => by
    rw [Fits] at h
    rw [decL]
    exact ((decL_perm (by rw [sa_len h.1]; exact h.2)).cons _).trans (sa_perm h.1)
theorem getD_get {row : List Str} {i : Nat} (h : i < row.length) : row.getD i Str.empty = row[i] := by simp [List.getD, h]
theorem sa_nodup {row : List Str} {i : Nat} (nd : row.Nodup) (h : i < row.length) : (sa row i).Nodup := (List.nodup_cons.mp ((sa_perm h).nodup_iff.mpr nd)).2
theorem idxL_decL : ∀ {is : List Nat} {row : List Str}, row.Nodup → Fits row.length is → idxL row (decL row is) = is
  | [], row, _, h => rfl
  | i :: is, row, nd, h => by
    rw [Fits] at h
    rw [decL, idxL, getD_get h.1, pos_get nd h.1, idxL_decL (sa_nodup nd h.1) (by rw [sa_len h.1]; exact h.2)]
theorem decL_len : ∀ {is : List Nat} {row : List Str}, (decL row is).length = is.length
  | [], _ => rfl
  | i :: is, row => by rw [decL, List.length_cons, decL_len, List.length_cons]
/-! pairs of places and numbers -/
def rstP : Nat → List Nat → List (Nat × Nat)
  | _, [] => []
  | m, i :: is => (i, m) :: rstP (m - 1) is
def prN (p : Nat × Nat) : D := .tup [.int p.1, .int p.2]
theorem rstD_P : ∀ {is : List Nat} {m : Nat}, rstD m is = (rstP m is).map prN
  | [], _ => rfl
  | i :: is, m => by rw [rstD, rstP, List.map_cons, rstD_P]; rfl
theorem rstP_fst : ∀ {is : List Nat} {m : Nat}, (rstP m is).map (·.1) = is
  | [], _ => rfl
  | i :: is, m => by rw [rstP, List.map_cons, rstP_fst]
theorem rstP_len {is : List Nat} {m : Nat} : (rstP m is).length = is.length := by
  have := congrArg List.length (rstP_fst (is := is) (m := m))
  rwa [List.length_map] at this
theorem rstP_at : ∀ {is : List Nat} {m j i : Nat}, is[j]? = some i → (rstP m is)[j]? = some (i, m - j)
  | [], m, j, i, h => by simp at h
  | i0 :: is, m, 0, i, h => by
    have : i0 = i := by simpa using h
    rw [rstP, this]; rfl
  | i0 :: is, m, j + 1, i, h => by
    rw [rstP, List.getElem?_cons_succ, rstP_at (i := i) (by simpa using h)]
    congr 2
    omega
/-! a filtered list, parted at one place -/
theorem filter_split {p : Str → Bool} : ∀ {F : List Str} {i : Nat}, i < (F.filter p).length → ∃ P Q x, F = P ++ x :: Q ∧ P.filter p = (F.filter p).take i ∧ Q.filter p = (F.filter p).drop (i + 1) ∧ (F.filter p).getD i Str.empty = x ∧ p x = true
  | [], i, h => by simp at h
  | a :: F, i, h => by
    by_cases ha : p a = true
    · rw [List.filter_cons_of_pos ha] at h ⊢
      cases i with
      | zero => exact ⟨[], F, a, rfl, rfl, rfl, rfl, ha⟩
      | succ i =>
        obtain ⟨P, Q, x, h1, h2, h3, h4, h5⟩ := filter_split (F := F) (i := i) (by simpa using h)
        exact ⟨a :: P, Q, x, by rw [h1]; rfl, by rw [List.filter_cons_of_pos ha, h2]; rfl, by rw [h3]; rfl, by rw [← h4]; rfl, h5⟩
    · rw [List.filter_cons_of_neg ha] at h ⊢
      obtain ⟨P, Q, x, h1, h2, h3, h4, h5⟩ := filter_split (F := F) (i := i) h
      exact ⟨a :: P, Q, x, by rw [h1]; rfl, by rw [List.filter_cons_of_neg ha, h2], h3, h4, h5⟩
/-- who has a one -/
def one (fl : Str → Int) (s : Str) : Bool := decide (fl s = 1)
def Bit (fl : Str → Int) : Prop := ∀ s, fl s = 0 ∨ fl s = 1
theorem bit_set {fl : Str → Int} {n : Str} (h : Bit fl) : Bit (setS fl n 0) := fun s => by
  unfold setS
  by_cases e : s = n
  · rw [if_pos e]; exact .inl rfl
  · rw [if_neg e]; exact h s
theorem count_step {fl : Str → Int} (h : Bit fl) {F : List Str} {j : Nat} (hj : j < F.length) : ((((F.take (j + 1)).filter (one fl)).length : Nat) : Int) = ((F.take j).filter (one fl)).length + fl (F.getD j Str.empty) := by
  rw [List.take_succ_eq_append_getElem hj, List.filter_append, List.length_append, getD_get hj]
  rcases h F[j] with e | e
  · rw [e, List.filter_cons_of_neg (by unfold one; rw [e]; decide)]; simp
  · rw [e, List.filter_cons_of_pos (by unfold one; rw [e]; decide)]; simp
theorem live_next {ns P Q : List Str} {y x : Str} {fl : Str → Int} (nd : ns.Nodup) (hy : y ∈ ns) (h : beh ns y = P ++ x :: Q) : (beh ns x).filter (one (setS fl x 0)) = Q.filter (one fl) ++ P.filter (one fl) := by
  have nd' := beh_nodup nd hy
  rw [h, List.nodup_append] at nd'
  have hxP : ∀ z ∈ P, z ≠ x := fun z hz e => nd'.2.2 z hz x (by simp) e
  have hxQ : ∀ z ∈ Q, z ≠ x := fun z hz e => (List.nodup_cons.mp nd'.2.1).1 (by rw [← e]; exact hz)
  rw [beh_turn nd hy h, List.filter_append, List.filter_append]
  have e1 : ∀ L : List Str, (∀ z ∈ L, z ≠ x) → L.filter (one (setS fl x 0)) = L.filter (one fl) := fun L hL => by
    refine List.filter_congr fun z hz => ?_
    unfold one setS
    rw [if_neg (hL z hz)]
  have e2 : [x].filter (one (setS fl x 0)) = [] := by
    rw [List.filter_cons_of_neg (by unfold one setS; rw [if_pos rfl]; decide)]; rfl
  rw [e1 _ hxP, e1 _ hxQ, e2, List.append_nil]
theorem live_first {ns : List Str} {b : Str} (nd : ns.Nodup) (hb : b ∈ ns) : (beh ns b).filter (one (setS (fun _ => 1) b 0)) = row0 ns b := by
  obtain ⟨A, B, rfl, ha⟩ := split_of hb
  have hB : b ∉ B := by
    rw [List.nodup_append] at nd
    exact (List.nodup_cons.mp nd.2.1).1
  rw [beh_split ha, row0_split ha, List.filter_append]
  have e2 : [b].filter (one (setS (fun _ => 1) b 0)) = [] := by
    rw [List.filter_cons_of_neg (by unfold one setS; rw [if_pos rfl]; decide)]; rfl
  rw [e2, List.append_nil]
  refine List.filter_eq_self.mpr fun z hz => ?_
  unfold one setS
  rw [if_neg, decide_eq_true rfl]
  intro e
  rw [e, List.mem_append] at hz
  rcases hz with hz | hz
  · exact hB hz
  · exact ha hz
theorem pos_filter {p : Str → Bool} {P Q : List Str} {x : Str} (hx : x ∉ P) (hp : p x = true) : pos ((P ++ x :: Q).filter p) x = (P.filter p).length := by
  rw [List.filter_append, List.filter_cons_of_pos hp, pos_split fun q => hx (List.mem_filter.mp q).1]
theorem pos_beh {ns P Q : List Str} {y x : Str} (nd : ns.Nodup) (hy : y ∈ ns) (h : beh ns y = P ++ x :: Q) : pos ns x = (pos ns y + 1 + P.length) % ns.length := by
  have hl : P.length < ns.length := by
    have := congrArg List.length h
    rw [beh_len, List.length_append, List.length_cons] at this
    omega
  have h1 := beh_get hy hl
  have h2 : (beh ns y).getD P.length Str.empty = x := by rw [h, List.getD_eq_getElem?_getD]; simp
  have hm : (pos ns y + 1 + P.length) % ns.length < ns.length := Nat.mod_lt _ (by omega)
  rw [h2, getD_get hm] at h1
  rw [h1, pos_get nd hm]
/-! two lists of places that part -/
theorem decL_app : ∀ {A B : List Nat} {row : List Str}, ∃ row', (row.Nodup → Fits row.length (A ++ B) → row'.Nodup ∧ Fits row'.length B) ∧ (∀ C, decL row (A ++ C) = (decL row (A ++ C)).take A.length ++ decL row' C) ∧ ∀ C C', (decL row (A ++ C)).take A.length = (decL row (A ++ C')).take A.length
  | [], B, row => ⟨row, fun h1 h2 => ⟨h1, h2⟩, fun C => rfl, fun _ _ => rfl⟩
  | a :: A, B, row => by
    obtain ⟨row', h1, h2, h3⟩ := decL_app (A := A) (B := B) (row := sa row a)
    refine ⟨row', fun nd hf => ?_, fun C => ?_, fun C C' => ?_⟩
    · rw [List.cons_append, Fits] at hf
      exact h1 (sa_nodup nd hf.1) (by rw [sa_len hf.1]; exact hf.2)
    · rw [List.cons_append, decL, List.length_cons, List.take_succ_cons, List.cons_append, ← h2 C]
    · rw [List.cons_append, decL, List.cons_append, decL, List.length_cons, List.take_succ_cons, List.take_succ_cons, h3 C C']
theorem fits_set : ∀ {A B : List Nat} {m i j : Nat}, Fits m (A ++ i :: B) → j + A.length < m → Fits m (A ++ j :: B)
  | [], B, m, i, j, h, hj => by
    rw [List.nil_append, Fits] at h ⊢
    exact ⟨by simpa using hj, h.2⟩
  | a :: A, B, m, i, j, h, hj => by
    rw [List.cons_append, Fits] at h ⊢
    rw [List.length_cons] at hj
    exact ⟨h.1, fits_set h.2 (by omega)⟩
theorem dec_parts {row : List Str} {A B : List Nat} {i j : Nat} (nd : row.Nodup) (hf : Fits row.length (A ++ i :: B)) (hf' : Fits row.length (A ++ j :: B)) (hne : i ≠ j) :
    (decL row (A ++ i :: B)).take A.length = (decL row (A ++ j :: B)).take A.length ∧ (decL row (A ++ i :: B)).getD A.length Str.empty ≠ (decL row (A ++ j :: B)).getD A.length Str.empty := by
  obtain ⟨row', h1, h2, h3⟩ := decL_app (A := A) (B := i :: B) (row := row)
  obtain ⟨nd', q⟩ := h1 nd hf
  obtain ⟨row2, g1, g2, g3⟩ := decL_app (A := A) (B := j :: B) (row := row)
  refine ⟨h3 _ _, ?_⟩
  have hl1 : ((decL row (A ++ i :: B)).take A.length).length = A.length := by rw [List.length_take, decL_len]; simp
  have hl2 : ((decL row (A ++ j :: B)).take A.length).length = A.length := by rw [List.length_take, decL_len]; simp
  have e1 : (decL row (A ++ i :: B)).getD A.length Str.empty = row'.getD i Str.empty := by
    rw [h2 (i :: B), List.getD_eq_getElem?_getD, List.getElem?_append_right (by omega), hl1, Nat.sub_self]
    rfl
  have e2 : (decL row (A ++ j :: B)).getD A.length Str.empty = row'.getD j Str.empty := by
    rw [h2 (j :: B), List.getD_eq_getElem?_getD, List.getElem?_append_right (by omega), hl2, Nat.sub_self]
    rfl
  have hi : i < row'.length := by rw [Fits] at q; exact q.1
  have hj : j < row'.length := by
    have k1 := fits_at hf' A.length j (by simp)
    have k2 := congrArg List.length (h2 (i :: B))
    have k3 := decL_len (is := i :: B) (row := row')
    have k4 := fits_len q
    have k5 := fits_len hf
    rw [List.length_append, List.length_cons] at k5
    rw [List.length_cons] at k4
    omega
  rw [e1, e2, getD_get hi, getD_get hj]
  exact fun e => hne (nd_inj nd' hi hj e)
end R
set_option maxRecDepth 100000
set_option maxHeartbeats 4000000
/-! ### rests -/
open PySem G
namespace R
open PySem G
def Rest (r m : Int) : Prop := 0 ≤ r ∧ r < m ∧ m < 10 ^ 200
def rsD (r m : Int) : D := .tup [.int r, .int m]
def InvOk (a m x : Int) : Prop := 0 ≤ x ∧ x < m ∧ (a * x) % m = 1 % m
def Lc (m n : Int) : Int := m / (Int.gcd m n : Int) * n
def BothOk (r1 m1 r2 m2 : Int) (d : D) : Prop := (d = .non ∧ (r2 - r1) % (Int.gcd m1 m2 : Int) ≠ 0) ∨ ∃ x, d = .tup [.int x, .int (Lc m1 m2)] ∧ (r2 - r1) % (Int.gcd m1 m2 : Int) = 0 ∧ 0 ≤ x ∧ x < Lc m1 m2 ∧ x % m1 = r1 ∧ x % m2 = r2
abbrev sp_is_rest : Spc := fun ds K _ => ∃ r m, ds = [.tup [.int r, .int m]] ∧ Rest r m ∧ K false (.bl true)
abbrev sp_require_rest : Spc := fun ds K _ => ∃ r m, ds = [.tup [.int r, .int m]] ∧ Rest r m ∧ K false .non
abbrev sp_require_number : Spc := fun ds K _ => ∃ z, ds = [.int z] ∧ K false .non
abbrev sp_greatest_divisor : Spc := fun ds K _ => ∃ a b, ds = [.int a, .int b] ∧ 0 ≤ a ∧ 0 ≤ b ∧ K false (.int (Int.gcd a b))
abbrev sp_inverse_modulo : Spc := fun ds K _ => ∃ a m, ds = [.int a, .int m] ∧ 0 ≤ a ∧ 1 ≤ m ∧ m < 10 ^ 200 ∧ Int.gcd a m = 1 ∧ ∀ x, InvOk a m x → K false (.int x)
abbrev sp_has : Spc := fun ds K _ => ∃ r m n, ds = [.tup [.int r, .int m], .int n] ∧ Rest r m ∧ K false (.bl (decide (n % m = r)))
abbrev sp_both : Spc := fun ds K _ => ∃ r m r' m', ds = [.tup [.int r, .int m], .tup [.int r', .int m']] ∧ Rest r m ∧ Rest r' m' ∧ ∀ d, BothOk r m r' m' d → K false d
def byL (r m k : Int) : List Int := rgL (r % (Int.gcd m k : Int)) (Int.gcd m k : Int) (rgN (r % (Int.gcd m k : Int)) k (Int.gcd m k : Int))
abbrev sp_by : Spc := fun ds K _ => ∃ r m k, ds = [.tup [.int r, .int m], .int k] ∧ Rest r m ∧ 1 ≤ k ∧ k ≤ 1000 ∧ K true (.lst ((byL r m k).map D.int))
abbrev sp_least : Spc := fun ds K _ => ∃ r m, ds = [.tup [.int r, .int m]] ∧ Rest r m ∧ K false (.int r)
def g_MOST_BY : D := .int 1000
def N_is_rest : List Str := ["thing", "remainder", "modulus", "part"]
def c_is_rest : S := .cons (.ifs (.or (.not (.isin "tuple" (.var 0))) (.or (.cmp .NotEq (.bn .len (.cons (.var 0) (.nil))) (.k (.int 2))) (.one (.not (.bn .all (.cons (.lc [("part", 3)] (.one 3) (.iseq (.var 0)) (.no) (.call "is_number" ⟨1, sp_is_number⟩ (.cons (.var 3) (.nil)))) (.nil))))))) (.cons (.ret (.k (.bl false))) (.nil)) (.nil)) (.cons (.unp [1, 2] (.var 0)) (.cons (.ret (.chain .LtE .Lt (.k (.int 0)) (.var 1) (.var 2))) (.nil)))
def N_require_rest : List Str := ["thing"]
def c_require_rest : S := .cons (.ifs (.not (.call "is_rest" ⟨1, sp_is_rest⟩ (.cons (.var 0) (.nil)))) (.cons (.never) (.nil)) (.nil)) (.nil)
def N_require_number : List Str := ["thing"]
def c_require_number : S := .cons (.ifs (.not (.call "is_number" ⟨1, sp_is_number⟩ (.cons (.var 0) (.nil)))) (.cons (.never) (.nil)) (.nil)) (.nil)
def N_greatest_divisor : List Str := ["one", "other"]
def c_greatest_divisor : S := .cons (.whl (.cmp .NotEq (.var 1) (.k (.int 0))) (.cons (.par2 0 false 1 false (.cons (.var 1) (.cons (.bin .Mod (.var 0) (.var 1)) (.nil)))) (.nil))) (.cons (.ret (.var 0)) (.nil))
def N_inverse_modulo : List Str := ["number", "modulus", "old_r", "r", "old_s", "s", "quotient"]
def c_inverse_modulo : S := .cons (.parT [(2, false), (3, false), (4, false), (5, false)] (.cons (.bin .Mod (.var 0) (.var 1)) (.cons (.var 1) (.cons (.k (.int 1)) (.cons (.k (.int 0)) (.nil)))))) (.cons (.whl (.cmp .NotEq (.var 3) (.k (.int 0))) (.cons (.asg 6 false (.bin .FloorDiv (.var 2) (.var 3))) (.cons (.par2 2 false 3 false (.cons (.var 3) (.cons (.bin .Sub (.var 2) (.bin .Mult (.var 6) (.var 3))) (.nil)))) (.cons (.par2 4 false 5 false (.cons (.var 5) (.cons (.bin .Sub (.var 4) (.bin .Mult (.var 6) (.var 5))) (.nil)))) (.nil))))) (.cons (.ret (.bin .Mod (.var 4) (.var 1))) (.nil)))
def N_has : List Str := ["rest", "number", "remainder", "modulus"]
def c_has : S := .cons (.expr (.call "require_rest" ⟨1, sp_require_rest⟩ (.cons (.var 0) (.nil)))) (.cons (.expr (.call "require_number" ⟨1, sp_require_number⟩ (.cons (.var 1) (.nil)))) (.cons (.unp [2, 3] (.var 0)) (.cons (.ret (.cmp .Eq (.bin .Mod (.var 1) (.var 3)) (.var 2))) (.nil))))
def N_both : List Str := ["one", "other", "divisor", "factor", "steps", "multiple", "remainder", "modulus", "other_remainder", "other_modulus"]
def c_both : S := .cons (.expr (.call "require_rest" ⟨1, sp_require_rest⟩ (.cons (.var 0) (.nil)))) (.cons (.expr (.call "require_rest" ⟨1, sp_require_rest⟩ (.cons (.var 1) (.nil)))) (.cons (.unp [6, 7] (.var 0)) (.cons (.unp [8, 9] (.var 1)) (.cons (.asg 2 false (.call "greatest_divisor" ⟨2, sp_greatest_divisor⟩ (.cons (.var 7) (.cons (.var 9) (.nil))))) (.cons (.ifs (.cmp .NotEq (.bin .Mod (.bin .Sub (.var 8) (.var 6)) (.var 2)) (.k (.int 0))) (.cons (.ret (.k .non)) (.nil)) (.nil)) (.cons (.asg 3 false (.bin .FloorDiv (.bin .Sub (.var 8) (.var 6)) (.var 2))) (.cons (.asg 4 false (.bin .Mult (.var 3) (.call "inverse_modulo" ⟨2, sp_inverse_modulo⟩ (.cons (.bin .FloorDiv (.var 7) (.var 2)) (.cons (.bin .FloorDiv (.var 9) (.var 2)) (.nil)))))) (.cons (.asg 5 false (.bin .Mult (.bin .FloorDiv (.var 7) (.var 2)) (.var 9))) (.cons (.ret (.tup (.cons (.bin .Mod (.bin .Add (.var 6) (.bin .Mult (.var 7) (.var 4))) (.var 5)) (.cons (.var 5) (.nil))))) (.nil))))))))))
def N_by : List Str := ["rest", "m", "divisor", "remainder", "modulus"]
def c_by : S := .cons (.expr (.call "require_rest" ⟨1, sp_require_rest⟩ (.cons (.var 0) (.nil)))) (.cons (.ifs (.or (.not (.call "is_number" ⟨1, sp_is_number⟩ (.cons (.var 1) (.nil)))) (.one (.not (.chain .LtE .LtE (.k (.int 1)) (.var 1) (.glob "MOST_BY" g_MOST_BY))))) (.cons (.never) (.nil)) (.nil)) (.cons (.unp [3, 4] (.var 0)) (.cons (.asg 2 false (.call "greatest_divisor" ⟨2, sp_greatest_divisor⟩ (.cons (.var 4) (.cons (.var 1) (.nil))))) (.cons (.ret (.lrange (.cons (.bin .Mod (.var 3) (.var 2)) (.cons (.var 1) (.cons (.var 2) (.nil)))))) (.nil)))))
def N_least : List Str := ["rest"]
def c_least : S := .cons (.expr (.call "require_rest" ⟨1, sp_require_rest⟩ (.cons (.var 0) (.nil)))) (.cons (.ret (.ix (.var 0) (.k (.int 0)))) (.nil))
theorem gcd_emod (x y : Int) : Int.gcd (x % y) y = Int.gcd x y := by rw [Int.emod_def, Int.gcd_sub_mul_left_left]
theorem vc_is_rest : VC ⟨1, sp_is_rest⟩ N_is_rest c_is_rest := by
  rintro ds K X hl ⟨r, m, rfl, h, hK⟩
  unfold c_is_rest N_is_rest
  simp_arith
  refine ⟨r, rfl, ?_⟩
  simp_arith
  refine ⟨m, rfl, ?_⟩
  simp_arith
  refine ⟨[true, true], rfl, ?_⟩
  have h1 := h.1
  have h2 := h.2.1
  simp [h1, h2]
  exact hK
theorem vc_require_rest : VC ⟨1, sp_require_rest⟩ N_require_rest c_require_rest := by
  rintro ds K X hl ⟨r, m, rfl, h, hK⟩
  unfold c_require_rest N_require_rest
  simp_arith
  refine ⟨r, m, rfl, h, ?_⟩
  simp_arith
  exact hK
theorem vc_require_number : VC ⟨1, sp_require_number⟩ N_require_number c_require_number := by
  rintro ds K X hl ⟨z, rfl, hK⟩
  unfold c_require_number N_require_number
  simp_arith
  refine ⟨z, rfl, ?_⟩
  simp_arith
  exact hK
theorem vc_greatest_divisor : VC ⟨2, sp_greatest_divisor⟩ N_greatest_divisor c_greatest_divisor := by
  rintro ds K X hl ⟨a, b, rfl, h1, h2, hK⟩
  unfold c_greatest_divisor N_greatest_divisor
  simp_arith
  refine wh_rule (fun m δ => ∃ x y : Int, δ = [.fz (.int x), .fz (.int y)] ∧ 0 ≤ x ∧ 0 ≤ y ∧ y.toNat = m ∧ Int.gcd x y = Int.gcd a b) _ ⟨a, b, rfl, h1, h2, rfl, rfl⟩ ?_
  rintro m _ ⟨x, y, rfl, hx, hy, rfl, hg⟩ nx' hn
  simp_arith
  by_cases hy0 : y = 0
  · subst hy0
    rw [Int.gcd_zero_right] at hg
    simp only [ne_eq, not_true_eq_false, if_false]
    rw [← hg] at hK
    rw [show ((x.natAbs : Nat) : Int) = x by omega] at hK
    exact hK
  · rw [if_pos hy0]
    have hlt := Int.emod_lt_of_pos x (show 0 < y by omega)
    have hge := Int.emod_nonneg x hy0
    refine ⟨by omega, hn _ _ ?_ ⟨y, x % y, rfl, hy, hge, rfl, ?_⟩⟩
    · omega
    · rw [← hg, Int.gcd_comm, gcd_emod]

theorem big_lt {z : Int} (h0 : -(10 ^ 200) ≤ z) (h1 : z ≤ 10 ^ 200) : z.natAbs < 2 ^ 100000 := by
  have : z.natAbs ≤ 10 ^ 200 := by omega
  exact Nat.lt_of_le_of_lt this (Nat.lt_of_lt_of_le (show 10 ^ 200 < 2 ^ 700 by decide) (Nat.pow_le_pow_right (by decide) (by decide)))
theorem vc_inverse_modulo : VC ⟨2, sp_inverse_modulo⟩ N_inverse_modulo c_inverse_modulo := by
  rintro ds K X hl ⟨a, m, rfl, ha, hm, hm2, hg, hK⟩
  unfold c_inverse_modulo N_inverse_modulo
  simp_arith
  refine ⟨by omega, ?_⟩
  -- old_r = a * old_s mod m, r = a * s mod m; old_s = e * u, s = - e * v; u * r + v * old_r = m
  refine wh_rule (fun k δ => ∃ (x y u v e : Int) (q : Sl), δ = [.fz (.int a), .fz (.int m), .fz (.int x), .fz (.int y), .fz (.int (e * u)), .fz (.int (-(e * v))), q] ∧ 0 ≤ x ∧ 0 ≤ y ∧ y ≤ m ∧ x ≤ m ∧ (0 < x ∨ 0 < y) ∧ y.toNat = k ∧ 0 ≤ u ∧ 0 ≤ v ∧ v ≤ m ∧ (e = 1 ∨ e = -1) ∧ u * y + v * x = m ∧ Int.gcd x y = 1 ∧ (∃ t, x = a * (e * u) + m * t) ∧ (∃ t, y = a * (-(e * v)) + m * t)) m.toNat ?_ ?_
  · refine ⟨a % m, m, 1, 0, 1, .un, rfl, Int.emod_nonneg a (by omega), by omega, by omega, Int.le_of_lt (Int.emod_lt_of_pos a (by omega)), .inr (by omega), rfl, by decide, by decide, by omega, .inl rfl, by omega, ?_, ⟨-(a / m), ?_⟩, ⟨1, by omega⟩⟩
    · rw [gcd_emod]; exact hg
    · have := Int.emod_add_mul_ediv a m
      rw [Int.mul_neg]; omega
  rintro k _ ⟨x, y, u, v, e, q, rfl, hx, hy, hym, hxm, hxy, rfl, hu, hv, hvb, he, huv, hgx, ⟨t1, ht1⟩, ⟨t2, ht2⟩⟩ nx' hn
  simp_arith
  by_cases hy0 : y = 0
  · subst hy0
    rw [if_neg (by simp)]
    refine ⟨by omega, hK _ ⟨Int.emod_nonneg _ (by omega), Int.emod_lt_of_pos _ (by omega), ?_⟩⟩
    have hx1 : x = 1 := by
      rw [Int.gcd_zero_right] at hgx
      omega
    have h1 : a * (e * u) = 1 + m * (-t1) := by rw [Int.mul_neg]; omega
    rw [Int.mul_emod, Int.emod_emod_of_dvd _ (Int.dvd_refl m), ← Int.mul_emod, h1, Int.add_mul_emod_self_left]
  · rw [if_pos hy0]
    have hq0 : 0 ≤ x / y := Int.ediv_nonneg hx hy
    have hqx : x / y ≤ x := Int.ediv_le_self y hx
    have hmod : x - x / y * y = x % y := by
      have := Int.emod_add_ediv_mul x y
      omega
    have hlt := Int.emod_lt_of_pos x (show 0 < y by omega)
    have hge := Int.emod_nonneg x hy0
    have huv' : v * x ≤ m := by
      have : 0 ≤ u * y := Int.mul_nonneg hu hy
      omega
    have hub : u ≤ m := by
      have h1 : u * 1 ≤ u * y := Int.mul_le_mul_of_nonneg_left (by omega) hu
      have : 0 ≤ v * x := Int.mul_nonneg hv hx
      omega
    have hvb' : u + x / y * v ≤ m := by
      have h1 : (u + x / y * v) * 1 ≤ (u + x / y * v) * y := Int.mul_le_mul_of_nonneg_left (by omega) (Int.add_nonneg hu (Int.mul_nonneg hq0 hv))
      have h2 : 0 ≤ v * (x - x / y * y) := Int.mul_nonneg hv (by omega)
      have h3 : v * (x - x / y * y) + (u + x / y * v) * y = m := by grind
      omega
    have hev : -(10 ^ 200) ≤ -(e * v) ∧ -(e * v) ≤ 10 ^ 200 := by rcases he with rfl | rfl <;> omega
    refine ⟨DivOk.of (by omega) ?_, MulOk.of (big_lt (by omega) (by omega)) (big_lt (by omega) (by omega)), MulOk.of (big_lt (by omega) (by omega)) (big_lt hev.1 hev.2), hn (x % y).toNat _ (by omega) ⟨y, x - x / y * y, v, u + x / y * v, -e, .fz (.int (x / y)), ?_, hy, by omega, by omega, hym, .inl (by omega), by rw [hmod], hv, Int.add_nonneg hu (Int.mul_nonneg hq0 hv), hvb', by omega, ?_, ?_, ⟨t2, ?_⟩, ⟨t1 - x / y * t2, ?_⟩⟩⟩
    · exact Nat.lt_of_le_of_lt (show y.natAbs ≤ 10 ^ 200 by omega) (Nat.lt_of_lt_of_le (show 10 ^ 200 < 2 ^ 700 by decide) (Nat.pow_le_pow_right (by decide) (by decide)))
    · have e1 : -(e * v) = -e * v := by rw [Int.neg_mul]
      have e2 : e * u - x / y * (-(e * v)) = -(-e * (u + x / y * v)) := by grind
      rw [e2, e1]
    · grind
    · rw [hmod, Int.gcd_comm, gcd_emod]; exact hgx
    · grind
    · grind
theorem big_le' {z : Int} (h0 : -(10 ^ 1000) ≤ z) (h1 : z ≤ 10 ^ 1000) : z.natAbs < 2 ^ 100000 := by
  have : z.natAbs ≤ 10 ^ 1000 := by omega
  exact Nat.lt_of_le_of_lt this (Nat.lt_of_lt_of_le (show 10 ^ 1000 < 2 ^ 3400 by decide) (Nat.pow_le_pow_right (by decide) (by decide)))
theorem crt {r1 m1 r2 m2 i : Int} (h1 : 0 ≤ r1) (h2 : r1 < m1) (h3 : 0 ≤ r2) (h4 : r2 < m2) (hd : (r2 - r1) % (Int.gcd m1 m2 : Int) = 0)
    (hi : (m1 / (Int.gcd m1 m2 : Int) * i) % (m2 / (Int.gcd m1 m2 : Int)) = 1 % (m2 / (Int.gcd m1 m2 : Int))) :
    0 < Lc m1 m2 ∧ ((r1 + m1 * ((r2 - r1) / (Int.gcd m1 m2 : Int) * i)) % Lc m1 m2) % m1 = r1 ∧ ((r1 + m1 * ((r2 - r1) / (Int.gcd m1 m2 : Int) * i)) % Lc m1 m2) % m2 = r2 := by
  unfold Lc
  generalize hg : (Int.gcd m1 m2 : Int) = g at *
  have gp : 0 < g := by
    rw [← hg]
    exact Int.natCast_pos.mpr (Int.gcd_pos_of_ne_zero_left m2 (by omega))
  obtain ⟨a, ha⟩ : g ∣ m1 := by rw [← hg]; exact Int.gcd_dvd_left m1 m2
  obtain ⟨b, hb⟩ : g ∣ m2 := by rw [← hg]; exact Int.gcd_dvd_right m1 m2
  obtain ⟨f, hf⟩ : g ∣ r2 - r1 := Int.dvd_of_emod_eq_zero hd
  have q1 : m1 / g = a := by rw [ha]; exact Int.mul_ediv_cancel_left a (by omega)
  have q2 : m2 / g = b := by rw [hb]; exact Int.mul_ediv_cancel_left b (by omega)
  have q3 : (r2 - r1) / g = f := by rw [hf]; exact Int.mul_ediv_cancel_left f (by omega)
  rw [q1, q2] at hi
  rw [q1, q3]
  have ap : 0 < a := by
    by_cases h : 0 < a
    · exact h
    · have := Int.mul_le_mul_of_nonneg_left (show a ≤ 0 by omega) (Int.le_of_lt gp)
      rw [Int.mul_zero] at this
      omega
  obtain ⟨t, ht⟩ : b ∣ a * i - 1 := Int.dvd_of_emod_eq_zero (Int.emod_eq_emod_iff_emod_sub_eq_zero.mp hi)
  refine ⟨Int.mul_pos ap (by omega), ?_, ?_⟩
  · rw [Int.emod_emod_of_dvd _ (show m1 ∣ a * m2 from ⟨b, by grind⟩), Int.add_mul_emod_self_left]
    exact Int.emod_eq_of_lt h1 h2
  · rw [Int.emod_emod_of_dvd _ (show m2 ∣ a * m2 from ⟨a, by grind⟩)]
    have : r1 + m1 * (f * i) = r2 + m2 * (f * t) := by grind
    rw [this, Int.add_mul_emod_self_left]
    exact Int.emod_eq_of_lt h3 h4
theorem vc_has : VC ⟨2, sp_has⟩ N_has c_has := by
  rintro ds K X hl ⟨r, m, n, rfl, h, hK⟩
  unfold c_has N_has
  simp_arith
  refine ⟨r, m, rfl, h, ?_⟩
  simp_arith
  refine ⟨n, rfl, ?_⟩
  simp_arith
  have := h.1
  have := h.2.1
  exact ⟨by omega, hK⟩
theorem vc_least : VC ⟨1, sp_least⟩ N_least c_least := by
  rintro ds K X hl ⟨r, m, rfl, h, hK⟩
  unfold c_least N_least
  simp_arith
  refine ⟨r, m, rfl, h, ?_⟩
  simp_arith
  exact hK
theorem vc_both : VC ⟨2, sp_both⟩ N_both c_both := by
  rintro ds K X hl ⟨r, m, r2, m2, rfl, ⟨a1, a2, a3⟩, ⟨b1, b2, b3⟩, hK⟩
  unfold c_both N_both
  simp_arith
  refine ⟨r, m, rfl, ⟨a1, a2, a3⟩, ?_⟩
  simp_arith
  refine ⟨r2, m2, rfl, ⟨b1, b2, b3⟩, ?_⟩
  simp_arith
  refine ⟨m, m2, rfl, by omega, by omega, ?_⟩
  simp_arith
  have gp : 0 < (Int.gcd m m2 : Int) := Int.natCast_pos.mpr (Int.gcd_pos_of_ne_zero_left m2 (by omega))
  have gl : (Int.gcd m m2 : Int) ≤ m := Int.gcd_le_left m2 (by omega)
  have gl2 : (Int.gcd m m2 : Int) ≤ m2 := Int.gcd_le_right m (by omega)
  refine ⟨gp, ?_⟩
  by_cases hd : (r2 - r) % (Int.gcd m m2 : Int) = 0
  · rw [if_neg (by simpa using hd)]
    have dk : ∀ z : Int, DivOk z (Int.gcd m m2 : Int) := fun z => DivOk.of gp (Nat.lt_of_le_of_lt (show _ ≤ 10 ^ 200 by omega) (Nat.lt_of_lt_of_le (show 10 ^ 200 < 2 ^ 700 by decide) (Nat.pow_le_pow_right (by decide) (by decide))))
    have d1 : m / (Int.gcd m m2 : Int) ≤ m := Int.ediv_le_self _ (by omega)
    have d2 : 0 ≤ m / (Int.gcd m m2 : Int) := Int.ediv_nonneg (by omega) (by omega)
    have d3 : m2 / (Int.gcd m m2 : Int) ≤ m2 := Int.ediv_le_self _ (by omega)
    have d4 : 1 ≤ m2 / (Int.gcd m m2 : Int) := Int.le_ediv_of_mul_le gp (by omega)
    have d5 : (r2 - r) / (Int.gcd m m2 : Int) ≤ 10 ^ 200 ∧ -(10 ^ 200) ≤ (r2 - r) / (Int.gcd m m2 : Int) := by
      have := Int.natAbs_ediv_le_natAbs (r2 - r) (Int.gcd m m2 : Int)
      omega
    refine ⟨dk _, dk _, dk _, _, _, rfl, d2, d4, by omega, Int.gcd_ediv_gcd_ediv_gcd (by omega), fun x hx => ?_⟩
    simp_arith
    obtain ⟨x1, x2, x3⟩ := hx
    obtain ⟨c1, c2, c3⟩ := crt a1 a2 b1 b2 hd x3
    have mb : ∀ z : Int, z.natAbs ≤ 10 ^ 400 → z.natAbs < 2 ^ 100000 := fun z h => Nat.lt_of_le_of_lt h (Nat.lt_of_lt_of_le (show 10 ^ 400 < 2 ^ 1400 by decide) (Nat.pow_le_pow_right (by decide) (by decide)))
    have hfx : ((r2 - r) / (Int.gcd m m2 : Int) * x).natAbs ≤ 10 ^ 400 := by
      rw [Int.natAbs_mul]
      exact Nat.le_trans (Nat.mul_le_mul (show _ ≤ 10 ^ 200 by omega) (show _ ≤ 10 ^ 200 by omega)) (by decide)
    refine ⟨MulOk.of (big_lt d5.2 d5.1) (big_lt (by omega) (by omega)), dk _, MulOk.of (big_lt (by omega) (by omega)) (big_lt (by omega) (by omega)), MulOk.of (big_lt (by omega) (by omega)) (mb _ hfx), c1, hK _ (.inr ⟨_, rfl, hd, Int.emod_nonneg _ (Int.ne_of_gt c1), Int.emod_lt_of_pos _ c1, c2, c3⟩)⟩
  · rw [if_pos hd]
    exact hK _ (.inl ⟨rfl, hd⟩)
theorem vc_by : VC ⟨2, sp_by⟩ N_by c_by := by
  rintro ds K X hl ⟨r, m, k, rfl, ⟨a1, a2, a3⟩, b1, b2, hK⟩
  unfold c_by N_by
  simp_arith
  refine ⟨r, m, rfl, ⟨a1, a2, a3⟩, ?_⟩
  simp_arith
  refine ⟨k, rfl, ?_⟩
  simp_arith [g_MOST_BY]
  have gp : 0 < (Int.gcd m k : Int) := Int.natCast_pos.mpr (Int.gcd_pos_of_ne_zero_left k (by omega))
  have gl : (Int.gcd m k : Int) ≤ k := Int.gcd_le_right m (by omega)
  have e1 := Int.emod_nonneg r (show (Int.gcd m k : Int) ≠ 0 by omega)
  have e2 := Int.emod_lt_of_pos r gp
  refine ⟨b1, b2, m, k, rfl, by omega, by omega, ?_⟩
  simp_arith
  refine ⟨gp, ⟨gp, by omega, by omega, by omega, by omega, by omega⟩, ?_, hK⟩
  have := (rg_size (i := r % (Int.gcd m k : Int)) (j := k) gp)
  unfold rgN
  have hb : big = 1000000 := rfl
  by_cases hh : r % (Int.gcd m k : Int) < k
  · have := this.2.1 hh
    omega
  · have := this.2.2 hh
    omega
end R
set_option maxRecDepth 100000
set_option maxHeartbeats 4000000
/-! ### what slips say -/
open PySem G
namespace R
open PySem G
/-- the number by which the goer at place j of n counts -/
def sayN (n j : Nat) : Int := if j < n - 1 then (n - j - 1 : Nat) else n
def saidP (n : Nat) : Nat → List Str → List (Str × Int)
  | _, [] => []
  | j, x :: xs => (x, sayN n j) :: saidP n (j + 1) xs
def prS (p : Str × Int) : D := .tup [.str p.1, .int p.2]
def lcS (F : Str → Int) (p : Str × Int) : Str → Int := setS F p.1 (Lc (F p.1) p.2)
def lcR (ns : List Str) (f : Str → Int) (F : Str → Int) (b : Str) : Str → Int := (saidP ns.length 0 (ordr ns f b)).foldl lcS F
def needF (ns : List Str) (f : Str → Int) (bs : List Str) : Str → Int := bs.foldl (lcR ns f) fun _ => 1
abbrev sp_said_by : Spc := fun ds K _ => ∃ ns f b, ds = [ringD ns f, .str b] ∧ NamesOk ns ∧ b ∈ ns ∧ K true (.lst ((saidP ns.length 0 (ordr ns f b)).map prS))
abbrev sp_put_together : Spc := fun ds K _ => ∃ a b, ds = [.int a, .int b] ∧ 0 < a ∧ 0 < b ∧ a < 10 ^ 100 ∧ b < 10 ^ 100 ∧ K false (.int (Lc a b))
abbrev sp_needs_of : Spc := fun ds K _ => ∃ ns f, ∃ bs : List Str, ds = [ringD ns f, .lst (bs.map D.str)] ∧ NamesOk ns ∧ (∀ b ∈ bs, b ∈ ns) ∧ bs.length ≤ 1000 ∧ K true (.dic (dicF ns (needF ns f bs)))
abbrev sp_needs : Spc := fun ds K _ => ∃ ns f, ds = [ringD ns f] ∧ NamesOk ns ∧ K true (.dic (dicF ns (needF ns f ns)))
def N_said_by : List Str := ["ring", "begin", "order", "many", "at", "name"]
def c_said_by : S := .cons (.asg 2 false (.meth "Ring" "order" ⟨2, sp_Ring_order⟩ (.var 0) (.cons (.var 1) (.nil)))) (.cons (.asg 3 false (.bn .len (.cons (.var 2) (.nil)))) (.cons (.ret (.lc [("at", 4), ("name", 5)] (.many [4, 5]) (.ienum (.var 2)) (.no) (.tup (.cons (.var 5) (.cons (.ife (.cmp .Lt (.var 4) (.bin .Sub (.var 3) (.k (.int 1)))) (.bin .Sub (.bin .Sub (.var 3) (.var 4)) (.k (.int 1))) (.var 3)) (.nil)))))) (.nil)))
def N_put_together : List Str := ["one", "other"]
def c_put_together : S := .cons (.ret (.ix (.call "both" ⟨2, sp_both⟩ (.cons (.tup (.cons (.k (.int 0)) (.cons (.var 0) (.nil)))) (.cons (.tup (.cons (.k (.int 0)) (.cons (.var 1) (.nil)))) (.nil)))) (.k (.int 1)))) (.nil)
def N_needs_of : List Str := ["ring", "begins", "found", "begin", "name", "number"]
def c_needs_of : S := .cons (.asgDc 2 true [("name", 4)] (.one 4) (.iseq (.meth "Ring" "names" ⟨1, sp_Ring_names⟩ (.var 0) (.nil))) (.no) (.var 4) (.k (.int 1))) (.cons (.for_ (.one 3) (.iseq (.var 1)) (.cons (.for_ (.many [4, 5]) (.iseq (.call "said_by" ⟨2, sp_said_by⟩ (.cons (.var 0) (.cons (.var 3) (.nil))))) (.cons (.setI 2 (.var 4) (.call "put_together" ⟨2, sp_put_together⟩ (.cons (.ix (.var 2) (.var 4)) (.cons (.var 5) (.nil))))) (.nil))) (.nil))) (.cons (.ret (.var 2)) (.nil)))
def N_needs : List Str := ["ring"]
def c_needs : S := .cons (.ret (.call "needs_of" ⟨2, sp_needs_of⟩ (.cons (.var 0) (.cons (.meth "Ring" "names" ⟨1, sp_Ring_names⟩ (.var 0) (.nil)) (.nil))))) (.nil)
def mapE {α : Type} (f : Nat → α → D) : Nat → List α → List D
  | _, [] => []
  | k, x :: xs => f k x :: mapE f (k + 1) xs
theorem lcGo_enumF {α : Type} {g : α → D} {step : D → (Option D → Prop) → Prop} (f : Nat → α → D) : ∀ (xs : List α) (k : Nat) (acc : List D) (K : List D → Prop), (∀ (j : Nat) (x : α), xs[j]? = some x → ∀ kk : Option D → Prop, kk (some (f (k + j) x)) → step (.tup [.int ((k + j : Nat) : Int), g x]) kk) → K (acc ++ mapE f k xs) → lcGo step (enumD k (xs.map g)) acc K
  | [], k, acc, K, _, h => by rw [List.map_nil, enumD, lcGo]; simpa [mapE] using h
  | x :: xs, k, acc, K, hs, h => by
    rw [List.map_cons, enumD, lcGo]
    refine hs 0 x rfl _ ?_
    refine lcGo_enumF f xs (k + 1) _ K (fun j y hy kk hk => ?_) (by rw [List.append_assoc]; exact h)
    have := hs (j + 1) y (by simpa using hy) kk
    rw [show k + (j + 1) = k + 1 + j by omega] at this
    exact this hk
theorem mapE_said {n : Nat} : ∀ {os : List Str} {k : Nat}, mapE (fun j x => prS (x, sayN n j)) k os = (saidP n k os).map prS
  | [], _ => rfl
  | x :: xs, k => by rw [mapE, saidP, List.map_cons, mapE_said]
theorem vc_said_by : VC ⟨2, sp_said_by⟩ N_said_by c_said_by := by
  rintro ds K X hl ⟨ns, f, b, rfl, hns, hb, hK⟩
  have h12 := hns.2.1
  have hlen := ordr_len (f := f) hb
  unfold c_said_by N_said_by
  simp_arith [ringD, look_order]
  refine ⟨ns, f, b, rfl, hns, hb, ?_⟩
  generalize ordr ns f b = os at hlen hK ⊢
  simp_arith [List.length_map, enumD_len, hlen]
  refine ⟨by omega, lcGo_enumF (fun j x => prS (x, sayN ns.length j)) _ _ _ _ (fun j x hx kk hk => ?_) ?_⟩
  · simp_arith
    rw [Nat.zero_add] at hk
    have hj : j < os.length := (List.getElem?_eq_some_iff.mp hx).1
    unfold sayN prS at hk
    by_cases hc : j < ns.length - 1
    · rw [if_pos (by omega)]
      rw [if_pos hc, show ((ns.length - j - 1 : Nat) : Int) = (ns.length : Int) - j - 1 by omega] at hk
      exact hk
    · rw [if_neg (by omega)]
      rw [if_neg hc] at hk
      exact hk
  rw [List.nil_append, mapE_said]
  exact hK
theorem vc_put_together : VC ⟨2, sp_put_together⟩ N_put_together c_put_together := by
  rintro ds K X hl ⟨a, b, rfl, h1, h2, h3, h4, hK⟩
  unfold c_put_together N_put_together
  simp_arith
  refine ⟨0, a, 0, b, rfl, ⟨by omega, h1, by omega⟩, ⟨by omega, h2, by omega⟩, fun d hd => ?_⟩
  have e : ((0 : Int) - 0) % (Int.gcd a b : Int) = 0 := by simp
  rcases hd with ⟨_, q⟩ | ⟨x, rfl, _⟩
  · exact absurd e q
  · simp_arith
    exact hK
theorem lc_nat (x y : Nat) : Lc (x : Int) (y : Int) = ((Nat.lcm x y : Nat) : Int) := by
  unfold Lc
  have e : Int.gcd (x : Int) (y : Int) = Nat.gcd x y := Int.gcd_natCast_natCast x y
  rw [e, ← Int.natCast_ediv, ← Int.natCast_mul, Nat.div_mul_right_comm (Nat.gcd_dvd_left x y)]
  rfl
theorem lc_pos {a b : Int} (h1 : 0 < a) (h2 : 0 < b) : 0 < Lc a b := by
  obtain ⟨x, rfl⟩ : ∃ x : Nat, a = x := ⟨a.toNat, by omega⟩
  obtain ⟨y, rfl⟩ : ∃ x : Nat, b = x := ⟨b.toNat, by omega⟩
  rw [lc_nat]
  have := Nat.lcm_pos (show 0 < x by omega) (show 0 < y by omega)
  omega
theorem lc_dvd {a b N : Int} (h1 : 0 < a) (h2 : 0 < b) : Lc a b ∣ N ↔ a ∣ N ∧ b ∣ N := by
  obtain ⟨x, rfl⟩ : ∃ x : Nat, a = x := ⟨a.toNat, by omega⟩
  obtain ⟨y, rfl⟩ : ∃ x : Nat, b = x := ⟨b.toNat, by omega⟩
  rw [lc_nat]
  constructor
  · intro h
    exact ⟨Int.dvd_trans (Int.natCast_dvd_natCast.mpr (Nat.dvd_lcm_left x y)) h, Int.dvd_trans (Int.natCast_dvd_natCast.mpr (Nat.dvd_lcm_right x y)) h⟩
  · rintro ⟨h, h'⟩
    have k1 : x ∣ N.natAbs := Int.ofNat_dvd_left.mp h
    have k2 : y ∣ N.natAbs := Int.ofNat_dvd_left.mp h'
    exact Int.ofNat_dvd_left.mpr (Nat.lcm_dvd k1 k2)
/-- all are parts of what one to twelve have in common -/
def Dv (F : Str → Int) : Prop := ∀ n, 0 < F n ∧ F n ∣ 27720
theorem dv_one : Dv fun _ => 1 := fun _ => ⟨by show (0 : Int) < 1; decide, by show (1 : Int) ∣ 27720; decide⟩
theorem dv_le {F : Str → Int} (h : Dv F) (n : Str) : F n ≤ 27720 := Int.le_of_dvd (by decide) (h n).2
theorem small_dvd {m : Int} (h1 : 1 ≤ m) (h2 : m ≤ 12) : m ∣ 27720 := by
  have : m = 1 ∨ m = 2 ∨ m = 3 ∨ m = 4 ∨ m = 5 ∨ m = 6 ∨ m = 7 ∨ m = 8 ∨ m = 9 ∨ m = 10 ∨ m = 11 ∨ m = 12 := by omega
  rcases this with rfl | rfl | rfl | rfl | rfl | rfl | rfl | rfl | rfl | rfl | rfl | rfl <;> decide
theorem dv_lcS {F : Str → Int} {p : Str × Int} (h : Dv F) (h1 : 1 ≤ p.2) (h2 : p.2 ≤ 12) : Dv (lcS F p) := fun n => by
  unfold lcS setS
  by_cases e : n = p.1
  · rw [if_pos e]
    exact ⟨lc_pos (h _).1 (by omega), (lc_dvd (h _).1 (by omega)).mpr ⟨(h _).2, small_dvd h1 h2⟩⟩
  · rw [if_neg e]
    exact h n
theorem said_mem {n : Nat} : ∀ {os : List Str} {j : Nat}, os.length + j ≤ n → ∀ p ∈ saidP n j os, p.1 ∈ os ∧ 1 ≤ p.2 ∧ p.2 ≤ n
  | [], _, _, p, hp => by cases hp
  | x :: xs, j, h, p, hp => by
    rw [List.length_cons] at h
    rw [saidP] at hp
    rcases List.mem_cons.mp hp with rfl | hp
    · refine ⟨List.mem_cons_self, ?_⟩
      show 1 ≤ sayN n j ∧ sayN n j ≤ n
      unfold sayN
      split <;> omega
    · obtain ⟨q1, q2⟩ := said_mem (by omega) p hp
      exact ⟨List.mem_cons_of_mem _ q1, q2⟩
theorem pr1_dic' {os : List Str} : (os.map fun n => D.tup [.str n, .int 1]).map prD = dicF os fun _ => 1 := by
  unfold dicF
  rw [List.map_map]
  rfl
theorem said_len {n : Nat} : ∀ {os : List Str} {j : Nat}, (saidP n j os).length = os.length
  | [], _ => rfl
  | x :: xs, j => by rw [saidP, List.length_cons, said_len, List.length_cons]
theorem vc_needs_of : VC ⟨2, sp_needs_of⟩ N_needs_of c_needs_of := by
  rintro ds K X hl ⟨ns, f, bs, rfl, hns, hb, hl2, hK⟩
  have h12 := hns.2.1
  have nd := hns.2.2.1
  unfold c_needs_of N_needs_of
  simp_arith [ringD, look_names]
  refine ⟨ns, f, rfl, by omega, ?_⟩
  simp_arith [List.length_map]
  refine ⟨by omega, lcGo_mapG (fun n => D.tup [.str n, .int 1]) _ _ _ (fun n hn k hk => ?_) ?_⟩
  · simp_arith
    exact ⟨rfl, hk⟩
  rw [List.nil_append]
  simp_arith
  rw [pr1_dic', merge_F0 nd]
  refine for_mapG (fun r δ => ∃ (F : Str → Int) (q3 q4 q5 : Sl), δ = [.fz (.ins "Ring" (ringF ns f)), .fz (.lst (bs.map D.str)), .ow (.dic (dicF ns F)), q3, q4, q5] ∧ Dv F ∧ r.foldl (lcR ns f) F = needF ns f bs ∧ ∀ b ∈ r, b ∈ ns) ⟨_, _, _, _, rfl, dv_one, rfl, hb⟩ ?_ ?_
  · rintro b r _ nx' ⟨F, q3, q4, q5, rfl, hd, hf, hr⟩ hn
    have hbn := hr b List.mem_cons_self
    have hlen := ordr_len (f := f) hbn
    refine ⟨_, rfl, ?_⟩
    simp_arith
    refine ⟨ns, f, b, rfl, hns, hbn, ?_⟩
    have hsm := said_mem (n := ns.length) (os := ordr ns f b) (j := 0) (by omega)
    have hfo : (saidP ns.length 0 (ordr ns f b)).foldl lcS F = lcR ns f F b := rfl
    simp_arith
    refine for_mapG (fun r' δ => ∃ (G : Str → Int) (q4 q5 : Sl), δ = [.fz (.ins "Ring" (ringF ns f)), .fz (.lst (bs.map D.str)), .ow (.dic (dicF ns G)), .fz (.str b), q4, q5] ∧ Dv G ∧ r'.foldl lcS G = lcR ns f F b ∧ ∀ p ∈ r', p.1 ∈ ns ∧ 1 ≤ p.2 ∧ p.2 ≤ 12) ⟨F, _, _, rfl, hd, hfo, fun p hp => ⟨(ordr_perm hbn).mem_iff.mp (hsm p hp).1, (hsm p hp).2.1, by have := (hsm p hp).2.2; omega⟩⟩ ?_ ?_
    · rintro p r' _ nx2 ⟨G, q4, q5, rfl, hG, hg, hp⟩ hn2
      obtain ⟨p1, p2, p3⟩ := hp p List.mem_cons_self
      refine ⟨_, rfl, ?_⟩
      simp_arith [len_dicF]
      have hle := dv_le hG p.1
      refine ⟨_, getK_F p1, G p.1, p.2, rfl, (hG _).1, by omega, by omega, by omega, ?_⟩
      simp_arith [len_dicF]
      rw [putD_in p1]
      refine ⟨by omega, hn2 _ ⟨lcS G p, _, _, rfl, dv_lcS hG p2 p3, hg, fun z hz => hp z (List.mem_cons_of_mem _ hz)⟩⟩
    · rintro _ ⟨G, q4, q5, rfl, hG, hg, hp⟩
      simp_arith
      refine hn _ ⟨G, _, _, _, rfl, hG, ?_, fun z hz => hr z (List.mem_cons_of_mem _ hz)⟩
      rw [← hf, List.foldl_cons, ← hg]
      rfl
  · rintro _ ⟨F, q3, q4, q5, rfl, hd, hf, hr⟩
    simp_arith
    rw [show F = needF ns f bs from hf]
    exact hK
theorem vc_needs : VC ⟨1, sp_needs⟩ N_needs c_needs := by
  rintro ds K X hl ⟨ns, f, rfl, hns, hK⟩
  have h12 := hns.2.1
  unfold c_needs N_needs
  simp_arith [ringD, look_names]
  refine ⟨ns, f, rfl, by omega, ?_⟩
  simp_arith
  refine ⟨ns, f, ns, rfl, hns, fun _ h => h, by omega, ?_⟩
  simp_arith
  exact hK
end R
set_option maxRecDepth 100000
set_option maxHeartbeats 4000000
namespace R
open PySem PySem.Spec PyProof.Rows G
/-! ### which slips lead elsewhere -/
theorem setS_off {f : Str → Int} {x y : Str} {z : Int} (h : y ≠ x) : setS f x z y = f y := by unfold setS; rw [if_neg h]
theorem setS_on {f : Str → Int} {x : Str} {z : Int} : setS f x z x = z := by unfold setS; rw [if_pos rfl]
theorem row_getD_inj {row : List Str} (nd : row.Nodup) {i j : Nat} (hi : i < row.length) (hj : j < row.length) (e : row.getD i Str.empty = row.getD j Str.empty) : i = j := by
  rw [getD_get hi, getD_get hj] at e
  exact nd_inj nd hi hj e
theorem mod_inj {a b : Int} {m : Nat} (hm : 0 < m) (e : (a % m).toNat = (b % m).toNat) : a % m = b % m := by
  have h1 := Int.emod_nonneg a (show (m : Int) ≠ 0 by omega)
  have h2 := Int.emod_nonneg b (show (m : Int) ≠ 0 by omega)
  omega
/-- one slip otherwise: the goers are the same just if it leaves the same by how many sat -/
theorem play_one {f : Str → Int} {x : Str} {z : Int} : ∀ {n : Nat} {row : List Str} {y : Str}, row.length = n → row.Nodup → y ∉ row → ∀ j : Nat, (y :: play f n row y)[j]? = some x → j < n →
    (play (setS f x z) n row y = play f n row y ↔ z % ((n - j : Nat) : Int) = f x % ((n - j : Nat) : Int))
  | 0, _, _, _, _, _, j, _, hj => by omega
  | n + 1, row, y, hl, nd, hy, j, hx, hj => by
    have hne : row ≠ [] := by intro e; rw [e] at hl; cases hl
    have hi := spot_lt (row := row) (z := f y) hne
    have hi' := spot_lt (row := row) (z := z) hne
    cases j with
    | zero =>
      have e : y = x := by simpa using hx
      subst e
      rw [play, play, setS_on, Nat.sub_zero, ← hl]
      try dsimp only
      constructor
      · intro h
        injection h with h1 h2
        exact mod_inj (by omega) (row_getD_inj nd hi' hi h1)
      · intro h
        rw [h]
        congr 1
        refine play_congr (by rw [row_len hi]; omega) (setS_off fun q => hy (by rw [← q]; exact getD_mem hi)) fun w hw => setS_off fun q => hy (by rw [← q]; exact row_sub hw)
    | succ j =>
      have hyx : y ≠ x := fun e => by
        rw [List.getElem?_cons_succ] at hx
        have := List.mem_of_getElem? hx
        rw [← e] at this
        exact hy ((play_perm hl).mem_iff.mp this)
      rw [play, play, setS_off hyx]
      try dsimp only
      have hx' : (row.getD (f y % row.length).toNat Str.empty :: play f n (row.drop ((f y % row.length).toNat + 1) ++ row.take (f y % row.length).toNat) (row.getD (f y % row.length).toNat Str.empty))[j]? = some x := by
        rw [List.getElem?_cons_succ, play] at hx
        exact hx
      have nd' : (row.drop ((f y % row.length).toNat + 1) ++ row.take (f y % row.length).toNat).Nodup := sa_nodup nd hi
      have hny : row.getD (f y % row.length).toNat Str.empty ∉ row.drop ((f y % row.length).toNat + 1) ++ row.take (f y % row.length).toNat := (List.nodup_cons.mp ((sa_perm hi).nodup_iff.mpr nd)).1
      have ih := play_one (f := f) (x := x) (z := z) (n := n) (by rw [row_len hi]; omega) nd' hny j hx' (by omega)
      rw [show n + 1 - (j + 1) = n - j by omega, ← ih]
      constructor
      · intro h
        injection h
      · intro h
        rw [h]
theorem said_at {n : Nat} : ∀ {os : List Str} {k : Nat} {x : Str} {m : Int}, (x, m) ∈ saidP n k os → ∃ j, os[j]? = some x ∧ m = sayN n (k + j)
  | [], _, _, _, h => by cases h
  | y :: os, k, x, m, h => by
    rw [saidP] at h
    rcases List.mem_cons.mp h with h | h
    · cases h
      exact ⟨0, rfl, rfl⟩
    · obtain ⟨j, h1, h2⟩ := said_at h
      exact ⟨j + 1, by simpa using h1, by rw [h2]; congr 1; omega⟩
theorem row0_not {ns : List Str} {b : Str} (nd : ns.Nodup) (hb : b ∈ ns) : b ∉ row0 ns b := by
  have := beh_nodup nd hb
  rw [beh_row0 hb, List.nodup_append] at this
  exact fun q => this.2.2 b q b (by simp) rfl
theorem row0_nd {ns : List Str} {b : Str} (nd : ns.Nodup) (hb : b ∈ ns) : (row0 ns b).Nodup := by
  have := beh_nodup nd hb
  rw [beh_row0 hb, List.nodup_append] at this
  exact this.1
/-- the whole round, and who begins next -/
theorem round_one {ns : List Str} {f : Str → Int} {b x : Str} {z m : Int} (nd : ns.Nodup) (hb : b ∈ ns) (h : (x, m) ∈ saidP ns.length 0 (ordr ns f b)) :
    ((ordr ns (setS f x z) b = ordr ns f b ∧ nxt ns (setS f x z) b = nxt ns f b) ↔ z % m = f x % m) := by
  obtain ⟨j, hj, rfl⟩ := said_at h
  rw [Nat.zero_add]
  have hlen := ordr_len (f := f) hb
  have hjl : j < ns.length := by rw [← hlen]; exact (List.getElem?_eq_some_iff.mp hj).1
  have ond := ordr_nodup (f := f) nd hb
  unfold sayN
  by_cases hc : j < ns.length - 1
  · rw [if_pos hc]
    have h1 := play_one (f := f) (x := x) (z := z) (n := ns.length - 1) (row := row0 ns b) (y := b) (row0_len hb) (row0_nd nd hb) (row0_not nd hb) j hj hc
    rw [show ns.length - j - 1 = ns.length - 1 - j by omega, ← h1]
    have e1 : ordr ns (setS f x z) b = ordr ns f b ↔ play (setS f x z) (ns.length - 1) (row0 ns b) b = play f (ns.length - 1) (row0 ns b) b := by
      rw [ordr_row, ordr_row]
      constructor
      · intro q; injection q
      · intro q; rw [q]
    rw [← e1]
    constructor
    · exact fun q => q.1
    · intro q
      refine ⟨q, ?_⟩
      have el : lst ns (setS f x z) b = lst ns f b := by unfold lst; rw [q]
      have hlx : lst ns f b ≠ x := fun e => by
        have hla : (ordr ns f b)[ns.length - 1]? = some (lst ns f b) := by
          have := (last_in (f := f) hb).1
          rw [List.getLast?_eq_getElem?, hlen] at this
          exact this
        rw [e] at hla
        obtain ⟨g1, g2⟩ := List.getElem?_eq_some_iff.mp hla
        obtain ⟨g3, g4⟩ := List.getElem?_eq_some_iff.mp hj
        have := nd_inj ond g1 g3 (by rw [g2, g4])
        omega
      rw [nxt_eq, nxt_eq, el, setS_off hlx]
  · rw [if_neg hc]
    have hx : x = lst ns f b := by
      have hla : (ordr ns f b)[ns.length - 1]? = some (lst ns f b) := by
        have := (last_in (f := f) hb).1
        rw [List.getLast?_eq_getElem?, hlen] at this
        exact this
      rw [show j = ns.length - 1 by omega, hla] at hj
      exact (Option.some.inj hj).symm
    subst hx
    have eo := ordr_last (f := f) (z := z) nd hb
    have el : lst ns (setS f (lst ns f b) z) b = lst ns f b := by
      show (ordr ns (setS f (lst ns f b) z) b).getLastD Str.empty = _
      rw [eo]; rfl
    rw [nxt_eq, nxt_eq, el, setS_on, eo]
    have hne : ns ≠ [] := by intro e; rw [e] at hb; cases hb
    have hi := spot_lt (row := ns) (z := z) hne
    have hi' := spot_lt (row := ns) (z := f (lst ns f b)) hne
    constructor
    · rintro ⟨_, q⟩
      exact mod_inj (by omega) (row_getD_inj (beh_nodup nd (lst_in hb)) (by rw [beh_len]; exact hi) (by rw [beh_len]; exact hi') q)
    · intro q
      rw [q]
      exact ⟨rfl, rfl⟩
/-! what all that is said has in common -/
theorem lcS_dvd {K : Int} {x : Str} : ∀ {ps : List (Str × Int)} {F : Str → Int}, (∀ n, 0 < F n) → (∀ p ∈ ps, 0 < p.2) → (ps.foldl lcS F x ∣ K ↔ F x ∣ K ∧ ∀ m, (x, m) ∈ ps → m ∣ K)
  | [], F, _, _ => ⟨fun h => ⟨h, fun m q => by cases q⟩, fun h => h.1⟩
  | p :: ps, F, hF, hp => by
    have hp1 := hp p List.mem_cons_self
    have hpos : ∀ n, 0 < lcS F p n := fun n => by
      unfold lcS setS
      by_cases e : n = p.1
      · rw [if_pos e]; exact lc_pos (hF _) hp1
      · rw [if_neg e]; exact hF n
    rw [List.foldl_cons, lcS_dvd hpos fun q hq => hp q (List.mem_cons_of_mem _ hq)]
    by_cases e : x = p.1
    · have : lcS F p x = Lc (F p.1) p.2 := by unfold lcS setS; rw [if_pos e]
      rw [this, lc_dvd (hF _) hp1, e]
      constructor
      · rintro ⟨⟨q1, q2⟩, q3⟩
        refine ⟨q1, fun m hm => ?_⟩
        rcases List.mem_cons.mp hm with hm | hm
        · rw [show m = p.2 by rw [← hm]]; exact q2
        · exact q3 m hm
      · rintro ⟨q1, q2⟩
        exact ⟨⟨q1, q2 p.2 List.mem_cons_self⟩, fun m hm => q2 m (List.mem_cons_of_mem _ hm)⟩
    · have : lcS F p x = F x := by unfold lcS setS; rw [if_neg e]
      rw [this]
      constructor
      · rintro ⟨q1, q2⟩
        refine ⟨q1, fun m hm => ?_⟩
        rcases List.mem_cons.mp hm with hm | hm
        · exact absurd (by rw [← hm]) e
        · exact q2 m hm
      · rintro ⟨q1, q2⟩
        exact ⟨q1, fun m hm => q2 m (List.mem_cons_of_mem _ hm)⟩
theorem lcS_pos : ∀ {ps : List (Str × Int)} {F : Str → Int}, (∀ n, 0 < F n) → (∀ p ∈ ps, 0 < p.2) → ∀ n, 0 < ps.foldl lcS F n
  | [], F, hF, _, n => hF n
  | p :: ps, F, hF, hp, n => by
    rw [List.foldl_cons]
    refine lcS_pos (fun n => ?_) (fun q hq => hp q (List.mem_cons_of_mem _ hq)) n
    unfold lcS setS
    by_cases e : n = p.1
    · rw [if_pos e]; exact lc_pos (hF _) (hp p List.mem_cons_self)
    · rw [if_neg e]; exact hF n
theorem need_all {ns : List Str} {f : Str → Int} {K : Int} {x : Str} : ∀ {bs : List Str} {F : Str → Int}, (∀ n, 0 < F n) → (∀ b ∈ bs, b ∈ ns) → (∀ n, 0 < bs.foldl (lcR ns f) F n) ∧ (bs.foldl (lcR ns f) F x ∣ K ↔ F x ∣ K ∧ ∀ b ∈ bs, ∀ m, (x, m) ∈ saidP ns.length 0 (ordr ns f b) → m ∣ K)
  | [], F, hF, _ => ⟨hF, fun h => ⟨h, fun b q => by cases q⟩, fun h => h.1⟩
  | b :: bs, F, hF, hb => by
    have hbn := hb b List.mem_cons_self
    have hlen := ordr_len (f := f) hbn
    have hsm : ∀ p ∈ saidP ns.length 0 (ordr ns f b), 0 < p.2 := fun p hp => by
      have := (said_mem (n := ns.length) (os := ordr ns f b) (j := 0) (by omega) p hp).2.1
      omega
    have hpos : ∀ n, 0 < lcR ns f F b n := lcS_pos hF hsm
    obtain ⟨i1, i2⟩ := need_all (ns := ns) (f := f) (K := K) (x := x) (bs := bs) hpos fun c hc => hb c (List.mem_cons_of_mem _ hc)
    rw [List.foldl_cons]
    refine ⟨i1, ?_⟩
    rw [i2]
    have e : lcR ns f F b x ∣ K ↔ F x ∣ K ∧ ∀ m, (x, m) ∈ saidP ns.length 0 (ordr ns f b) → m ∣ K := lcS_dvd hF hsm
    rw [e]
    constructor
    · rintro ⟨⟨q1, q2⟩, q3⟩
      refine ⟨q1, fun c hc m hm => ?_⟩
      rcases List.mem_cons.mp hc with rfl | hc
      · exact q2 m hm
      · exact q3 c hc m hm
    · rintro ⟨q1, q2⟩
      exact ⟨⟨q1, q2 b List.mem_cons_self⟩, fun c hc => q2 c (List.mem_cons_of_mem _ hc)⟩
theorem need_dvd {ns : List Str} {f : Str → Int} {K : Int} {x : Str} : needF ns f ns x ∣ K ↔ ∀ b ∈ ns, ∀ m, (x, m) ∈ saidP ns.length 0 (ordr ns f b) → m ∣ K := by
  have := (need_all (ns := ns) (f := f) (K := K) (x := x) (bs := ns) (F := fun _ => 1) (fun _ => by show (0 : Int) < 1; decide) fun _ h => h).2
  unfold needF
  rw [this]
  exact ⟨fun h => h.2, fun h => ⟨Int.one_dvd K, h⟩⟩
theorem need_pos {ns : List Str} {f : Str → Int} {x : Str} : 0 < needF ns f ns x := (need_all (ns := ns) (f := f) (K := 0) (x := x) (bs := ns) (F := fun _ => 1) (fun _ => by show (0 : Int) < 1; decide) fun _ h => h).1 x
theorem said_has {n : Nat} : ∀ {os : List Str} {k : Nat} {x : Str}, x ∈ os → ∃ m, (x, m) ∈ saidP n k os
  | [], _, _, h => by cases h
  | y :: os, k, x, h => by
    rw [saidP]
    rcases List.mem_cons.mp h with rfl | h
    · exact ⟨_, List.mem_cons_self⟩
    · obtain ⟨m, hm⟩ := said_has (n := n) (k := k + 1) h
      exact ⟨m, List.mem_cons_of_mem _ hm⟩
/-- a slip changed by d: all rounds stay just if d is a multiple of the need -/
theorem rounds_stay {ns : List Str} {f : Str → Int} {x : Str} {d : Int} (nd : ns.Nodup) (hx : x ∈ ns) : (∀ b ∈ ns, ordr ns (setS f x (f x + d)) b = ordr ns f b ∧ nxt ns (setS f x (f x + d)) b = nxt ns f b) ↔ needF ns f ns x ∣ d := by
  rw [need_dvd]
  constructor
  · intro h b hb m hm
    have := (round_one (z := f x + d) nd hb hm).mp (h b hb)
    have e := Int.emod_emod_of_dvd (f x + d - f x) (Int.dvd_refl m)
    have : (f x + d - f x) % m = 0 := Int.emod_eq_emod_iff_emod_sub_eq_zero.mp this
    rw [show f x + d - f x = d by omega] at this
    exact Int.dvd_of_emod_eq_zero this
  · intro h b hb
    obtain ⟨m, hm⟩ := said_has (n := ns.length) (k := 0) ((ordr_perm (f := f) hb).mem_iff.mpr hx)
    refine (round_one (z := f x + d) nd hb hm).mpr ?_
    obtain ⟨t, rfl⟩ := h b hb m hm
    rw [Int.add_mul_emod_self_left]
end R
set_option maxRecDepth 100000
set_option maxHeartbeats 4000000
/-! ### rings compared, the least slips that do alike -/
open PySem G
namespace R
open PySem G
def keyName : L2.Key → Str
  | .inr n => n
  | .inl _ => Str.empty
theorem mem_dicF {ks : List Str} {f : Str → Int} {k : L2.Key} {d : D} (h : (k, d) ∈ dicF ks f) : ∃ n ∈ ks, k = .inr n ∧ d = .int (f n) := by
  unfold dicF at h
  obtain ⟨n, hn, e⟩ := List.mem_map.mp h
  cases e
  exact ⟨n, hn, rfl, rfl⟩
theorem getK_F' {ks : List Str} {f : Str → Int} {n : Str} {d : D} (h : getK (dicF ks f) (.inr n) = some d) : n ∈ ks ∧ d = .int (f n) := by
  by_cases hn : n ∈ ks
  · rw [getK_F hn] at h
    cases h
    exact ⟨hn, rfl⟩
  · exfalso
    unfold getK at h
    cases q : (dicF ks f).find? fun kv => decide (kv.1 = (Sum.inr n : L2.Key)) with
    | none => rw [q] at h; cases h
    | some kv =>
      have h1 := List.find?_some q
      have h2 := List.mem_of_find?_eq_some q
      obtain ⟨m, hm, e1, e2⟩ := mem_dicF (k := kv.1) (d := kv.2) h2
      rw [e1] at h1
      have : (Sum.inr m : L2.Key) = Sum.inr n := of_decide_eq_true h1
      cases this
      exact hn hm
theorem nodup_dicF {ks : List Str} {f : Str → Int} (h : ks.Nodup) : ((dicF ks f).map (·.1)).Nodup := by
  unfold dicF
  rw [List.map_map]
  exact List.Pairwise.map _ (fun a b e q => e (by injection q)) h
theorem name_ok {s : Str} (h : NameOk s) : PyData.strOk s = true := by
  unfold PyData.strOk
  rw [Array.all_eq_true']
  intro c hc
  have := h.2.2 c (by simpa using hc)
  exact decide_eq_true (by omega)
theorem keysOk_F {ks : List Str} {f : Str → Int} (h : ∀ n ∈ ks, NameOk n) : keysOk (dicF ks f) = true := by
  unfold keysOk dicF
  rw [List.all_map, List.all_eq_true]
  intro n hn
  exact name_ok (h n hn)
/-- the values of two dicts of the same names -/
def sameF (ns : List Str) (f g : Str → Int) : Bool := ns.all fun n => f n == g n
theorem sameF_iff {ns : List Str} {f g : Str → Int} : sameF ns f g = true ↔ ∀ n ∈ ns, f n = g n := by
  unfold sameF
  rw [List.all_eq_true]
  exact ⟨fun h n hn => by simpa using h n hn, fun h n hn => by simpa using h n hn⟩
theorem dic_val {ns ms : List Str} {f g : Str → Int} (hl : ns.length = ms.length) (hm : ∀ n ∈ ns, n ∈ ms) : ((dicF ns f).length == (dicF ms g).length && (dicF ns f).all fun p => (getK (dicF ms g) p.1).isSome && (f (keyName p.1) == g (keyName p.1))) = sameF ns f g := by
  rw [len_dicF, len_dicF, hl, beq_self_eq_true, Bool.true_and]
  unfold sameF
  show ((dicF ns f).all _) = _
  conv => lhs; rw [show dicF ns f = ns.map fun n => ((Sum.inr n : L2.Key), D.int (f n)) from rfl, List.all_map]
  have gen : ∀ l : List Str, (∀ n ∈ l, n ∈ ms) → (l.all ((fun p => (getK (dicF ms g) p.1).isSome && (f (keyName p.1) == g (keyName p.1))) ∘ fun n => ((Sum.inr n : L2.Key), D.int (f n)))) = l.all fun n => f n == g n := by
    intro l
    induction l with
    | nil => intro _; rfl
    | cons a l ih =>
      intro h
      rw [List.all_cons, List.all_cons, ih fun n hn => h n (List.mem_cons_of_mem _ hn)]
      simp only [Function.comp, getK_F (h a List.mem_cons_self), Option.isSome_some, Bool.true_and]
      rfl
  exact gen ns hm
theorem eqF_F {ns ms : List Str} {f g : Str → Int} (hl : ns.length = ms.length) (hm : ∀ n ∈ ns, n ∈ ms) : EqF (.dic (dicF ns f)) (.dic (dicF ms g)) (sameF ns f g) := by
  refine .inr ⟨_, _, fun k => f (keyName k) == g (keyName k), rfl, rfl, fun k d d' h1 h2 => ?_, (dic_val hl hm).symm⟩
  obtain ⟨n, hn, rfl, rfl⟩ := mem_dicF h1
  obtain ⟨hn', rfl⟩ := getK_F' h2
  refine ⟨sh_int, sh_int, ?_⟩
  rw [eqD_int]
  show (f n == g n) = _
  exact Bool.eq_iff_iff.mpr (by simp)
theorem eqX_F {k : Nat} {ns ms : List Str} {f g : Str → Int} (nd : ns.Nodup) (hl : ns.length = ms.length) (hm : ∀ n ∈ ns, n ∈ ms) : EqX (k + 1) (.dic (dicF ns f)) (.dic (dicF ms g)) (sameF ns f g) := by
  refine .inr (.inl ⟨_, _, fun k => f (keyName k) == g (keyName k), rfl, rfl, nodup_dicF nd, fun kk d d' h1 h2 => ?_, (dic_val hl hm).symm⟩)
  obtain ⟨n, hn, rfl, rfl⟩ := mem_dicF h1
  obtain ⟨hn', rfl⟩ := getK_F' h2
  have : sh 40 (.int (f n)) = true ∧ sh 40 (.int (g n)) = true ∧ (f n == g n) = eqD (.int (f n)) (.int (g n)) := by
    refine ⟨sh_int, sh_int, ?_⟩
    rw [eqD_int]
    exact Bool.eq_iff_iff.mpr (by simp)
  cases k with
  | zero => exact this
  | succ k => exact .inl this
theorem dkL_F {ns : List Str} {F : Str → Int} : dkL .items (dicF ns F) = ns.map fun n => D.tup [.str n, .int (F n)] := by
  unfold dicF
  show (List.map _ _).map _ = _
  rw [List.map_map]
  rfl
theorem dkL_Fv {ns : List Str} {F : Str → Int} : dkL .vals (dicF ns F) = ns.map fun n => D.int (F n) := by
  unfold dicF
  show (List.map _ _).map _ = _
  rw [List.map_map]
  rfl
theorem dkL_Fk {ns : List Str} {F : Str → Int} : dkL .keys (dicF ns F) = ns.map D.str := by
  unfold dicF
  show (List.map _ _).map _ = _
  rw [List.map_map]
  rfl
theorem prF_ok {os : List Str} {h : Str → Int} : ((os.map fun n => D.tup [.str n, .int (h n)]).all isPr) = true := by
  rw [List.all_map, List.all_eq_true]
  intro p _
  rfl
theorem prF_dic {os : List Str} {h : Str → Int} : (os.map fun n => D.tup [.str n, .int (h n)]).map prD = dicF os h := by
  unfold dicF
  rw [List.map_map]
  rfl
/-! ### slips that do alike -/
theorem lcR_congr {ns : List Str} {f g : Str → Int} : ∀ {bs : List Str} {F : Str → Int}, (∀ b ∈ bs, ordr ns g b = ordr ns f b) → bs.foldl (lcR ns g) F = bs.foldl (lcR ns f) F
  | [], _, _ => rfl
  | b :: bs, F, h => by
    have e : lcR ns g F b = lcR ns f F b := by unfold lcR; rw [h b List.mem_cons_self]
    rw [List.foldl_cons, List.foldl_cons, e]
    exact lcR_congr fun c hc => h c (List.mem_cons_of_mem _ hc)
theorem need_congr {ns : List Str} {f g : Str → Int} (h : ∀ b ∈ ns, ordr ns g b = ordr ns f b) : needF ns g ns = needF ns f ns := lcR_congr h
def mixS (l : List Str) (f g : Str → Int) : Str → Int := fun n => if n ∈ l then g n else f n
theorem stay_mix {ns : List Str} {f g : Str → Int} (nd : ns.Nodup) (h : ∀ n ∈ ns, needF ns f ns n ∣ g n - f n) : ∀ {l : List Str}, (∀ n ∈ l, n ∈ ns) → ∀ b ∈ ns, ordr ns (mixS l f g) b = ordr ns f b ∧ nxt ns (mixS l f g) b = nxt ns f b
  | [], _, b, _ => by
    have : mixS [] f g = f := by funext n; unfold mixS; simp
    rw [this]; exact ⟨rfl, rfl⟩
  | x :: l, hl, b, hb => by
    have ih := stay_mix nd h (l := l) (fun n hn => hl n (List.mem_cons_of_mem _ hn))
    have hx := hl x List.mem_cons_self
    have e : mixS (x :: l) f g = setS (mixS l f g) x (mixS l f g x + (g x - mixS l f g x)) := by
      funext n
      unfold setS
      by_cases hn : n = x
      · rw [if_pos hn, hn]
        unfold mixS
        rw [if_pos List.mem_cons_self]
        omega
      · rw [if_neg hn]
        unfold mixS
        by_cases hl : n ∈ l
        · rw [if_pos hl, if_pos (List.mem_cons_of_mem _ hl)]
        · rw [if_neg hl, if_neg (fun q => (List.mem_cons.mp q).elim hn hl)]
    have q := need_congr (f := f) (g := mixS l f g) fun c hc => (ih c hc).1
    have dv : needF ns (mixS l f g) ns x ∣ g x - mixS l f g x := by
      rw [q]
      unfold mixS
      by_cases hl : x ∈ l
      · rw [if_pos hl, Int.sub_self]; exact Int.dvd_zero _
      · rw [if_neg hl]; exact h x hx
    have := (rounds_stay (f := mixS l f g) nd hx).mpr dv b hb
    rw [e, this.1, this.2]
    exact ih b hb
theorem stay_all {ns : List Str} {f g : Str → Int} (nd : ns.Nodup) (h : ∀ n ∈ ns, needF ns f ns n ∣ g n - f n) (b : Str) (hb : b ∈ ns) : ordr ns g b = ordr ns f b ∧ nxt ns g b = nxt ns f b := by
  have q := stay_mix nd h (l := ns) (fun _ h => h) b hb
  have e : ∀ n ∈ ns, mixS ns f g n = g n := fun n hn => by unfold mixS; rw [if_pos hn]
  rw [ordr_congr hb e, nxt_congr hb e] at q
  exact q
/-- the least slips that do alike -/
def leaF (ns : List Str) (f : Str → Int) : Str → Int := fun n => f n % needF ns f ns n
theorem lea_dvd {ns : List Str} {f : Str → Int} (n : Str) : needF ns f ns n ∣ leaF ns f n - f n := by
  unfold leaF
  have h := Int.emod_add_mul_ediv (f n) (needF ns f ns n)
  exact ⟨-(f n / needF ns f ns n), by rw [Int.mul_neg]; omega⟩
theorem lea_stay {ns : List Str} {f : Str → Int} (nd : ns.Nodup) (b : Str) (hb : b ∈ ns) : ordr ns (leaF ns f) b = ordr ns f b ∧ nxt ns (leaF ns f) b = nxt ns f b := stay_all nd (fun n _ => lea_dvd n) b hb
theorem lea_need {ns : List Str} {f : Str → Int} (nd : ns.Nodup) : needF ns (leaF ns f) ns = needF ns f ns := need_congr fun b hb => (lea_stay nd b hb).1
theorem lea_lea {ns : List Str} {f : Str → Int} (nd : ns.Nodup) : leaF ns (leaF ns f) = leaF ns f := by
  funext n
  show leaF ns f n % needF ns (leaF ns f) ns n = _
  rw [lea_need nd]
  exact Int.emod_emod_of_dvd _ (Int.dvd_refl _)
theorem lea_lt {ns : List Str} {f : Str → Int} {n : Str} : 0 ≤ leaF ns f n ∧ leaF ns f n < needF ns f ns n := ⟨Int.emod_nonneg _ (by have := need_pos (ns := ns) (f := f) (x := n); omega), Int.emod_lt_of_pos _ need_pos⟩
abbrev sp_Ring___eq__ : Spc := fun ds K _ => ∃ ns f g, ds = [ringD ns f, ringD ns g] ∧ ns.Nodup ∧ K false (.bl (sameF ns f g))
abbrev sp_least_of : Spc := fun ds K _ => ∃ ns f, ds = [ringD ns f] ∧ NamesOk ns ∧ K true (ringD ns (leaF ns f))
def N_Ring___eq__ : List Str := ["self", "other"]
def c_Ring___eq__ : S := .cons (.ifs (.not (.isC "Ring" (.var 1))) (.cons (.ret (.k (.bl false))) (.nil)) (.nil)) (.cons (.ret (.deq false (.tup (.cons (.fld "Ring" "own_seats" (.var 0)) (.cons (.fld "Ring" "own_slips" (.var 0)) (.nil)))) (.tup (.cons (.fld "Ring" "own_seats" (.var 1)) (.cons (.fld "Ring" "own_slips" (.var 1)) (.nil)))))) (.nil))
def N_least_of : List Str := ["ring", "least", "name", "number"]
def c_least_of : S := .cons (.asgDc 1 false [("name", 2), ("number", 3)] (.many [2, 3]) (.iitF .items (.call "needs" ⟨1, sp_needs⟩ (.cons (.var 0) (.nil)))) (.no) (.var 2) (.bin .Mod (.meth "Ring" "slip" ⟨2, sp_Ring_slip⟩ (.var 0) (.cons (.var 2) (.nil))) (.var 3))) (.cons (.ret (.mk "Ring" ⟨2, sp_Ring⟩ (.cons (.meth "Ring" "names" ⟨1, sp_Ring_names⟩ (.var 0) (.nil)) (.cons (.var 1) (.nil))))) (.nil))
theorem vc_Ring___eq__ : VC ⟨2, sp_Ring___eq__⟩ N_Ring___eq__ c_Ring___eq__ := by
  rintro ds K X hl ⟨ns, f, g, rfl, nd, hK⟩
  unfold c_Ring___eq__ N_Ring___eq__
  simp_arith [ringD]
  refine ⟨_, look_seats, _, look_slips, _, look_seats, _, look_slips, 2, sameF ns f g, by decide, ?_, hK⟩
  refine .inr (.inr ⟨_, _, fun j => if j = 0 then true else sameF ns f g, rfl, rfl, fun j d d' h1 h2 => ?_, ?_⟩)
  · match j, h1, h2 with
    | 0, h1, h2 =>
      cases h1
      cases h2
      refine .inl ⟨?_, ?_, ?_⟩
      · rw [sh_tup]; exact shL_strs
      · rw [sh_tup]; exact shL_strs
      · rw [eqD_tup, eqL_strs]; simp
    | 1, h1, h2 =>
      cases h1
      cases h2
      exact eqX_F nd rfl fun _ h => h
    | j + 2, h1, h2 => cases h1
  · show _ = ((List.range 2).all _ && _)
    simp [List.range_succ]
theorem vc_least_of : VC ⟨1, sp_least_of⟩ N_least_of c_least_of := by
  rintro ds K X hl ⟨ns, f, rfl, hns, hK⟩
  have h12 := hns.2.1
  unfold c_least_of N_least_of
  simp_arith [ringD]
  refine ⟨ns, f, rfl, hns, ?_⟩
  simp_arith [len_dicF, dkL_len]
  refine ⟨keysOk_F hns.2.2.2, by omega, ?_⟩
  rw [dkL_F]
  refine lcGo_mapG (fun n => D.tup [.str n, .int (f n % needF ns f ns n)]) _ _ _ (fun n hn k hk => ?_) ?_
  · simp_arith
    refine ⟨rfl, ns, f, n, rfl, hn, ?_⟩
    simp_arith
    exact ⟨need_pos, rfl, hk⟩
  rw [List.nil_append]
  simp_arith
  rw [prF_dic, merge_F0 hns.2.2.1]
  refine ⟨look_names, ns, f, rfl, by omega, ?_⟩
  simp_arith
  refine ⟨_, ns, ns, _, rfl, .inl rfl, hns, rfl, fun _ h => h, ?_⟩
  simp_arith
  exact hK
end R
set_option maxRecDepth 100000
set_option maxHeartbeats 4000000
/-! ### the first family of draws -/
open PySem G
namespace F1
open PySem G R
open F2 (ones_of strD_letters len_ones)
abbrev sp__law_draw : Spc := F2.sp__law_draw
abbrev sp__law_pick : Spc := F2.sp__law_pick
abbrev sp__law_shuffled : Spc := F2.sp__law_mixed
abbrev sp__law_labels : Spc := F2.sp__law_names
def N__law_draw : List Str := ["_law_state_here", "_law_many", "_law_cells", "_law_at", "_law_cell"]
def c__law_draw : S := .cons (.asg 2 false (.ix (.var 0) (.k (.int 0)))) (.cons (.asg 3 false (.bin .Mod (.ix (.var 0) (.k (.int 1))) (.bn .len (.cons (.var 2) (.nil))))) (.cons (.asg 4 false (.ix (.var 2) (.var 3))) (.cons (.ifs (.cmp .GtE (.var 4) (.k (.int 1000000000000000000))) (.cons (.setSt (.var 2) (.var 3) (.bin .FloorDiv (.var 4) (.var 1))) (.cons (.ret (.bin .Mod (.var 4) (.var 1))) (.nil))) (.nil)) (.cons (.setSt (.var 0) (.k (.int 1)) (.bin .Add (.ix (.var 0) (.k (.int 1))) (.k (.int 1)))) (.cons (.setSt (.var 0) (.k (.int 2)) (.bin .Mod (.bin .Add (.bin .Add (.bin .Add (.bin .Mult (.ix (.var 0) (.k (.int 2))) (.k (.int 48271))) (.var 4)) (.bin .Mult (.k (.int 7919)) (.ix (.var 0) (.k (.int 1))))) (.k (.int 12345))) (.k (.int 2147483647)))) (.cons (.ret (.bin .Mod (.bin .FloorDiv (.bin .Mod (.bin .Mult (.ix (.var 0) (.k (.int 2))) (.ix (.var 0) (.k (.int 2)))) (.k (.int 2147483629))) (.k (.int 16))) (.var 1))) (.nil)))))))
def N__law_pick : List Str := ["_law_state_here", "_law_some"]
def c__law_pick : S := .cons (.ret (.ix (.var 1) (.call "_law_draw" ⟨2, sp__law_draw⟩ (.cons (.var 0) (.cons (.bn .len (.cons (.var 1) (.nil))) (.nil)))))) (.nil)
def N__law_shuffled : List Str := ["_law_state_here", "_law_some", "_law_left", "_law_found"]
def c__law_shuffled : S := .cons (.par2 2 true 3 true (.cons (.bn .list (.cons (.var 1) (.nil))) (.cons (.lst (.nil)) (.nil)))) (.cons (.whl (.cmp .NotEq (.var 2) (.lst (.nil))) (.cons (.mutP1 3 2 .popAt (.cons (.call "_law_draw" ⟨2, sp__law_draw⟩ (.cons (.var 0) (.cons (.bn .len (.cons (.var 2) (.nil))) (.nil)))) (.nil))) (.nil))) (.cons (.ret (.var 3)) (.nil)))
def N__law_labels : List Str := ["_law_state_here", "_law_many", "_law_own", "_law_found", "_law_turn", "_law_label", "_law_k", "_law_sign"]
def c__law_labels : S := .cons (.asg 2 false (.lst (.cons (.k (.str "ring")) (.cons (.k (.str "may")) (.cons (.k (.str "sure")) (.cons (.k (.str "far")) (.cons (.k (.str "more")) (.cons (.k (.str "go")) (.cons (.k (.str "come")) (.cons (.k (.str "watch")) (.cons (.k (.str "round")) (.cons (.k (.str "anew")) (.cons (.k (.str "swap")) (.cons (.k (.str "seat")) (.cons (.k (.str "undo")) (.nil)))))))))))))))) (.cons (.asg 3 true (.lst (.nil))) (.cons (.for_ (.one 4) (.irange (.cons (.var 1) (.nil))) (.cons (.asg 5 false (.call "_law_pick" ⟨2, sp__law_pick⟩ (.cons (.var 0) (.cons (.var 2) (.nil))))) (.cut (.ifs (.cmp .Gt (.call "_law_draw" ⟨2, sp__law_draw⟩ (.cons (.var 0) (.cons (.k (.int 3)) (.nil)))) (.k (.int 0))) (.cons (.asg 5 false (.bm .join (.k (.str "")) (.cons (.lc [("_law_k", 6)] (.one 6) (.irange (.cons (.bin .Add (.k (.int 1)) (.call "_law_draw" ⟨2, sp__law_draw⟩ (.cons (.var 0) (.cons (.k (.int 8)) (.nil))))) (.nil))) (.no) (.call "_law_pick" ⟨2, sp__law_pick⟩ (.cons (.var 0) (.cons (.k (.str "etaoinshrdlcumwf")) (.nil))))) (.nil)))) (.nil)) (.nil)) (.cut (.ifs (.cmp .In (.var 5) (.var 3)) (.cons (.asg 5 false (.ix (.lc [("_law_sign", 7)] (.one 7) (.iseq (.k (.str "abcdefghijklmnopqrstuvwxyz"))) (.opt (.cmp .NotIn (.bin .Add (.sl (.var 5) (.no) (.opt (.k (.int 7)))) (.var 7)) (.var 3))) (.bin .Add (.sl (.var 5) (.no) (.opt (.k (.int 7)))) (.var 7))) (.k (.int 0)))) (.nil)) (.nil)) (.cons (.mut1 3 .append (.cons (.var 5) (.nil))) (.nil)))))) (.cons (.ret (.var 3)) (.nil))))
theorem vc__law_draw : VC ⟨2, sp__law_draw⟩ N__law_draw c__law_draw := by
  rintro ds K X hl ⟨l, m, rfl, h1, h2, hK⟩
  unfold c__law_draw N__law_draw
  simp_arith
  intro n hn l1 l2
  have hl0 : (l : Int) ≠ 0 := by omega
  have hl1 : (0 : Int) < l := by omega
  refine ⟨hl1, fun _ _ => ⟨Int.emod_nonneg n hl0, Int.emod_lt_of_pos n hl1, fun z hz hz2 => ?_⟩⟩
  have hm0 : m ≠ 0 := by omega
  have hm1 : 0 < m := by omega
  by_cases hc : 1000000000000000000 ≤ z
  · rw [if_pos hc]
    refine ⟨DivOk.of hm1 (Nat.lt_of_le_of_lt (show m.natAbs ≤ 10 ^ 200 by omega) (Nat.lt_of_lt_of_le (show 10 ^ 200 < 2 ^ 700 by decide) (Nat.pow_le_pow_right (by decide) (by decide)))), fun _ _ => ⟨Int.emod_nonneg n hl0, Int.emod_lt_of_pos n hl1⟩, Int.ediv_nonneg hz (Int.le_of_lt hm1), Nat.lt_of_le_of_lt (Int.natAbs_ediv_le_natAbs z m) hz2, hm1, hK _ (Int.emod_nonneg z hm0) (Int.emod_lt_of_pos z hm1)⟩
  · rw [if_neg hc]
    clear hz2
    refine fun a ha => ⟨by omega, fun b hb hb2 => ⟨MulOk.right (by decide) (by decide), fun c hc' => ⟨MulOk.left (by decide) (by decide), Int.emod_lt_of_pos _ (by decide), Int.emod_nonneg _ (by decide), fun d hd hd2 e he he2 => ⟨MulOk.left (by omega) (by omega), DivOk.small (by decide) (by decide), hm1, hK _ (Int.emod_nonneg _ hm0) (Int.emod_lt_of_pos _ hm1)⟩⟩⟩⟩
theorem vc__law_pick : VC ⟨2, sp__law_pick⟩ N__law_pick c__law_pick := F2.vc__law_pick
theorem vc__law_shuffled : VC ⟨2, sp__law_shuffled⟩ N__law_shuffled c__law_shuffled := F2.vc__law_mixed
def ws1 : List Str := (["ring", "may", "sure", "far", "more", "go", "come", "watch", "round", "anew", "swap", "seat", "undo"] : List Str)
theorem words1 : ∀ s ∈ ws1, NameOk s := by
  intro s hs
  have : ∀ s ∈ (["ring", "may", "sure", "far", "more", "go", "come", "watch", "round", "anew", "swap", "seat", "undo"] : List Str), 1 ≤ s.length ∧ s.length ≤ 8 ∧ ∀ c ∈ s.cps.toList, 97 ≤ c ∧ c ≤ 122 := by decide +kernel
  exact this s hs
theorem low_some : ∀ c ∈ ("etaoinshrdlcumwf" : Str).cps.toList, low c := by
  intro c hc
  have : ∀ c ∈ ("etaoinshrdlcumwf" : Str).cps.toList, 97 ≤ c ∧ c ≤ 122 := by decide +kernel
  exact this c hc
def cand2 (w : Str) : List Str := (List.range' 97 26).map fun c => L2.cutS w none (some 7) ++ oneS c
theorem cand2_free {w : Str} {found : List Str} (h : found.length ≤ 12) : ((cand2 w).filter fun z => decide (z ∉ found)) ≠ [] := by
  intro e
  have h2 : ∀ z ∈ cand2 w, z ∈ found := fun z hz => by
    by_cases q : z ∈ found
    · exact q
    · have : z ∈ (cand2 w).filter fun z => decide (z ∉ found) := List.mem_filter.mpr ⟨hz, by simp [q]⟩
      rw [e] at this
      cases this
  have := sub_len (cand_nodup (w := w)) h2
  rw [List.length_map, List.length_range'] at this
  omega
theorem vc__law_labels : VC ⟨2, sp__law_labels⟩ N__law_labels c__law_labels := by
  rintro ds K X hl ⟨l, n, rfl, h0, h1, hK⟩
  unfold c__law_labels N__law_labels
  simp_arith
  refine ⟨⟨by decide, by decide, by decide, by decide, by omega, by omega⟩, ?_⟩
  refine for_range (fun j δ => ∃ (ns : List Str) (q4 q5 q6 q7 : Sl), δ = [.fz (.st l), .fz (.int n), .fz (.lst (ws1.map D.str)), .ow (.lst (ns.map D.str)), q4, q5, q6, q7] ∧ nowB (some q6) = true ∧ nowB (some q7) = true ∧ ns.Nodup ∧ (∀ s ∈ ns, NameOk s) ∧ ns.length = j) ⟨[], _, _, _, _, rfl, rfl, rfl, by simp, by simp, rfl⟩ ?_ ?_
  · rintro j _ nx' hj ⟨ns, q4, q5, q6, q7, rfl, n6, n7, nd, hok, rfl⟩ hn
    refine ⟨_, rfl, ?_⟩
    simp_arith
    refine .inr ⟨l, _, rfl, by decide, by decide, fun d hd => ?_⟩
    obtain ⟨w, hw, rfl⟩ := List.mem_map.mp hd
    have hw := words1 w hw
    simp_arith
    refine ⟨fun δ => ∃ (w : Str) (q6 : Sl), NameOk w ∧ nowB (some q6) = true ∧ δ = [.fz (.st l), .fz (.int n), .fz (.lst (ws1.map D.str)), .ow (.lst (ns.map D.str)), .fz (.int ns.length), .fz (.str w), q6, q7], ?_, ?_⟩
    · refine ⟨l, _, rfl, by decide, by decide, fun y y0 y1 => ?_⟩
      simp_arith
      by_cases hy : 0 < y
      · rw [if_pos hy]
        refine ⟨n6, l, _, rfl, by decide, by decide, fun x x0 x1 => ?_⟩
        simp_arith
        refine ⟨⟨by decide, by decide, by decide, by decide, by omega, by omega⟩, ?_⟩
        have hn8 : (rgN 0 (1 + x) 1) = (1 + x).toNat := by rw [rgN_one, Int.sub_zero]
        refine ⟨by rw [List.length_map, rgL_one, List.length_map, List.length_range, hn8]; omega, ?_⟩
        refine lcGo_any (P := fun e => ∃ c, low c ∧ e = .str (oneS c)) _ _ _ (fun d hd k hk => ?_) fun es hes hP => ?_
        · simp_arith
          refine .inl ⟨l, _, rfl, by decide, by decide, fun c hc => ?_⟩
          simp_arith
          exact hk _ ⟨c, low_some c hc, rfl⟩
        · rw [List.nil_append]
          obtain ⟨cs, rfl, hcs⟩ := ones_of hP
          rw [List.length_map, List.length_map, List.length_map, rgL_one, List.length_map, List.length_range, hn8] at hes
          have hw0 : NameOk ((Str.ofString "").join (List.map oneS cs)) := nameOk_of (cs := cs) join_ones (by omega) (by omega) hcs
          simp_arith
          refine ⟨by rw [len_ones, List.length_map]; show cs.length + cs.length * 0 ≤ _; omega, ⟨_, _, hw0, n6, rfl, rfl⟩⟩
      · rw [if_neg hy]
        exact ⟨w, q6, hw, n6, rfl, rfl⟩
    · rintro _ ⟨w, q6, hw, n6, rfl⟩
      simp_arith
      refine ⟨fun δ => ∃ (w : Str) (q6 q7 : Sl), NameOk w ∧ w ∉ ns ∧ nowB (some q6) = true ∧ nowB (some q7) = true ∧ δ = [.fz (.st l), .fz (.int n), .fz (.lst (ws1.map D.str)), .ow (.lst (ns.map D.str)), .fz (.int ns.length), .fz (.str w), q6, q7], ?_, ?_⟩
      · simp_arith [inD_strs, flat_strs]
        refine ⟨rfl, ?_⟩
        by_cases hz : w ∈ ns
        · rw [if_pos hz, strD_letters]
          refine ⟨n7, by rw [List.length_map, List.length_range']; decide, ?_⟩
          refine lcGo_filterG (fun c => decide (L2.cutS w none (some 7) ++ oneS c ∉ ns)) (fun c => D.str (L2.cutS w none (some 7) ++ oneS c)) _ _ _ (fun c hc k hk => ?_) ?_
          · have hw2 := hw.2.1
            have : (L2.cutS w none (some 7)).length ≤ 7 := by rw [len_list, cut7, List.length_take]; omega
            have : (oneS c).length = 1 := rfl
            simp_arith [inD_strs, flat_strs]
            refine ⟨by omega, by omega, rfl, ?_⟩
            by_cases hc2 : L2.cutS w none (some 7) ++ oneS c ∈ ns
            · rw [if_neg (by simpa using hc2)]
              rwa [if_neg (by simpa using hc2)] at hk
            · rw [if_pos (by simpa using hc2)]
              rw [if_pos (by simpa using hc2)] at hk
              exact ⟨by omega, by omega, hk⟩
          · rw [List.nil_append]
            simp_arith
            have e1 : (List.map (fun c => D.str (L2.cutS w none (some 7) ++ oneS c)) (List.filter (fun c => decide (L2.cutS w none (some 7) ++ oneS c ∉ ns)) (List.range' 97 26))) = ((cand2 w).filter fun z => decide (z ∉ ns)).map D.str := by
              unfold cand2
              rw [List.filter_map, List.map_map]
              rfl
            rw [e1]
            obtain ⟨s, r, hsr⟩ := List.exists_cons_of_ne_nil (cand2_free (w := w) (found := ns) (by omega))
            have hs : s ∈ (cand2 w).filter fun z => decide (z ∉ ns) := by rw [hsr]; exact List.mem_cons_self
            rw [List.mem_filter, decide_eq_true_eq] at hs
            rw [hsr]
            exact ⟨.str s, by rw [List.map_cons]; exact at_0, ⟨s, _, _, cand_ok hw s (List.mem_cons_of_mem _ hs.1), hs.2, n6, n7, rfl, rfl, rfl⟩⟩
        · rw [if_neg hz]
          exact ⟨w, _, _, hw, hz, n6, n7, rfl, rfl, rfl⟩
      · rintro _ ⟨w, q6, q7, hw, hnw, n6, n7, rfl⟩
        simp_arith [List.length_map]
        refine ⟨by omega, ?_⟩
        refine hn _ ⟨ns ++ [w], _, _, _, _, by rw [List.map_append]; rfl, n6, n7, ?_, ?_, by rw [List.length_append]; rfl⟩
        · rw [List.nodup_append]
          refine ⟨nd, by simp, fun a ha b hb e => ?_⟩
          rw [List.mem_singleton] at hb
          rw [e, hb] at ha
          exact hnw ha
        · intro z hz
          rcases List.mem_append.mp hz with hz | hz
          · exact hok z hz
          · rw [List.mem_singleton] at hz
            rw [hz]
            exact hw
  · rintro _ ⟨ns, q4, q5, q6, q7, rfl, n6, n7, nd, hok, hlen⟩
    simp_arith
    exact hK ns nd hok (by omega)
end F1
set_option maxRecDepth 100000
set_option maxHeartbeats 4000000
/-! ### the fourth family of draws -/
open PySem G
namespace F4
open PySem G R
open F2 (ones_of strD_letters len_ones low_letters)
abbrev sp__law_draw : Spc := F2.sp__law_draw
abbrev sp__law_pick : Spc := F2.sp__law_pick
abbrev sp__law_mixed : Spc := F2.sp__law_mixed
abbrev sp__law_slip : Spc := F2.sp__law_slip
abbrev sp__law_crew : Spc := F2.sp__law_names
abbrev sp__law_marks : Spc := fun ds K _ => ∃ l, ∃ ns : List Str, ds = [.st l, .lst (ns.map D.str)] ∧ ns.Nodup ∧ 1 ≤ ns.length ∧ ns.length ≤ 12 ∧ ∀ f, K true (.dic (dicF ns f))
def N__law_draw : List Str := ["_law_state", "_law_size", "_law_cells", "_law_at", "_law_cell"]
def c__law_draw : S := .cons (.asg 2 false (.ix (.var 0) (.k (.int 0)))) (.cons (.asg 3 false (.bin .Mod (.ix (.var 0) (.k (.int 1))) (.bn .len (.cons (.var 2) (.nil))))) (.cons (.asg 4 false (.ix (.var 2) (.var 3))) (.cons (.ifs (.cmp .GtE (.var 4) (.bin .Pow (.k (.int 10)) (.k (.int 18)))) (.cons (.setSt (.var 2) (.var 3) (.bin .FloorDiv (.var 4) (.var 1))) (.cons (.ret (.bin .Mod (.var 4) (.var 1))) (.nil))) (.nil)) (.cons (.setSt (.var 0) (.k (.int 1)) (.bin .Add (.ix (.var 0) (.k (.int 1))) (.k (.int 1)))) (.cons (.setSt (.var 0) (.k (.int 2)) (.bin .Mod (.bin .Add (.bin .Add (.bin .Mult (.ix (.var 0) (.k (.int 2))) (.k (.int 48271))) (.var 4)) (.k (.int 12345))) (.k (.int 2147483647)))) (.cons (.ret (.bin .Mod (.bin .FloorDiv (.bin .Mod (.bin .Mult (.ix (.var 0) (.k (.int 2))) (.ix (.var 0) (.k (.int 2)))) (.k (.int 2147483629))) (.k (.int 16))) (.var 1))) (.nil)))))))
def N__law_pick : List Str := ["_law_state", "_law_some"]
def c__law_pick : S := .cons (.ret (.ix (.var 1) (.call "_law_draw" ⟨2, sp__law_draw⟩ (.cons (.var 0) (.cons (.bn .len (.cons (.var 1) (.nil))) (.nil)))))) (.nil)
def N__law_mixed : List Str := ["_law_state", "_law_some", "_law_rest", "_law_found"]
def c__law_mixed : S := .cons (.par2 2 true 3 true (.cons (.bn .list (.cons (.var 1) (.nil))) (.cons (.lst (.nil)) (.nil)))) (.cons (.whl (.cmp .NotEq (.var 2) (.lst (.nil))) (.cons (.mutP1 3 2 .popAt (.cons (.call "_law_draw" ⟨2, sp__law_draw⟩ (.cons (.var 0) (.cons (.bn .len (.cons (.var 2) (.nil))) (.nil)))) (.nil))) (.nil))) (.cons (.ret (.var 3)) (.nil)))
def N__law_crew : List Str := ["_law_state", "_law_many", "_law_own", "_law_lap", "_law_letters", "_law_found", "_law_said", "_law_others", "_law_size", "_law_way", "_law_sign", "_law_name"]
def c__law_crew : S := .cons (.asg 2 false (.lst (.cons (.k (.str "ring")) (.cons (.k (.str "round")) (.cons (.k (.str "watch")) (.cons (.k (.str "more")) (.cons (.k (.str "go")) (.cons (.k (.str "may")) (.cons (.k (.str "sure")) (.cons (.k (.str "names")) (.cons (.k (.str "come")) (.cons (.k (.str "none")) (.cons (.k (.str "slip")) (.cons (.k (.str "then")) (.nil))))))))))))))) (.cons (.parT [(4, false), (5, true)] (.cons (.k (.str "abcdefghijklmnopqrstuvwxyz")) (.cons (.lst (.nil)) (.nil)))) (.cons (.for_ (.one 3) (.irange (.cons (.var 1) (.nil))) (.cons (.par2 8 false 9 false (.cons (.ix (.lst (.cons (.k (.int 1)) (.cons (.k (.int 2)) (.cons (.k (.int 8)) (.cons (.bin .Add (.k (.int 1)) (.call "_law_draw" ⟨2, sp__law_draw⟩ (.cons (.var 0) (.cons (.k (.int 8)) (.nil))))) (.nil)))))) (.call "_law_draw" ⟨2, sp__law_draw⟩ (.cons (.var 0) (.cons (.k (.int 4)) (.nil))))) (.cons (.call "_law_draw" ⟨2, sp__law_draw⟩ (.cons (.var 0) (.cons (.k (.int 4)) (.nil)))) (.nil)))) (.cons (.asg 6 false (.bm .join (.k (.str "")) (.cons (.lc [("_law_sign", 10)] (.one 10) (.irange (.cons (.var 8) (.nil))) (.no) (.call "_law_pick" ⟨2, sp__law_pick⟩ (.cons (.var 0) (.cons (.var 4) (.nil))))) (.nil)))) (.cut (.ifs (.cmp .Eq (.var 9) (.k (.int 0))) (.cons (.asg 6 false (.call "_law_pick" ⟨2, sp__law_pick⟩ (.cons (.var 0) (.cons (.var 2) (.nil))))) (.nil)) (.nil)) (.cut (.ifs (.and (.cmp .Eq (.var 9) (.k (.int 1))) (.one (.cmp .NotEq (.var 5) (.lst (.nil))))) (.cons (.asg 6 false (.ix (.var 5) (.neg (.k (.int 1))))) (.nil)) (.nil)) (.cons (.asg 7 false (.bin .Add (.lst (.cons (.var 6) (.nil))) (.lc [("_law_sign", 10)] (.one 10) (.iseq (.var 4)) (.no) (.bin .Add (.sl (.var 6) (.no) (.opt (.k (.int 7)))) (.var 10))))) (.cons (.mut1 5 .append (.cons (.ix (.lc [("_law_name", 11)] (.one 11) (.iseq (.var 7)) (.opt (.cmp .NotIn (.var 11) (.var 5))) (.var 11)) (.k (.int 0))) (.nil))) (.nil)))))))) (.cons (.ret (.call "_law_mixed" ⟨2, sp__law_mixed⟩ (.cons (.var 0) (.cons (.var 5) (.nil))))) (.nil))))
def N__law_slip : List Str := ["_law_state", "_law_kind", "_law_number", "_law_turn"]
def c__law_slip : S := .cons (.asg 1 false (.call "_law_draw" ⟨2, sp__law_draw⟩ (.cons (.var 0) (.cons (.k (.int 6)) (.nil))))) (.cons (.asg 2 false (.call "_law_draw" ⟨2, sp__law_draw⟩ (.cons (.var 0) (.cons (.ix (.lst (.cons (.k (.int 3)) (.cons (.k (.int 13)) (.cons (.k (.int 27721)) (.cons (.k (.int 40)) (.cons (.k (.int 1000000)) (.cons (.k (.int 10)) (.nil)))))))) (.var 1)) (.nil))))) (.cut (.ifs (.cmp .Eq (.var 1) (.k (.int 3))) (.cons (.asg 2 false (.bin .Add (.bin .Mult (.var 2) (.k (.int 27720))) (.call "_law_draw" ⟨2, sp__law_draw⟩ (.cons (.var 0) (.cons (.k (.int 3)) (.nil)))))) (.nil)) (.nil)) (.cut (.ifs (.cmp .Eq (.var 1) (.k (.int 5))) (.cons (.for_ (.one 3) (.irange (.cons (.call "_law_draw" ⟨2, sp__law_draw⟩ (.cons (.var 0) (.cons (.k (.int 9)) (.nil)))) (.nil))) (.cons (.asg 2 false (.bin .Add (.bin .Mult (.var 2) (.bin .Pow (.k (.int 10)) (.k (.int 7)))) (.call "_law_draw" ⟨2, sp__law_draw⟩ (.cons (.var 0) (.cons (.bin .Pow (.k (.int 10)) (.k (.int 7))) (.nil)))))) (.nil))) (.nil)) (.nil)) (.cons (.ret (.bin .Mult (.var 2) (.ix (.lst (.cons (.k (.int 1)) (.cons (.k (.int 1)) (.cons (.neg (.k (.int 1))) (.nil))))) (.call "_law_draw" ⟨2, sp__law_draw⟩ (.cons (.var 0) (.cons (.k (.int 3)) (.nil))))))) (.nil)))))
def N__law_marks : List Str := ["_law_state", "_law_crew_here", "_law_found", "_law_name"]
def c__law_marks : S := .cons (.asgLc 2 false [("_law_name", 3)] (.one 3) (.iseq (.var 1)) (.no) (.call "_law_slip" ⟨1, sp__law_slip⟩ (.cons (.var 0) (.nil)))) (.cons (.ifs (.cmp .Eq (.call "_law_draw" ⟨2, sp__law_draw⟩ (.cons (.var 0) (.cons (.k (.int 8)) (.nil)))) (.k (.int 0))) (.cons (.asg 2 false (.bin .Mult (.sl (.var 2) (.no) (.opt (.k (.int 1)))) (.bn .len (.cons (.var 1) (.nil))))) (.nil)) (.nil)) (.cons (.ret (.dz (.cons (.var 1) (.cons (.var 2) (.nil))))) (.nil)))
theorem vc__law_draw : VC ⟨2, sp__law_draw⟩ N__law_draw c__law_draw := by
  rintro ds K X hl ⟨l, m, rfl, h1, h2, hK⟩
  unfold c__law_draw N__law_draw
  simp_arith
  intro n hn l1 l2
  have hl0 : (l : Int) ≠ 0 := by omega
  have hl1 : (0 : Int) < l := by omega
  refine ⟨hl1, fun _ _ => ⟨Int.emod_nonneg n hl0, Int.emod_lt_of_pos n hl1, fun z hz hz2 => ⟨by unfold L2.CPow; decide, ?_⟩⟩⟩
  have hm0 : m ≠ 0 := by omega
  have hm1 : 0 < m := by omega
  by_cases hc : 10 ^ 18 ≤ z
  · rw [if_pos hc]
    refine ⟨DivOk.of hm1 (Nat.lt_of_le_of_lt (show m.natAbs ≤ 10 ^ 200 by omega) (Nat.lt_of_lt_of_le (show 10 ^ 200 < 2 ^ 700 by decide) (Nat.pow_le_pow_right (by decide) (by decide)))), fun _ _ => ⟨Int.emod_nonneg n hl0, Int.emod_lt_of_pos n hl1⟩, Int.ediv_nonneg hz (Int.le_of_lt hm1), Nat.lt_of_le_of_lt (Int.natAbs_ediv_le_natAbs z m) hz2, hm1, hK _ (Int.emod_nonneg z hm0) (Int.emod_lt_of_pos z hm1)⟩
  · rw [if_neg hc]
    clear hz2
    refine fun a ha => ⟨by omega, fun b hb hb2 => ⟨MulOk.right (by decide) (by decide), Int.emod_lt_of_pos _ (by decide), Int.emod_nonneg _ (by decide), fun d hd hd2 e he he2 => ⟨MulOk.left (by omega) (by omega), DivOk.small (by decide) (by decide), hm1, hK _ (Int.emod_nonneg _ hm0) (Int.emod_lt_of_pos _ hm1)⟩⟩⟩
theorem vc__law_pick : VC ⟨2, sp__law_pick⟩ N__law_pick c__law_pick := F2.vc__law_pick
theorem vc__law_mixed : VC ⟨2, sp__law_mixed⟩ N__law_mixed c__law_mixed := F2.vc__law_mixed
theorem vc__law_slip : VC ⟨1, sp__law_slip⟩ N__law_slip c__law_slip := by
  rintro ds K X hl ⟨l, rfl, hK⟩
  unfold c__law_slip N__law_slip
  simp_arith
  refine ⟨l, _, rfl, by decide, by decide, fun x h0 h1 => ?_⟩
  simp_arith
  obtain ⟨d, hd1, hd2⟩ := at_in (xs := [D.int 3, D.int 13, D.int 27721, D.int 40, D.int 1000000, D.int 10]) h0 h1
  have hd3 : ∃ m : Int, d = .int m ∧ 1 ≤ m ∧ m ≤ 1000000 := by
    simp only [List.mem_cons, List.not_mem_nil, or_false] at hd2
    rcases hd2 with rfl | rfl | rfl | rfl | rfl | rfl <;> exact ⟨_, rfl, by omega, by omega⟩
  obtain ⟨m, rfl, hm1, hm2⟩ := hd3
  refine ⟨_, hd1, ?_⟩
  refine ⟨l, _, rfl, by omega, by omega, fun y y0 y1 => ?_⟩
  simp_arith
  refine ⟨fun δ => ∃ y : Int, δ = [.fz (.st l), .fz (.int x), .fz (.int y), .un], ?_, ?_⟩
  · by_cases hx : x = 3
    · rw [if_pos hx]
      refine ⟨MulOk.right (by decide) (by decide), l, _, rfl, by decide, by decide, fun z z0 z1 => ?_⟩
      simp_arith
    · rw [if_neg hx]
      exact ⟨_, rfl⟩
  · rintro _ ⟨y, rfl⟩
    simp_arith
    refine ⟨fun δ => ∃ (y : Int) (q : Sl), δ = [.fz (.st l), .fz (.int x), .fz (.int y), q], ?_, ?_⟩
    · by_cases hx : x = 5
      · rw [if_pos hx]
        refine ⟨l, _, rfl, by decide, by decide, fun z z0 z1 => ?_⟩
        simp_arith
        refine ⟨⟨by decide, by decide, by decide, by decide, by omega, by omega⟩, ?_⟩
        refine for_range (fun j δ => ∃ (y : Int) (q : Sl), δ = [.fz (.st l), .fz (.int x), .fz (.int y), q]) ⟨_, _, rfl⟩ ?_ ?_
        · rintro j _ nx' hj ⟨y, q, rfl⟩ hn
          refine ⟨_, rfl, ?_⟩
          simp_arith
          refine ⟨by unfold L2.CPow; decide, MulOk.right (by decide) (by decide), by unfold L2.CPow; decide, l, _, rfl, by decide, by decide, fun w w0 w1 => ?_⟩
          simp_arith
          exact hn _ ⟨_, _, rfl⟩
        · rintro _ ⟨y, q, rfl⟩
          simp_arith
      · rw [if_neg hx]
        exact ⟨_, _, rfl⟩
    · rintro _ ⟨y, q, rfl⟩
      simp_arith
      refine ⟨l, _, rfl, by decide, by decide, fun z z0 z1 => ?_⟩
      simp_arith
      obtain ⟨d, hd1, hd2⟩ := at_in (xs := [D.int 1, D.int 1, D.int (-1)]) z0 z1
      have hd3 : ∃ m : Int, d = .int m ∧ -1 ≤ m ∧ m ≤ 1 := by
        simp only [List.mem_cons, List.not_mem_nil, or_false] at hd2
        rcases hd2 with rfl | rfl | rfl <;> exact ⟨_, rfl, by omega, by omega⟩
      obtain ⟨m, rfl, hm1, hm2⟩ := hd3
      refine ⟨_, hd1, ?_⟩
      simp_arith
      exact ⟨MulOk.right (by omega) (by omega), hK _⟩
theorem ws_crew : ∀ s ∈ (["ring", "round", "watch", "more", "go", "may", "sure", "names", "come", "none", "slip", "then"] : List Str), NameOk s := by
  intro s hs
  have : ∀ s ∈ (["ring", "round", "watch", "more", "go", "may", "sure", "names", "come", "none", "slip", "then"] : List Str), 1 ≤ s.length ∧ s.length ≤ 8 ∧ ∀ c ∈ s.cps.toList, 97 ≤ c ∧ c ≤ 122 := by decide +kernel
  exact this s hs
def ws4 : List Str := ["ring", "round", "watch", "more", "go", "may", "sure", "names", "come", "none", "slip", "then"]
theorem vc__law_crew : VC ⟨2, sp__law_crew⟩ N__law_crew c__law_crew := by
  rintro ds K X hl ⟨l, n, rfl, h0, h1, hK⟩
  unfold c__law_crew N__law_crew
  simp_arith
  refine ⟨⟨by decide, by decide, by decide, by decide, by omega, by omega⟩, ?_⟩
  refine for_range (fun j δ => ∃ (ns : List Str) (q3 q6 q7 q8 q9 q10 q11 : Sl), δ = [.fz (.st l), .fz (.int n), .fz (.lst (ws4.map D.str)), q3, .fz (.str "abcdefghijklmnopqrstuvwxyz"), .ow (.lst (ns.map D.str)), q6, q7, q8, q9, q10, q11] ∧ nowB (some q10) = true ∧ nowB (some q11) = true ∧ ns.Nodup ∧ (∀ s ∈ ns, NameOk s) ∧ ns.length = j) ⟨[], _, _, _, _, _, _, _, rfl, rfl, rfl, by simp, by simp, rfl⟩ ?_ ?_
  · rintro j _ nx' hj ⟨ns, q3, q6, q7, q8, q9, q10, q11, rfl, n10, n11, nd, hok, rfl⟩ hn
    refine ⟨_, rfl, ?_⟩
    simp_arith
    refine ⟨l, _, rfl, by decide, by decide, fun x x0 x1 => ?_⟩
    simp_arith
    refine ⟨l, _, rfl, by decide, by decide, fun y y0 y1 => ?_⟩
    simp_arith
    obtain ⟨d, hd1, hd2⟩ := at_in (xs := [D.int 1, D.int 2, D.int 8, D.int (1 + x)]) y0 y1
    have hd3 : ∃ m : Int, d = .int m ∧ 1 ≤ m ∧ m ≤ 8 := by
      simp only [List.mem_cons, List.not_mem_nil, or_false] at hd2
      rcases hd2 with rfl | rfl | rfl | rfl <;> exact ⟨_, rfl, by omega, by omega⟩
    obtain ⟨size, rfl, hm1, hm2⟩ := hd3
    refine ⟨_, hd1, l, _, rfl, by decide, by decide, fun way w0 w1 => ?_⟩
    simp_arith
    refine ⟨n10, ⟨by decide, by decide, by decide, by decide, by omega, by omega⟩, ?_⟩
    have hn8 : (rgN 0 size 1) = size.toNat := by rw [rgN_one, Int.sub_zero]
    refine ⟨by rw [List.length_map, rgL_one, List.length_map, List.length_range, hn8]; omega, ?_⟩
    refine lcGo_any (P := fun e => ∃ c, low c ∧ e = .str (oneS c)) _ _ _ (fun d hd k hk => ?_) fun es hes hP => ?_
    · simp_arith
      refine .inl ⟨l, _, rfl, by decide, by decide, fun c hc => ?_⟩
      simp_arith
      exact hk _ ⟨c, low_letters c hc, rfl⟩
    rw [List.nil_append]
    obtain ⟨cs, rfl, hcs⟩ := ones_of hP
    rw [List.length_map, List.length_map, List.length_map, rgL_one, List.length_map, List.length_range, hn8] at hes
    have hw0 : NameOk ((Str.ofString "").join (List.map oneS cs)) := nameOk_of (cs := cs) join_ones (by omega) (by omega) hcs
    simp_arith
    refine ⟨by rw [len_ones, List.length_map]; show cs.length + cs.length * 0 ≤ _; omega, ?_⟩
    refine ⟨fun δ => ∃ w : Str, NameOk w ∧ δ = [.fz (.st l), .fz (.int n), .fz (.lst (ws4.map D.str)), .fz (.int ns.length), .fz (.str "abcdefghijklmnopqrstuvwxyz"), .ow (.lst (ns.map D.str)), .fz (.str w), q7, .fz (.int size), .fz (.int way), q10, q11], ?_, ?_⟩
    · simp_arith
      by_cases hy : way = 0
      · rw [if_pos hy]
        refine .inr ⟨l, _, rfl, by decide, by decide, fun d hd => ?_⟩
        obtain ⟨w, hw, rfl⟩ := List.mem_map.mp hd
        simp_arith
        exact ws_crew w hw
      · rw [if_neg hy]
        exact hw0
    rintro _ ⟨w, hw, rfl⟩
    simp_arith
    refine ⟨fun δ => ∃ w : Str, NameOk w ∧ δ = [.fz (.st l), .fz (.int n), .fz (.lst (ws4.map D.str)), .fz (.int ns.length), .fz (.str "abcdefghijklmnopqrstuvwxyz"), .ow (.lst (ns.map D.str)), .fz (.str w), q7, .fz (.int size), .fz (.int way), q10, q11], ?_, ?_⟩
    · simp_arith [shL_strs, eqL_isNil]
      by_cases hy : way = 1
      · rw [if_pos hy]
        by_cases he : ns = []
        · rw [if_neg (by rw [he]; simp)]
          exact hw
        · rw [if_pos (by cases ns with | nil => exact absurd rfl he | cons a b => rfl)]
          have hla := lastD he
          exact ⟨_, at_last (by rw [List.getLast?_map, hla.1]; rfl), _, hok _ hla.2, rfl⟩
      · rw [if_neg hy]
        exact hw
    rintro _ ⟨w, hw, rfl⟩
    simp_arith [strD_letters]
    refine ⟨n10, by rw [List.length_map, List.length_range']; decide, ?_⟩
    refine lcGo_mapG (fun c => D.str (L2.cutS w none (some 7) ++ oneS c)) _ _ _ (fun c hc k hk => ?_) ?_
    · simp_arith
      have := hw.2.1
      have : (L2.cutS w none (some 7)).length ≤ 7 := by rw [len_list, cut7, List.length_take]; omega
      have : (oneS c).length = 1 := rfl
      exact ⟨by omega, by omega, hk⟩
    have e1 : [D.str w] ++ ([] ++ List.map (fun c => D.str (L2.cutS w none (some 7) ++ oneS c)) (List.range' 97 26)) = (cands w).map D.str := by
      unfold cands
      rw [List.nil_append, List.map_cons, List.map_map]
      rfl
    have l1 : (cands w).length = 27 := by unfold cands; rw [List.length_cons, List.length_map, List.length_range']
    simp only [kLcE, m_kB2, Rd_own, b_AddL]
    rw [e1]
    refine ⟨by simp; decide, ?_⟩
    simp_arith [List.length_map, l1]
    refine ⟨n11, ?_⟩
    refine lcGo_filterG (fun z => decide (z ∉ ns)) D.str _ _ _ (fun s hs' k hk => ?_) ?_
    · simp_arith [inD_strs, flat_strs]
      by_cases hz : s ∈ ns
      · simp only [hz, not_true_eq_false, decide_true, decide_false, if_false, Bool.not_true, Bool.false_eq_true, flatD] at hk ⊢
        exact ⟨trivial, hk⟩
      · simp only [hz, not_false_eq_true, decide_false, decide_true, if_true, Bool.not_false, flatD] at hk ⊢
        exact ⟨trivial, hk⟩
    rw [List.nil_append]
    simp_arith
    have hfree := cand_free (w := w) (found := ns) (by omega)
    obtain ⟨s, r, hsr⟩ := List.exists_cons_of_ne_nil hfree
    have hs : s ∈ (cands w).filter fun z => decide (z ∉ ns) := by rw [hsr]; exact List.mem_cons_self
    rw [List.mem_filter, decide_eq_true_eq] at hs
    rw [hsr]
    refine ⟨.str s, by rw [List.map_cons]; exact at_0, by rw [List.length_map]; omega, ?_⟩
    refine hn _ ⟨ns ++ [s], _, _, _, _, _, _, _, by rw [List.map_append]; rfl, n10, n11, ?_, ?_, by rw [List.length_append]; rfl⟩
    · rw [List.nodup_append]
      refine ⟨nd, by simp, fun a ha b hb e => ?_⟩
      rw [List.mem_singleton] at hb
      rw [e, hb] at ha
      exact hs.2 ha
    · intro z hz
      rcases List.mem_append.mp hz with hz | hz
      · exact hok z hz
      · rw [List.mem_singleton] at hz
        rw [hz]
        exact cand_ok hw s hs.1
  · rintro _ ⟨ns, q3, q6, q7, q8, q9, q10, q11, rfl, n10, n11, nd, hok, hlen⟩
    simp_arith
    refine ⟨l, _, ns, rfl, .inl rfl, by omega, fun ms hp => ?_⟩
    simp_arith
    refine ⟨imm_strs, ?_⟩
    exact hK ms (hp.nodup_iff.mpr nd) (fun s hs => hok s (hp.mem_iff.mp hs)) (by rw [hp.length_eq]; omega)
theorem zip_mapI {g : Str → Int} : ∀ {ns : List Str}, (ns.map (Sum.inr : Str → L2.Key)).zip ((ns.map g).map D.int) = dicF ns g
  | [] => rfl
  | n :: ns => by
    rw [List.map_cons, List.map_cons, List.map_cons, List.zip_cons_cons, zip_mapI]; rfl
def valAt (ns : List Str) (zs : List Int) (n : Str) : Int := zs.getD (pos ns n) 0
theorem map_val {ns : List Str} {zs : List Int} (nd : ns.Nodup) (hl : ns.length = zs.length) : ns.map (valAt ns zs) = zs := by
  refine List.ext_getElem (by simp [hl]) fun i h1 h2 => ?_
  rw [List.getElem_map]
  have h3 : i < ns.length := by omega
  unfold valAt
  rw [pos_get nd h3]
  simp [List.getD, h2]
theorem zip_val {ns : List Str} {zs : List Int} (nd : ns.Nodup) (hl : ns.length = zs.length) : (ns.map (Sum.inr : Str → L2.Key)).zip (zs.map D.int) = dicF ns (valAt ns zs) := by
  conv => lhs; rw [← map_val nd hl]
  exact zip_mapI
theorem ints_of : ∀ {es : List D}, (∀ e ∈ es, ∃ z : Int, e = .int z) → ∃ zs : List Int, es = zs.map D.int
  | [], _ => ⟨[], rfl⟩
  | e :: es, h => by
    obtain ⟨z, rfl⟩ := h e List.mem_cons_self
    obtain ⟨zs, rfl⟩ := ints_of (es := es) fun e he => h e (List.mem_cons_of_mem _ he)
    exact ⟨z :: zs, rfl⟩
theorem vc__law_marks : VC ⟨2, sp__law_marks⟩ N__law_marks c__law_marks := by
  rintro ds K X hl ⟨l, ns, rfl, nd, h1, h12, hK⟩
  unfold c__law_marks N__law_marks
  simp_arith [List.length_map]
  refine ⟨by omega, lcGo_any (P := fun e => ∃ z : Int, e = .int z) _ _ _ (fun d hd k hk => ?_) fun es hes hP => ?_⟩
  · obtain ⟨n, hn, rfl⟩ := List.mem_map.mp hd
    simp_arith
    refine ⟨l, rfl, fun z => ?_⟩
    simp_arith
    exact hk _ ⟨z, rfl⟩
  rw [List.nil_append]
  obtain ⟨zs, rfl⟩ := ints_of hP
  rw [List.length_map, List.length_map] at hes
  simp_arith
  refine ⟨l, _, rfl, by decide, by decide, fun y y0 y1 => ?_⟩
  simp_arith
  have fin : ∀ zs' : List Int, ns.length = zs'.length → ∃ ks, keysD (List.map D.str ns) = some ks ∧ ks.length = (List.map D.int zs').length ∧ K true (D.dic (mergeD [] (ks.zip (List.map D.int zs')))) := fun zs' h => by
    refine ⟨_, keysD_strs, by rw [List.length_map, List.length_map]; exact h, ?_⟩
    rw [zip_val nd h, merge_F0 nd]
    exact hK _
  by_cases hy : y = 0
  · rw [if_pos hy]
    obtain ⟨z, r, rfl⟩ : ∃ z r, zs = z :: r := by
      cases zs with
      | nil => rw [List.length_nil] at hes; omega
      | cons z r => exact ⟨z, r, rfl⟩
    have e1 : cutL (List.map D.int (z :: r)) none (some 1) = [D.int z] := by
      rw [cut_to (by omega) (by rw [List.length_map, List.length_cons]; omega)]; rfl
    have e2 : (List.replicate ns.length [D.int z]).flatten = (List.replicate ns.length z).map D.int := by
      generalize ns.length = k
      induction k with
      | zero => rfl
      | succ k ih => rw [List.replicate_succ, List.flatten_cons, ih, List.replicate_succ]; rfl
    rw [List.length_map, Int.toNat_natCast, e1, e2]
    exact ⟨by omega, by omega, by rw [List.length_singleton]; omega, fin _ (by rw [List.length_replicate])⟩
  · rw [if_neg hy]
    exact fin zs hes.symm
end F4
set_option maxRecDepth 100000
set_option maxHeartbeats 4000000
open PySem G
namespace F4
open PySem G R
/-- a round told -/
def rd (ns : List Str) (f : Str → Int) (b : Str) : D := .tup [.tup ((ordr ns f b).map D.str), .str (nxt ns f b)]
abbrev sp__law_goes : Spc := fun ds K _ => ∃ ns f b, ds = [.lst (ns.map D.str), .dic (dicF ns f), .str b] ∧ NamesOk ns ∧ b ∈ ns ∧ K false (rd ns f b)
abbrev sp__law_common : Spc := sp_greatest_divisor
abbrev sp__law_multiple : Spc := sp_put_together
abbrev sp__law_said_by : Spc := fun ds K _ => ∃ ns os : List Str, ds = [.lst (ns.map D.str), .tup (os.map D.str)] ∧ os.length = ns.length ∧ ns.length ≤ 1000 ∧ K true (.lst ((saidP ns.length 0 os).map prS))
abbrev sp__law_needed : Spc := fun ds K _ => ∃ ns f, ds = [.lst (ns.map D.str), .dic (dicF ns f)] ∧ NamesOk ns ∧ K true (.dic (dicF ns (needF ns f ns)))
abbrev sp__law_all_rounds : Spc := fun ds K _ => ∃ ns f, ds = [.lst (ns.map D.str), .dic (dicF ns f)] ∧ NamesOk ns ∧ K true (.lst (ns.map (rd ns f)))
abbrev sp__law_with : Spc := fun ds K _ => ∃ ns f n z, ds = [.dic (dicF ns f), .str n, .int z] ∧ n ∈ ns ∧ ns.length ≤ 1000 ∧ K true (.dic (dicF ns (setS f n z)))
def N__law_goes : List Str := ["_law_crew_here", "_law_marks_here", "_law_begin_here", "_law_rest", "_law_seat", "_law_circle", "_law_done", "_law_at"]
def c__law_goes : S := .cons (.par2 6 true 4 false (.cons (.lst (.cons (.var 2) (.nil))) (.cons (.bm .index (.var 0) (.cons (.var 2) (.nil))) (.nil)))) (.cons (.asg 3 false (.bin .Add (.sl (.var 0) (.opt (.bin .Add (.var 4) (.k (.int 1)))) (.no)) (.sl (.var 0) (.no) (.opt (.var 4))))) (.cons (.whl (.cmp .NotEq (.var 3) (.lst (.nil))) (.cons (.asg 7 false (.bin .Mod (.ix (.var 1) (.ix (.var 6) (.neg (.k (.int 1))))) (.bn .len (.cons (.var 3) (.nil))))) (.cons (.mut1 6 .append (.cons (.ix (.var 3) (.var 7)) (.nil))) (.cons (.asg 3 false (.bin .Add (.sl (.var 3) (.opt (.bin .Add (.var 7) (.k (.int 1)))) (.no)) (.sl (.var 3) (.no) (.opt (.var 7))))) (.nil))))) (.cons (.asg 4 false (.bm .index (.var 0) (.cons (.ix (.var 6) (.neg (.k (.int 1)))) (.nil)))) (.cons (.asg 5 false (.bin .Add (.sl (.var 0) (.opt (.bin .Add (.var 4) (.k (.int 1)))) (.no)) (.sl (.var 0) (.no) (.opt (.bin .Add (.var 4) (.k (.int 1))))))) (.cons (.ret (.tup (.cons (.bn .tuple (.cons (.var 6) (.nil))) (.cons (.ix (.var 5) (.bin .Mod (.ix (.var 1) (.ix (.var 6) (.neg (.k (.int 1))))) (.bn .len (.cons (.var 0) (.nil))))) (.nil))))) (.nil))))))
def N__law_common : List Str := ["_law_this", "_law_that"]
def c__law_common : S := .cons (.whl (.cmp .NotEq (.var 1) (.k (.int 0))) (.cons (.par2 0 false 1 false (.cons (.var 1) (.cons (.bin .Mod (.var 0) (.var 1)) (.nil)))) (.nil))) (.cons (.ret (.bn .abs (.cons (.var 0) (.nil)))) (.nil))
def N__law_multiple : List Str := ["_law_this", "_law_that"]
def c__law_multiple : S := .cons (.ret (.bin .FloorDiv (.bin .Mult (.var 0) (.var 1)) (.call "_law_common" ⟨2, sp__law_common⟩ (.cons (.var 0) (.cons (.var 1) (.nil)))))) (.nil)
def N__law_said_by : List Str := ["_law_crew_here", "_law_done", "_law_last", "_law_at", "_law_name"]
def c__law_said_by : S := .cons (.asg 2 false (.bin .Sub (.bn .len (.cons (.var 0) (.nil))) (.k (.int 1)))) (.cons (.ret (.lc [("_law_at", 3), ("_law_name", 4)] (.many [3, 4]) (.ienum (.var 1)) (.no) (.tup (.cons (.var 4) (.cons (.ife (.cmp .Eq (.var 3) (.var 2)) (.bn .len (.cons (.var 0) (.nil))) (.bin .Sub (.var 2) (.var 3))) (.nil)))))) (.nil))
def N__law_needed : List Str := ["_law_crew_here", "_law_marks_here", "_law_found", "_law_begin_here", "_law_name", "_law_number"]
def c__law_needed : S := .cons (.asg 2 true (.bn2 .dict (.cons (.lc [("_law_name", 4)] (.one 4) (.iseq (.var 0)) (.no) (.tup (.cons (.var 4) (.cons (.k (.int 1)) (.nil))))) (.nil)))) (.cons (.for_ (.one 3) (.iseq (.var 0)) (.cons (.for_ (.many [4, 5]) (.iseq (.call "_law_said_by" ⟨2, sp__law_said_by⟩ (.cons (.var 0) (.cons (.ix (.call "_law_goes" ⟨3, sp__law_goes⟩ (.cons (.var 0) (.cons (.var 1) (.cons (.var 3) (.nil))))) (.k (.int 0))) (.nil))))) (.cons (.setI 2 (.var 4) (.call "_law_multiple" ⟨2, sp__law_multiple⟩ (.cons (.ix (.var 2) (.var 4)) (.cons (.var 5) (.nil))))) (.nil))) (.nil))) (.cons (.ret (.var 2)) (.nil)))
def N__law_all_rounds : List Str := ["_law_crew_here", "_law_marks_here", "_law_begin_here"]
def c__law_all_rounds : S := .cons (.ret (.lc [("_law_begin_here", 2)] (.one 2) (.iseq (.var 0)) (.no) (.call "_law_goes" ⟨3, sp__law_goes⟩ (.cons (.var 0) (.cons (.var 1) (.cons (.var 2) (.nil))))))) (.nil)
def N__law_with : List Str := ["_law_marks_here", "_law_name", "_law_number", "_law_found"]
def c__law_with : S := .cons (.asg 3 true (.bn2 .dict (.cons (.var 0) (.nil)))) (.cons (.setI 3 (.var 1) (.var 2)) (.cons (.ret (.var 3)) (.nil)))
theorem vc__law_common : VC ⟨2, sp__law_common⟩ N__law_common c__law_common := by
  rintro ds K X hl ⟨a, b, rfl, h1, h2, hK⟩
  unfold c__law_common N__law_common
  simp_arith
  refine wh_rule (fun m δ => ∃ x y : Int, δ = [.fz (.int x), .fz (.int y)] ∧ 0 ≤ x ∧ 0 ≤ y ∧ y.toNat = m ∧ Int.gcd x y = Int.gcd a b) _ ⟨a, b, rfl, h1, h2, rfl, rfl⟩ ?_
  rintro m _ ⟨x, y, rfl, hx, hy, rfl, hg⟩ nx' hn
  simp_arith
  by_cases hy0 : y = 0
  · subst hy0
    rw [Int.gcd_zero_right] at hg
    simp only [ne_eq, not_true_eq_false, if_false]
    rw [← hg] at hK
    exact hK
  · rw [if_pos hy0]
    have hlt := Int.emod_lt_of_pos x (show 0 < y by omega)
    have hge := Int.emod_nonneg x hy0
    refine ⟨by omega, hn _ _ ?_ ⟨y, x % y, rfl, hy, hge, rfl, ?_⟩⟩
    · omega
    · rw [← hg, Int.gcd_comm, gcd_emod]
theorem vc__law_multiple : VC ⟨2, sp__law_multiple⟩ N__law_multiple c__law_multiple := by
  rintro ds K X hl ⟨a, b, rfl, h1, h2, h3, h4, hK⟩
  unfold c__law_multiple N__law_multiple
  simp_arith
  have gp : 0 < (Int.gcd a b : Int) := Int.natCast_pos.mpr (Int.gcd_pos_of_ne_zero_left b (by omega))
  have gl : (Int.gcd a b : Int) ≤ a := Int.gcd_le_left b (by omega)
  refine ⟨MulOk.of (big_lt (by omega) (by omega)) (big_lt (by omega) (by omega)), a, b, rfl, by omega, by omega, ?_⟩
  simp_arith
  refine ⟨DivOk.of gp (Nat.lt_of_le_of_lt (show _ ≤ 10 ^ 200 by omega) (Nat.lt_of_lt_of_le (show 10 ^ 200 < 2 ^ 700 by decide) (Nat.pow_le_pow_right (by decide) (by decide)))), ?_⟩
  have e : a * b / (Int.gcd a b : Int) = Lc a b := by
    unfold Lc
    obtain ⟨t, ht⟩ := Int.gcd_dvd_left a b
    have q : a / (Int.gcd a b : Int) = t := by
      conv => lhs; arg 1; rw [ht]
      exact Int.mul_ediv_cancel_left t (by omega)
    rw [q]
    conv => lhs; arg 1; arg 1; rw [ht]
    rw [Int.mul_assoc, Int.mul_ediv_cancel_left _ (by omega)]
  rw [e]
  exact hK
theorem vc__law_said_by : VC ⟨2, sp__law_said_by⟩ N__law_said_by c__law_said_by := by
  rintro ds K X hl ⟨ns, os, rfl, hlen, h12, hK⟩
  unfold c__law_said_by N__law_said_by
  simp_arith [List.length_map, enumD_len, hlen]
  refine ⟨by omega, lcGo_enumF (fun j x => prS (x, sayN ns.length j)) _ _ _ _ (fun j x hx kk hk => ?_) ?_⟩
  · simp_arith [List.length_map]
    rw [Nat.zero_add] at hk
    have hj : j < os.length := (List.getElem?_eq_some_iff.mp hx).1
    unfold sayN prS at hk
    by_cases hc : j < ns.length - 1
    · rw [if_neg (by omega)]
      rw [if_pos hc, show ((ns.length - j - 1 : Nat) : Int) = (ns.length : Int) - 1 - j by omega] at hk
      exact hk
    · rw [if_pos (by omega)]
      rw [if_neg hc] at hk
      exact hk
  rw [List.nil_append, mapE_said]
  exact hK
theorem vc__law_with : VC ⟨3, sp__law_with⟩ N__law_with c__law_with := by
  rintro ds K X hl ⟨ns, f, n, z, rfl, hn, h12, hK⟩
  unfold c__law_with N__law_with
  simp_arith [len_dicF]
  rw [putD_in hn]
  exact ⟨by omega, hK⟩
theorem vc__law_all_rounds : VC ⟨2, sp__law_all_rounds⟩ N__law_all_rounds c__law_all_rounds := by
  rintro ds K X hl ⟨ns, f, rfl, hns, hK⟩
  have h12 := hns.2.1
  unfold c__law_all_rounds N__law_all_rounds
  simp_arith [List.length_map]
  refine ⟨by omega, lcGo_mapG (rd ns f) _ _ _ (fun b hb k hk => ?_) ?_⟩
  · simp_arith
    refine ⟨ns, f, b, rfl, hns, hb, ?_⟩
    simp_arith
    exact hk
  · rw [List.nil_append]
    exact hK
theorem vc__law_goes : VC ⟨3, sp__law_goes⟩ N__law_goes c__law_goes := by
  rintro ds K X hl ⟨ns, f, b, rfl, hr, hb, hK⟩
  obtain ⟨p1, p2, p3⟩ := pos_at hb
  have hl2 := hr.2.1
  unfold c__law_goes N__law_goes
  simp_arith
  refine ⟨pos ns b, p1, p2, ?_⟩
  rw [cut_from (by omega) (by rw [List.length_map]; omega), cut_to (by omega) (by rw [List.length_map]; omega)]
  rw [show ((pos ns b : Int) + 1).toNat = pos ns b + 1 by omega, Int.toNat_natCast, ← List.map_drop, ← List.map_take, ← List.map_append]
  refine ⟨by rw [List.length_map, List.length_map, List.length_drop, List.length_take]; omega, ?_⟩
  refine wh_rule (fun m δ => ∃ row gs q, δ = [.fz (.lst (ns.map D.str)), .fz (.dic (dicF ns f)), .fz (.str b), .fz (.lst (row.map D.str)), .fz (.int (pos ns b)), .un, .ow (.lst (gs.map D.str)), q] ∧ m = row.length ∧ gs ≠ [] ∧ (∀ g ∈ gs, g ∈ ns) ∧ (∀ g ∈ row, g ∈ ns) ∧ row.length + gs.length = ns.length ∧ gs ++ play f row.length row (gs.getLastD Str.empty) = ordr ns f b) _
    ⟨_, [b], .un, rfl, rfl, by simp, fun g hg => by rw [List.mem_singleton] at hg; rw [hg]; exact hb, fun g hg => row_sub hg, by rw [first_len hb, List.length_singleton]; omega, by rw [first_len hb]; rfl⟩ ?_
  rintro m _ ⟨row, gs, q, rfl, rfl, hne, hg, hrow, hlen, hall⟩ nx' hn
  have hla := lastD hne
  have at1 : L2.atI (gs.map D.str) (-1) = some (.str (gs.getLastD Str.empty)) := at_last (by rw [List.getLast?_map, hla.1]; rfl)
  simp_arith [shL_strs, eqL_isNil, List.length_map]
  cases hrw : row with
  | nil =>
    rw [if_neg (by simp)]
    rw [hrw] at hall
    simp only [play, List.length_nil, List.append_nil] at hall
    have hlin : gs.getLastD Str.empty ∈ ns := hg _ hla.2
    have elst : gs.getLastD Str.empty = lst ns f b := by unfold lst; rw [← hall]
    obtain ⟨g1, g2, g3⟩ := pos_at hlin
    refine ⟨_, at1, ns, _, pos ns (gs.getLastD Str.empty), rfl, rfl, g1, g2, ?_⟩
    simp_arith [List.length_map]
    rw [cut_from (by omega) (by rw [List.length_map]; omega), cut_to (by omega) (by rw [List.length_map]; omega)]
    rw [show ((pos ns (gs.getLastD Str.empty) : Int) + 1).toNat = pos ns (gs.getLastD Str.empty) + 1 by omega, ← List.map_drop, ← List.map_take, ← List.map_append]
    refine ⟨by rw [List.length_map, List.length_map, List.length_drop, List.length_take]; omega, _, at1, _, rfl, _, getK_F hlin, ?_⟩
    have hn0 : ns ≠ [] := by intro e; rw [e] at hb; cases hb
    have hi := spot_lt (row := ns) (z := f (gs.getLastD Str.empty)) hn0
    have hge := Int.emod_nonneg (f (gs.getLastD Str.empty)) (show (ns.length : Int) ≠ 0 by omega)
    have hat := R.getD_at (xs := beh ns (gs.getLastD Str.empty)) (i := (f (gs.getLastD Str.empty) % ns.length).toNat) (by rw [beh_len]; exact hi)
    rw [Int.toNat_of_nonneg hge] at hat
    simp_arith [List.length_map]
    refine ⟨by omega, _, hat, ?_⟩
    unfold rd at hK
    rw [nxt_eq] at hK
    rw [elst, hall]
    exact hK
  | cons a t =>
    rw [← hrw]
    have hrne : row ≠ [] := by rw [hrw]; simp
    have h0 : 0 < row.length := List.length_pos_iff.mpr hrne
    rw [if_pos (by rw [hrw]; simp)]
    refine ⟨_, at1, _, rfl, _, getK_F (hg _ hla.2), ?_⟩
    have hi := spot_lt (row := row) (z := f (gs.getLastD Str.empty)) hrne
    have hge := Int.emod_nonneg (f (gs.getLastD Str.empty)) (show (row.length : Int) ≠ 0 by omega)
    have hlt := Int.emod_lt_of_pos (f (gs.getLastD Str.empty)) (show (0 : Int) < row.length by omega)
    have hat := getD_at hi
    rw [Int.toNat_of_nonneg hge] at hat
    simp_arith [List.length_map]
    refine ⟨by omega, _, hat, by omega, ?_⟩
    rw [cut_from (by omega) (by rw [List.length_map]; omega), cut_to hge (by rw [List.length_map]; omega)]
    rw [show (f (gs.getLastD Str.empty) % row.length + 1).toNat = (f (gs.getLastD Str.empty) % row.length).toNat + 1 by omega, ← List.map_drop, ← List.map_take, ← List.map_append]
    have hrl := row_len hi
    refine ⟨by rw [List.length_map, List.length_map, List.length_drop, List.length_take]; omega, hn _ _ ?_ ⟨_, gs ++ [row.getD (f (gs.getLastD Str.empty) % row.length).toNat Str.empty], _, by rw [List.map_append (l₁ := gs)]; rfl, rfl, by simp, fun g hg' => ?_, fun g hg' => hrow g (row_sub hg'), ?_, ?_⟩⟩
    · rw [hrl]; omega
    · rcases List.mem_append.mp hg' with h | h
      · exact hg g h
      · rw [List.mem_singleton] at h
        rw [h]
        refine hrow _ ?_
        rw [List.getD_eq_getElem?_getD, List.getElem?_eq_getElem hi]
        exact List.getElem_mem hi
    · rw [hrl, List.length_append, List.length_singleton]; omega
    · rw [hrl, last_snoc, List.append_assoc, ← hall]
      obtain ⟨m, hm⟩ : ∃ m, row.length = m + 1 := ⟨row.length - 1, by omega⟩
      rw [hm, Nat.add_sub_cancel]
      conv => rhs; rw [play]
      simp only [hm]
      rfl
theorem pr1_ok {os : List Str} : ((os.map fun n => D.tup [.str n, .int 1]).all isPr) = true := by
  rw [List.all_map, List.all_eq_true]
  intro p _
  rfl
theorem vc__law_needed : VC ⟨2, sp__law_needed⟩ N__law_needed c__law_needed := by
  rintro ds K X hl ⟨ns, f, rfl, hns, hK⟩
  have h12 := hns.2.1
  have nd := hns.2.2.1
  unfold c__law_needed N__law_needed
  simp_arith [List.length_map]
  refine ⟨by omega, lcGo_mapG (fun n => D.tup [.str n, .int 1]) _ _ _ (fun n hn k hk => ?_) ?_⟩
  · simp_arith
    exact hk
  rw [List.nil_append]
  simp_arith [pr1_ok, List.length_map]
  rw [pr1_dic', merge_F0 nd]
  refine ⟨by omega, ?_⟩
  refine for_mapG (fun r δ => ∃ (F : Str → Int) (q3 q4 q5 : Sl), δ = [.fz (.lst (ns.map D.str)), .fz (.dic (dicF ns f)), .ow (.dic (dicF ns F)), q3, q4, q5] ∧ Dv F ∧ r.foldl (lcR ns f) F = needF ns f ns ∧ ∀ b ∈ r, b ∈ ns) ⟨_, _, _, _, rfl, dv_one, rfl, fun _ h => h⟩ ?_ ?_
  · rintro b r _ nx' ⟨F, q3, q4, q5, rfl, hd, hf, hr⟩ hn
    have hbn := hr b List.mem_cons_self
    have hlen := ordr_len (f := f) hbn
    refine ⟨_, rfl, ?_⟩
    simp_arith
    refine ⟨ns, f, b, rfl, hns, hbn, ?_⟩
    have hsm := said_mem (n := ns.length) (os := ordr ns f b) (j := 0) (by omega)
    have hfo : (saidP ns.length 0 (ordr ns f b)).foldl lcS F = lcR ns f F b := rfl
    simp_arith [rd]
    refine ⟨ns, ordr ns f b, rfl, hlen, by omega, ?_⟩
    simp_arith
    refine for_mapG (fun r' δ => ∃ (G : Str → Int) (q4 q5 : Sl), δ = [.fz (.lst (ns.map D.str)), .fz (.dic (dicF ns f)), .ow (.dic (dicF ns G)), .fz (.str b), q4, q5] ∧ Dv G ∧ r'.foldl lcS G = lcR ns f F b ∧ ∀ p ∈ r', p.1 ∈ ns ∧ 1 ≤ p.2 ∧ p.2 ≤ 12) ⟨F, _, _, rfl, hd, hfo, fun p hp => ⟨(ordr_perm hbn).mem_iff.mp (hsm p hp).1, (hsm p hp).2.1, by have := (hsm p hp).2.2; omega⟩⟩ ?_ ?_
    · rintro p r' _ nx2 ⟨G, q4, q5, rfl, hG, hg, hp⟩ hn2
      obtain ⟨p1, p2, p3⟩ := hp p List.mem_cons_self
      refine ⟨_, rfl, ?_⟩
      simp_arith [len_dicF]
      have hle := dv_le hG p.1
      refine ⟨_, getK_F p1, G p.1, p.2, rfl, (hG _).1, by omega, by omega, by omega, ?_⟩
      simp_arith [len_dicF]
      rw [putD_in p1]
      refine ⟨by omega, hn2 _ ⟨lcS G p, _, _, rfl, dv_lcS hG p2 p3, hg, fun z hz => hp z (List.mem_cons_of_mem _ hz)⟩⟩
    · rintro _ ⟨G, q4, q5, rfl, hG, hg, hp⟩
      simp_arith
      refine hn _ ⟨G, _, _, _, rfl, hG, ?_, fun z hz => hr z (List.mem_cons_of_mem _ hz)⟩
      rw [← hf, List.foldl_cons, ← hg]
      rfl
  · rintro _ ⟨F, q3, q4, q5, rfl, hd, hf, hr⟩
    simp_arith
    rw [show F = needF ns f ns from hf]
    exact hK
theorem sh_rd {ns : List Str} {f : Str → Int} {b : Str} : sh 59 (rd ns f b) = true := by
  unfold rd
  simp_arith [shL_strs, shL_cons, shL_nil]
theorem rd_eq {ns : List Str} {f f' : Str → Int} {b : Str} (h : eqD (rd ns f' b) (rd ns f b) = true) : ordr ns f' b = ordr ns f b ∧ nxt ns f' b = nxt ns f b := by
  unfold rd at h
  rw [eqD_tup, eqL_cc, eqL_cc, eqL_nil, eqD_tup, eqL_strs, eqD_str] at h
  simpa using h
theorem rds_eq {ns : List Str} {f f' : Str → Int} : ∀ {bs : List Str}, eqL (bs.map (rd ns f')) (bs.map (rd ns f)) = true → ∀ b ∈ bs, ordr ns f' b = ordr ns f b ∧ nxt ns f' b = nxt ns f b
  | [], _, b, hb => by cases hb
  | c :: bs, h, b, hb => by
    rw [List.map_cons, List.map_cons, eqL_cc, Bool.and_eq_true] at h
    rcases List.mem_cons.mp hb with rfl | hb
    · exact rd_eq h.1
    · exact rds_eq h.2 b hb
theorem rds_same {ns : List Str} {f f' : Str → Int} {bs : List Str} (h : ∀ b ∈ bs, ordr ns f' b = ordr ns f b ∧ nxt ns f' b = nxt ns f b) : bs.map (rd ns f') = bs.map (rd ns f) := by
  refine List.map_congr_left fun b hb => ?_
  unfold rd
  rw [(h b hb).1, (h b hb).2]
theorem cut_map {α β : Type} {g : α → β} {xs : List α} {lo hi : Option Int} : cutL (xs.map g) lo hi = (cutL xs lo hi).map g := by
  unfold cutL
  rw [List.length_map, ← List.map_drop, ← List.map_take]
theorem cut_sub {α : Type} {xs : List α} {lo hi : Option Int} {x : α} (h : x ∈ cutL xs lo hi) : x ∈ xs := by
  unfold cutL at h
  exact List.mem_of_mem_drop (List.mem_of_mem_take h)
theorem rpK_F {F : Str → Int} (hF : Dv F) : ∀ {ns : List Str}, (∀ n ∈ ns, NameOk n) → rpK false true 59 (dicF ns F) = true
  | [], _ => by show rpK false true 59 [] = true; rw [rpK]
  | n :: ns, h => by
    rw [dic_cons, rpK, rpK_F hF fun m hm => h m (List.mem_cons_of_mem _ hm), keyRp, name_ok (h n List.mem_cons_self), rp]
    have h1 := dv_le hF n
    have h2 := (hF n).1
    have : (F n).natAbs.log2 < 1920 := by
      have : (F n).natAbs < 2 ^ 15 := by omega
      have h0 : (F n).natAbs ≠ 0 := by omega
      exact Nat.lt_trans ((Nat.log2_lt h0).mpr this) (by decide)
    simp [this]
theorem rpK_B {F : Str → Int} : ∀ {ns : List Str}, (∀ n ∈ ns, (F n).natAbs < 2 ^ 1900) → (∀ n ∈ ns, NameOk n) → rpK false true 59 (dicF ns F) = true
  | [], _, _ => by show rpK false true 59 [] = true; rw [rpK]
  | n :: ns, hF, h => by
    rw [dic_cons, rpK, rpK_B (fun m hm => hF m (List.mem_cons_of_mem _ hm)) fun m hm => h m (List.mem_cons_of_mem _ hm), keyRp, name_ok (h n List.mem_cons_self), rp]
    have h1 := hF n List.mem_cons_self
    have : (F n).natAbs.log2 < 1920 := by
      by_cases h0 : (F n).natAbs = 0
      · rw [h0]; decide
      · exact Nat.lt_trans ((Nat.log2_lt h0).mpr h1) (by decide)
    simp [this]
theorem wtK_F {F : Str → Int} : ∀ {ns : List Str}, (∀ n ∈ ns, NameOk n) → wtK (dicF ns F) ≤ ns.length * 2100
  | [], _ => by show wtK [] ≤ _; rw [wtK]; omega
  | n :: ns, h => by
    have ih := wtK_F (F := F) fun m hm => h m (List.mem_cons_of_mem _ hm)
    have := (h n List.mem_cons_self).2.1
    rw [dic_cons, wtK, keyWt, wt, List.length_cons]
    omega
theorem need_dv {ns : List Str} {f : Str → Int} (hns : NamesOk ns) : Dv (needF ns f ns) := by
  have h12 := hns.2.1
  have go : ∀ {bs : List Str} {F : Str → Int}, (∀ b ∈ bs, b ∈ ns) → Dv F → Dv (bs.foldl (lcR ns f) F) := by
    intro bs
    induction bs with
    | nil => intro F _ h; exact h
    | cons b bs ih =>
      intro F hb h
      rw [List.foldl_cons]
      refine ih (fun c hc => hb c (List.mem_cons_of_mem _ hc)) ?_
      have hbn := hb b List.mem_cons_self
      have hlen := ordr_len (f := f) hbn
      have hsm := said_mem (n := ns.length) (os := ordr ns f b) (j := 0) (by omega)
      unfold lcR
      generalize saidP ns.length 0 (ordr ns f b) = ps at hsm
      induction ps generalizing F with
      | nil => exact h
      | cons p ps ih2 =>
        rw [List.foldl_cons]
        have hp := hsm p List.mem_cons_self
        exact ih2 (dv_lcS h hp.2.1 (by omega)) fun q hq => hsm q (List.mem_cons_of_mem _ hq)
  exact go (fun _ h => h) dv_one
end F4
set_option maxRecDepth 100000
set_option maxHeartbeats 4000000
open PySem G
namespace K31
open PySem G R F4
abbrev sp__law_none_less : Spc := fun ds K _ => ∃ l ns f, ds = [.st l, .lst (ns.map D.str), .dic (dicF ns (leaF ns f)), .lst (ns.map (rd ns (leaF ns f)))] ∧ NamesOk ns ∧ K false (.bl true)
def N__law_none_less : List Str := ["_law_state", "_law_crew_here", "_law_lowest", "_law_rows", "_law_name", "_law_lesser", "_law_number"]
def c__law_none_less : S := .cons (.for_ (.one 4) (.iseq (.sl (.call "_law_mixed" ⟨2, sp__law_mixed⟩ (.cons (.var 0) (.cons (.var 1) (.nil)))) (.no) (.opt (.k (.int 3))))) (.cons (.asg 5 false (.lrange (.cons (.bn .min (.cons (.ix (.var 2) (.var 4)) (.cons (.k (.int 6)) (.nil)))) (.nil)))) (.cut (.ifs (.cmp .Gt (.ix (.var 2) (.var 4)) (.k (.int 0))) (.cons (.asg 5 false (.bin .Add (.var 5) (.lst (.cons (.bin .Sub (.ix (.var 2) (.var 4)) (.k (.int 1))) (.cons (.call "_law_draw" ⟨2, sp__law_draw⟩ (.cons (.var 0) (.cons (.ix (.var 2) (.var 4)) (.nil)))) (.cons (.bin .FloorDiv (.ix (.var 2) (.var 4)) (.k (.int 2))) (.nil))))))) (.nil)) (.nil)) (.cons (.for_ (.one 6) (.iseq (.var 5)) (.cons (.ifs (.cmp .Eq (.call "_law_all_rounds" ⟨2, sp__law_all_rounds⟩ (.cons (.var 1) (.cons (.call "_law_with" ⟨3, sp__law_with⟩ (.cons (.var 2) (.cons (.var 4) (.cons (.var 6) (.nil))))) (.nil)))) (.var 3)) (.cons (.ret (.k (.bl false))) (.nil)) (.nil)) (.nil))) (.nil))))) (.cons (.ret (.k (.bl true))) (.nil))
def N_law : List Str := ["_law_script", "_law_state", "_law_turn", "_law_crew_here", "_law_marks_here", "_law_told", "_law_rows", "_law_made", "_law_due", "_law_found", "_law_lowest", "_law_name"]
def c_law : S := .cons (.for_ (.one 2) (.irange (.cons (.bin .Add (.k (.int 2)) (.bn .min (.cons (.bn .len (.cons (.var 0) (.nil))) (.cons (.k (.int 4)) (.nil))))) (.nil))) (.cons (.asg 3 false (.call "_law_crew" ⟨2, sp__law_crew⟩ (.cons (.var 1) (.cons (.bin .Add (.k (.int 2)) (.call "_law_draw" ⟨2, sp__law_draw⟩ (.cons (.var 1) (.cons (.k (.int 11)) (.nil))))) (.nil))))) (.cons (.asg 4 false (.call "_law_marks" ⟨2, sp__law_marks⟩ (.cons (.var 1) (.cons (.var 3) (.nil))))) (.cons (.parT [(7, false), (8, false)] (.cons (.mk "Ring" ⟨2, sp_Ring⟩ (.cons (.var 3) (.cons (.var 4) (.nil)))) (.cons (.call "_law_needed" ⟨2, sp__law_needed⟩ (.cons (.var 3) (.cons (.var 4) (.nil)))) (.nil)))) (.cons (.asg 5 false (.call "least_of" ⟨1, sp_least_of⟩ (.cons (.var 7) (.nil)))) (.cons (.ifs (.or (.not (.isC "Ring" (.var 5))) (.or (.cmp .NotEq (.meth "Ring" "names" ⟨1, sp_Ring_names⟩ (.var 5) (.nil)) (.var 3)) (.one (.deq true (.meth "Ring" "slips" ⟨1, sp_Ring_slips⟩ (.var 7) (.nil)) (.var 4))))) (.cons (.ret (.k (.bl false))) (.nil)) (.nil)) (.cons (.par2 9 false 10 false (.cons (.meth "Ring" "slips" ⟨1, sp_Ring_slips⟩ (.var 5) (.nil)) (.cons (.bn2 .dict (.cons (.lc [("_law_name", 11)] (.one 11) (.iseq (.var 3)) (.no) (.tup (.cons (.var 11) (.cons (.bin .Mod (.ix (.var 4) (.var 11)) (.ix (.var 8) (.var 11))) (.nil))))) (.nil))) (.nil)))) (.cons (.ifs (.or (.cmp .NotEq (.repr (.cons (.var 9) (.nil))) (.repr (.cons (.var 10) (.nil)))) (.one (.not (.ieq "Ring" ⟨2, sp_Ring___eq__⟩ (.callK "least_of" ⟨1, sp_least_of⟩ 0 ["ring"] [0] (.nil) (.cons (.var 5) (.nil))) (.var 5))))) (.cons (.ret (.k (.bl false))) (.nil)) (.nil)) (.cons (.asg 6 false (.call "_law_all_rounds" ⟨2, sp__law_all_rounds⟩ (.cons (.var 3) (.cons (.var 9) (.nil))))) (.cons (.ifs (.or (.cmp .NotEq (.var 6) (.call "_law_all_rounds" ⟨2, sp__law_all_rounds⟩ (.cons (.var 3) (.cons (.var 4) (.nil))))) (.one (.not (.call "_law_none_less" ⟨4, sp__law_none_less⟩ (.cons (.var 1) (.cons (.var 3) (.cons (.var 9) (.cons (.var 6) (.nil))))))))) (.cons (.ret (.k (.bl false))) (.nil)) (.nil)) (.nil))))))))))) (.cons (.ret (.k (.bl true))) (.nil))
theorem vc__law_none_less : VC ⟨4, sp__law_none_less⟩ N__law_none_less c__law_none_less := by
  rintro ds K X hl ⟨l, ns, f, rfl, hns, hK⟩
  have h12 := hns.2.1
  have nd := hns.2.2.1
  have hs : ∀ g : Str → Int, shL 59 (ns.map (rd ns g)) = true := fun g => shL_map fun _ _ => sh_rd
  unfold c__law_none_less N__law_none_less
  simp_arith
  refine ⟨l, _, ns, rfl, .inl rfl, by omega, fun ms hp => ?_⟩
  simp_arith [cut_map]
  refine for_each (g := D.str) (fun δ => ∃ q4 q5 q6 : Sl, δ = [.fz (.st l), .fz (.lst (ns.map D.str)), .fz (.dic (dicF ns (leaF ns f))), .fz (.lst (ns.map (rd ns (leaF ns f)))), q4, q5, q6]) ⟨_, _, _, rfl⟩ ?_ ?_
  · rintro n hnm _ nx' ⟨q4, q5, q6, rfl⟩ hn
    have hnn : n ∈ ns := hp.mem_iff.mp (cut_sub hnm)
    have hlt := lea_lt (ns := ns) (f := f) (n := n)
    refine ⟨_, rfl, ?_⟩
    simp_arith
    refine ⟨_, getK_F hnn, ?_⟩
    simp_arith
    refine ⟨⟨by decide, by decide, by omega, by omega, by omega, by omega⟩, ?_, ?_⟩
    · rw [rgN_one]; omega
    rw [rgN_one, rgL_one]
    refine ⟨fun δ => ∃ (xs : List Int) (q6 : Sl), δ = [.fz (.st l), .fz (.lst (ns.map D.str)), .fz (.dic (dicF ns (leaF ns f))), .fz (.lst (ns.map (rd ns (leaF ns f)))), .fz (.str n), .fz (.lst (xs.map D.int)), q6] ∧ ∀ z ∈ xs, 0 ≤ z ∧ z < leaF ns f n, ?_, ?_⟩
    · refine ⟨_, getK_F hnn, ?_⟩
      simp_arith
      have hbase : ∀ z ∈ (List.range (min (leaF ns f n) 6 - 0).toNat).map (fun m : Nat => (m : Int)), 0 ≤ z ∧ z < leaF ns f n := fun z hz => by
        obtain ⟨m, hm, rfl⟩ := List.mem_map.mp hz
        rw [List.mem_range] at hm
        omega
      by_cases h0 : 0 < leaF ns f n
      · rw [if_pos h0]
        have hle := dv_le (need_dv (f := f) hns) n
        refine ⟨_, getK_F hnn, ?_⟩
        simp_arith
        refine ⟨_, getK_F hnn, l, _, rfl, by omega, by omega, fun r r0 r1 => ?_⟩
        simp_arith
        refine ⟨_, getK_F hnn, ?_⟩
        simp_arith [List.length_map, List.length_range]
        refine ⟨DivOk.small (by omega) (by omega), by omega, (List.range (min (leaF ns f n) 6 - 0).toNat).map (fun m : Nat => (m : Int)) ++ [leaF ns f n - 1, r, leaF ns f n / 2], _, ⟨?_, rfl⟩, fun z hz => ?_⟩
        · rw [List.map_append]; rfl
        · rcases List.mem_append.mp hz with hz | hz
          · exact hbase z hz
          · simp only [List.mem_cons, List.not_mem_nil, or_false] at hz
            rcases hz with rfl | rfl | rfl
            · omega
            · omega
            · have := Int.ediv_lt_self_of_pos_of_ne_one h0 (show (2 : Int) ≠ 1 by decide)
              omega
      · rw [if_neg h0]
        exact ⟨_, _, ⟨rfl, rfl⟩, hbase⟩
    · rintro _ ⟨xs, q6, rfl, hx⟩
      simp_arith
      refine for_each (g := D.int) (fun δ => ∃ q6 : Sl, δ = [.fz (.st l), .fz (.lst (ns.map D.str)), .fz (.dic (dicF ns (leaF ns f))), .fz (.lst (ns.map (rd ns (leaF ns f)))), .fz (.str n), .fz (.lst (xs.map D.int)), q6]) ⟨_, rfl⟩ ?_ ?_
      · rintro z hz _ nx2 ⟨q6, rfl⟩ hn2
        have hzz := hx z hz
        refine ⟨_, rfl, ?_⟩
        simp_arith
        refine ⟨ns, _, n, z, rfl, hnn, by omega, ?_⟩
        simp_arith
        refine ⟨ns, _, rfl, hns, ?_⟩
        have hne : eqL (ns.map (rd ns (setS (leaF ns f) n z))) (ns.map (rd ns (leaF ns f))) = false := by
          rw [Bool.eq_false_iff]
          intro q
          have h1 := rds_eq q
          rw [show z = leaF ns f n + (z - leaF ns f n) by omega] at h1
          have h2 := (rounds_stay (f := leaF ns f) nd hnn).mp h1
          rw [lea_need nd] at h2
          obtain ⟨t, ht⟩ := h2
          have h3 : t < 0 := by
            by_cases h : t < 0
            · exact h
            · have := Int.mul_nonneg (show 0 ≤ needF ns f ns n by omega) (show 0 ≤ t by omega)
              omega
          have h4 : needF ns f ns n * t ≤ needF ns f ns n * (-1) := Int.mul_le_mul_of_nonneg_left (by omega) (by omega)
          omega
        simp_arith [hs, hne]
        exact hn2 _ ⟨_, rfl⟩
      · rintro _ ⟨q6, rfl⟩
        simp_arith
        exact hn _ ⟨_, _, _, rfl⟩
  · rintro _ ⟨q4, q5, q6, rfl⟩
    simp_arith
    exact hK
theorem vc_law : ∀ (l : Nat) (ns : List Int), 1 ≤ l → l ≤ 63 → ns.length ≤ 63 → wS c_law (env0 N_law.length [.scr ns, .st l]) lawPst := by
  intro l sc h1 h2 h3
  unfold c_law N_law
  simp_arith
  refine ⟨⟨by decide, by decide, by decide, by decide, by omega, by omega⟩, ?_⟩
  refine for_range (fun j δ => ∃ q2 q3 q4 q5 q6 q7 q8 q9 q10 : Sl, δ = [.fz (.scr sc), .fz (.st l), q2, q3, q4, q5, q6, q7, q8, q9, q10, .un]) ⟨_, _, _, _, _, _, _, _, _, rfl⟩ ?_ ?_
  · rintro j _ nx' hj ⟨q2, q3, q4, q5, q6, q7, q8, q9, q10, rfl⟩ hn
    refine ⟨_, rfl, ?_⟩
    simp_arith
    refine ⟨l, _, rfl, by decide, by decide, fun x x0 x1 => ?_⟩
    simp_arith
    refine ⟨l, _, rfl, by omega, by omega, fun ns nd hok hlen => ?_⟩
    have hns : NamesOk ns := ⟨by omega, by omega, nd, hok⟩
    have hl12 := hns.2.1
    simp_arith
    refine ⟨l, ns, rfl, nd, by omega, by omega, fun f => ?_⟩
    simp_arith
    refine ⟨_, ns, ns, f, rfl, .inl rfl, hns, rfl, fun _ h => h, ?_⟩
    simp_arith
    refine ⟨ns, f, rfl, hns, ?_⟩
    simp_arith
    refine ⟨ns, f, rfl, hns, ?_⟩
    simp_arith [ringD]
    refine ⟨look_names, ns, _, rfl, by omega, ?_⟩
    simp_arith [shL_strs, eqL_strs, ringD]
    refine ⟨look_Slips, ns, f, rfl, ?_⟩
    simp_arith
    refine ⟨_, eqF_F rfl fun _ h => h, ?_⟩
    rw [sameF_iff.mpr fun _ _ => rfl]
    simp_arith [ringD]
    refine ⟨look_Slips, ns, _, rfl, ?_⟩
    simp_arith [List.length_map]
    refine ⟨by omega, lcGo_mapG (fun n => D.tup [.str n, .int (leaF ns f n)]) _ _ _ (fun n hn k hk => ?_) ?_⟩
    · simp_arith
      refine ⟨_, getK_F hn, _, getK_F hn, ?_⟩
      simp_arith
      exact ⟨need_pos, hk⟩
    rw [List.nil_append]
    simp_arith [prF_ok, List.length_map]
    rw [prF_dic, merge_F0 nd]
    have hdv := need_dv (f := f) hns
    have hr1 : rp false true 60 (.dic (dicF ns (leaF ns f))) = true := by
      rw [rp, rpK_B (fun n hn => ?_) hok]
      · rfl
      · have h1 := lea_lt (ns := ns) (f := f) (n := n)
        have h2 := dv_le hdv n
        exact Nat.lt_of_lt_of_le (show _ < 2 ^ 15 by omega) (Nat.pow_le_pow_right (by decide) (by decide))
    have hr2 : wt (.dic (dicF ns (leaF ns f))) ≤ 1000000 := by
      rw [wt]
      have := wtK_F (F := leaF ns f) hok
      omega
    have hs : ∀ g : Str → Int, shL 59 (ns.map (rd ns g)) = true := fun g => shL_map fun _ _ => sh_rd
    refine ⟨by omega, false, true, hr1, .inl rfl, hr2, false, true, hr1, .inl rfl, hr2, rfl, ns, _, rfl, hns, ?_⟩
    rw [lea_lea nd]
    simp_arith [ringD]
    refine ⟨ns, _, _, rfl, nd, ?_⟩
    rw [sameF_iff.mpr fun _ _ => rfl]
    simp_arith
    refine ⟨ns, _, rfl, hns, ?_⟩
    simp_arith
    refine ⟨ns, f, rfl, hns, ?_⟩
    rw [rds_same (f := f) (f' := leaF ns f) fun b hb => lea_stay nd b hb]
    simp_arith [hs, eqL_refl _ _ (hs f)]
    refine ⟨l, ns, f, by rw [rds_same (f := f) (f' := leaF ns f) fun b hb => lea_stay nd b hb], hns, ?_⟩
    simp_arith
    exact hn _ ⟨_, _, _, _, _, _, _, _, _, rfl⟩
  · rintro _ ⟨q2, q3, q4, q5, q6, q7, q8, q9, q10, rfl⟩
    simp_arith
end K31
set_option maxRecDepth 100000
set_option maxHeartbeats 4000000
namespace K31
open PySem G R F4
def topS (i : Nat) : Stmt := PySem.Challenge.pw_goersay_k31_least_slips_that_do_alike.main.body.getD i (.Pass ⟨0, 0, 0, 0⟩)
abbrev s_is_number : Stmt := topS 9
abbrev s_is_name : Stmt := topS 10
abbrev s_is_rest : Stmt := topS 11
abbrev s_require_rest : Stmt := topS 12
abbrev s_greatest_divisor : Stmt := topS 13
abbrev s_inverse_modulo : Stmt := topS 14
abbrev s_both : Stmt := topS 15
abbrev s_are_names : Stmt := topS 19
abbrev s_need_names : Stmt := topS 20
abbrev s_behind : Stmt := topS 21
abbrev s_sitting_behind : Stmt := topS 22
abbrev s_said_by : Stmt := topS 25
abbrev s_put_together : Stmt := topS 26
abbrev s_needs_of : Stmt := topS 27
abbrev s_needs : Stmt := topS 28
abbrev s_least_of : Stmt := topS 29
abbrev s__law_begin : Stmt := topS 31
abbrev s__law_draw : Stmt := topS 32
abbrev s__law_pick : Stmt := topS 33
abbrev s__law_mixed : Stmt := topS 34
abbrev s__law_crew : Stmt := topS 35
abbrev s__law_slip : Stmt := topS 36
abbrev s__law_marks : Stmt := topS 37
abbrev s__law_goes : Stmt := topS 38
abbrev s__law_common : Stmt := topS 39
abbrev s__law_multiple : Stmt := topS 40
abbrev s__law_said_by : Stmt := topS 41
abbrev s__law_needed : Stmt := topS 42
abbrev s__law_all_rounds : Stmt := topS 43
abbrev s__law_with : Stmt := topS 44
abbrev s__law_none_less : Stmt := topS 45
abbrev s_law : Stmt := topS 46
abbrev s_Ring___init__ : Stmt := L2.inClass (topS 23) 0
abbrev s_Ring___eq__ : Stmt := L2.inClass (topS 23) 1
abbrev s_Ring_need_name : Stmt := L2.inClass (topS 23) 3
abbrev s_Ring_names : Stmt := L2.inClass (topS 23) 4
abbrev s_Ring_slips : Stmt := L2.inClass (topS 23) 5
abbrev s_Ring_slip : Stmt := L2.inClass (topS 23) 6
abbrev s_Ring_order : Stmt := L2.inClass (topS 23) 7
def N__law_begin : List Str := ["_law_script", "_law_cell"]
def Bs : List Str := ["abs", "all", "bool", "dict", "enumerate", "int", "isinstance", "len", "list", "min", "range", "repr", "set", "str", "tuple", "zip"]
structure Txt (K : PySem.W.Frag) (aRing : Addr) : Prop where
  t_is_number : FnTxt K "is_number" s_is_number
  t_is_name : FnTxt K "is_name" s_is_name
  t_is_rest : FnTxt K "is_rest" s_is_rest
  t_require_rest : FnTxt K "require_rest" s_require_rest
  t_greatest_divisor : FnTxt K "greatest_divisor" s_greatest_divisor
  t_inverse_modulo : FnTxt K "inverse_modulo" s_inverse_modulo
  t_both : FnTxt K "both" s_both
  t_are_names : FnTxt K "are_names" s_are_names
  t_need_names : FnTxt K "need_names" s_need_names
  t_behind : FnTxt K "behind" s_behind
  t_sitting_behind : FnTxt K "sitting_behind" s_sitting_behind
  t_said_by : FnTxt K "said_by" s_said_by
  t_put_together : FnTxt K "put_together" s_put_together
  t_needs_of : FnTxt K "needs_of" s_needs_of
  t_needs : FnTxt K "needs" s_needs
  t_least_of : FnTxt K "least_of" s_least_of
  t__law_begin : FnTxt K "_law_begin" s__law_begin
  t__law_draw : FnTxt K "_law_draw" s__law_draw
  t__law_pick : FnTxt K "_law_pick" s__law_pick
  t__law_mixed : FnTxt K "_law_mixed" s__law_mixed
  t__law_crew : FnTxt K "_law_crew" s__law_crew
  t__law_slip : FnTxt K "_law_slip" s__law_slip
  t__law_marks : FnTxt K "_law_marks" s__law_marks
  t__law_goes : FnTxt K "_law_goes" s__law_goes
  t__law_common : FnTxt K "_law_common" s__law_common
  t__law_multiple : FnTxt K "_law_multiple" s__law_multiple
  t__law_said_by : FnTxt K "_law_said_by" s__law_said_by
  t__law_needed : FnTxt K "_law_needed" s__law_needed
  t__law_all_rounds : FnTxt K "_law_all_rounds" s__law_all_rounds
  t__law_with : FnTxt K "_law_with" s__law_with
  t__law_none_less : FnTxt K "_law_none_less" s__law_none_less
  t_law : FnTxt K "law" s_law
  c_Ring : ClsTxt K "Ring" aRing
  m_Ring___init__ : MTxt K aRing "__init__" "Ring.__init__" s_Ring___init__
  m_Ring___eq__ : MTxt K aRing "__eq__" "Ring.__eq__" s_Ring___eq__
  m_Ring_need_name : MTxt K aRing "need_name" "Ring.need_name" s_Ring_need_name
  m_Ring_names : MTxt K aRing "names" "Ring.names" s_Ring_names
  m_Ring_slips : MTxt K aRing "slips" "Ring.slips" s_Ring_slips
  m_Ring_slip : MTxt K aRing "slip" "Ring.slip" s_Ring_slip
  m_Ring_order : MTxt K aRing "order" "Ring.order" s_Ring_order
  n_Ring_own_seats : L2.NoAttr K aRing "own_seats"
  n_Ring_own_slips : L2.NoAttr K aRing "own_slips"
  i_Ring : IsTxt K aRing
  z_abs : PySem.W.nsIn K mainGlobals "abs" = some none
  z_all : PySem.W.nsIn K mainGlobals "all" = some none
  z_bool : PySem.W.nsIn K mainGlobals "bool" = some none
  z_dict : PySem.W.nsIn K mainGlobals "dict" = some none
  z_enumerate : PySem.W.nsIn K mainGlobals "enumerate" = some none
  z_int : PySem.W.nsIn K mainGlobals "int" = some none
  z_isinstance : PySem.W.nsIn K mainGlobals "isinstance" = some none
  z_len : PySem.W.nsIn K mainGlobals "len" = some none
  z_list : PySem.W.nsIn K mainGlobals "list" = some none
  z_min : PySem.W.nsIn K mainGlobals "min" = some none
  z_range : PySem.W.nsIn K mainGlobals "range" = some none
  z_repr : PySem.W.nsIn K mainGlobals "repr" = some none
  z_set : PySem.W.nsIn K mainGlobals "set" = some none
  z_str : PySem.W.nsIn K mainGlobals "str" = some none
  z_tuple : PySem.W.nsIn K mainGlobals "tuple" = some none
  z_zip : PySem.W.nsIn K mainGlobals "zip" = some none
  g_FEWEST : ∃ u, PySem.W.nsIn K mainGlobals "FEWEST" = some (some u) ∧ L2.RelV (.int 2) u
  g_LETTERS : ∃ u, PySem.W.nsIn K mainGlobals "LETTERS" = some (some u) ∧ L2.RelV (.str "abcdefghijklmnopqrstuvwxyz") u
  g_MOST : ∃ u, PySem.W.nsIn K mainGlobals "MOST" = some (some u) ∧ L2.RelV (.int 12) u
  g_MOST_LETTERS : ∃ u, PySem.W.nsIn K mainGlobals "MOST_LETTERS" = some (some u) ∧ L2.RelV (.int 8) u
theorem gTxt_mk {K : PySem.W.Frag} {x : Str} {u : Value} {v : L2.V} (a : PySem.W.nsIn K mainGlobals x = some (some u)) (r : L2.RelV v u) : ∃ u, PySem.W.nsIn K mainGlobals x = some (some u) ∧ L2.RelV v u := ⟨u, a, r⟩
structure Tx (W : Wd) (aRing : Addr) : Prop where
  T : Txt W.K aRing
  m : ∀ x u, PySem.W.nsIn W.K mainGlobals x = some (some u) → W.mg x = some u
  z : ∀ x, PySem.W.nsIn W.K mainGlobals x = some none → W.mg x = none
  k_Ring : W.cl "Ring" = some aRing
section
variable {W : Wd} {aRing : Addr}
theorem bl (e : Tx W aRing) : Bl W Bs := by
  intro x hx
  simp only [Bs, List.mem_cons, List.not_mem_nil, or_false] at hx
  rcases hx with rfl | rfl | rfl | rfl | rfl | rfl | rfl | rfl | rfl | rfl | rfl | rfl | rfl | rfl | rfl | rfl
  · exact e.z _ e.T.z_abs
  · exact e.z _ e.T.z_all
  · exact e.z _ e.T.z_bool
  · exact e.z _ e.T.z_dict
  · exact e.z _ e.T.z_enumerate
  · exact e.z _ e.T.z_int
  · exact e.z _ e.T.z_isinstance
  · exact e.z _ e.T.z_len
  · exact e.z _ e.T.z_list
  · exact e.z _ e.T.z_min
  · exact e.z _ e.T.z_range
  · exact e.z _ e.T.z_repr
  · exact e.z _ e.T.z_set
  · exact e.z _ e.T.z_str
  · exact e.z _ e.T.z_tuple
  · exact e.z _ e.T.z_zip
theorem gok_FEWEST (e : Tx W aRing) : GOk W "FEWEST" g_FEWEST := by
  obtain ⟨u, hu, hr⟩ := e.T.g_FEWEST
  exact ⟨.int 2, _, e.m _ _ hu, hr, fun H => by unfold g_FEWEST; rw [Rep]⟩
theorem gok_LETTERS (e : Tx W aRing) : GOk W "LETTERS" g_LETTERS := by
  obtain ⟨u, hu, hr⟩ := e.T.g_LETTERS
  exact ⟨.str "abcdefghijklmnopqrstuvwxyz", _, e.m _ _ hu, hr, fun H => by unfold g_LETTERS; rw [Rep]; exact ⟨rfl, by decide +kernel⟩⟩
theorem gok_MOST (e : Tx W aRing) : GOk W "MOST" g_MOST := by
  obtain ⟨u, hu, hr⟩ := e.T.g_MOST
  exact ⟨.int 12, _, e.m _ _ hu, hr, fun H => by unfold g_MOST; rw [Rep]⟩
theorem gok_MOST_LETTERS (e : Tx W aRing) : GOk W "MOST_LETTERS" g_MOST_LETTERS := by
  obtain ⟨u, hu, hr⟩ := e.T.g_MOST_LETTERS
  exact ⟨.int 8, _, e.m _ _ hu, hr, fun H => by unfold g_MOST_LETTERS; rw [Rep]⟩
theorem fo_Ring_own_seats (e : Tx W aRing) : FldOk W "Ring" "own_seats" := fld_ok e.k_Ring e.T.c_Ring.cl e.T.n_Ring_own_seats
theorem fo_Ring_own_slips (e : Tx W aRing) : FldOk W "Ring" "own_slips" := fld_ok e.k_Ring e.T.c_Ring.cl e.T.n_Ring_own_slips
theorem io_Ring (e : Tx W aRing) : IsOk W "Ring" := is_ok e.k_Ring (e.m _ _ e.T.c_Ring.ns) e.T.c_Ring.cl e.T.i_Ring
theorem sc_is_number : L2.FnScope N_is_number ["thing"] (L2.defScope s_is_number) := ⟨rfl, rfl, rfl, by decide +kernel, rfl, by decide +kernel, by decide +kernel⟩
theorem bd_is_number : BindOk "is_number" s_is_number ["thing"] := fun _ _ _ _ _ _ us hl => match us, hl with | [_], _ => rfl
theorem ck_is_number : chkB Bs N_is_number c_is_number (L2.defScope s_is_number) (L2.defBody s_is_number) = true := by decide +kernel
theorem ok_is_number (e : Tx W aRing) : FOk W 1 "is_number" ⟨1, sp_is_number⟩ := by
  refine fok_txt c_is_number ⟨1, sp_is_number⟩ e.T.t_is_number (fun f h => e.m _ _ h) sc_is_number bd_is_number (bl e) ck_is_number ?_ rfl vc_is_number
  simp only [c_is_number, okS, okE, and_self, and_true, true_and]
theorem sc_is_name : L2.FnScope N_is_name ["thing"] (L2.defScope s_is_name) := ⟨rfl, rfl, rfl, by decide +kernel, rfl, by decide +kernel, by decide +kernel⟩
theorem bd_is_name : BindOk "is_name" s_is_name ["thing"] := fun _ _ _ _ _ _ us hl => match us, hl with | [_], _ => rfl
theorem ck_is_name : chkB Bs N_is_name c_is_name (L2.defScope s_is_name) (L2.defBody s_is_name) = true := by decide +kernel
theorem ok_is_name (e : Tx W aRing) : FOk W 1 "is_name" ⟨1, sp_is_name⟩ := by
  refine fok_txt c_is_name ⟨1, sp_is_name⟩ e.T.t_is_name (fun f h => e.m _ _ h) sc_is_name bd_is_name (bl e) ck_is_name ?_ rfl vc_is_name
  have h_g_LETTERS := gok_LETTERS e
  have h_g_MOST_LETTERS := gok_MOST_LETTERS e
  simp only [c_is_name, okS, okE, and_self, and_true, true_and, h_g_LETTERS, h_g_MOST_LETTERS]
theorem sc_greatest_divisor : L2.FnScope N_greatest_divisor ["one", "other"] (L2.defScope s_greatest_divisor) := ⟨rfl, rfl, rfl, by decide +kernel, rfl, by decide +kernel, by decide +kernel⟩
theorem bd_greatest_divisor : BindOk "greatest_divisor" s_greatest_divisor ["one", "other"] := fun _ _ _ _ _ _ us hl => match us, hl with | [_, _], _ => rfl
theorem ck_greatest_divisor : chkB Bs N_greatest_divisor c_greatest_divisor (L2.defScope s_greatest_divisor) (L2.defBody s_greatest_divisor) = true := by decide +kernel
theorem ok_greatest_divisor (e : Tx W aRing) : FOk W 1 "greatest_divisor" ⟨2, sp_greatest_divisor⟩ := by
  refine fok_txt c_greatest_divisor ⟨2, sp_greatest_divisor⟩ e.T.t_greatest_divisor (fun f h => e.m _ _ h) sc_greatest_divisor bd_greatest_divisor (bl e) ck_greatest_divisor ?_ rfl vc_greatest_divisor
  simp only [c_greatest_divisor, okS, okE, and_self, and_true, true_and]
theorem sc_inverse_modulo : L2.FnScope N_inverse_modulo ["number", "modulus"] (L2.defScope s_inverse_modulo) := ⟨rfl, rfl, rfl, by decide +kernel, rfl, by decide +kernel, by decide +kernel⟩
theorem bd_inverse_modulo : BindOk "inverse_modulo" s_inverse_modulo ["number", "modulus"] := fun _ _ _ _ _ _ us hl => match us, hl with | [_, _], _ => rfl
theorem ck_inverse_modulo : chkB Bs N_inverse_modulo c_inverse_modulo (L2.defScope s_inverse_modulo) (L2.defBody s_inverse_modulo) = true := by decide +kernel
theorem ok_inverse_modulo (e : Tx W aRing) : FOk W 1 "inverse_modulo" ⟨2, sp_inverse_modulo⟩ := by
  refine fok_txt c_inverse_modulo ⟨2, sp_inverse_modulo⟩ e.T.t_inverse_modulo (fun f h => e.m _ _ h) sc_inverse_modulo bd_inverse_modulo (bl e) ck_inverse_modulo ?_ rfl vc_inverse_modulo
  simp only [c_inverse_modulo, okS, okE, and_self, and_true, true_and]
theorem sc_behind : L2.FnScope N_behind ["names", "name"] (L2.defScope s_behind) := ⟨rfl, rfl, rfl, by decide +kernel, rfl, by decide +kernel, by decide +kernel⟩
theorem bd_behind : BindOk "behind" s_behind ["names", "name"] := fun _ _ _ _ _ _ us hl => match us, hl with | [_, _], _ => rfl
theorem ck_behind : chkB Bs N_behind c_behind (L2.defScope s_behind) (L2.defBody s_behind) = true := by decide +kernel
theorem ok_behind (e : Tx W aRing) : FOk W 1 "behind" ⟨2, sp_behind⟩ := by
  refine fok_txt c_behind ⟨2, sp_behind⟩ e.T.t_behind (fun f h => e.m _ _ h) sc_behind bd_behind (bl e) ck_behind ?_ rfl vc_behind
  simp only [c_behind, okS, okE, and_self, and_true, true_and]
theorem sc__law_draw : L2.FnScope N__law_draw ["_law_state", "_law_size"] (L2.defScope s__law_draw) := ⟨rfl, rfl, rfl, by decide +kernel, rfl, by decide +kernel, by decide +kernel⟩
theorem bd__law_draw : BindOk "_law_draw" s__law_draw ["_law_state", "_law_size"] := fun _ _ _ _ _ _ us hl => match us, hl with | [_, _], _ => rfl
theorem ck__law_draw : chkB Bs N__law_draw c__law_draw (L2.defScope s__law_draw) (L2.defBody s__law_draw) = true := by decide +kernel
theorem ok__law_draw (e : Tx W aRing) : FOk W 1 "_law_draw" ⟨2, sp__law_draw⟩ := by
  refine fok_txt c__law_draw ⟨2, sp__law_draw⟩ e.T.t__law_draw (fun f h => e.m _ _ h) sc__law_draw bd__law_draw (bl e) ck__law_draw ?_ rfl vc__law_draw
  simp only [c__law_draw, okS, okE, and_self, and_true, true_and]
theorem sc__law_goes : L2.FnScope N__law_goes ["_law_crew_here", "_law_marks_here", "_law_begin_here"] (L2.defScope s__law_goes) := ⟨rfl, rfl, rfl, by decide +kernel, rfl, by decide +kernel, by decide +kernel⟩
theorem bd__law_goes : BindOk "_law_goes" s__law_goes ["_law_crew_here", "_law_marks_here", "_law_begin_here"] := fun _ _ _ _ _ _ us hl => match us, hl with | [_, _, _], _ => rfl
theorem ck__law_goes : chkB Bs N__law_goes c__law_goes (L2.defScope s__law_goes) (L2.defBody s__law_goes) = true := by decide +kernel
theorem ok__law_goes (e : Tx W aRing) : FOk W 1 "_law_goes" ⟨3, sp__law_goes⟩ := by
  refine fok_txt c__law_goes ⟨3, sp__law_goes⟩ e.T.t__law_goes (fun f h => e.m _ _ h) sc__law_goes bd__law_goes (bl e) ck__law_goes ?_ rfl vc__law_goes
  simp only [c__law_goes, okS, okE, and_self, and_true, true_and]
theorem sc__law_common : L2.FnScope N__law_common ["_law_this", "_law_that"] (L2.defScope s__law_common) := ⟨rfl, rfl, rfl, by decide +kernel, rfl, by decide +kernel, by decide +kernel⟩
theorem bd__law_common : BindOk "_law_common" s__law_common ["_law_this", "_law_that"] := fun _ _ _ _ _ _ us hl => match us, hl with | [_, _], _ => rfl
theorem ck__law_common : chkB Bs N__law_common c__law_common (L2.defScope s__law_common) (L2.defBody s__law_common) = true := by decide +kernel
theorem ok__law_common (e : Tx W aRing) : FOk W 1 "_law_common" ⟨2, sp__law_common⟩ := by
  refine fok_txt c__law_common ⟨2, sp__law_common⟩ e.T.t__law_common (fun f h => e.m _ _ h) sc__law_common bd__law_common (bl e) ck__law_common ?_ rfl vc__law_common
  simp only [c__law_common, okS, okE, and_self, and_true, true_and]
theorem sc__law_said_by : L2.FnScope N__law_said_by ["_law_crew_here", "_law_done"] (L2.defScope s__law_said_by) := ⟨rfl, rfl, rfl, by decide +kernel, rfl, by decide +kernel, by decide +kernel⟩
theorem bd__law_said_by : BindOk "_law_said_by" s__law_said_by ["_law_crew_here", "_law_done"] := fun _ _ _ _ _ _ us hl => match us, hl with | [_, _], _ => rfl
theorem ck__law_said_by : chkB Bs N__law_said_by c__law_said_by (L2.defScope s__law_said_by) (L2.defBody s__law_said_by) = true := by decide +kernel
theorem ok__law_said_by (e : Tx W aRing) : FOk W 1 "_law_said_by" ⟨2, sp__law_said_by⟩ := by
  refine fok_txt c__law_said_by ⟨2, sp__law_said_by⟩ e.T.t__law_said_by (fun f h => e.m _ _ h) sc__law_said_by bd__law_said_by (bl e) ck__law_said_by ?_ rfl vc__law_said_by
  simp only [c__law_said_by, okS, okE, and_self, and_true, true_and]
theorem sc__law_with : L2.FnScope N__law_with ["_law_marks_here", "_law_name", "_law_number"] (L2.defScope s__law_with) := ⟨rfl, rfl, rfl, by decide +kernel, rfl, by decide +kernel, by decide +kernel⟩
theorem bd__law_with : BindOk "_law_with" s__law_with ["_law_marks_here", "_law_name", "_law_number"] := fun _ _ _ _ _ _ us hl => match us, hl with | [_, _, _], _ => rfl
theorem ck__law_with : chkB Bs N__law_with c__law_with (L2.defScope s__law_with) (L2.defBody s__law_with) = true := by decide +kernel
theorem ok__law_with (e : Tx W aRing) : FOk W 1 "_law_with" ⟨3, sp__law_with⟩ := by
  refine fok_txt c__law_with ⟨3, sp__law_with⟩ e.T.t__law_with (fun f h => e.m _ _ h) sc__law_with bd__law_with (bl e) ck__law_with ?_ rfl vc__law_with
  simp only [c__law_with, okS, okE, and_self, and_true, true_and]
theorem sc_Ring___eq__ : L2.FnScope N_Ring___eq__ ["self", "other"] (L2.defScope s_Ring___eq__) := ⟨rfl, rfl, rfl, by decide +kernel, rfl, by decide +kernel, by decide +kernel⟩
theorem bd_Ring___eq__ : BindOk2 "__eq__" "Ring.__eq__" s_Ring___eq__ ["self", "other"] := fun _ _ _ _ _ _ us hl => match us, hl with | [_, _], _ => rfl
theorem ck_Ring___eq__ : chkB Bs N_Ring___eq__ c_Ring___eq__ (L2.defScope s_Ring___eq__) (L2.defBody s_Ring___eq__) = true := by decide +kernel
theorem ok_Ring___eq__ (e : Tx W aRing) : MOk W 1 "Ring" "__eq__" ⟨2, sp_Ring___eq__⟩ := by
  refine mok_txt c_Ring___eq__ ⟨2, sp_Ring___eq__⟩ e.k_Ring e.T.c_Ring.cl e.T.m_Ring___eq__ sc_Ring___eq__ bd_Ring___eq__ (bl e) ck_Ring___eq__ ?_ rfl vc_Ring___eq__
  have hf_Ring_own_seats : FldOk W "Ring" "own_seats" := fo_Ring_own_seats e
  have hf_Ring_own_slips : FldOk W "Ring" "own_slips" := fo_Ring_own_slips e
  have hi_Ring : IsOk W "Ring" := io_Ring e
  simp only [c_Ring___eq__, okS, okE, and_self, and_true, true_and, hf_Ring_own_seats, hf_Ring_own_slips, hi_Ring]
theorem sc_Ring_need_name : L2.FnScope N_Ring_need_name ["self", "name"] (L2.defScope s_Ring_need_name) := ⟨rfl, rfl, rfl, by decide +kernel, rfl, by decide +kernel, by decide +kernel⟩
theorem bd_Ring_need_name : BindOk2 "need_name" "Ring.need_name" s_Ring_need_name ["self", "name"] := fun _ _ _ _ _ _ us hl => match us, hl with | [_, _], _ => rfl
theorem ck_Ring_need_name : chkB Bs N_Ring_need_name c_Ring_need_name (L2.defScope s_Ring_need_name) (L2.defBody s_Ring_need_name) = true := by decide +kernel
theorem ok_Ring_need_name (e : Tx W aRing) : MOk W 1 "Ring" "need_name" ⟨2, sp_Ring_need_name⟩ := by
  refine mok_txt c_Ring_need_name ⟨2, sp_Ring_need_name⟩ e.k_Ring e.T.c_Ring.cl e.T.m_Ring_need_name sc_Ring_need_name bd_Ring_need_name (bl e) ck_Ring_need_name ?_ rfl vc_Ring_need_name
  have hf_Ring_own_slips : FldOk W "Ring" "own_slips" := fo_Ring_own_slips e
  simp only [c_Ring_need_name, okS, okE, and_self, and_true, true_and, hf_Ring_own_slips]
theorem sc_Ring_names : L2.FnScope N_Ring_names ["self"] (L2.defScope s_Ring_names) := ⟨rfl, rfl, rfl, by decide +kernel, rfl, by decide +kernel, by decide +kernel⟩
theorem bd_Ring_names : BindOk2 "names" "Ring.names" s_Ring_names ["self"] := fun _ _ _ _ _ _ us hl => match us, hl with | [_], _ => rfl
theorem ck_Ring_names : chkB Bs N_Ring_names c_Ring_names (L2.defScope s_Ring_names) (L2.defBody s_Ring_names) = true := by decide +kernel
theorem ok_Ring_names (e : Tx W aRing) : MOk W 1 "Ring" "names" ⟨1, sp_Ring_names⟩ := by
  refine mok_txt c_Ring_names ⟨1, sp_Ring_names⟩ e.k_Ring e.T.c_Ring.cl e.T.m_Ring_names sc_Ring_names bd_Ring_names (bl e) ck_Ring_names ?_ rfl vc_Ring_names
  have hf_Ring_own_seats : FldOk W "Ring" "own_seats" := fo_Ring_own_seats e
  simp only [c_Ring_names, okS, okE, and_self, and_true, true_and, hf_Ring_own_seats]
theorem sc_Ring_slips : L2.FnScope N_Ring_slips ["self"] (L2.defScope s_Ring_slips) := ⟨rfl, rfl, rfl, by decide +kernel, rfl, by decide +kernel, by decide +kernel⟩
theorem bd_Ring_slips : BindOk2 "slips" "Ring.slips" s_Ring_slips ["self"] := fun _ _ _ _ _ _ us hl => match us, hl with | [_], _ => rfl
theorem ck_Ring_slips : chkB Bs N_Ring_slips c_Ring_slips (L2.defScope s_Ring_slips) (L2.defBody s_Ring_slips) = true := by decide +kernel
theorem ok_Ring_slips (e : Tx W aRing) : MOk W 1 "Ring" "slips" ⟨1, sp_Ring_slips⟩ := by
  refine mok_txt c_Ring_slips ⟨1, sp_Ring_slips⟩ e.k_Ring e.T.c_Ring.cl e.T.m_Ring_slips sc_Ring_slips bd_Ring_slips (bl e) ck_Ring_slips ?_ rfl vc_Ring_slips
  have hf_Ring_own_slips : FldOk W "Ring" "own_slips" := fo_Ring_own_slips e
  simp only [c_Ring_slips, okS, okE, and_self, and_true, true_and, hf_Ring_own_slips]
theorem sc_is_rest : L2.FnScope N_is_rest ["thing"] (L2.defScope s_is_rest) := ⟨rfl, rfl, rfl, by decide +kernel, rfl, by decide +kernel, by decide +kernel⟩
theorem bd_is_rest : BindOk "is_rest" s_is_rest ["thing"] := fun _ _ _ _ _ _ us hl => match us, hl with | [_], _ => rfl
theorem ck_is_rest : chkB Bs N_is_rest c_is_rest (L2.defScope s_is_rest) (L2.defBody s_is_rest) = true := by decide +kernel
theorem ok_is_rest (e : Tx W aRing) : FOk W 2 "is_rest" ⟨1, sp_is_rest⟩ := by
  refine fok_txt c_is_rest ⟨1, sp_is_rest⟩ e.T.t_is_rest (fun f h => e.m _ _ h) sc_is_rest bd_is_rest (bl e) ck_is_rest ?_ rfl vc_is_rest
  have h_is_number : FOk W 1 "is_number" ⟨1, sp_is_number⟩ := (ok_is_number e).mono (by decide)
  simp only [c_is_rest, okS, okE, and_self, and_true, true_and, h_is_number]
theorem sc_are_names : L2.FnScope N_are_names ["thing"] (L2.defScope s_are_names) := ⟨rfl, rfl, rfl, by decide +kernel, rfl, by decide +kernel, by decide +kernel⟩
theorem bd_are_names : BindOk "are_names" s_are_names ["thing"] := fun _ _ _ _ _ _ us hl => match us, hl with | [_], _ => rfl
theorem ck_are_names : chkB Bs N_are_names c_are_names (L2.defScope s_are_names) (L2.defBody s_are_names) = true := by decide +kernel
theorem ok_are_names (e : Tx W aRing) : FOk W 2 "are_names" ⟨1, sp_are_names⟩ := by
  refine fok_txt c_are_names ⟨1, sp_are_names⟩ e.T.t_are_names (fun f h => e.m _ _ h) sc_are_names bd_are_names (bl e) ck_are_names ?_ rfl vc_are_names
  have h_is_name : FOk W 1 "is_name" ⟨1, sp_is_name⟩ := (ok_is_name e).mono (by decide)
  have h_g_FEWEST := gok_FEWEST e
  have h_g_MOST := gok_MOST e
  simp only [c_are_names, okS, okE, and_self, and_true, true_and, h_is_name, h_g_FEWEST, h_g_MOST]
theorem sc_sitting_behind : L2.FnScope N_sitting_behind ["names", "goers"] (L2.defScope s_sitting_behind) := ⟨rfl, rfl, rfl, by decide +kernel, rfl, by decide +kernel, by decide +kernel⟩
theorem bd_sitting_behind : BindOk "sitting_behind" s_sitting_behind ["names", "goers"] := fun _ _ _ _ _ _ us hl => match us, hl with | [_, _], _ => rfl
theorem ck_sitting_behind : chkB Bs N_sitting_behind c_sitting_behind (L2.defScope s_sitting_behind) (L2.defBody s_sitting_behind) = true := by decide +kernel
theorem ok_sitting_behind (e : Tx W aRing) : FOk W 2 "sitting_behind" ⟨2, sp_sitting_behind⟩ := by
  refine fok_txt c_sitting_behind ⟨2, sp_sitting_behind⟩ e.T.t_sitting_behind (fun f h => e.m _ _ h) sc_sitting_behind bd_sitting_behind (bl e) ck_sitting_behind ?_ rfl vc_sitting_behind
  have h_behind : FOk W 1 "behind" ⟨2, sp_behind⟩ := (ok_behind e).mono (by decide)
  simp only [c_sitting_behind, okS, okE, and_self, and_true, true_and, h_behind]
theorem sc__law_pick : L2.FnScope N__law_pick ["_law_state", "_law_some"] (L2.defScope s__law_pick) := ⟨rfl, rfl, rfl, by decide +kernel, rfl, by decide +kernel, by decide +kernel⟩
theorem bd__law_pick : BindOk "_law_pick" s__law_pick ["_law_state", "_law_some"] := fun _ _ _ _ _ _ us hl => match us, hl with | [_, _], _ => rfl
theorem ck__law_pick : chkB Bs N__law_pick c__law_pick (L2.defScope s__law_pick) (L2.defBody s__law_pick) = true := by decide +kernel
theorem ok__law_pick (e : Tx W aRing) : FOk W 2 "_law_pick" ⟨2, sp__law_pick⟩ := by
  refine fok_txt c__law_pick ⟨2, sp__law_pick⟩ e.T.t__law_pick (fun f h => e.m _ _ h) sc__law_pick bd__law_pick (bl e) ck__law_pick ?_ rfl vc__law_pick
  have h__law_draw : FOk W 1 "_law_draw" ⟨2, sp__law_draw⟩ := (ok__law_draw e).mono (by decide)
  simp only [c__law_pick, okS, okE, and_self, and_true, true_and, h__law_draw]
theorem sc__law_mixed : L2.FnScope N__law_mixed ["_law_state", "_law_some"] (L2.defScope s__law_mixed) := ⟨rfl, rfl, rfl, by decide +kernel, rfl, by decide +kernel, by decide +kernel⟩
theorem bd__law_mixed : BindOk "_law_mixed" s__law_mixed ["_law_state", "_law_some"] := fun _ _ _ _ _ _ us hl => match us, hl with | [_, _], _ => rfl
theorem ck__law_mixed : chkB Bs N__law_mixed c__law_mixed (L2.defScope s__law_mixed) (L2.defBody s__law_mixed) = true := by decide +kernel
theorem ok__law_mixed (e : Tx W aRing) : FOk W 2 "_law_mixed" ⟨2, sp__law_mixed⟩ := by
  refine fok_txt c__law_mixed ⟨2, sp__law_mixed⟩ e.T.t__law_mixed (fun f h => e.m _ _ h) sc__law_mixed bd__law_mixed (bl e) ck__law_mixed ?_ rfl vc__law_mixed
  have h__law_draw : FOk W 1 "_law_draw" ⟨2, sp__law_draw⟩ := (ok__law_draw e).mono (by decide)
  simp only [c__law_mixed, okS, okE, and_self, and_true, true_and, h__law_draw]
theorem sc__law_slip : L2.FnScope N__law_slip ["_law_state"] (L2.defScope s__law_slip) := ⟨rfl, rfl, rfl, by decide +kernel, rfl, by decide +kernel, by decide +kernel⟩
theorem bd__law_slip : BindOk "_law_slip" s__law_slip ["_law_state"] := fun _ _ _ _ _ _ us hl => match us, hl with | [_], _ => rfl
theorem ck__law_slip : chkB Bs N__law_slip c__law_slip (L2.defScope s__law_slip) (L2.defBody s__law_slip) = true := by decide +kernel
theorem ok__law_slip (e : Tx W aRing) : FOk W 2 "_law_slip" ⟨1, sp__law_slip⟩ := by
  refine fok_txt c__law_slip ⟨1, sp__law_slip⟩ e.T.t__law_slip (fun f h => e.m _ _ h) sc__law_slip bd__law_slip (bl e) ck__law_slip ?_ rfl vc__law_slip
  have h__law_draw : FOk W 1 "_law_draw" ⟨2, sp__law_draw⟩ := (ok__law_draw e).mono (by decide)
  simp only [c__law_slip, okS, okE, and_self, and_true, true_and, h__law_draw]
theorem sc__law_multiple : L2.FnScope N__law_multiple ["_law_this", "_law_that"] (L2.defScope s__law_multiple) := ⟨rfl, rfl, rfl, by decide +kernel, rfl, by decide +kernel, by decide +kernel⟩
theorem bd__law_multiple : BindOk "_law_multiple" s__law_multiple ["_law_this", "_law_that"] := fun _ _ _ _ _ _ us hl => match us, hl with | [_, _], _ => rfl
theorem ck__law_multiple : chkB Bs N__law_multiple c__law_multiple (L2.defScope s__law_multiple) (L2.defBody s__law_multiple) = true := by decide +kernel
theorem ok__law_multiple (e : Tx W aRing) : FOk W 2 "_law_multiple" ⟨2, sp__law_multiple⟩ := by
  refine fok_txt c__law_multiple ⟨2, sp__law_multiple⟩ e.T.t__law_multiple (fun f h => e.m _ _ h) sc__law_multiple bd__law_multiple (bl e) ck__law_multiple ?_ rfl vc__law_multiple
  have h__law_common : FOk W 1 "_law_common" ⟨2, sp__law_common⟩ := (ok__law_common e).mono (by decide)
  simp only [c__law_multiple, okS, okE, and_self, and_true, true_and, h__law_common]
theorem sc__law_all_rounds : L2.FnScope N__law_all_rounds ["_law_crew_here", "_law_marks_here"] (L2.defScope s__law_all_rounds) := ⟨rfl, rfl, rfl, by decide +kernel, rfl, by decide +kernel, by decide +kernel⟩
theorem bd__law_all_rounds : BindOk "_law_all_rounds" s__law_all_rounds ["_law_crew_here", "_law_marks_here"] := fun _ _ _ _ _ _ us hl => match us, hl with | [_, _], _ => rfl
theorem ck__law_all_rounds : chkB Bs N__law_all_rounds c__law_all_rounds (L2.defScope s__law_all_rounds) (L2.defBody s__law_all_rounds) = true := by decide +kernel
theorem ok__law_all_rounds (e : Tx W aRing) : FOk W 2 "_law_all_rounds" ⟨2, sp__law_all_rounds⟩ := by
  refine fok_txt c__law_all_rounds ⟨2, sp__law_all_rounds⟩ e.T.t__law_all_rounds (fun f h => e.m _ _ h) sc__law_all_rounds bd__law_all_rounds (bl e) ck__law_all_rounds ?_ rfl vc__law_all_rounds
  have h__law_goes : FOk W 1 "_law_goes" ⟨3, sp__law_goes⟩ := (ok__law_goes e).mono (by decide)
  simp only [c__law_all_rounds, okS, okE, and_self, and_true, true_and, h__law_goes]
theorem sc_Ring_slip : L2.FnScope N_Ring_slip ["self", "name"] (L2.defScope s_Ring_slip) := ⟨rfl, rfl, rfl, by decide +kernel, rfl, by decide +kernel, by decide +kernel⟩
theorem bd_Ring_slip : BindOk2 "slip" "Ring.slip" s_Ring_slip ["self", "name"] := fun _ _ _ _ _ _ us hl => match us, hl with | [_, _], _ => rfl
theorem ck_Ring_slip : chkB Bs N_Ring_slip c_Ring_slip (L2.defScope s_Ring_slip) (L2.defBody s_Ring_slip) = true := by decide +kernel
theorem ok_Ring_slip (e : Tx W aRing) : MOk W 2 "Ring" "slip" ⟨2, sp_Ring_slip⟩ := by
  refine mok_txt c_Ring_slip ⟨2, sp_Ring_slip⟩ e.k_Ring e.T.c_Ring.cl e.T.m_Ring_slip sc_Ring_slip bd_Ring_slip (bl e) ck_Ring_slip ?_ rfl vc_Ring_slip
  have hf_Ring_own_slips : FldOk W "Ring" "own_slips" := fo_Ring_own_slips e
  have hm_Ring_need_name : MOk W 1 "Ring" "need_name" ⟨2, sp_Ring_need_name⟩ := (ok_Ring_need_name e).mono (by decide)
  simp only [c_Ring_slip, okS, okE, and_self, and_true, true_and, hf_Ring_own_slips, hm_Ring_need_name]
theorem sc_require_rest : L2.FnScope N_require_rest ["thing"] (L2.defScope s_require_rest) := ⟨rfl, rfl, rfl, by decide +kernel, rfl, by decide +kernel, by decide +kernel⟩
theorem bd_require_rest : BindOk "require_rest" s_require_rest ["thing"] := fun _ _ _ _ _ _ us hl => match us, hl with | [_], _ => rfl
theorem ck_require_rest : chkB Bs N_require_rest c_require_rest (L2.defScope s_require_rest) (L2.defBody s_require_rest) = true := by decide +kernel
theorem ok_require_rest (e : Tx W aRing) : FOk W 3 "require_rest" ⟨1, sp_require_rest⟩ := by
  refine fok_txt c_require_rest ⟨1, sp_require_rest⟩ e.T.t_require_rest (fun f h => e.m _ _ h) sc_require_rest bd_require_rest (bl e) ck_require_rest ?_ rfl vc_require_rest
  have h_is_rest : FOk W 2 "is_rest" ⟨1, sp_is_rest⟩ := (ok_is_rest e).mono (by decide)
  simp only [c_require_rest, okS, okE, and_self, and_true, true_and, h_is_rest]
theorem sc_need_names : L2.FnScope N_need_names ["thing"] (L2.defScope s_need_names) := ⟨rfl, rfl, rfl, by decide +kernel, rfl, by decide +kernel, by decide +kernel⟩
theorem bd_need_names : BindOk "need_names" s_need_names ["thing"] := fun _ _ _ _ _ _ us hl => match us, hl with | [_], _ => rfl
theorem ck_need_names : chkB Bs N_need_names c_need_names (L2.defScope s_need_names) (L2.defBody s_need_names) = true := by decide +kernel
theorem ok_need_names (e : Tx W aRing) : FOk W 3 "need_names" ⟨1, sp_need_names⟩ := by
  refine fok_txt c_need_names ⟨1, sp_need_names⟩ e.T.t_need_names (fun f h => e.m _ _ h) sc_need_names bd_need_names (bl e) ck_need_names ?_ rfl vc_need_names
  have h_are_names : FOk W 2 "are_names" ⟨1, sp_are_names⟩ := (ok_are_names e).mono (by decide)
  simp only [c_need_names, okS, okE, and_self, and_true, true_and, h_are_names]
theorem sc__law_crew : L2.FnScope N__law_crew ["_law_state", "_law_many"] (L2.defScope s__law_crew) := ⟨rfl, rfl, rfl, by decide +kernel, rfl, by decide +kernel, by decide +kernel⟩
theorem bd__law_crew : BindOk "_law_crew" s__law_crew ["_law_state", "_law_many"] := fun _ _ _ _ _ _ us hl => match us, hl with | [_, _], _ => rfl
theorem ck__law_crew : chkB Bs N__law_crew c__law_crew (L2.defScope s__law_crew) (L2.defBody s__law_crew) = true := by decide +kernel
theorem ok__law_crew (e : Tx W aRing) : FOk W 3 "_law_crew" ⟨2, sp__law_crew⟩ := by
  refine fok_txt c__law_crew ⟨2, sp__law_crew⟩ e.T.t__law_crew (fun f h => e.m _ _ h) sc__law_crew bd__law_crew (bl e) ck__law_crew ?_ rfl vc__law_crew
  have h__law_draw : FOk W 2 "_law_draw" ⟨2, sp__law_draw⟩ := (ok__law_draw e).mono (by decide)
  have h__law_mixed : FOk W 2 "_law_mixed" ⟨2, sp__law_mixed⟩ := (ok__law_mixed e).mono (by decide)
  have h__law_pick : FOk W 2 "_law_pick" ⟨2, sp__law_pick⟩ := (ok__law_pick e).mono (by decide)
  simp only [c__law_crew, okS, okE, and_self, and_true, true_and, h__law_draw, h__law_mixed, h__law_pick]
theorem sc__law_marks : L2.FnScope N__law_marks ["_law_state", "_law_crew_here"] (L2.defScope s__law_marks) := ⟨rfl, rfl, rfl, by decide +kernel, rfl, by decide +kernel, by decide +kernel⟩
theorem bd__law_marks : BindOk "_law_marks" s__law_marks ["_law_state", "_law_crew_here"] := fun _ _ _ _ _ _ us hl => match us, hl with | [_, _], _ => rfl
theorem ck__law_marks : chkB Bs N__law_marks c__law_marks (L2.defScope s__law_marks) (L2.defBody s__law_marks) = true := by decide +kernel
theorem ok__law_marks (e : Tx W aRing) : FOk W 3 "_law_marks" ⟨2, sp__law_marks⟩ := by
  refine fok_txt c__law_marks ⟨2, sp__law_marks⟩ e.T.t__law_marks (fun f h => e.m _ _ h) sc__law_marks bd__law_marks (bl e) ck__law_marks ?_ rfl vc__law_marks
  have h__law_draw : FOk W 2 "_law_draw" ⟨2, sp__law_draw⟩ := (ok__law_draw e).mono (by decide)
  have h__law_slip : FOk W 2 "_law_slip" ⟨1, sp__law_slip⟩ := (ok__law_slip e).mono (by decide)
  simp only [c__law_marks, okS, okE, and_self, and_true, true_and, h__law_draw, h__law_slip]
theorem sc__law_needed : L2.FnScope N__law_needed ["_law_crew_here", "_law_marks_here"] (L2.defScope s__law_needed) := ⟨rfl, rfl, rfl, by decide +kernel, rfl, by decide +kernel, by decide +kernel⟩
theorem bd__law_needed : BindOk "_law_needed" s__law_needed ["_law_crew_here", "_law_marks_here"] := fun _ _ _ _ _ _ us hl => match us, hl with | [_, _], _ => rfl
theorem ck__law_needed : chkB Bs N__law_needed c__law_needed (L2.defScope s__law_needed) (L2.defBody s__law_needed) = true := by decide +kernel
theorem ok__law_needed (e : Tx W aRing) : FOk W 3 "_law_needed" ⟨2, sp__law_needed⟩ := by
  refine fok_txt c__law_needed ⟨2, sp__law_needed⟩ e.T.t__law_needed (fun f h => e.m _ _ h) sc__law_needed bd__law_needed (bl e) ck__law_needed ?_ rfl vc__law_needed
  have h__law_goes : FOk W 2 "_law_goes" ⟨3, sp__law_goes⟩ := (ok__law_goes e).mono (by decide)
  have h__law_multiple : FOk W 2 "_law_multiple" ⟨2, sp__law_multiple⟩ := (ok__law_multiple e).mono (by decide)
  have h__law_said_by : FOk W 2 "_law_said_by" ⟨2, sp__law_said_by⟩ := (ok__law_said_by e).mono (by decide)
  simp only [c__law_needed, okS, okE, and_self, and_true, true_and, h__law_goes, h__law_multiple, h__law_said_by]
theorem sc__law_none_less : L2.FnScope N__law_none_less ["_law_state", "_law_crew_here", "_law_lowest", "_law_rows"] (L2.defScope s__law_none_less) := ⟨rfl, rfl, rfl, by decide +kernel, rfl, by decide +kernel, by decide +kernel⟩
theorem bd__law_none_less : BindOk "_law_none_less" s__law_none_less ["_law_state", "_law_crew_here", "_law_lowest", "_law_rows"] := fun _ _ _ _ _ _ us hl => match us, hl with | [_, _, _, _], _ => rfl
theorem ck__law_none_less : chkB Bs N__law_none_less c__law_none_less (L2.defScope s__law_none_less) (L2.defBody s__law_none_less) = true := by decide +kernel
theorem ok__law_none_less (e : Tx W aRing) : FOk W 3 "_law_none_less" ⟨4, sp__law_none_less⟩ := by
  refine fok_txt c__law_none_less ⟨4, sp__law_none_less⟩ e.T.t__law_none_less (fun f h => e.m _ _ h) sc__law_none_less bd__law_none_less (bl e) ck__law_none_less ?_ rfl vc__law_none_less
  have h__law_all_rounds : FOk W 2 "_law_all_rounds" ⟨2, sp__law_all_rounds⟩ := (ok__law_all_rounds e).mono (by decide)
  have h__law_draw : FOk W 2 "_law_draw" ⟨2, sp__law_draw⟩ := (ok__law_draw e).mono (by decide)
  have h__law_mixed : FOk W 2 "_law_mixed" ⟨2, sp__law_mixed⟩ := (ok__law_mixed e).mono (by decide)
  have h__law_with : FOk W 2 "_law_with" ⟨3, sp__law_with⟩ := (ok__law_with e).mono (by decide)
  simp only [c__law_none_less, okS, okE, and_self, and_true, true_and, h__law_all_rounds, h__law_draw, h__law_mixed, h__law_with]
theorem sc_Ring_order : L2.FnScope N_Ring_order ["self", "begin"] (L2.defScope s_Ring_order) := ⟨rfl, rfl, rfl, by decide +kernel, rfl, by decide +kernel, by decide +kernel⟩
theorem bd_Ring_order : BindOk2 "order" "Ring.order" s_Ring_order ["self", "begin"] := fun _ _ _ _ _ _ us hl => match us, hl with | [_, _], _ => rfl
theorem ck_Ring_order : chkB Bs N_Ring_order c_Ring_order (L2.defScope s_Ring_order) (L2.defBody s_Ring_order) = true := by decide +kernel
theorem ok_Ring_order (e : Tx W aRing) : MOk W 3 "Ring" "order" ⟨2, sp_Ring_order⟩ := by
  refine mok_txt c_Ring_order ⟨2, sp_Ring_order⟩ e.k_Ring e.T.c_Ring.cl e.T.m_Ring_order sc_Ring_order bd_Ring_order (bl e) ck_Ring_order ?_ rfl vc_Ring_order
  have h_sitting_behind : FOk W 2 "sitting_behind" ⟨2, sp_sitting_behind⟩ := (ok_sitting_behind e).mono (by decide)
  have hf_Ring_own_seats : FldOk W "Ring" "own_seats" := fo_Ring_own_seats e
  have hf_Ring_own_slips : FldOk W "Ring" "own_slips" := fo_Ring_own_slips e
  have hm_Ring_need_name : MOk W 2 "Ring" "need_name" ⟨2, sp_Ring_need_name⟩ := (ok_Ring_need_name e).mono (by decide)
  simp only [c_Ring_order, okS, okE, and_self, and_true, true_and, h_sitting_behind, hf_Ring_own_seats, hf_Ring_own_slips, hm_Ring_need_name]
theorem sc_both : L2.FnScope N_both ["one", "other"] (L2.defScope s_both) := ⟨rfl, rfl, rfl, by decide +kernel, rfl, by decide +kernel, by decide +kernel⟩
theorem bd_both : BindOk "both" s_both ["one", "other"] := fun _ _ _ _ _ _ us hl => match us, hl with | [_, _], _ => rfl
theorem ck_both : chkB Bs N_both c_both (L2.defScope s_both) (L2.defBody s_both) = true := by decide +kernel
theorem ok_both (e : Tx W aRing) : FOk W 4 "both" ⟨2, sp_both⟩ := by
  refine fok_txt c_both ⟨2, sp_both⟩ e.T.t_both (fun f h => e.m _ _ h) sc_both bd_both (bl e) ck_both ?_ rfl vc_both
  have h_greatest_divisor : FOk W 3 "greatest_divisor" ⟨2, sp_greatest_divisor⟩ := (ok_greatest_divisor e).mono (by decide)
  have h_inverse_modulo : FOk W 3 "inverse_modulo" ⟨2, sp_inverse_modulo⟩ := (ok_inverse_modulo e).mono (by decide)
  have h_require_rest : FOk W 3 "require_rest" ⟨1, sp_require_rest⟩ := (ok_require_rest e).mono (by decide)
  simp only [c_both, okS, okE, and_self, and_true, true_and, h_greatest_divisor, h_inverse_modulo, h_require_rest]
theorem sc_said_by : L2.FnScope N_said_by ["ring", "begin"] (L2.defScope s_said_by) := ⟨rfl, rfl, rfl, by decide +kernel, rfl, by decide +kernel, by decide +kernel⟩
theorem bd_said_by : BindOk "said_by" s_said_by ["ring", "begin"] := fun _ _ _ _ _ _ us hl => match us, hl with | [_, _], _ => rfl
theorem ck_said_by : chkB Bs N_said_by c_said_by (L2.defScope s_said_by) (L2.defBody s_said_by) = true := by decide +kernel
theorem ok_said_by (e : Tx W aRing) : FOk W 4 "said_by" ⟨2, sp_said_by⟩ := by
  refine fok_txt c_said_by ⟨2, sp_said_by⟩ e.T.t_said_by (fun f h => e.m _ _ h) sc_said_by bd_said_by (bl e) ck_said_by ?_ rfl vc_said_by
  have hm_Ring_order : MOk W 3 "Ring" "order" ⟨2, sp_Ring_order⟩ := (ok_Ring_order e).mono (by decide)
  simp only [c_said_by, okS, okE, and_self, and_true, true_and, hm_Ring_order]
theorem sc_Ring___init__ : L2.FnScope N_Ring___init__ ["self", "names", "slips"] (L2.defScope s_Ring___init__) := ⟨rfl, rfl, rfl, by decide +kernel, rfl, by decide +kernel, by decide +kernel⟩
theorem bd_Ring___init__ : BindOk2 "__init__" "Ring.__init__" s_Ring___init__ ["self", "names", "slips"] := fun _ _ _ _ _ _ us hl => match us, hl with | [_, _, _], _ => rfl
theorem ck_Ring___init__ : chkB Bs N_Ring___init__ c_Ring___init__ (L2.defScope s_Ring___init__) (L2.defBody s_Ring___init__) = true := by decide +kernel
theorem ok_Ring (e : Tx W aRing) (hat : W.cl ("@" : Str) = none) : MkOk W 5 "Ring" ⟨2, sp_Ring⟩ := by
  refine mk_txt c_Ring___init__ ⟨2, sp_Ring⟩ hat e.k_Ring e.T.c_Ring (fun f h => e.m _ _ h) e.T.m_Ring___init__ sc_Ring___init__ (by decide) bd_Ring___init__ (bl e) ck_Ring___init__ (fun a C hC => ?_) rfl vc_Ring___init__
  have hC2 := e.k_Ring.symm.trans hC
  cases hC2
  have e' : Tx (W.on a aRing) aRing := ⟨e.T, e.m, e.z, on_cl (by decide +kernel) e.k_Ring⟩
  have h_is_number : FOk (W.on a aRing) 3 "is_number" ⟨1, sp_is_number⟩ := (ok_is_number e').mono (by decide)
  have h_need_names : FOk (W.on a aRing) 3 "need_names" ⟨1, sp_need_names⟩ := (ok_need_names e').mono (by decide)
  have hf_self_own_seats : FldOk (W.on a aRing) "@" "own_seats" := fld_ok on_at e'.T.c_Ring.cl e'.T.n_Ring_own_seats
  have hf_self_own_slips : FldOk (W.on a aRing) "@" "own_slips" := fld_ok on_at e'.T.c_Ring.cl e'.T.n_Ring_own_slips
  simp only [c_Ring___init__, okS, okE, and_self, and_true, true_and, h_is_number, h_need_names, hf_self_own_seats, hf_self_own_slips]
theorem sc_put_together : L2.FnScope N_put_together ["one", "other"] (L2.defScope s_put_together) := ⟨rfl, rfl, rfl, by decide +kernel, rfl, by decide +kernel, by decide +kernel⟩
theorem bd_put_together : BindOk "put_together" s_put_together ["one", "other"] := fun _ _ _ _ _ _ us hl => match us, hl with | [_, _], _ => rfl
theorem ck_put_together : chkB Bs N_put_together c_put_together (L2.defScope s_put_together) (L2.defBody s_put_together) = true := by decide +kernel
theorem ok_put_together (e : Tx W aRing) : FOk W 5 "put_together" ⟨2, sp_put_together⟩ := by
  refine fok_txt c_put_together ⟨2, sp_put_together⟩ e.T.t_put_together (fun f h => e.m _ _ h) sc_put_together bd_put_together (bl e) ck_put_together ?_ rfl vc_put_together
  have h_both : FOk W 4 "both" ⟨2, sp_both⟩ := (ok_both e).mono (by decide)
  simp only [c_put_together, okS, okE, and_self, and_true, true_and, h_both]
theorem sc_needs_of : L2.FnScope N_needs_of ["ring", "begins"] (L2.defScope s_needs_of) := ⟨rfl, rfl, rfl, by decide +kernel, rfl, by decide +kernel, by decide +kernel⟩
theorem bd_needs_of : BindOk "needs_of" s_needs_of ["ring", "begins"] := fun _ _ _ _ _ _ us hl => match us, hl with | [_, _], _ => rfl
theorem ck_needs_of : chkB Bs N_needs_of c_needs_of (L2.defScope s_needs_of) (L2.defBody s_needs_of) = true := by decide +kernel
theorem ok_needs_of (e : Tx W aRing) : FOk W 6 "needs_of" ⟨2, sp_needs_of⟩ := by
  refine fok_txt c_needs_of ⟨2, sp_needs_of⟩ e.T.t_needs_of (fun f h => e.m _ _ h) sc_needs_of bd_needs_of (bl e) ck_needs_of ?_ rfl vc_needs_of
  have h_put_together : FOk W 5 "put_together" ⟨2, sp_put_together⟩ := (ok_put_together e).mono (by decide)
  have h_said_by : FOk W 5 "said_by" ⟨2, sp_said_by⟩ := (ok_said_by e).mono (by decide)
  have hm_Ring_names : MOk W 5 "Ring" "names" ⟨1, sp_Ring_names⟩ := (ok_Ring_names e).mono (by decide)
  simp only [c_needs_of, okS, okE, and_self, and_true, true_and, h_put_together, h_said_by, hm_Ring_names]
theorem sc_needs : L2.FnScope N_needs ["ring"] (L2.defScope s_needs) := ⟨rfl, rfl, rfl, by decide +kernel, rfl, by decide +kernel, by decide +kernel⟩
theorem bd_needs : BindOk "needs" s_needs ["ring"] := fun _ _ _ _ _ _ us hl => match us, hl with | [_], _ => rfl
theorem ck_needs : chkB Bs N_needs c_needs (L2.defScope s_needs) (L2.defBody s_needs) = true := by decide +kernel
theorem ok_needs (e : Tx W aRing) : FOk W 7 "needs" ⟨1, sp_needs⟩ := by
  refine fok_txt c_needs ⟨1, sp_needs⟩ e.T.t_needs (fun f h => e.m _ _ h) sc_needs bd_needs (bl e) ck_needs ?_ rfl vc_needs
  have h_needs_of : FOk W 6 "needs_of" ⟨2, sp_needs_of⟩ := (ok_needs_of e).mono (by decide)
  have hm_Ring_names : MOk W 6 "Ring" "names" ⟨1, sp_Ring_names⟩ := (ok_Ring_names e).mono (by decide)
  simp only [c_needs, okS, okE, and_self, and_true, true_and, h_needs_of, hm_Ring_names]
theorem sc_least_of : L2.FnScope N_least_of ["ring"] (L2.defScope s_least_of) := ⟨rfl, rfl, rfl, by decide +kernel, rfl, by decide +kernel, by decide +kernel⟩
theorem bd_least_of : BindOk "least_of" s_least_of ["ring"] := fun _ _ _ _ _ _ us hl => match us, hl with | [_], _ => rfl
theorem ck_least_of : chkB Bs N_least_of c_least_of (L2.defScope s_least_of) (L2.defBody s_least_of) = true := by decide +kernel
theorem ok_least_of (e : Tx W aRing) (hat : W.cl ("@" : Str) = none) : FOk W 8 "least_of" ⟨1, sp_least_of⟩ := by
  refine fok_txt c_least_of ⟨1, sp_least_of⟩ e.T.t_least_of (fun f h => e.m _ _ h) sc_least_of bd_least_of (bl e) ck_least_of ?_ rfl vc_least_of
  have h_needs : FOk W 7 "needs" ⟨1, sp_needs⟩ := (ok_needs e).mono (by decide)
  have hm_Ring_names : MOk W 7 "Ring" "names" ⟨1, sp_Ring_names⟩ := (ok_Ring_names e).mono (by decide)
  have hm_Ring_slip : MOk W 7 "Ring" "slip" ⟨2, sp_Ring_slip⟩ := (ok_Ring_slip e).mono (by decide)
  have hk_Ring : MkOk W 7 "Ring" ⟨2, sp_Ring⟩ := (ok_Ring e hat).mono (by decide)
  simp only [c_least_of, okS, okE, and_self, and_true, true_and, h_needs, hm_Ring_names, hm_Ring_slip, hk_Ring]
theorem kb0 : KBOk "least_of" "least_of" s_least_of ["ring"] 0 ["ring"] [0] := fun _ _ _ _ _ _ us ws hl hl2 => match us, hl, ws, hl2 with | [], _, [_], _ => rfl
theorem okw0 (e : Tx W aRing) (hat : W.cl ("@" : Str) = none) : KOk W 8 "least_of" ⟨1, sp_least_of⟩ 0 ["ring"] [0] := by
  refine kok_txt c_least_of ⟨1, sp_least_of⟩ e.T.t_least_of (fun f h => e.m _ _ h) sc_least_of kb0 (bl e) ck_least_of ?_ rfl vc_least_of
  have h_needs : FOk W 7 "needs" ⟨1, sp_needs⟩ := (ok_needs e).mono (by decide)
  have hm_Ring_names : MOk W 7 "Ring" "names" ⟨1, sp_Ring_names⟩ := (ok_Ring_names e).mono (by decide)
  have hm_Ring_slip : MOk W 7 "Ring" "slip" ⟨2, sp_Ring_slip⟩ := (ok_Ring_slip e).mono (by decide)
  have hk_Ring : MkOk W 7 "Ring" ⟨2, sp_Ring⟩ := (ok_Ring e hat).mono (by decide)
  simp only [c_least_of, okS, okE, and_self, and_true, true_and, h_needs, hm_Ring_names, hm_Ring_slip, hk_Ring]
theorem sc__law_begin : L2.FnScope N__law_begin ["_law_script"] (L2.defScope s__law_begin) := ⟨rfl, rfl, rfl, by decide +kernel, rfl, by decide +kernel, by decide +kernel⟩
theorem ck__law_begin : isState1 Bs N__law_begin "_law_cell" (L2.defScope s__law_begin) (L2.defBody s__law_begin) = true := by decide +kernel
theorem sc_law : L2.FnScope N_law ["_law_script"] (L2.defScope s_law) := ⟨rfl, rfl, rfl, by decide +kernel, rfl, by decide +kernel, by decide +kernel⟩
theorem ck_law : isLaw Bs N_law "_law_begin" c_law (L2.defScope s_law) (L2.defBody s_law) = true := by decide +kernel
theorem ok_law {f : Addr} {fd : FuncData} (hsa : W.sa = none) (e : Tx W aRing) (hat : W.cl ("@" : Str) = none) (F : L2.Fun W.K "law" "law" s_law f fd) : FnG W.P W.w W.K W.mg W.base (L2.CX W.P W.w) 9 f fd ["_law_script"] (spLaw W.K) := by
  obtain ⟨fS, fdS, FS, aS⟩ := e.T.t__law_begin.ex
  have GS : FnG W.P W.w W.K W.mg W.base (L2.CX W.P W.w) 8 fS fdS ["_law_script"] (spSt W) := state1_ok hsa FS sc__law_begin rfl rfl (bl e) ck__law_begin
  refine fn_law c_law F sc_law (by decide) rfl (bl e) GS (e.m _ _ aS) FS.kp (FS.binds fun _ _ _ _ _ _ us hl => match us, hl with | [_], _ => rfl) ck_law (fun a c l => ?_) vc_law
  have e' : Tx (W.at a c l) aRing := ⟨e.T, e.m, e.z, e.k_Ring⟩
  have h__law_all_rounds : FOk (W.at a c l) 8 "_law_all_rounds" ⟨2, sp__law_all_rounds⟩ := (ok__law_all_rounds e').mono (by decide)
  have h__law_crew : FOk (W.at a c l) 8 "_law_crew" ⟨2, sp__law_crew⟩ := (ok__law_crew e').mono (by decide)
  have h__law_draw : FOk (W.at a c l) 8 "_law_draw" ⟨2, sp__law_draw⟩ := (ok__law_draw e').mono (by decide)
  have h__law_marks : FOk (W.at a c l) 8 "_law_marks" ⟨2, sp__law_marks⟩ := (ok__law_marks e').mono (by decide)
  have h__law_needed : FOk (W.at a c l) 8 "_law_needed" ⟨2, sp__law_needed⟩ := (ok__law_needed e').mono (by decide)
  have h__law_none_less : FOk (W.at a c l) 8 "_law_none_less" ⟨4, sp__law_none_less⟩ := (ok__law_none_less e').mono (by decide)
  have h_least_of : FOk (W.at a c l) 8 "least_of" ⟨1, sp_least_of⟩ := (ok_least_of e' hat).mono (by decide)
  have hi_Ring : IsOk (W.at a c l) "Ring" := io_Ring e'
  have hkw0 : KOk (W.at a c l) 8 "least_of" ⟨1, sp_least_of⟩ 0 ["ring"] [0] := (okw0 e' hat).mono (by decide)
  have hm_Ring___eq__ : MOk (W.at a c l) 8 "Ring" "__eq__" ⟨2, sp_Ring___eq__⟩ := (ok_Ring___eq__ e').mono (by decide)
  have hm_Ring_names : MOk (W.at a c l) 8 "Ring" "names" ⟨1, sp_Ring_names⟩ := (ok_Ring_names e').mono (by decide)
  have hm_Ring_slips : MOk (W.at a c l) 8 "Ring" "slips" ⟨1, sp_Ring_slips⟩ := (ok_Ring_slips e').mono (by decide)
  have hk_Ring : MkOk (W.at a c l) 8 "Ring" ⟨2, sp_Ring⟩ := (ok_Ring e' hat).mono (by decide)
  simp only [c_law, okS, okE, and_self, and_true, true_and, h__law_all_rounds, h__law_crew, h__law_draw, h__law_marks, h__law_needed, h__law_none_less, h_least_of, hi_Ring, hkw0, hm_Ring___eq__, hm_Ring_names, hm_Ring_slips, hk_Ring]
theorem all_mk {l : PySem.W.OpenLaw} {w : World} {K : PySem.W.Frag} {h : Heap} {mg : Str → Option Value} {fa : Addr} {aRing : Addr} (X : K.In h) (G : h.Ns mainGlobals mg) (hfa : mg "law" = some (.ref fa)) (T : Txt K aRing) :
    ∃ fd : FuncData, (∀ (s : Shared) (v : Value), BindsTo s fd ⟨[v], []⟩ [("_law_script", v)]) ∧ ∀ base : Heap, K.In base → base.Ns mainGlobals mg → FnG l.prog w K mg base (L2.CX l.prog w) 9 fa fd ["_law_script"] (spLaw K) := by
  obtain ⟨f, fd, F, a⟩ := T.t_law.ex
  have q := hfa.symm.trans (PySem.W.mg_of X G a)
  cases q
  refine ⟨fd, ?_, fun base _ _ => ?_⟩
  · obtain ⟨oc, od, kV, doc, pm, an, cdv, ct, osl, rfl, lk, hcd⟩ := F.ex
    exact fun s v => .of_eq rfl
  · exact ok_law (W := ⟨l.prog, w, K, mg, base, fun c => if c = ("Ring" : Str) then some aRing else none, none, 0, none⟩) rfl ⟨T, fun x u h => PySem.W.mg_of X G h, fun x h => PySem.W.mg_none_of X G h, by show (if ("Ring" : Str) = "Ring" then some aRing else none) = _; rw [if_pos rfl]⟩ (by show (if ("@" : Str) = "Ring" then some aRing else none) = none; rw [if_neg (by decide +kernel)]; try rfl) F
end
end K31
set_option maxRecDepth 100000
theorem K31.cx_none {P : PySem.Program} {w : PySem.World} {H : L2.Hp} {s : PySem.Shared} {e : PySem.Value} {s' : PySem.Shared} (h : L2.CX P w [] H s (fun _ _ _ => False) e s') : False := by
  obtain ⟨_, _, _, _, _, _, _, _, _, _, _, _, z⟩ := h
  exact z.elim
open PySem PySem.W PyProof.Rows
set_option maxHeartbeats 0 in
theorem PySem.Challenge.cw_goersay_k31_least_slips_that_do_alike_holds : PySem.Challenge.rw_goersay_k31_least_slips_that_do_alike.Holds := by
  w_on; o_law; k_head; (case hw => w_witness2)
  k_fill
  refine G.walkG (l := PySem.Challenge.rw_goersay_k31_least_slips_that_do_alike) (n := 63) (k := 9) (x := "_law_script") (cx := fun w => L2.CX (PySem.Challenge.rw_goersay_k31_least_slips_that_do_alike).prog w) (sp := fun w => G.spLaw _) rfl (by decide) rfl ⟨rfl, by decide, by decide⟩ (fun w h Y => PySem.W.kIn_of Y) ?F (fun w H a ns hl hb _ hS => ⟨a, ns, rfl, hS, hl, hb, fun _ => rfl⟩) (fun w H s e s' h => K31.cx_none h)
  case F =>
    intro w mg fa h KX GX hmg
    refine' K31.all_mk KX GX hmg ⟨?t_is_number, ?t_is_name, ?t_is_rest, ?t_require_rest, ?t_greatest_divisor, ?t_inverse_modulo, ?t_both, ?t_are_names, ?t_need_names, ?t_behind, ?t_sitting_behind, ?t_said_by, ?t_put_together, ?t_needs_of, ?t_needs, ?t_least_of, ?t__law_begin, ?t__law_draw, ?t__law_pick, ?t__law_mixed, ?t__law_crew, ?t__law_slip, ?t__law_marks, ?t__law_goes, ?t__law_common, ?t__law_multiple, ?t__law_said_by, ?t__law_needed, ?t__law_all_rounds, ?t__law_with, ?t__law_none_less, ?t_law, ?c_Ring, ?m_Ring___init__, ?m_Ring___eq__, ?m_Ring_need_name, ?m_Ring_names, ?m_Ring_slips, ?m_Ring_slip, ?m_Ring_order, ?n_Ring_own_seats, ?n_Ring_own_slips, ?i_Ring, ?z_abs, ?z_all, ?z_bool, ?z_dict, ?z_enumerate, ?z_int, ?z_isinstance, ?z_len, ?z_list, ?z_min, ?z_range, ?z_repr, ?z_set, ?z_str, ?z_tuple, ?z_zip, ?g_FEWEST, ?g_LETTERS, ?g_MOST, ?g_MOST_LETTERS⟩
    (case t_is_number => (refine' G.fnTxt_mk ?a ?l ?c ?k; (case a => k_is); (case l => k_is); (case c => k_is); (case k => k_is)))
    (case t_is_name => (refine' G.fnTxt_mk ?a ?l ?c ?k; (case a => k_is); (case l => k_is); (case c => k_is); (case k => k_is)))
    (case t_is_rest => (refine' G.fnTxt_mk ?a ?l ?c ?k; (case a => k_is); (case l => k_is); (case c => k_is); (case k => k_is)))
    (case t_require_rest => (refine' G.fnTxt_mk ?a ?l ?c ?k; (case a => k_is); (case l => k_is); (case c => k_is); (case k => k_is)))
    (case t_greatest_divisor => (refine' G.fnTxt_mk ?a ?l ?c ?k; (case a => k_is); (case l => k_is); (case c => k_is); (case k => k_is)))
    (case t_inverse_modulo => (refine' G.fnTxt_mk ?a ?l ?c ?k; (case a => k_is); (case l => k_is); (case c => k_is); (case k => k_is)))
    (case t_both => (refine' G.fnTxt_mk ?a ?l ?c ?k; (case a => k_is); (case l => k_is); (case c => k_is); (case k => k_is)))
    (case t_are_names => (refine' G.fnTxt_mk ?a ?l ?c ?k; (case a => k_is); (case l => k_is); (case c => k_is); (case k => k_is)))
    (case t_need_names => (refine' G.fnTxt_mk ?a ?l ?c ?k; (case a => k_is); (case l => k_is); (case c => k_is); (case k => k_is)))
    (case t_behind => (refine' G.fnTxt_mk ?a ?l ?c ?k; (case a => k_is); (case l => k_is); (case c => k_is); (case k => k_is)))
    (case t_sitting_behind => (refine' G.fnTxt_mk ?a ?l ?c ?k; (case a => k_is); (case l => k_is); (case c => k_is); (case k => k_is)))
    (case t_said_by => (refine' G.fnTxt_mk ?a ?l ?c ?k; (case a => k_is); (case l => k_is); (case c => k_is); (case k => k_is)))
    (case t_put_together => (refine' G.fnTxt_mk ?a ?l ?c ?k; (case a => k_is); (case l => k_is); (case c => k_is); (case k => k_is)))
    (case t_needs_of => (refine' G.fnTxt_mk ?a ?l ?c ?k; (case a => k_is); (case l => k_is); (case c => k_is); (case k => k_is)))
    (case t_needs => (refine' G.fnTxt_mk ?a ?l ?c ?k; (case a => k_is); (case l => k_is); (case c => k_is); (case k => k_is)))
    (case t_least_of => (refine' G.fnTxt_mk ?a ?l ?c ?k; (case a => k_is); (case l => k_is); (case c => k_is); (case k => k_is)))
    (case t__law_begin => (refine' G.fnTxt_mk ?a ?l ?c ?k; (case a => k_is); (case l => k_is); (case c => k_is); (case k => k_is)))
    (case t__law_draw => (refine' G.fnTxt_mk ?a ?l ?c ?k; (case a => k_is); (case l => k_is); (case c => k_is); (case k => k_is)))
    (case t__law_pick => (refine' G.fnTxt_mk ?a ?l ?c ?k; (case a => k_is); (case l => k_is); (case c => k_is); (case k => k_is)))
    (case t__law_mixed => (refine' G.fnTxt_mk ?a ?l ?c ?k; (case a => k_is); (case l => k_is); (case c => k_is); (case k => k_is)))
    (case t__law_crew => (refine' G.fnTxt_mk ?a ?l ?c ?k; (case a => k_is); (case l => k_is); (case c => k_is); (case k => k_is)))
    (case t__law_slip => (refine' G.fnTxt_mk ?a ?l ?c ?k; (case a => k_is); (case l => k_is); (case c => k_is); (case k => k_is)))
    (case t__law_marks => (refine' G.fnTxt_mk ?a ?l ?c ?k; (case a => k_is); (case l => k_is); (case c => k_is); (case k => k_is)))
    (case t__law_goes => (refine' G.fnTxt_mk ?a ?l ?c ?k; (case a => k_is); (case l => k_is); (case c => k_is); (case k => k_is)))
    (case t__law_common => (refine' G.fnTxt_mk ?a ?l ?c ?k; (case a => k_is); (case l => k_is); (case c => k_is); (case k => k_is)))
    (case t__law_multiple => (refine' G.fnTxt_mk ?a ?l ?c ?k; (case a => k_is); (case l => k_is); (case c => k_is); (case k => k_is)))
    (case t__law_said_by => (refine' G.fnTxt_mk ?a ?l ?c ?k; (case a => k_is); (case l => k_is); (case c => k_is); (case k => k_is)))
    (case t__law_needed => (refine' G.fnTxt_mk ?a ?l ?c ?k; (case a => k_is); (case l => k_is); (case c => k_is); (case k => k_is)))
    (case t__law_all_rounds => (refine' G.fnTxt_mk ?a ?l ?c ?k; (case a => k_is); (case l => k_is); (case c => k_is); (case k => k_is)))
    (case t__law_with => (refine' G.fnTxt_mk ?a ?l ?c ?k; (case a => k_is); (case l => k_is); (case c => k_is); (case k => k_is)))
    (case t__law_none_less => (refine' G.fnTxt_mk ?a ?l ?c ?k; (case a => k_is); (case l => k_is); (case c => k_is); (case k => k_is)))
    (case t_law => (refine' G.fnTxt_mk ?a ?l ?c ?k; (case a => k_is); (case l => k_is); (case c => k_is); (case k => k_is)))
    (case c_Ring => (refine' G.cTxt_mk ?a ?pg ?hd ?po ?sa ?mk ?kc; (case a => k_is); (case pg => k_is); (case hd => k_is); (case po => k_is); (case sa => k_is); (case mk => k_is); (case kc => k_is)))
    (case m_Ring___init__ => (refine' G.mTxt_mk ?a ?i ?l ?c ?k; (case a => k_is); (case i => k_is); (case l => k_is); (case c => k_is); (case k => k_is)))
    (case m_Ring___eq__ => (refine' G.mTxt_mk ?a ?i ?l ?c ?k; (case a => k_is); (case i => k_is); (case l => k_is); (case c => k_is); (case k => k_is)))
    (case m_Ring_need_name => (refine' G.mTxt_mk ?a ?i ?l ?c ?k; (case a => k_is); (case i => k_is); (case l => k_is); (case c => k_is); (case k => k_is)))
    (case m_Ring_names => (refine' G.mTxt_mk ?a ?i ?l ?c ?k; (case a => k_is); (case i => k_is); (case l => k_is); (case c => k_is); (case k => k_is)))
    (case m_Ring_slips => (refine' G.mTxt_mk ?a ?i ?l ?c ?k; (case a => k_is); (case i => k_is); (case l => k_is); (case c => k_is); (case k => k_is)))
    (case m_Ring_slip => (refine' G.mTxt_mk ?a ?i ?l ?c ?k; (case a => k_is); (case i => k_is); (case l => k_is); (case c => k_is); (case k => k_is)))
    (case m_Ring_order => (refine' G.mTxt_mk ?a ?i ?l ?c ?k; (case a => k_is); (case i => k_is); (case l => k_is); (case c => k_is); (case k => k_is)))
    (case n_Ring_own_seats => (unfold L2.NoAttr; k_is))
    (case n_Ring_own_slips => (unfold L2.NoAttr; k_is))
    (case i_Ring => (refine' G.IsTxt.mk ?a ?b ?c ?d; (case a => k_is); (case b => k_is); (case c => k_is); (case d => k_is)))
    (case z_abs => k_is)
    (case z_all => k_is)
    (case z_bool => k_is)
    (case z_dict => k_is)
    (case z_enumerate => k_is)
    (case z_int => k_is)
    (case z_isinstance => k_is)
    (case z_len => k_is)
    (case z_list => k_is)
    (case z_min => k_is)
    (case z_range => k_is)
    (case z_repr => k_is)
    (case z_set => k_is)
    (case z_str => k_is)
    (case z_tuple => k_is)
    (case z_zip => k_is)
    (case g_FEWEST => (refine' K31.gTxt_mk ?a ?r; (case a => k_is); (case r => first | exact ⟨_, rfl⟩ | exact rfl)))
    (case g_LETTERS => (refine' K31.gTxt_mk ?a ?r; (case a => k_is); (case r => first | exact ⟨_, rfl⟩ | exact rfl)))
    (case g_MOST => (refine' K31.gTxt_mk ?a ?r; (case a => k_is); (case r => first | exact ⟨_, rfl⟩ | exact rfl)))
    (case g_MOST_LETTERS => (refine' K31.gTxt_mk ?a ?r; (case a => k_is); (case r => first | exact ⟨_, rfl⟩ | exact rfl)))
