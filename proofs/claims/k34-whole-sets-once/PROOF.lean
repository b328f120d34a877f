import PyProof.Rows.All
import Wide.All
import OpenK.AllK
import Wide.FinOn
import PySem.Challenge.RW_parksums_k34_whole_sets_once
import HandS.ForMost
import HandS.Walk
import HandS.Conv
import HandS.Star
import HandS.IsInst
import HandS.TupAny
import HandS.TupSets
import HandS.SortInts
import HandS.SortRule
import HandS.AnyAll
import HandS.EndTab
import HandS.EndOwn
import HandS.Wide
import KE.SortData
import KE.DatumMoreOrd
import KE.GoesMore
import PyProof.GenCompD
import PyProof.IsiPairs
set_option Elab.async false
set_option linter.all false
set_option maxRecDepth 100000
set_option maxHeartbeats 4000000
namespace Pk
open PySem PySem.Spec PyProof.Rows L2
def topS (i : Nat) : Stmt := PySem.Challenge.pw_parksums_k34_whole_sets_once.main.body.getD i (.Pass ⟨0, 0, 0, 0⟩)
abbrev sIsIn : Stmt := topS 8
abbrev nIsIn : List Str := ["value", "least", "most"]
abbrev pIsIn : List Str := ["value", "least", "most"]
theorem scIsIn : FnScope nIsIn pIsIn (defScope sIsIn) := ⟨rfl, rfl, rfl, by decide +kernel, rfl, by decide +kernel, by decide +kernel⟩
abbrev sNeedSize : Stmt := topS 9
abbrev nNeedSize : List Str := ["size"]
abbrev pNeedSize : List Str := ["size"]
theorem scNeedSize : FnScope nNeedSize pNeedSize (defScope sNeedSize) := ⟨rfl, rfl, rfl, by decide +kernel, rfl, by decide +kernel, by decide +kernel⟩
abbrev sIsSet : Stmt := topS 10
abbrev nIsSet : List Str := ["size", "value"]
abbrev pIsSet : List Str := ["size", "value"]
theorem scIsSet : FnScope nIsSet pIsSet (defScope sIsSet) := ⟨rfl, rfl, rfl, by decide +kernel, rfl, by decide +kernel, by decide +kernel⟩
abbrev sNeedSet : Stmt := topS 11
abbrev nNeedSet : List Str := ["size", "one"]
abbrev pNeedSet : List Str := ["size", "one"]
theorem scNeedSet : FnScope nNeedSet pNeedSet (defScope sNeedSet) := ⟨rfl, rfl, rfl, by decide +kernel, rfl, by decide +kernel, by decide +kernel⟩
abbrev sSpots : Stmt := topS 12
abbrev nSpots : List Str := ["size", "wishes", "found", "taken", "wish"]
abbrev pSpots : List Str := ["size", "wishes"]
theorem scSpots : FnScope nSpots pSpots (defScope sSpots) := ⟨rfl, rfl, rfl, by decide +kernel, rfl, by decide +kernel, by decide +kernel⟩
abbrev sEvery : Stmt := topS 13
abbrev nEvery : List Str := ["size"]
abbrev pEvery : List Str := ["size"]
theorem scEvery : FnScope nEvery pEvery (defScope sEvery) := ⟨rfl, rfl, rfl, by decide +kernel, rfl, by decide +kernel, by decide +kernel⟩
abbrev sBlocks : Stmt := topS 15
abbrev nBlocks : List Str := ["size", "one", "found", "place", "length"]
abbrev pBlocks : List Str := ["size", "one"]
theorem scBlocks : FnScope nBlocks pBlocks (defScope sBlocks) := ⟨rfl, rfl, rfl, by decide +kernel, rfl, by decide +kernel, by decide +kernel⟩
abbrev sAdded : Stmt := topS 18
abbrev nAdded : List Str := ["size", "one", "other"]
abbrev pAdded : List Str := ["size", "one", "other"]
theorem scAdded : FnScope nAdded pAdded (defScope sAdded) := ⟨rfl, rfl, rfl, by decide +kernel, rfl, by decide +kernel, by decide +kernel⟩
abbrev sWhole : Stmt := topS 19
abbrev nWhole : List Str := ["size", "sets", "found", "one"]
abbrev pWhole : List Str := ["size", "sets"]
theorem scWhole : FnScope nWhole pWhole (defScope sWhole) := ⟨rfl, rfl, rfl, by decide +kernel, rfl, by decide +kernel, by decide +kernel⟩
abbrev sNeedSets : Stmt := topS 20
abbrev nNeedSets : List Str := ["size", "sets", "index", "one"]
abbrev pNeedSets : List Str := ["size", "sets"]
theorem scNeedSets : FnScope nNeedSets pNeedSets (defScope sNeedSets) := ⟨rfl, rfl, rfl, by decide +kernel, rfl, by decide +kernel, by decide +kernel⟩
abbrev sChoices : Stmt := topS 22
abbrev nChoices : List Str := ["size", "sets", "found", "index", "one", "some", "total", "many"]
abbrev pChoices : List Str := ["size", "sets"]
theorem scChoices : FnScope nChoices pChoices (defScope sChoices) := ⟨rfl, rfl, rfl, by decide +kernel, rfl, by decide +kernel, by decide +kernel⟩
abbrev sNeedChoice : Stmt := topS 23
abbrev nNeedChoice : List Str := ["size", "sets", "goal"]
abbrev pNeedChoice : List Str := ["size", "sets", "goal"]
theorem scNeedChoice : FnScope nNeedChoice pNeedChoice (defScope sNeedChoice) := ⟨rfl, rfl, rfl, by decide +kernel, rfl, by decide +kernel, by decide +kernel⟩
abbrev sOnceSum : Stmt := topS 24
abbrev nOnceSum : List Str := ["size", "sets", "goal", "some", "total"]
abbrev pOnceSum : List Str := ["size", "sets", "goal"]
theorem scOnceSum : FnScope nOnceSum pOnceSum (defScope sOnceSum) := ⟨rfl, rfl, rfl, by decide +kernel, rfl, by decide +kernel, by decide +kernel⟩
abbrev sOnceCount : Stmt := topS 25
abbrev nOnceCount : List Str := ["size", "sets", "goal", "some", "total"]
abbrev pOnceCount : List Str := ["size", "sets", "goal"]
theorem scOnceCount : FnScope nOnceCount pOnceCount (defScope sOnceCount) := ⟨rfl, rfl, rfl, by decide +kernel, rfl, by decide +kernel, by decide +kernel⟩
abbrev sEqualSums : Stmt := topS 26
abbrev nEqualSums : List Str := ["size", "sets", "found", "second", "first", "rest", "k", "one"]
abbrev pEqualSums : List Str := ["size", "sets"]
theorem scEqualSums : FnScope nEqualSums pEqualSums (defScope sEqualSums) := ⟨rfl, rfl, rfl, by decide +kernel, rfl, by decide +kernel, by decide +kernel⟩
abbrev sGaps : Stmt := topS 27
abbrev nGaps : List Str := ["size", "one", "place"]
abbrev pGaps : List Str := ["size", "one"]
theorem scGaps : FnScope nGaps pGaps (defScope sGaps) := ⟨rfl, rfl, rfl, by decide +kernel, rfl, by decide +kernel, by decide +kernel⟩
abbrev sTaken : Stmt := topS 29
abbrev nTaken : List Str := ["_law_row", "_law_many", "_law_found", "_law_cell"]
abbrev pTaken : List Str := ["_law_row", "_law_many"]
theorem scTaken : FnScope nTaken pTaken (defScope sTaken) := ⟨rfl, rfl, rfl, by decide +kernel, rfl, by decide +kernel, by decide +kernel⟩
abbrev sPick : Stmt := topS 30
abbrev nPick : List Str := ["_law_row", "_law_things"]
abbrev pPick : List Str := ["_law_row", "_law_things"]
theorem scPick : FnScope nPick pPick (defScope sPick) := ⟨rfl, rfl, rfl, by decide +kernel, rfl, by decide +kernel, by decide +kernel⟩
abbrev sAlike : Stmt := topS 31
abbrev nAlike : List Str := ["_law_found", "_law_due", "_law_k"]
abbrev pAlike : List Str := ["_law_found", "_law_due"]
theorem scAlike : FnScope nAlike pAlike (defScope sAlike) := ⟨rfl, rfl, rfl, by decide +kernel, rfl, by decide +kernel, by decide +kernel⟩
abbrev sLSpots : Stmt := topS 32
abbrev nLSpots : List Str := ["_law_size", "_law_wishes_here", "_law_found", "_law_wish"]
abbrev pLSpots : List Str := ["_law_size", "_law_wishes_here"]
theorem scLSpots : FnScope nLSpots pLSpots (defScope sLSpots) := ⟨rfl, rfl, rfl, by decide +kernel, rfl, by decide +kernel, by decide +kernel⟩
abbrev sLSum : Stmt := topS 33
abbrev nLSum : List Str := ["_law_size", "_law_one", "_law_other", "_law_cars"]
abbrev pLSum : List Str := ["_law_size", "_law_one", "_law_other"]
theorem scLSum : FnScope nLSum pLSum (defScope sLSum) := ⟨rfl, rfl, rfl, by decide +kernel, rfl, by decide +kernel, by decide +kernel⟩
abbrev sLSet : Stmt := topS 35
abbrev nLSet : List Str := ["_law_row", "_law_size", "_law_way", "_law_first", "_law_length", "_law_k", "_law_place"]
abbrev pLSet : List Str := ["_law_row", "_law_size"]
theorem scLSet : FnScope nLSet pLSet (defScope sLSet) := ⟨rfl, rfl, rfl, by decide +kernel, rfl, by decide +kernel, by decide +kernel⟩
abbrev sLaw : Stmt := topS 37
abbrev nLaw : List Str := ["_law_script", "_law_row", "_law_size", "_law_sets_here", "_law_turn", "_law_place", "_law_some", "_law_k", "_law_goal", "_law_fits", "_law_few", "_law_due", "_law_pairs", "_law_second", "_law_first", "_law_rest", "_law_one", "_law_length", "_law_word", "_law_total"]
abbrev pLaw : List Str := ["_law_script"]
theorem scLaw : FnScope nLaw pLaw (defScope sLaw) := ⟨rfl, rfl, rfl, by decide +kernel, rfl, by decide +kernel, by decide +kernel⟩
end Pk

/-! enumerate of a tuple, as a rule of the layer -/
namespace Pk
open PySem PySem.Spec PyProof.Rows L2
abbrev tupItO (l : Addr) : Obj := { cls := .type "tuple_iterator", data := .fields #[.ref l, .int 0 0] }
abbrev enumO (i : Addr) : Obj := { cls := .type "enumerate", data := .fields #[.none, .bool false, .ref i, rawInt 0, .none, .none] }
theorem meetsEnT (l : Addr) (items : Array Value) :
    Meets (Builtin.«enumerate.__new__» ⟨[.type "enumerate", .ref l], []⟩) (fun _ R s => s.heap.IsTuple l items ∧
      R (.ok (.ret (.ref (s.heap.push (tupItO l)).objs.size))) { s with heap := (s.heap.push (tupItO l)).push (enumO s.heap.objs.size) }) :=
  .of_wp fun prog w A R s h => by
    obtain ⟨hp, g, dr, tk, os⟩ := s
    obtain ⟨ht, h⟩ := h
    have hsub := sub_enumerate
    have step : ∀ {A' : Around} {E : Value → Shared → Prop} {Q : Value → Shared → Prop}, Q (.ref hp.objs.size) ⟨hp.push (tupItO l), g, dr, tk, os⟩ → wpAny (model prog w) A' (pyIter (.ref l)) Q E ⟨hp, g, dr, tk, os⟩ :=
      fun q => wpAny_pyIter_tuple (s := ⟨hp, g, dr, tk, os⟩) ht q
    wp_walk using step
    refine wpAny_stack_any fun st => wpAny_pure ?_
    split
    · rename_i c _ _ _ _ _
      cases (c == Value.type "enumerate")
      · wp_walk using step
        exact ⟨_, rfl, h⟩
      · wp_walk using step
        exact ⟨_, rfl, h⟩
    · wp_walk using step
      exact ⟨_, rfl, h⟩
section
variable {prog : Program} {w : World} {A : Around} {E : Value → Shared → Prop} {s : Shared}
theorem call_enT {l : Addr} {items : Array Value} {Q : Value → Shared → Prop} (hT : s.heap.IsTuple l items)
    (h : ∀ h', IsEnum h' (s.heap.objs.size + 1) s.heap.objs.size 0 .none → h'.IsTupleIter s.heap.objs.size l 0 → h'.objs.size = s.heap.objs.size + 2 →
      (∀ b o, s.heap.get? b = some o → h'.get? b = some o) → Q (.ref (s.heap.objs.size + 1)) { s with heap := h' }) :
    wpAny (model prog w) A (call (.type "enumerate") [.ref l]) Q E s := by
  refine callType_new F.called_enumerate (by decide) (F.typeCall_enumerate_1 _) (F.newCall_enumerate_1 _) (fun ob => F.args_object_init_2 ob _) F.entry_enumerate_new (meetsEnT l items) ⟨hT, ?_⟩
  have hz : (s.heap.push (tupItO l)).objs.size = s.heap.objs.size + 1 := Heap.size_push ..
  show _ ∧ _
  rw [hz]
  have he : IsEnum ((s.heap.push (tupItO l)).push (enumO s.heap.objs.size)) (s.heap.objs.size + 1) s.heap.objs.size 0 .none := by
    have q := Heap.get?_push_size (s.heap.push (tupItO l)) (o := enumO s.heap.objs.size) rfl
    rw [hz] at q
    exact q
  refine ⟨⟨_, he, rfl⟩, h _ he ⟨_, Heap.get?_push_of_some _ (Heap.get?_push_size _ rfl), rfl, rfl⟩ ?_ fun b o x => Heap.get?_push_of_some _ (Heap.get?_push_of_some _ x)⟩
  rw [Heap.size_push, hz]
theorem next_enT_end {e it l : Addr} {i : Nat} {items : Array Value} {old : Value} {Q : Option Value → Shared → Prop} (hh : A.handled = none) (he : IsEnum s.heap e it i old) (hit : s.heap.IsTupleIter it l i)
    (hl : s.heap.IsTuple l items) (hx : items[i]? = none) (hQ : ∀ h', Heap.ExtBut it s.heap h' → Q none { s with heap := h' }) : wpAny (model prog w) A (pyNext (.ref e)) Q E s := by
  have isE : s.TypeIs (.ref e) "enumerate" := ⟨_, he, rfl⟩
  unfold pyNext
  refine wpAny_bind (wpAny_attempt (wpAny_callSpecial?_slot (name := Str.ofString "__next__") isE F.slot_enumerate_next (wpAny_call_entry F.slot_enumerate_next isE F.entry_enumerate_next ?_ (F.args_enumerate_next_1 _))))
  show wpAny _ _ (field (.ref e) 2 >>= _) _ _ _
  refine wpAny_bind (wpAny_field he rfl (x := .ref it) rfl ?_)
  refine wpAny_bind (wpAny_nextOf_tuple_end hh hit hl hx fun h' x he2 ⟨o, ho, hc⟩ => ?_)
  exact wpAny_bind (wpAny_isInstance (T := "StopIteration") (b := true) ⟨o, ho, hc⟩ isSubtype_stop (wpAny_pure (hQ _ he2)))
end
/-- the tuple at a as it stands, its items in new pairs (place, item) -/
def IteT (K : PySem.W.Frag) (a : Addr) : It :=
  ⟨fun i H => ∃ (xs : List V) (x : V), SqT K H a xs ∧ xs[i]? = some x,
   fun i H v H' => ∃ T x, v = .ref T ∧ H T = none ∧ H' = upd H T (.tup [.int (i : Nat), x]) ∧ ∀ xs, SqT K H a xs → xs[i]? = some x,
   fun i H => ∃ xs : List V, SqT K H a xs ∧ xs.length ≤ i⟩
theorem turn_enT {P : Program} {w : World} {K : PySem.W.Frag} {elts : List Expr} {kk : Nat} {tpos : Pos} (a e it : Addr) :
    Turn P w K (.Tuple elts kk tpos) (IteT K a) [e, it] e (fun i h => (∃ old, IsEnum h e it ((i : Nat) : Int) old) ∧ h.IsTupleIter it a i ∧ e ≠ it ∧ a ≠ e ∧ a ≠ it) where
  mem := List.mem_cons_self
  obj := fun i h st b hb => by
    obtain ⟨⟨old, he⟩, ⟨o, ho, hc, hd⟩, _⟩ := st
    have cs : b = e ∨ b = it := by simpa using hb
    rcases cs with z | z
    · rw [z]
      exact ⟨_, he, fun v q => nomatch q⟩
    · rw [z]
      exact ⟨o, ho, fun v q => by rw [hd] at q; cases q⟩
  keep := fun i h h' st k => by
    obtain ⟨⟨old, he⟩, hi, hne⟩ := st
    exact ⟨⟨old, k e (by simp) _ he⟩, hi.at fun o q => k it (by simp) o q, hne⟩
  item := by
    intro X hP hw hK hc i pins s σ H E I hf st hg
    subst hP hw hK
    obtain ⟨⟨old, he⟩, hit, hne, hae, hai⟩ := st
    obtain ⟨xs, x, hq, hx⟩ := hg
    obtain ⟨its, rv, p, hz⟩ := I.tuple hq
    obtain ⟨u, hu, ru⟩ := rv.get hx
    have hel : e < s.heap.objs.size := Heap.lt_size he
    have hil : it < s.heap.objs.size := by
      obtain ⟨_, q, _⟩ := hit
      exact Heap.lt_size q
    have hlt : i < its.toArray.size := by
      rw [List.size_toArray, ← rv.length]
      exact (List.getElem?_eq_some_iff.mp hx).1
    refine wpAny_pyNext_enum_itemD (Draws.tuple (prog := X.prog) (w := X.w) (A := X.A.in1) (I.ok.hd hc) it a hai its.toArray) he ⟨hit, p⟩ hlt hne (by simp [hne, Ne.symm hae]) fun u' h' tk hPu ho hst' hT hsz hk => ?_
    have eu : u' = u := by
      have q : its.toArray[i]? = some u' := hPu
      rw [List.getElem?_toArray] at q
      exact Option.some.inj (q.symm.trans hu)
    subst eu
    obtain ⟨hit', _⟩ := hst'
    refine ⟨_, rfl, wpAny_letOwnedTupleGo_enum (s := { s with heap := h', toks := tk + 1 }) ho fun h'' he' sb => ?_⟩
    have hT2 : h''.get? s.heap.objs.size = some { cls := .type "tuple", data := .seq #[.int i tk, u'] } := (sb.2 _ (Nat.ne_of_gt hel)).trans hT
    have new : ObjOk X.prog X.w (upd H s.heap.objs.size (.tup [.int (i : Nat), x])) h'' s.heap.objs.size (.tup [.int (i : Nat), x]) :=
      ⟨by show 2 ≤ sizeLine; decide, [.int i tk, u'], .cons ⟨_, rfl⟩ (.cons ru .nil), ⟨_, hT2, rfl, _, rfl⟩⟩
    have I1 : Inv X pins σ (upd H s.heap.objs.size (.tup [.int (i : Nat), x])) { s with heap := h'', toks := tk + 1 } :=
      I.turnedNew (ch := [e, it]) (fun b ob hb q => (sb.2 b (fun z => hb (by simp [z]))).trans (hk b ob (fun z => hb (by simp [z])) (fun z => hb (by simp [z])) q)) hf (Nat.le_refl _) new
    refine ⟨.ref s.heap.objs.size, _, I1, rfl, ⟨_, x, rfl, I.hok.fresh (Nat.le_refl _), rfl, fun ys hy => by rw [I.tuple_inj hy hq]; exact hx⟩, ⟨⟨u', ?_⟩, hit'.at fun o q => (sb.2 it (Ne.symm hne)).trans q, hne, hae, hai⟩, fun b hb => ?_⟩
    · have e1 : ((i + 1 : Nat) : Int) = (i : Int) + 1 := by omega
      rw [e1]
      exact he'
    · have hb' : b < s.heap.objs.size := by
        have cs : b = e ∨ b = it := by simpa using hb
        rcases cs with z | z
        · rw [z]
          exact hel
        · rw [z]
          exact hil
      rw [upd_ne (Nat.ne_of_lt hb')]
      exact (hf b hb).1
  done := by
    intro X hP hw hK hc i pins s σ H E I hf st hg
    subst hP hw hK
    obtain ⟨⟨old, he⟩, hit, hne, hae, hai⟩ := st
    obtain ⟨xs, hq, hx⟩ := hg
    obtain ⟨its, rv, p, hz⟩ := I.tuple hq
    obtain ⟨f0, f1, f2, f3, f4, f5⟩ := hf it (by simp)
    have hl := rv.length
    refine next_enT_end (I.ok.hd hc) he hit (show s.heap.IsTuple a its.toArray from p) (by simp; omega) fun h' eb => ⟨rfl, I.turned (t' := s.toks) (fun b o hb q => eb b o hb q) f0 f1 f3 f4 f5⟩
  self := fun A i s Q E st h => let ⟨⟨_, he⟩, _⟩ := st; wpAny_pyIter_enum he h
/-- for i, x in enumerate(t), t a tuple -/
def iEnT (K : PySem.W.Frag) (ta : TA) : TI := fun σ H R => ta σ H fun vs H1 => ∃ a xs, vs = [.ref a] ∧ SqT K H1 a xs ∧ R (IteT K a) H1
theorem pi_enT {X : Cx} {e : Expr} {ta : TA} {p pos tpos : Pos} {elts : List Expr} {kk : Nat} (hg : Gl X "enumerate") (hm : X.mg "enumerate" = none) (ha : PA X [e] ta) (hs : starEach [e] X.env = [(false, eval e X.env)] := by rfl) :
    PI X (.Tuple elts kk tpos) (.Call (.Name "enumerate" p) [e] [] pos) (iEnT X.K ta) := by
  refine ⟨fun pins s σ H R I h => ?_⟩
  refine Call_ (ld_blt I hg hm boot_enumerate (PyProof.Rows.callWith_type1 (thn (ha.run pos pins s σ H _ I h) fun us s1 hh => ?_) hs rfl))
  obtain ⟨vs, H1, I1, r1, a, xs, ex, hq, q⟩ := hh
  subst ex
  cases r1 with
  | cons r rr =>
    cases rr
    cases r
    obtain ⟨its, rv, p', hz⟩ := I1.tuple hq
    have hal : a < s1.heap.objs.size := IsTup.lt p'
    refine call_enT p' fun h' he hit hsz hk => wpAny_pyIter_enum he ?_
    have I2 : Inv X pins σ H1 { s1 with heap := h' } := I1.kept (t' := s1.toks) hk
    refine ⟨s1.heap.objs.size + 1, [s1.heap.objs.size + 1, s1.heap.objs.size], _, _, H1, rfl, I2, turn_enT a (s1.heap.objs.size + 1) s1.heap.objs.size,
      ⟨⟨.none, he⟩, hit, Nat.succ_ne_self _, Nat.ne_of_lt (Nat.lt_succ_of_lt hal), Nat.ne_of_lt hal⟩, fun b hb => ?_, q⟩
    have cs : b = s1.heap.objs.size + 1 ∨ b = s1.heap.objs.size := by simpa using hb
    have hle : s1.heap.objs.size ≤ b := by
      rcases cs with z | z
      · rw [z]
        exact Nat.le_add_right _ _
      · rw [z]
        exact Nat.le_refl _
    exact I1.fpOk hle (I1.hok.fresh hle)
theorem walk_enT {K : PySem.W.Frag} {a : Addr} {xs : List V} : Walk (IteT K a) xs.length (fun H => SqT K H a xs) (YPair (fun i => some (.int (i : Nat))) (fun i => xs[i]?)) := by
  refine ⟨fun i _ hi q => ⟨xs, xs[i], q, by simp [hi]⟩, fun _ q => ⟨xs, q, Nat.le_refl _⟩, fun i H v H' _ q y => ?_⟩
  obtain ⟨T, x, h1, h2, h3, h4⟩ := y
  exact ⟨T, .int (i : Nat), x, h1, h2, h3, rfl, h4 xs q⟩
end Pk

/-! sorted and min of alike data, as rules of the layer -/
namespace Pk
open PySem PySem.Spec PyProof.Rows L2
section
variable {X : Cx} {pins : List (Addr × Obj)} {σ : L2.St} {H : Hp} {s : Shared} {β : Type}
/-- v is a value that stands for the datum of b -/
abbrev ValD (K : PySem.W.Frag) (H : Hp) (enc : β → PyData) (v : Value) (b : β) : Prop := ∃ x : V, RelV x v ∧ Dp K H x (enc b)
theorem each_of {K : PySem.W.Frag} {enc : β → PyData} : ∀ {xs : List V} {us : List Value} {bs : List β}, Vals xs us → DpAll K H xs (bs.map enc) → PySem.W.EachIs (ValD K H enc) us bs
  | _, _, [], r, d => by
    cases d
    cases r
    exact .nil
  | _, _, b :: bs, r, d => by
    cases d with
    | cons d1 d2 =>
      cases r with
      | cons r1 r2 => exact .cons ⟨_, r1, d1⟩ (each_of r2 d2)
theorem of_each {K : PySem.W.Frag} {enc : β → PyData} {us : List Value} {bs : List β} (e : PySem.W.EachIs (ValD K H enc) us bs) : ∃ xs : List V, Vals xs us ∧ DpAll K H xs (bs.map enc) := by
  induction e with
  | nil => exact ⟨[], .nil, .nil⟩
  | cons h _ ih =>
    obtain ⟨x, r, d⟩ := h
    obtain ⟨xs, r2, d2⟩ := ih
    exact ⟨x :: xs, .cons r r2, .cons d d2⟩
/-- sorted(xs), xs a list of tuples whose places are alike: a new list of the same, in order -/
def rSortD (K : PySem.W.Frag) (enc : β → PyData) : List V → Hp → VK → Prop := fun vs H Q => ∃ (a : Addr) (xs : List V) (bs : List β), vs = [V.ref a] ∧ SqL K H a xs ∧ DpAll K H xs (bs.map enc) ∧
  ∀ ys p, DpAll K H ys ((bs.mergeSort (PySem.W.dataLe false enc)).map enc) → H p = none → Q (.ref p) (upd H p (.lst ys))
theorem dpAll_len {K : PySem.W.Frag} : ∀ {xs : List V} {ds : List PyData}, DpAll K H xs ds → xs.length = ds.length
  | _, [], h => by
    cases h
    rfl
  | _, d :: ds, h => by
    cases h with
    | cons h1 h2 => rw [List.length_cons, List.length_cons, dpAll_len h2]
theorem cr_sortD {enc : β → PyData} (hal : ∀ b b', PySem.W.alike (enc b) (enc b') = true) (ht : ∀ b, ∃ x r, enc b = .tuple (x :: r)) (hd : ∀ b, (enc b).depth ≤ 8) (hu : X.A.units + 64 < cLine) : CallR X (.builtin "sorted") (rSortD X.K enc) := by
  intro pins s σ H vs us Q I r h
  obtain ⟨a, xs, bs, rfl, hs, hx, q⟩ := h
  obtain ⟨its, rv, hl, hz⟩ := I.list hs
  rw [Vals.ref1 r]
  have hL : bs.length ≤ sizeLine := by
    have e := dpAll_len hx
    rw [List.length_map] at e
    rw [← e]
    exact hz
  have e1 := each_of rv hx
  refine PySem.W.sorted_data (vs := its) hl.isList e1 (e1.mono fun v b ⟨x, rx, dx⟩ => Dp.reads I _ _ _ dx rx) (PySem.W.AllAlike.of hal) (PySem.W.Sortable.tuples ht) hL (fun b _ => ?_) fun out ho eo => ?_
  · have := hd b
    omega
  · obtain ⟨ys, r2, d2⟩ := of_each eo
    obtain ⟨ep, he'⟩ := PyProof.Rows.sortedAll_at s.heap its out.toArray
    have hlen : ys.length ≤ sizeLine := by
      rw [r2.length, ho]
      exact hL
    exact ⟨.ref _, upd H (s.heap.objs.size + 1) (.lst ys), I.laid (t' := s.toks) (fun _ _ => PyProof.Rows.sortedAll_old) (Nat.le_succ _) ⟨hlen, out, ep, r2, he'⟩, rfl, q ys _ d2 (I.hok.fresh (Nat.le_succ _))⟩
end
section
open PySem.W (Datum DatumOrd Holds HoldAll minOf)
variable {X : Cx} {α : Type} [DecidableEq α] [DatumOrd α]
theorem holdAll_of {pins : List (Addr × Obj)} {σ : L2.St} {H : Hp} {s : Shared} (I : Inv X pins σ H s) {xs : List V} {us : List Value} {bs : List α} (r : Vals xs us) (d : DpAll X.K H xs (bs.map Datum.toD)) : HoldAll s.heap us bs :=
  Dp.readsAll I _ _ _ d r
theorem at_all {K : PySem.W.Frag} {H : Hp} {enc : α → PyData} : ∀ {xs : List V} {us : List Value} {bs : List α} {i : Nat} {v : Value}, Vals xs us → DpAll K H xs (bs.map enc) → us[i]? = some v → ∃ y b, xs[i]? = some y ∧ bs[i]? = some b ∧ RelV y v ∧ Dp K H y (enc b)
  | _, _, [], i, v, r, d, h => by
    cases d
    cases r
    simp at h
  | _, _, b :: bs, i, v, r, d, h => by
    cases d with
    | cons d1 d2 =>
      cases r with
      | cons r1 r2 =>
        cases i with
        | zero =>
          have e := Option.some.inj h
          subst e
          exact ⟨_, b, rfl, rfl, r1, d1⟩
        | succ i =>
          obtain ⟨y, c, h1, h2, h3, h4⟩ := at_all (i := i) r2 d2 h
          exact ⟨y, c, h1, h2, h3, h4⟩
/-- min(xs), xs a list of ordered data: the item itself -/
def rMinD (K : PySem.W.Frag) (α : Type) [DecidableEq α] [DatumOrd α] : List V → Hp → VK → Prop := fun vs H Q => ∃ (a : Addr) (xs : List V) (b : α) (bs : List α), vs = [V.ref a] ∧ SqL K H a xs ∧ DpAll K H xs ((b :: bs).map Datum.toD) ∧
  ∀ y, Dp K H y (Datum.toD (minOf b bs)) → Q y H
theorem cr_minD (hc : X.calm = true) (hu : X.A.units + 1 + Datum.depth α < cLine) : CallR X (.builtin "min") (rMinD X.K α) := by
  intro pins s σ H vs us Q I r h
  obtain ⟨a, xs, b, bs, rfl, hs, hx, q⟩ := h
  obtain ⟨its, rv, hl, hz⟩ := I.list hs
  rw [Vals.ref1 r]
  refine PySem.W.min_list_datum (x := b) (xs := bs) (I.ok.hd hc) hl.isList (holdAll_of I rv hx) hu fun i v h' tk hi hm hk => ?_
  rw [List.getElem?_toArray] at hi
  obtain ⟨y, c, h1, h2, h3, h4⟩ := at_all rv hx hi
  obtain ⟨as, ra⟩ := Dp.reads I _ _ _ h4 h3
  obtain ⟨as', rb⟩ := hm
  have e := PySem.W.alike_unique _ _ _ _ _ (DatumOrd.alike c (minOf b bs)) (PyProof.Rows.Reads.keeps hk ra) rb
  rw [e] at h4
  exact ⟨y, H, I.kept hk, h3, q y h4⟩
end
end Pk

/-! all(test for x in ..) where every test holds: over anything that is walked by one new iterator -/
namespace Pk
open PySem PySem.Spec PyProof.Rows L2 GxR
section
variable {X : Cx} {pins : List (Addr × Obj)} {σ : L2.St} {H : Hp} {s : Shared}
/-- the frame of the generator at C -/
abbrev gEnv (X : Cx) (scope : Scope) (C : Addr) (code : Value) : Env := genEnv scope (cloFrom X.env.cells scope.names []) C code builtinsNs X.env
/-- every test gives True, in every state that keeps what stood (but the table) -/
def EltAll (X : Cx) (P : Addr) (scope : Scope) (x : Str) (elt : Expr) (s1 : Shared) (Pf : Nat → Value → Prop) : Prop :=
  ∀ (C : Addr) (code : Value) (A' : Around) (E' : Value → Shared → Prop) (i : Nat) (v : Value) (s2 : Shared) (m2 : Str → Option Value), A'.handled = none → A'.depth ≤ X.A.depth + 1 → A'.units ≤ X.A.units + 8 →
    Pf i v → s2.heap.Ns C m2 → m2 x = some v → (∀ b o, b ≠ P → s1.heap.get? b = some o → s2.heap.get? b = some o) →
    wpAny (model X.prog X.w) A' (eval elt (gEnv X scope C code)) (fun y s3 => y = .bool true ∧ Keeps s2 s3) E' s2
/-- the iterator has come: a new object over s1, with what the tests give -/
def Begun (X : Cx) (pins : List (Addr × Obj)) (σ : L2.St) (P : Addr) (scope : Scope) (x : Str) (elt : Expr) (R : Hp → Prop) (it : Value) (s2 : Shared) : Prop :=
  ∃ (s1 : Shared) (o : Obj) (H1 : Hp) (fp : List Addr) (n : Nat) (Pf : Nat → Value → Prop) (St : Nat → Heap → Prop) (tk : Nat),
    Inv X pins σ H1 s1 ∧ it = .ref s1.heap.objs.size ∧ s2 = { s1 with heap := s1.heap.push o, toks := tk } ∧
    (∀ A' : Around, A'.handled = none → Walks X.prog X.w A' s1.heap.objs.size fp [s1.heap.objs.size] n Pf St) ∧ St 0 s2.heap ∧ (∀ b ∈ fp, b < s2.heap.objs.size) ∧ P ∉ fp ∧
    TabG H1 P ∧ EltAll X P scope x elt s1 Pf ∧ R H1
/-- the generator g, ready to be walked -/
def Ready1 (X : Cx) (pins : List (Addr × Obj)) (σ : L2.St) (H1 : Hp) (P : Addr) (g : Addr) (s5 : Shared) : Prop :=
  ∃ (fp wr : List Addr) (G : Array GenState → Array GenState → Prop) (n : Nat) (F : Nat → Value → Prop) (St : Nat → Shared → Prop),
    WalksS X.prog X.w X.A.in1 g fp wr G n F St ∧ St 0 s5 ∧ TruthOf X.prog X.w X.A.in1 F (fun _ => true) ∧ ∀ s', Moved wr G s5 s' → ∃ H2, Tabbed P H1 H2 ∧ Inv X pins σ H2 s'
theorem all_const (n : Nat) : (List.range n).all (fun _ => true) = true := by simp
theorem gen_all {c P : Addr} {elt iter : Expr} {x : Str} {px gpos : Pos} {scope : Scope} {k : Nat} {Q' : Value → Shared → Prop} {R : Hp → Prop}
    (hr : Room k X.A) (TB : LamX.TabB X.base X.mg c P) (hcode : X.env.code = .ref c) (S : GenS X.env scope x) (hs : ∀ v, genFold iter X.env v = pure v)
    (hi : wpAny (model X.prog X.w) X.A (eval iter X.env) (fun xv s1 => wpAny (model X.prog X.w) X.A (pyIter xv) (Begun X pins σ P scope x elt R) X.xe s1) X.xe s)
    (hQ : ∀ H1 g s5, R H1 → Ready1 X pins σ H1 P g s5 → Q' (.ref g) s5) :
    wpAny (model X.prog X.w) X.A (eval (.GeneratorExp elt [⟨.Name x px, iter, [], 0⟩] scope gpos) X.env) Q' X.xe s := by
  refine wpAny_GeneratorExp_walksQD hr.hd S.co (closure_ok S.free) S.cell S.dot S.loc S.kind (by have := hr.dp; omega) ?_ hs
  refine thn hi fun xv s0 h0 => thn h0 fun it s2 hb => ?_
  obtain ⟨s1, o, H1, fp, n, Pf, St, tk0, I1, rfl, rfl, W, hst, hfp, hPfp, ⟨ps, hP, ht⟩, hel, q1⟩ := hb
  have tabS : s1.heap.get? P = some { cls := .none, data := .fields ps } := I1.hok P _ hP
  have ltP : P < s1.heap.objs.size := Heap.lt_size tabS
  have tab2 : (s1.heap.push o).get? P = some { cls := .none, data := .fields ps } := Heap.get?_push_of_some _ tabS
  have cd : PySem.W.CodeHd (s1.heap.push o) c P := TB.code.keeps fun b u e => Heap.get?_push_of_some _ (I1.bk b u e)
  have lim2 : (s1.heap.push o).NoLimit := I1.nolimit.push o
  have sz2 : (s1.heap.push o).objs.size = s1.heap.objs.size + 1 := Heap.size_push ..
  have cont : ∀ (code : Value) (h3 : Heap) (tk : Nat) (ps' : Array Value), Heap.ExtBut P (s1.heap.push o) h3 → (s1.heap.push o).objs.size ≤ h3.objs.size → h3.get? P = some { cls := .none, data := .fields ps' } → (∃ more, ps' = ps ++ more) → TriplesOk ps'.toList →
      wpAny (model X.prog X.w) X.A (builtinsFor X.env.globals X.env.builtins) (fun bi s4 =>
        ∃ Ia fp wr n0 Pf St0 pz F, Value.ref s1.heap.objs.size = .ref Ia ∧ (∀ A' : Around, A'.handled = none → Walks X.prog X.w A' Ia fp wr n0 Pf St0) ∧ St0 0 s4.heap ∧ (∀ b ∈ fp, b < s4.heap.objs.size) ∧ s4.heap.NoLimit ∧ cStatics ∉ wr ∧
          (∀ href : Heap, (∀ b o, s4.heap.get? b = some o → href.get? b = some o) →
            QuietGenD X.prog X.w (genEnv scope (cloFrom X.env.cells scope.names []) s4.heap.objs.size code bi X.env) x [] elt (List.range s4.heap.objs.size) wr Pf pz F href (X.A.depth + 1) (X.A.units + 8)) ∧
          (∀ a h5 tk gs, gs.bare = true → s4.heap.objs.size < a → h5.objs.size = a + 1 → (∀ b o, s4.heap.get? b = some o → h5.get? b = some o) →
            WalksS X.prog X.w X.A.in4 a (a :: s4.heap.objs.size :: List.range s4.heap.objs.size) (s4.heap.objs.size :: wr) (GenOnlyQ s4.gens.size) (passing pz n0 0).length
              (fun j y => ∃ i, (passing pz n0 0)[j]? = some i ∧ F i y) (GenAt X.prog X.w X.A.in4 a s4.gens.size s4.heap.objs.size (List.range s4.heap.objs.size) wr pz n0 F) →
            GenAt X.prog X.w X.A.in4 a s4.gens.size s4.heap.objs.size (List.range s4.heap.objs.size) wr pz n0 F 0 { s4 with gens := s4.gens.push gs, toks := tk, heap := h5 } →
            Q' (.ref a) { s4 with gens := s4.gens.push gs, toks := tk, heap := h5 })) X.xe { s1 with heap := h3, toks := tk } := by
    intro code h3 tk ps' hx hsz hP3 hmore ht3
    obtain ⟨bm, ob, e1, e2, e3, e4, e5, e6, e7, e8⟩ := TB.bm
    have neS : cStatics ≠ P := fun e => by
      obtain ⟨_, hns, _⟩ := I1.nolimit
      obtain ⟨o', es, ep, ho, hd, _⟩ := hns
      rw [e, tabS] at ho
      cases ho
      cases hd
    have ltS : cStatics < s1.heap.objs.size := by
      obtain ⟨_, hns, _⟩ := I1.nolimit
      exact hns.lt
    have keep3 : ∀ b u, b ≠ P → s1.heap.get? b = some u → h3.get? b = some u := fun b u hb e => hx b u hb (Heap.get?_push_of_some _ e)
    refine wpAny_builtinsFor (m := X.mg) (by rw [I1.ok.glob]; exact ((I1.mod.glob.keeps I1.bk).push o).extBut hx TB.gP) e1 e2 (keep3 _ _ e4 (I1.bk _ _ e5)) e6 e7 e8 ?_
    refine ⟨s1.heap.objs.size, fp, [s1.heap.objs.size], n, Pf, St, (fun _ => true), (fun _ y => y = .bool true), rfl, W, ?_, ?_, lim2.extBut hx neS, ?_, ?_, ?_⟩
    · exact (W X.A hr.hd).frame _ _ _ hst fun b hb u e => hx b u (fun z => hPfp (z ▸ hb)) e
    · exact fun b hb => Nat.lt_of_lt_of_le (hfp b hb) hsz
    · intro z
      rcases List.mem_cons.mp z with z | z
      · exact Nat.ne_of_lt ltS z
      · cases z
    · intro href hhref
      have back : ∀ (t : Shared), (∀ b ∈ List.range h3.objs.size, b ∉ [s1.heap.objs.size] → ∀ o, href.get? b = some o → t.heap.get? b = some o) → ∀ b o, b ≠ P → s1.heap.get? b = some o → t.heap.get? b = some o := fun t hk b o hb e =>
        hk b (List.mem_range.mpr (Heap.lt_size (keep3 b o hb e))) (fun z => by
          rcases List.mem_cons.mp z with z | z
          · rw [z] at e
            exact Nat.lt_irrefl _ (Heap.lt_size e)
          · cases z) o (hhref b o (keep3 b o hb e))
      refine ⟨fun A' E' i v t m2 hA hD hU hPv hn hm hk => ?_, fun A' E' i v t m2 hA hD hU hPv hp hn hm hk => ?_⟩
      · simp only [List.forIn_nil]
        exact wpAny_pure ⟨rfl, keeps_refl _⟩
      · exact hel h3.objs.size code A' E' i v t m2 hA hD hU hPv hn hm (back t hk)
    · intro g h5 tk5 gs hgb hag hsz5 hk5 W5 hat
      simp only [GxR.passing_true, List.length_range] at W5
      refine hQ H1 g _ q1 ⟨_, _, _, _, _, _, W5.in4_1, hat, ?_, fun s' hm => ?_⟩
      · intro j y sj Qj Ej hy hQj
        obtain ⟨i, hij, rfl⟩ := hy
        exact wpAny_truthy_bool hQj
      · obtain ⟨more, em⟩ := hmore
        have nwr : ∀ b u, s1.heap.get? b = some u → b ∉ h3.objs.size :: [s1.heap.objs.size] := fun b u e hb => by
          have hl := Heap.lt_size e
          rcases List.mem_cons.mp hb with z | z
          · rw [z] at hl
            have h9 : (h3.objs.size : Nat) < s1.heap.objs.size := hl
            omega
          · rcases List.mem_cons.mp z with z | z
            · rw [z] at hl
              exact Nat.lt_irrefl _ hl
            · cases z
        have J := inv_tab (more := more) (h' := s'.heap) (g' := s'.gens) (d' := s'.drawn) (t' := s'.toks) I1 hP (fun b u hb e => hm.heap b u (nwr b u e) (hk5 b u (keep3 b u hb e)))
          (by rw [← em]; exact hm.heap P _ (nwr P _ tabS) (hk5 P _ hP3)) (AllBare.movedS (I1.bare.push hgb) hm)
        rw [sh_eta s1 s' hm.os] at J
        exact ⟨upd H1 P (.tbl (ps ++ more)), ⟨⟨ps ++ more, upd_same, by rw [← em]; exact ht3⟩, fun b hb => upd_ne hb⟩, J⟩
  refine ⟨lim2, ?_⟩
  cases hf : codeAmong gpos ps.toList with
  | none =>
    refine wpAny_genexprCodeX hcode (cd.code tab2 ht) (cd.tab tab2) hf fun c' h' tk hx hge hlt hco' _ htab' _ => ?_
    obtain ⟨o1, vs, f1, tf, fl, tg, inF, tx, tt, op, _, _, _, _, _, _, _, _, _, htr, _⟩ := hco'
    exact cont _ h' tk _ hx (Nat.le_trans hge (Nat.le_of_lt hlt)) htab'.2 ⟨_, rfl⟩ htr
  | some cv =>
    refine wpAny_genexprCode_hit hcode (cd.code tab2 ht) hf ?_
    exact cont cv (s1.heap.push o) tk0 ps (Heap.ExtBut.refl _ _) (Nat.le_refl _) tab2 ⟨#[], by simp⟩ ht
/-- all(test for x in e): how e begins is told by hb -/
def tAllG (P : Addr) (b : L2.St → Hp → (Hp → Prop) → Prop) : TE := fun σ H Q => b σ H fun H1 => ∀ H2, Tabbed P H1 H2 → Q (.bl true) H2
theorem pe_allG {c P : Addr} {elt iter : Expr} {x : Str} {px p pos gpos : Pos} {scope : Scope} {k : Nat} {b : L2.St → Hp → (Hp → Prop) → Prop}
    (hr : Room k X.A) (hg : Gl X "all") (hm : X.mg "all" = none) (TB : LamX.TabB X.base X.mg c P) (hcode : X.env.code = .ref c) (S : GenS X.env scope x) (hs : ∀ v, genFold iter X.env v = pure v)
    (hb : ∀ (pins : List (Addr × Obj)) (s : Shared) (σ : L2.St) (H : Hp) (R : Hp → Prop), Inv X pins σ H s → b σ H R →
      wpAny (model X.prog X.w) X.A (eval iter X.env) (fun xv s1 => wpAny (model X.prog X.w) X.A (pyIter xv) (Begun X pins σ P scope x elt R) X.xe s1) X.xe s)
    (he : starEach [.GeneratorExp elt [⟨.Name x px, iter, [], 0⟩] scope gpos] X.env = (false, eval (.GeneratorExp elt [⟨.Name x px, iter, [], 0⟩] scope gpos) X.env) :: starEach [] X.env := by rfl) :
    PE X (.Call (.Name "all" p) [.GeneratorExp elt [⟨.Name x px, iter, [], 0⟩] scope gpos] [] pos) (tAllG P b) := by
  refine ⟨fun pins s σ H Q I h => ?_⟩
  refine wpAny_Call_Name_kw (ld_blt (u := .builtin "all") I hg hm (by decide +kernel) ?_)
  refine PyProof.Rows.callWith_builtin1 ?_ he (by rfl)
  rw [he]
  show wpAny _ _ (spliced ((false, eval (.GeneratorExp elt [⟨.Name x px, iter, [], 0⟩] scope gpos) X.env) :: backTo pos (starEach [] X.env))) _ _ s
  refine Calls.spliced_cons (gen_all (R := fun H1 => ∀ H2, Tabbed P H1 H2 → Q (.bl true) H2) hr TB hcode S hs (hb pins s σ H _ I h) fun H1 g s5 hR hG => ?_)
  obtain ⟨fp, wr, G, n, F, St, W, hst, htr, hI⟩ := hG
  refine Calls.spliced_nil ?_
  refine call_all_walkS (W.self 0 _ _ _ hst ⟨g, fp, wr, G, _, F, St, _, rfl, W, hst, htr, fun s' hmv => ?_⟩)
  obtain ⟨H2, hT, J⟩ := hI s' hmv
  refine ⟨.bl _, H2, J, rfl, ?_⟩
  rw [all_const]
  exact hR H2 hT
end
end Pk

/-! the two generator expressions of is_set; is_in over the bare heap -/
namespace Pk
open PySem PySem.Spec PyProof.Rows L2 GxR
section
variable {P : Program} {w : World} {K : PySem.W.Frag} {mg : Str → Option Value} {base : Heap} {A : Around} {E : Value → Shared → Prop} {s : Shared}
theorem ldL {M : Model} {name : Str} {scope : Scope} {L a : Addr} {cd : Value} {m : Str → Option Value} {x : Str} {pos : Pos} {v : Value} {Q : Value → Shared → Prop} (hn : s.heap.Ns L m) (hv : m x = some v) (h : Q v s)
    (hk : scope.kind = .function := by rfl) (hl : (envOfC name scope L a cd).kindOf x = some .local := by rfl) (hd : (x == ("__debug__" : Str)) = false := by decide) :
    wpAny M A (eval (.Name x pos) (envOfC name scope L a cd)) Q E s := wpAny_Name (wpAny_loadName_local hk hl hn hv h) hd
/-- a built-in's name in a function's frame -/
theorem ldB {M : Model} {name : Str} {scope : Scope} {L a : Addr} {cd : Value} {x : Str} {pos : Pos} {v : Value} {Q : Value → Shared → Prop} (Mo : L2.Mod K mg base) (hb : ∀ b o, base.get? b = some o → s.heap.get? b = some o)
    (hm : mg x = none) (hv : bootBuiltins x = some v) (h : Q v s) (hk : scope.kind = .function := by rfl) (hx : (envOfC name scope L a cd).kindOf x = some .globalImplicit := by rfl) (hn : x ≠ "__name__" := by decide) (hd : (x == ("__debug__" : Str)) = false := by decide) :
    wpAny M A (eval (.Name x pos) (envOfC name scope L a cd)) Q E s := by
  obtain ⟨mb, h1, h2⟩ := Mo.blt
  exact Calls.Name_function_global hk hx (Calls.loadGlobal_builtin (env := envOfC name scope L a cd) (show s.heap.Ns mainGlobals mg from Mo.glob.keeps hb) hm (show s.heap.Ns builtinsNs mb from h1.keeps hb) ((h2 x hn).trans hv) h) hd
/-- isinstance(x, T), x a local, T a built-in class -/
theorem isiL {name : Str} {scope : Scope} {L a : Addr} {cd : Value} {m : Str → Option Value} {x T : Str} {n : String} {p p1 p2 pos : Pos} {v : Value} {Q : Value → Shared → Prop} (Mo : L2.Mod K mg base) (hb : ∀ b o, base.get? b = some o → s.heap.get? b = some o)
    (m1 : mg "isinstance" = none) (m2 : mg T = none) (hT : bootBuiltins T = some (.type n)) (hn : s.heap.Ns L m) (hv : m x = some v)
    (h : wpAny (model P w) A (call (.builtin "isinstance") [v, .type n]) Q E s)
    (hk : scope.kind = .function) (hl : (envOfC name scope L a cd).kindOf x = some .local) (hg : (envOfC name scope L a cd).kindOf "isinstance" = some .globalImplicit) (hgT : (envOfC name scope L a cd).kindOf T = some .globalImplicit)
    (hTn : T ≠ "__name__") (hTd : (T == ("__debug__" : Str)) = false) (hxd : (x == ("__debug__" : Str)) = false) :
    wpAny (model P w) A (eval (.Call (.Name "isinstance" p) [.Name x p1, .Name T p2] [] pos) (envOfC name scope L a cd)) Q E s := by
  refine wpAny_Call_Name_kw (ldB (v := .builtin "isinstance") Mo hb m1 PyProof.Rows.boot_isinstance ?_ hk hg)
  refine PyProof.Rows.callWith_builtin1 ?_ (by rfl) (by rfl)
  show wpAny _ _ (spliced ((false, eval (.Name x p1) _) :: (false, eval (.Name T p2) _) :: [])) _ _ s
  refine Calls.spliced_cons (ldL hn hv ?_ hk hl hxd)
  exact Calls.spliced_cons (ldB Mo hb m2 hT (Calls.spliced_nil h) hk hgT hTn hTd)
theorem keeps_of {s : Shared} {h1 : Heap} {t : Nat} (k : ∀ b o, s.heap.get? b = some o → h1.get? b = some o) : Keeps s { s with heap := h1, toks := t } := ⟨h1, t, rfl, k⟩
/-- is_in(z, lo, hi) where lo ≤ z ≤ hi -/
theorem isIn_code {f : Addr} {fd : FuncData} (F : Fun K "is_in" "is_in" sIsIn f fd) (Mo : L2.Mod K mg base) (hb : ∀ b o, base.get? b = some o → s.heap.get? b = some o)
    (m1 : mg "isinstance" = none) (m2 : mg "int" = none) (m3 : mg "bool" = none) (hroom : A.depth < recursionLimit) {z lo hi : Int} {t1 t2 t3 : Tok} (h1 : lo ≤ z) (h2 : z ≤ hi) {R : Result → Shared → Prop}
    (hR : ∀ s', Keeps s s' → R (.ok (.ret (.bool true))) s') :
    codeAny (model P w) A (.call (.ref f) ⟨[.int z t1, .int lo t2, .int hi t3], []⟩) R s := by
  obtain ⟨oc, od, kV, doc, pm, an, cdv, ct, osl, rfl, lk, hcd⟩ := F.ex
  have X : K.In s.heap := Mo.kin.keeps hb
  have hlim : s.heap.NoLimit := Mo.nolimit.keeps hb
  refine Att.call_fn (binds := [("value", .int z t1), ("least", .int lo t2), ("most", .int hi t3)]) X hlim lk hcd hroom (BindsTo.of_eq (by rfl)) (by rfl) (fun s1 IC => ?_) rfl rfl rfl
  obtain ⟨h1', tk1, rfl⟩ := IC.toInCall.same
  have k : ∀ b o, s.heap.get? b = some o → h1'.get? b = some o := IC.toInCall.keep
  have hn := IC.toInCall.ns
  have hb1 : ∀ b o, base.get? b = some o → h1'.get? b = some o := fun b o e => k b o (hb b o e)
  show wpAny _ _ (execs _ _) _ _ _
  refine wpAny_execs_cons (wpAny_Return_some ?_)
  refine BoolOp_and (isiL (n := "int") (T := "int") (v := .int z t1) Mo hb1 m1 m2 (by decide +kernel) hn (by rfl) ?_ (by rfl) (by rfl) (by rfl) (by rfl) (by decide) (by decide) (by decide))
  refine PySem.IsiPair.int_int (wpAny_truthy_bool (ite_tt ?_))
  refine BoolOp_and (UnaryOp_ (isiL (n := "bool") (T := "bool") (v := .int z t1) Mo hb1 m1 m3 (by decide +kernel) hn (by rfl) ?_ (by rfl) (by rfl) (by rfl) (by rfl) (by decide) (by decide) (by decide)))
  refine PySem.IsiPair.int_bool (not_of (wpAny_truthy_bool (wpAny_truthy_bool (ite_tt ?_))))
  refine BoolOp_one ?_
  refine Compare_chain (ldL (v := .int lo t2) hn (by rfl) (chain_link (ldL (v := .int z t1) hn (by rfl) (PyProof.Rows.le_int ?_ ))))
  rw [decide_eq_true h1]
  refine wpAny_truthy_bool (ite_tt (chain_last (ldL (v := .int hi t3) hn (by rfl) (PyProof.Rows.le_int ?_))))
  rw [decide_eq_true h2]
  exact hR _ (keeps_of k)
end
/-! the generator's own frame -/
section
variable {X : Cx} {pins : List (Addr × Obj)} {σ : L2.St} {H : Hp} {s1 : Shared} {P : Addr}
/-- the base stands in every state that keeps s1 but the table -/
theorem base_in {ps : Array Value} (I : Inv X pins σ H s1) (hP : H P = some (.tbl ps)) {s2 : Shared} (hk : ∀ b o, b ≠ P → s1.heap.get? b = some o → s2.heap.get? b = some o) : ∀ b o, X.base.get? b = some o → s2.heap.get? b = some o := fun b o e => by
  obtain ⟨h1, h2⟩ := I.bs b o e
  exact hk b o (fun z => by rw [z, hP] at h2; cases h2) h1
/-- a captured name of the def: its cell -/
theorem cap {i : Nat} {x : Str} {v : V} (I : Inv X pins σ H s1) (hN : X.N[i]? = some x) (hv : σ[i]? = some (some v)) (hc : X.env.scope.names.lookup x = some .cell) : ∃ c u, X.env.cells.lookup x = some c ∧ RelV v u ∧ s1.heap.IsCell c (some u) ∧ H c = none := by
  obtain ⟨m, hn, hl⟩ := I.loc
  obtain ⟨u, r, l⟩ := hl i x v hN hv (.inr (.inl hc))
  rcases l with ⟨hk, _⟩ | ⟨_, c, hcc, z⟩
  · have e : X.env.scope.names.lookup x = some .local := hk
    rw [hc] at e
    cases e
  · exact ⟨c, u, hcc, r, z, I.freeC x c hcc⟩
theorem cell_in {ps : Array Value} (hP : H P = some (.tbl ps)) {c : Addr} {u : Value} (hc : H c = none) (z : s1.heap.IsCell c (some u)) {s2 : Shared} (hk : ∀ b o, b ≠ P → s1.heap.get? b = some o → s2.heap.get? b = some o) : s2.heap.IsCell c (some u) := by
  obtain ⟨o, ho, hd⟩ := z
  exact ⟨o, hk c o (fun e => by rw [e, hP] at hc; cases hc) ho, hd⟩
section
variable {M : Model} {A : Around} {E : Value → Shared → Prop} {s : Shared} {scope : Scope} {C : Addr} {code : Value}
theorem gLoc {m : Str → Option Value} {x : Str} {pos : Pos} {v : Value} {Q : Value → Shared → Prop} (hn : s.heap.Ns C m) (hv : m x = some v) (h : Q v s) (hk : scope.kind = .function) (hl : scope.names.lookup x = some .local) (hd : (x == ("__debug__" : Str)) = false) :
    wpAny M A (eval (.Name x pos) (gEnv X scope C code)) Q E s := wpAny_Name (wpAny_loadName_local (env := gEnv X scope C code) hk hl hn hv h) hd
theorem gFree {x : Str} {pos : Pos} {c : Addr} {v : Value} {Q : Value → Shared → Prop} (hc : (cloFrom X.env.cells scope.names []).lookup x = some c) (hv : s.heap.IsCell c (some v)) (h : Q v s) (hk : scope.kind = .function) (hl : scope.names.lookup x = some .free)
    (hd : (x == ("__debug__" : Str)) = false) (hcd : (x == ("__classdict__" : Str)) = false) : wpAny M A (eval (.Name x pos) (gEnv X scope C code)) Q E s :=
  wpAny_Name (wpAny_loadName_free (env := gEnv X scope C code) hk hl hc hv h hcd) hd
theorem gGlob {x : Str} {pos : Pos} {v : Value} {Q : Value → Shared → Prop} (I : Inv X pins σ H s1) (hb : ∀ b o, X.base.get? b = some o → s.heap.get? b = some o) (hm : X.mg x = some v) (h : Q v s) (hk : scope.kind = .function) (hx : scope.names.lookup x = some .globalImplicit) (hd : (x == ("__debug__" : Str)) = false) :
    wpAny M A (eval (.Name x pos) (gEnv X scope C code)) Q E s :=
  Calls.Name_function_global (env := gEnv X scope C code) hk hx (Calls.loadGlobal_global (env := gEnv X scope C code) (show s.heap.Ns X.env.globals X.mg by rw [I.ok.glob]; exact I.mod.glob.keeps hb) hm h) hd
end
theorem ixN_of {n j : Nat} (h : j < n) : ixN n (j : Int) = some j := by
  unfold ixN
  first
    | (rw [if_pos (by omega)]; simp; done)
    | (simp; omega)
/-- is_in(one, 0, size - 1) gives True for every item that is a place -/
theorem elt_place {scope : Scope} {p0 p1 p2 p3 p4 p5 pos : Pos} {j0 j1 : Nat} {f : Addr} {fd : FuncData} {ns : List Int} {n : Int} {its : List Value} {ps : Array Value} (I : Inv X pins σ H s1) (hP : H P = some (.tbl ps))
    (F : Fun X.K "is_in" "is_in" sIsIn f fd) (gF : X.mg ("is_in" : Str) = some (.ref f)) (m1 : X.mg "isinstance" = none) (m2 : X.mg "int" = none) (m3 : X.mg "bool" = none) (hr : X.A.depth + 3 < recursionLimit)
    (hN : X.N[0]? = some ("size" : Str)) (hc : X.env.scope.names.lookup ("size" : Str) = some .cell) (hsz : σ[0]? = some (some (.int n))) (rv : Vals (ns.map V.int) its) (hp : ∀ z ∈ ns, 0 ≤ z ∧ z < n)
    (hk : scope.kind = .function) (k1 : scope.names.lookup ("one" : Str) = some .local) (k2 : scope.names.lookup ("size" : Str) = some .free) (k3 : scope.names.lookup ("is_in" : Str) = some .globalImplicit)
    (kc : ∀ c, X.env.cells.lookup ("size" : Str) = some c → (cloFrom X.env.cells scope.names []).lookup ("size" : Str) = some c) :
    EltAll X P scope ("one" : Str) (.Call (.Name ("is_in" : Str) p0) [.Name "one" p1, .Constant (.int 0) j0 p2, .BinOp (.Name ("size" : Str) p3) .Sub (.Constant (.int 1) j1 p4) p5] [] pos) s1 (fun i v => its[i]? = some v) := by
  intro C code A' E' i v s2 m2' hA hD hU hPf hn hm hkk
  have hb := base_in I hP hkk
  obtain ⟨c, u, hcc, ru, zc, hcn⟩ := cap I hN hsz hc
  have zc2 := cell_in hP hcn zc hkk
  obtain ⟨tn, rfl⟩ := ru
  obtain ⟨z, t, hz, rfl⟩ : ∃ z t, z ∈ ns ∧ v = Value.int z t := by
    obtain ⟨hi, e⟩ := List.getElem?_eq_some_iff.mp hPf
    have hl := rv.length
    rw [List.length_map] at hl
    obtain ⟨u', hu', r'⟩ := rv.get (i := i) (x := .int ns[i]) (by rw [List.getElem?_map, List.getElem?_eq_getElem (by omega)]; rfl)
    rw [hPf] at hu'
    cases hu'
    obtain ⟨t, rfl⟩ := r'
    exact ⟨_, t, List.getElem_mem (by omega), rfl⟩
  obtain ⟨h0, h1⟩ := hp z hz
  refine wpAny_Call_Name_kw (gGlob I hb gF ?_ hk k3 (by decide))
  refine PySem.W.callWith_K (h₀ := X.base) I.mod.kin F.kp ?_ (by rfl) (by rfl)
  show wpAny _ _ (spliced ((false, eval (.Name ("one" : Str) p1) _) :: (false, eval (.Constant (.int 0) j0 p2) _) :: (false, eval (.BinOp (.Name ("size" : Str) p3) .Sub (.Constant (.int 1) j1 p4) p5) _) :: [])) _ _ s2
  refine Calls.spliced_cons (gLoc hn hm ?_ hk k1 (by decide))
  refine Calls.spliced_cons (wpAny_Constant_int ?_)
  refine Calls.spliced_cons (wpAny_BinOp (gFree (kc c hcc) zc2 ?_ hk k2 (by decide) (by decide)))
  refine wpAny_Constant_int (PyProof.Rows.sub_int ?_)
  refine Calls.spliced_nil ⟨I.mod.kin.keeps hb, ?_⟩
  refine wpAny_call ?_
  refine isIn_code (P := X.prog) (w := X.w) (A := A') (s := { s2 with toks := s2.toks + 1 + 1 + 1 }) (lo := 0) (hi := n - 1) (z := z) F I.mod hb m1 m2 m3 (by omega) h0 (by omega) fun s' hs' => ?_
  obtain ⟨h', tk, e, kk⟩ := hs'
  exact ⟨rfl, h', tk, e, kk⟩
/-- value[k] < value[k + 1] gives True at every k below the length less one -/
theorem elt_rise {scope : Scope} {p0 p1 p2 p3 p4 p5 p6 p7 pos : Pos} {j1 : Nat} {a : Addr} {ns : List Int} {ps : Array Value} (I : Inv X pins σ H s1) (hP : H P = some (.tbl ps)) (hq : SqT X.K H a (ns.map V.int))
    (hN : X.N[1]? = some ("value" : Str)) (hc : X.env.scope.names.lookup ("value" : Str) = some .cell) (hv : σ[1]? = some (some (.ref a))) (hs : ns.Pairwise (· < ·))
    (hk : scope.kind = .function) (k1 : scope.names.lookup ("k" : Str) = some .local) (k2 : scope.names.lookup ("value" : Str) = some .free)
    (kc : ∀ c, X.env.cells.lookup ("value" : Str) = some c → (cloFrom X.env.cells scope.names []).lookup ("value" : Str) = some c) :
    EltAll X P scope ("k" : Str) (.Compare (.Subscript (.Name ("value" : Str) p0) (.Name ("k" : Str) p1) p2) [.Lt] [.Subscript (.Name ("value" : Str) p3) (.BinOp (.Name ("k" : Str) p4) .Add (.Constant (.int 1) j1 p5) p6) p7] pos) s1
      (fun i v => i + 1 < ns.length ∧ ∃ t, v = Value.int (i : Int) t) := by
  intro C code A' E' i v s2 m2' hA hD hU hPf hn hm hkk
  obtain ⟨hi, t, rfl⟩ := hPf
  obtain ⟨c, u, hcc, ru, zc, hcn⟩ := cap I hN hv hc
  have zc2 := cell_in hP hcn zc hkk
  obtain rfl : u = Value.ref a := ru
  obtain ⟨its, rv, ht, hz⟩ := I.tuple hq
  have ht2 : s2.heap.IsTuple a its.toArray := by
    obtain ⟨o, ho, r⟩ := ht
    refine ⟨o, hkk a o (fun e => ?_) ho, r⟩
    have q : s1.heap.get? P = some { cls := .none, data := .fields ps } := I.hok P _ hP
    rw [← e, ho] at q
    have e2 := congrArg Obj.cls (Option.some.inj q)
    rw [r.1] at e2
    cases e2
  have at_ : ∀ j (hj : j < ns.length), ∃ t, its.toArray[j]? = some (Value.int ns[j] t) := fun j hj => by
    obtain ⟨u', hu', r'⟩ := rv.get (i := j) (x := .int ns[j]) (by rw [List.getElem?_map, List.getElem?_eq_getElem hj]; rfl)
    obtain ⟨t', rfl⟩ := r'
    exact ⟨t', by rw [List.getElem?_toArray]; exact hu'⟩
  obtain ⟨t1, e1⟩ := at_ i (by omega)
  obtain ⟨t2, e2⟩ := at_ (i + 1) hi
  have hlen : its.toArray.size = ns.length := by
    rw [List.size_toArray, ← rv.length, List.length_map]
  have hl63 : ns.length < 2 ^ 63 := by
    rw [List.length_map] at hz
    have := line63
    omega
  have item : ∀ {A'' : Around} {Q : Value → Shared → Prop} (sl : Expr) (st : Shared) (j : Nat) (tt tv : Tok) (hj : j < ns.length), (∀ o i, subscripted sl false o i = operate [o, i] (getItem o i)) → st.heap.IsTuple a its.toArray → its.toArray[j]? = some (Value.int ns[j] tv) → Q (Value.int ns[j] tv) st →
      wpAny (model X.prog X.w) A'' (subscriptTail (.Name ("value" : Str) p0) sl (.ref a) (.int (j : Int) tt)) Q E' st := fun sl st j tt tv hj hs' hT hv' hq' =>
    subscriptTail_builtinR (x := Value.int ns[j] tv) (T := "tuple") (Heap.IsTuple.typeIs hT) slot_tuple_getitem.lookup
      (PyProof.Rows.getItem_tuple (j := j) hT (by omega) (by omega) (by rw [hlen]; exact (ixN_seq (ixN_of hj)).1) hv' ⟨rfl, hq'⟩) (hs' _ _)
  have lit : ∀ {A'' : Around} {Q : Value → Shared → Prop} (st : Shared) (pp : Pos), st.heap.Ns C m2' → Q (Value.int (i : Int) t) st → wpAny (model X.prog X.w) A'' (eval (.Name ("k" : Str) pp) (gEnv X scope C code)) Q E' st := fun st pp hn' hq' => gLoc hn' hm hq' hk k1 (by decide)
  refine wpAny_Compare1 ?_
  refine Subscript_ (gFree (kc c hcc) zc2 (lit s2 p1 hn ?_) hk k2 (by decide) (by decide))
  refine item _ s2 i t t1 (by omega) (by intro _ _; rfl) ht2 e1 ?_
  refine Subscript_ (gFree (kc c hcc) zc2 (wpAny_BinOp (lit s2 p4 hn (wpAny_Constant_int (PyProof.Rows.add_int ?_)))) hk k2 (by decide) (by decide))
  have e3 : (i : Int) + 1 = ((i + 1 : Nat) : Int) := by omega
  rw [e3]
  refine item _ _ (i + 1) _ t2 hi (by intro _ _; rfl) ht2 e2 ?_
  refine PyProof.Rows.lt_int ?_
  have lt : ns[i] < ns[i + 1] := List.pairwise_iff_getElem.mp hs i (i + 1) (by omega) hi (by omega)
  rw [decide_eq_true lt]
  exact ⟨rfl, _, _, rfl, fun _ _ e => e⟩
end
end Pk

/-! the mathematics of parking: core Lean alone -/
namespace Pk
/-- the next free place from w on, at most k steps on -/
def nf (n : Int) (t : List Int) : Nat → Int → Int
  | 0, w => w
  | k + 1, w => if w ∈ t then nf n t k ((w + 1) % n) else w
def spotsFrom (n : Int) (t : List Int) : List Int → List Int
  | [] => t
  | w :: ws => spotsFrom n (t ++ [nf n t n.toNat w]) ws
def spots (n : Int) (ws : List Int) : List Int := spotsFrom n [] ws
def ran (n : Int) : List Int := (List.range n.toNat).map fun i : Nat => (i : Int)
def srt (l : List Int) : List Int := l.mergeSort fun a b => decide (a ≤ b)
def add (n : Int) (a b : List Int) : List Int := srt (spots n ((a ++ b).take n.toNat))
/-- places of a ring of n -/
def Pl (n : Int) (l : List Int) : Prop := ∀ z ∈ l, 0 ≤ z ∧ z < n
/-- a set of places -/
def IsS (n : Int) (l : List Int) : Prop := Pl n l ∧ l.Pairwise (· < ·)
theorem nf_out {n : Int} {t : List Int} {w : Int} (h : ¬ w ∈ t) : ∀ k, nf n t k w = w
  | 0 => rfl
  | k + 1 => by
    show (if w ∈ t then nf n t k ((w + 1) % n) else w) = w
    rw [if_neg h]
theorem nf_in {n : Int} {t : List Int} {w : Int} {k : Nat} (h : w ∈ t) : nf n t (k + 1) w = nf n t k ((w + 1) % n) := by
  show (if w ∈ t then nf n t k ((w + 1) % n) else w) = _
  rw [if_pos h]
/-- steps from w on to f -/
def dist (n f w : Int) : Nat := ((f - w) % n).toNat
theorem step_mod {n w : Int} (hw : 0 ≤ w ∧ w < n) : (w + 1) % n = if w + 1 < n then w + 1 else 0 := by
  by_cases h : w + 1 < n
  · rw [if_pos h]
    exact Int.emod_eq_of_lt (by omega) h
  · rw [if_neg h]
    have e : w + 1 = n := by omega
    rw [e]
    exact Int.emod_self
theorem step_pl {n w : Int} (hw : 0 ≤ w ∧ w < n) : 0 ≤ (w + 1) % n ∧ (w + 1) % n < n := by
  rw [step_mod hw]
  split <;> omega
theorem dist_eq {n f w : Int} (hf : 0 ≤ f ∧ f < n) (hw : 0 ≤ w ∧ w < n) : (dist n f w : Int) = if w ≤ f then f - w else f - w + n := by
  unfold dist
  by_cases h : w ≤ f
  · rw [if_pos h, Int.emod_eq_of_lt (by omega) (by omega)]
    omega
  · rw [if_neg h]
    have e : (f - w) % n = f - w + n := by
      rw [← Int.add_emod_right]
      exact Int.emod_eq_of_lt (by omega) (by omega)
    rw [e]
    omega
theorem dist_step {n f w : Int} (hf : 0 ≤ f ∧ f < n) (hw : 0 ≤ w ∧ w < n) (h : w ≠ f) : dist n f ((w + 1) % n) + 1 = dist n f w := by
  have h1 := dist_eq hf hw
  have h2 := dist_eq hf (step_pl hw)
  rw [step_mod hw] at h2 ⊢
  by_cases c : w + 1 < n
  · rw [if_pos c] at h2 ⊢
    split at h1 <;> split at h2 <;> omega
  · rw [if_neg c] at h2 ⊢
    split at h1 <;> split at h2 <;> omega
theorem dist_lt {n f w : Int} (hf : 0 ≤ f ∧ f < n) (hw : 0 ≤ w ∧ w < n) : dist n f w < n.toNat := by
  have h1 := dist_eq hf hw
  split at h1 <;> omega
theorem nf_free {n f : Int} {t : List Int} (hf : 0 ≤ f ∧ f < n) (ht : ¬ f ∈ t) : ∀ (k : Nat) (w : Int), 0 ≤ w ∧ w < n → dist n f w ≤ k → ¬ nf n t k w ∈ t ∧ 0 ≤ nf n t k w ∧ nf n t k w < n
  | 0, w, hw, hd => by
    have h1 := dist_eq hf hw
    have e : w = f := by
      split at h1 <;> omega
    show ¬ w ∈ t ∧ 0 ≤ w ∧ w < n
    rw [e]
    exact ⟨ht, hf⟩
  | k + 1, w, hw, hd => by
    by_cases h : w ∈ t
    · rw [nf_in h]
      have hne : w ≠ f := fun e => ht (e ▸ h)
      have := dist_step hf hw hne
      exact nf_free hf ht k _ (step_pl hw) (by omega)
    · rw [nf_out h]
      exact ⟨h, hw⟩
theorem full_len : ∀ (m : Nat) (l : List Int), (∀ i : Nat, i < m → (i : Int) ∈ l) → m ≤ l.length
  | 0, _, _ => Nat.zero_le _
  | m + 1, l, h => by
    have h1 := h m (Nat.lt_succ_self m)
    have h2 := full_len m (l.erase (m : Int)) fun i hi => (List.mem_erase_of_ne (by omega)).mpr (h i (by omega))
    have h3 := List.length_erase_of_mem h1
    have h4 := List.length_pos_of_mem h1
    omega
theorem free_ex {n : Int} {t : List Int} (h : t.length < n.toNat) : ∃ f : Int, (0 ≤ f ∧ f < n) ∧ ¬ f ∈ t := by
  by_cases c : ∃ f : Int, (0 ≤ f ∧ f < n) ∧ ¬ f ∈ t
  · exact c
  · have q := full_len n.toNat t fun i hi => by
      by_cases m : (i : Int) ∈ t
      · exact m
      · exact (c ⟨(i : Int), ⟨by omega, by omega⟩, m⟩).elim
    omega
theorem nf_ok {n : Int} {t : List Int} {w : Int} (h : t.length < n.toNat) (hw : 0 ≤ w ∧ w < n) : ¬ nf n t n.toNat w ∈ t ∧ 0 ≤ nf n t n.toNat w ∧ nf n t n.toNat w < n := by
  obtain ⟨f, hf, ht⟩ := free_ex h
  exact nf_free hf ht _ _ hw (Nat.le_of_lt (dist_lt hf hw))
theorem nodup_snoc {l : List Int} {x : Int} (h : l.Nodup) (hx : ¬ x ∈ l) : (l ++ [x]).Nodup := by
  rw [List.nodup_append]
  refine ⟨h, by simp, fun a ha b hb e => hx ?_⟩
  have e2 : b = x := by simpa using hb
  rw [← e2, ← e]
  exact ha
theorem pl_snoc {n : Int} {l : List Int} {x : Int} (h : Pl n l) (hx : 0 ≤ x ∧ x < n) : Pl n (l ++ [x]) := fun z hz => by
  rcases List.mem_append.mp hz with q | q
  · exact h z q
  · have e : z = x := by simpa using q
    rw [e]
    exact hx
theorem spots_from {n : Int} : ∀ (ws t : List Int), Pl n ws → t.length + ws.length ≤ n.toNat → t.Nodup → Pl n t → (spotsFrom n t ws).Nodup ∧ Pl n (spotsFrom n t ws) ∧ (spotsFrom n t ws).length = t.length + ws.length
  | [], t, _, _, h1, h2 => ⟨h1, h2, rfl⟩
  | w :: ws, t, hw, hl, h1, h2 => by
    rw [List.length_cons] at hl
    obtain ⟨a, b⟩ := nf_ok (t := t) (n := n) (w := w) (by omega) (hw w List.mem_cons_self)
    obtain ⟨c1, c2, c3⟩ := spots_from ws (t ++ [nf n t n.toNat w]) (fun z hz => hw z (List.mem_cons_of_mem _ hz)) (by rw [List.length_append]; simp; omega) (nodup_snoc h1 a) (pl_snoc h2 b)
    refine ⟨c1, c2, ?_⟩
    show (spotsFrom n (t ++ [nf n t n.toNat w]) ws).length = _
    rw [c3, List.length_append, List.length_cons]
    simp
    omega
theorem spots_ok {n : Int} {ws : List Int} (h : Pl n ws) (hl : ws.length ≤ n.toNat) : (spots n ws).Nodup ∧ Pl n (spots n ws) ∧ (spots n ws).length = ws.length := by
  have q := spots_from ws [] h (by simpa using hl) List.nodup_nil (fun z hz => (by cases hz))
  exact ⟨q.1, q.2.1, q.2.2.trans (by simp)⟩
/-! ### sorted lists -/
theorem srt_perm (l : List Int) : (srt l).Perm l := List.mergeSort_perm l _
theorem srt_pw (l : List Int) : (srt l).Pairwise (· ≤ ·) := by
  have h := List.pairwise_mergeSort (le := fun a b : Int => decide (a ≤ b)) (fun a b c h1 h2 => by simp at h1 h2 ⊢; omega) (fun a b => by simp; omega) l
  exact h.imp fun h => by simpa using h
theorem sorted_one : ∀ {l m : List Int}, l.Perm m → l.Pairwise (· ≤ ·) → m.Pairwise (· ≤ ·) → l = m
  | [], m, p, _, _ => (List.Perm.eq_nil p.symm).symm
  | x :: l, [], p, _, _ => absurd p.length_eq (by simp)
  | x :: l, y :: m, p, hl, hm => by
    have e : x = y := by
      have h1 : x ≤ y := by
        rcases List.mem_cons.mp (p.mem_iff.mpr (List.mem_cons_self (a := y) (l := m))) with e | h
        · omega
        · exact (List.pairwise_cons.mp hl).1 y h
      have h2 : y ≤ x := by
        rcases List.mem_cons.mp (p.mem_iff.mp (List.mem_cons_self (a := x) (l := l))) with e | h
        · omega
        · exact (List.pairwise_cons.mp hm).1 x h
      omega
    subst e
    rw [sorted_one p.cons_inv (List.pairwise_cons.mp hl).2 (List.pairwise_cons.mp hm).2]
theorem srt_uniq {l m : List Int} (p : m.Perm l) (h : m.Pairwise (· ≤ ·)) : m = srt l := sorted_one (p.trans (srt_perm l).symm) h (srt_pw l)
theorem pw_lt {l : List Int} (h : l.Pairwise (· ≤ ·)) (hn : l.Nodup) : l.Pairwise (· < ·) := by
  have q : l.Pairwise fun a b => a ≤ b ∧ a ≠ b := h.and hn
  exact q.imp fun h => by omega
theorem ran_pw (n : Int) : (ran n).Pairwise (· < ·) := by
  unfold ran
  rw [List.pairwise_map]
  exact (List.pairwise_lt_range (n := n.toNat)).imp fun h => by omega
theorem mem_ran {n z : Int} : z ∈ ran n ↔ 0 ≤ z ∧ z < n := by
  unfold ran
  rw [List.mem_map]
  constructor
  · rintro ⟨i, hi, rfl⟩
    have := List.mem_range.mp hi
    omega
  · intro h
    exact ⟨z.toNat, List.mem_range.mpr (by omega), by omega⟩
theorem ran_len (n : Int) : (ran n).length = n.toNat := by
  unfold ran
  simp
theorem pw_mem_eq : ∀ {l m : List Int}, l.Pairwise (· < ·) → m.Pairwise (· < ·) → (∀ z, z ∈ l ↔ z ∈ m) → l = m
  | [], [], _, _, _ => rfl
  | [], y :: m, _, _, h => absurd ((h y).mpr List.mem_cons_self) (by simp)
  | x :: l, [], _, _, h => absurd ((h x).mp List.mem_cons_self) (by simp)
  | x :: l, y :: m, hl, hm, h => by
    have hl' := List.pairwise_cons.mp hl
    have hm' := List.pairwise_cons.mp hm
    have e : x = y := by
      have h1 : x ≤ y := by
        rcases List.mem_cons.mp ((h y).mpr List.mem_cons_self) with e | q
        · omega
        · have := hl'.1 y q
          omega
      have h2 : y ≤ x := by
        rcases List.mem_cons.mp ((h x).mp List.mem_cons_self) with e | q
        · omega
        · have := hm'.1 x q
          omega
      omega
    subst e
    rw [pw_mem_eq hl'.2 hm'.2 fun z => ?_]
    constructor
    · intro hz
      rcases List.mem_cons.mp ((h z).mp (List.mem_cons_of_mem _ hz)) with e | q
      · have := hl'.1 z hz
        omega
      · exact q
    · intro hz
      rcases List.mem_cons.mp ((h z).mpr (List.mem_cons_of_mem _ hz)) with e | q
      · have := hm'.1 z hz
        omega
      · exact q
theorem sub_len : ∀ {l m : List Int}, l.Nodup → (∀ z ∈ l, z ∈ m) → l.length ≤ m.length
  | [], _, _, _ => Nat.zero_le _
  | x :: l, m, hn, h => by
    have hn' := List.nodup_cons.mp hn
    have h1 := h x List.mem_cons_self
    have h2 := sub_len (m := m.erase x) hn'.2 fun z hz => (List.mem_erase_of_ne (fun e => by rw [e] at hz; exact hn'.1 hz)).mpr (h z (List.mem_cons_of_mem _ hz))
    have h3 := List.length_erase_of_mem h1
    have h4 := List.length_pos_of_mem h1
    rw [List.length_cons]
    omega
theorem full_eq {n : Int} {l : List Int} (hn : l.Nodup) (hp : Pl n l) (hl : l.length = n.toNat) : srt l = ran n := by
  have hs : (srt l).Nodup := (srt_perm l).nodup_iff.mpr hn
  refine pw_mem_eq (pw_lt (srt_pw l) hs) (ran_pw n) fun z => ?_
  rw [(srt_perm l).mem_iff, mem_ran]
  constructor
  · exact hp z
  · intro hz
    by_cases m : z ∈ l
    · exact m
    · have q := sub_len (l := z :: l) (m := ran n) (List.nodup_cons.mpr ⟨m, hn⟩) fun y hy => by
        rcases List.mem_cons.mp hy with e | q
        · rw [e]
          exact mem_ran.mpr hz
        · exact mem_ran.mpr (hp y q)
      rw [ran_len, List.length_cons] at q
      omega
theorem pl_app {n : Int} {a b : List Int} (ha : Pl n a) (hb : Pl n b) : Pl n (a ++ b) := fun z hz => (List.mem_append.mp hz).elim (ha z) (hb z)
theorem pl_take {n : Int} {a : List Int} (k : Nat) (ha : Pl n a) : Pl n (a.take k) := fun z hz => ha z (List.mem_of_mem_take hz)
theorem add_isS {n : Int} {a b : List Int} (ha : Pl n a) (hb : Pl n b) : IsS n (add n a b) := by
  obtain ⟨h1, h2, h3⟩ := spots_ok (pl_take n.toNat (pl_app ha hb)) (by rw [List.length_take]; omega)
  refine ⟨fun z hz => h2 z ((srt_perm _).mem_iff.mp hz), pw_lt (srt_pw _) ((srt_perm _).nodup_iff.mpr h1)⟩
/-- what the program writes for a sum -/
theorem add_short {n : Int} {a b : List Int} (h : a.length + b.length < n.toNat) : add n a b = srt (spots n (a ++ b)) := by
  unfold add
  rw [List.take_of_length_le (by rw [List.length_append]; omega)]
theorem add_long {n : Int} {a b : List Int} (ha : Pl n a) (hb : Pl n b) (h : n.toNat ≤ a.length + b.length) : add n a b = ran n := by
  obtain ⟨h1, h2, h3⟩ := spots_ok (pl_take n.toNat (pl_app ha hb)) (by rw [List.length_take]; omega)
  refine full_eq h1 h2 ?_
  rw [h3, List.length_take, List.length_append]
  omega
theorem isS_len {n : Int} {l : List Int} (h : IsS n l) : l.length ≤ n.toNat := by
  have q := sub_len (l := l) (m := ran n) (h.2.imp fun h => by omega) fun z hz => mem_ran.mpr (h.1 z hz)
  rwa [ran_len] at q
theorem isS_nil (n : Int) : IsS n [] := ⟨fun z hz => (by cases hz), List.Pairwise.nil⟩
end Pk

/-! the heap's helpers: what stands over a call; data of tuples; facts of the top -/
namespace Pk
open PySem PySem.Spec PyProof.Rows L2 GxR
open PySem.W (Datum DatumOrd Tup T3)
/-- all that was tracked but a table stands; the table at P stays one -/
def Sm (P : Addr) (H H' : Hp) : Prop := (TabG H P → TabG H' P) ∧ ∀ b o, H b = some o → (∀ q, o ≠ .tbl q) → H' b = some o
theorem Sm.refl (P : Addr) (H : Hp) : Sm P H H := ⟨fun h => h, fun _ _ h _ => h⟩
theorem Sm.trans {P : Addr} {H H1 H2 : Hp} (a : Sm P H H1) (b : Sm P H1 H2) : Sm P H H2 := ⟨fun h => b.1 (a.1 h), fun c o h n => b.2 c o (a.2 c o h n) n⟩
theorem Sm.new {P p : Addr} {H : Hp} {o : HO} (h : H p = none) : Sm P H (upd H p o) := by
  refine ⟨fun ⟨ps, e, t⟩ => ⟨ps, ?_, t⟩, fun b u e _ => ?_⟩
  · rw [upd_ne (ne_of_none e h)]
    exact e
  · rw [upd_ne (ne_of_none e h)]
    exact e
theorem Sm.put {P p : Addr} {H : Hp} {o : HO} {H0 : Hp} (h : H0 p = none) (a : Sm P H0 H) (hp : ∀ q, H p ≠ some (.tbl q)) : Sm P H0 (upd H p o) := by
  refine ⟨fun g => ?_, fun b u e n => ?_⟩
  · obtain ⟨ps, e, t⟩ := a.1 g
    refine ⟨ps, ?_, t⟩
    rw [upd_ne (fun z => hp ps (by rw [← z]; exact e))]
    exact e
  · rw [upd_ne (ne_of_none e h)]
    exact a.2 b u e n
theorem Sm.of_tab {P : Addr} {H H' : Hp} (g : TabG H P) (t : Tabbed P H H') : Sm P H H' := by
  refine ⟨fun _ => t.1, fun b o e n => ?_⟩
  by_cases hb : b = P
  · obtain ⟨ps, h, _⟩ := g
    rw [hb, h] at e
    exact absurd (Option.some.inj e).symm (n ps)
  · rw [t.2 b hb]
    exact e
/-- every tuple that may be read stands -/
def TK (K : PySem.W.Frag) (H H' : Hp) : Prop := ∀ a xs, SqT K H a xs → SqT K H' a xs
theorem TK.refl {K : PySem.W.Frag} (H : Hp) : TK K H H := fun _ _ h => h
theorem TK.trans {K : PySem.W.Frag} {H H1 H2 : Hp} (a : TK K H H1) (b : TK K H1 H2) : TK K H H2 := fun c xs h => b c xs (a c xs h)
theorem Sm.tk {P : Addr} {H H' : Hp} {K : PySem.W.Frag} (s : Sm P H H') : TK K H H' := fun a xs h => by
  rcases h with (h | ⟨o, h⟩) | h
  · exact .inl (.inl (s.2 a _ h fun q z => nomatch z))
  · exact .inl (.inr ⟨o, s.2 a _ h fun q z => nomatch z⟩)
  · exact .inr h
theorem Sm.sqL {P : Addr} {H H' : Hp} {K : PySem.W.Frag} {a : Addr} {xs : List V} (s : Sm P H H') (h : SqL K H a xs) : SqL K H' a xs := by
  rcases h with (h | ⟨o, h⟩) | h
  · exact .inl (.inl (s.2 a _ h fun q z => nomatch z))
  · exact .inl (.inr ⟨o, s.2 a _ h fun q z => nomatch z⟩)
  · exact .inr h
theorem Sm.lst {P : Addr} {H H' : Hp} {a : Addr} {xs : List V} (s : Sm P H H') (h : H a = some (.lst xs)) : H' a = some (.lst xs) := s.2 a _ h fun q z => nomatch z
theorem tk_new {K : PySem.W.Frag} {H : Hp} {p : Addr} {o : HO} (h : H p = none) : TK K H (upd H p o) := fun a xs q => by
  rcases q with (q | ⟨u, q⟩) | q
  · exact .inl (.inl (by rw [upd_ne (ne_of_none q h)]; exact q))
  · exact .inl (.inr ⟨u, by rw [upd_ne (ne_of_none q h)]; exact q⟩)
  · exact .inr q
theorem tk_lst {K : PySem.W.Frag} {H : Hp} {p : Addr} {ys : List V} {o : HO} (h : H p = some (.lst ys)) : TK K H (upd H p o) := fun a xs q => by
  rcases q with (q | ⟨u, q⟩) | q
  · exact .inl (.inl (by rw [upd_ne (ne_of q h (fun z => nomatch z))]; exact q))
  · exact .inl (.inr ⟨u, by rw [upd_ne (ne_of q h (fun z => nomatch z))]; exact q⟩)
  · exact .inr q
/-! ### data of tuples -/
mutual
def noL : PyData → Bool
  | .list _ => false
  | .dict _ => false
  | .tuple xs => noLAll xs
  | _ => true
def noLAll : List PyData → Bool
  | [] => true
  | x :: xs => noL x && noLAll xs
end
section
variable {K : PySem.W.Frag} {H H' : Hp}
mutual
theorem dp_keep (t : TK K H H') : ∀ (d : PyData) (v : V), noL d = true → Dp K H v d → Dp K H' v d
  | .none, _, _, h => by cases h; exact .non
  | .bool b, _, _, h => by cases h; exact .bl b
  | .int i, _, _, h => by cases h; exact .int i
  | .str x, _, _, h => by cases h; exact .str x
  | .list _, _, n, _ => by simp [noL] at n
  | .dict _, _, _, h => by cases h
  | .tuple ds, _, n, h => by
    cases h with
    | tup h1 h2 => exact .tup (t _ _ h1) (dpAll_keep t ds _ (by simpa [noL] using n) h2)
theorem dpAll_keep (t : TK K H H') : ∀ (ds : List PyData) (vs : List V), noLAll ds = true → DpAll K H vs ds → DpAll K H' vs ds
  | [], _, _, h => by cases h; exact .nil
  | d :: ds, _, n, h => by
    have n' : noL d = true ∧ noLAll ds = true := by simpa [noLAll] using n
    cases h with
    | cons h1 h2 => exact .cons (dp_keep t d _ n'.1 h1) (dpAll_keep t ds _ n'.2 h2)
end
/-- a tuple of ints -/
abbrev ti (ns : List Int) : PyData := .tuple (ns.map .int)
/-- a pair of tuples of ints -/
abbrev tp (p : List Int × List Int) : PyData := .tuple [ti p.1, ti p.2]
theorem noL_ints : ∀ ns : List Int, noLAll (ns.map PyData.int) = true
  | [] => rfl
  | _ :: r => by simp [noLAll, noL, noL_ints r]
theorem noL_ti (ns : List Int) : noL (ti ns) = true := by
  show noL (.tuple _) = true
  simp only [noL]
  exact noL_ints ns
theorem noL_tp (p : List Int × List Int) : noL (tp p) = true := by
  show noL (.tuple _) = true
  simp only [noL, noLAll, Bool.and_true]
  exact Bool.and_eq_true_iff.mpr ⟨noL_ints p.1, noL_ints p.2⟩
theorem noL_map {β : Type} {f : β → PyData} (h : ∀ b, noL (f b) = true) : ∀ l : List β, noLAll (l.map f) = true
  | [] => rfl
  | b :: r => by simp [noLAll, h b, noL_map h r]
theorem dpAll_ints : ∀ ns : List Int, DpAll K H (ns.map V.int) (ns.map .int)
  | [] => .nil
  | n :: r => .cons (.int n) (dpAll_ints r)
theorem ints_dpAll : ∀ {ns : List Int} {vs : List V}, DpAll K H vs (ns.map .int) → vs = ns.map V.int
  | [], _, h => by cases h; rfl
  | n :: r, _, h => by
    cases h with
    | cons h1 h2 =>
      cases h1
      rw [ints_dpAll h2]
      rfl
theorem dp_ti {a : Addr} {ns : List Int} (h : SqT K H a (ns.map V.int)) : Dp K H (.ref a) (ti ns) := .tup h (dpAll_ints ns)
theorem ti_dp {v : V} {ns : List Int} (h : Dp K H v (ti ns)) : ∃ a, v = .ref a ∧ SqT K H a (ns.map V.int) := by
  cases h with
  | tup h1 h2 =>
    rw [ints_dpAll h2] at h1
    exact ⟨_, rfl, h1⟩
theorem dp_tp {a : Addr} {x y : V} {p : List Int × List Int} (h : SqT K H a [x, y]) (hx : Dp K H x (ti p.1)) (hy : Dp K H y (ti p.2)) : Dp K H (.ref a) (tp p) := .tup h (.cons hx (.cons hy .nil))
theorem tp_dp {v : V} {p : List Int × List Int} (h : Dp K H v (tp p)) : ∃ a x y, v = .ref a ∧ SqT K H a [x, y] ∧ Dp K H x (ti p.1) ∧ Dp K H y (ti p.2) := by
  cases h with
  | tup h1 h2 =>
    cases h2 with
    | cons d1 d2 =>
      cases d2 with
      | cons d3 d4 =>
        cases d4
        exact ⟨_, _, _, rfl, h1, d1, d3⟩
theorem dpAll_app : ∀ {xs ys : List V} {ds es : List PyData}, DpAll K H xs ds → DpAll K H ys es → DpAll K H (xs ++ ys) (ds ++ es)
  | _, _, [], _, h, k => by cases h; exact k
  | _, _, d :: ds, _, h, k => by
    cases h with
    | cons h1 h2 => exact .cons h1 (dpAll_app h2 k)
theorem dpAll_get : ∀ {xs : List V} {ds : List PyData} {i : Nat} {x : V}, DpAll K H xs ds → xs[i]? = some x → ∃ d, ds[i]? = some d ∧ Dp K H x d
  | _, [], i, x, h, e => by
    cases h
    simp at e
  | _, d :: ds, i, x, h, e => by
    cases h with
    | cons h1 h2 =>
      cases i with
      | zero =>
        have q := Option.some.inj e
        subst q
        exact ⟨d, rfl, h1⟩
      | succ i => exact dpAll_get (i := i) h2 e
theorem dpAll_at {β : Type} {f : β → PyData} {xs : List V} {bs : List β} {i : Nat} {x : V} (h : DpAll K H xs (bs.map f)) (e : xs[i]? = some x) : ∃ b, bs[i]? = some b ∧ Dp K H x (f b) := by
  obtain ⟨d, hd, q⟩ := dpAll_get h e
  rw [List.getElem?_map] at hd
  cases hb : bs[i]? with
  | none =>
    rw [hb] at hd
    cases hd
  | some b =>
    rw [hb] at hd
    cases hd
    exact ⟨b, rfl, q⟩
end
/-! ### == of tuples of ints, != of lists of them -/
section
variable {X : Cx}
def rEqT (K : PySem.W.Frag) : R2 := fun x y H Q => ∃ a b, Dp K H x (ti a) ∧ Dp K H y (ti b) ∧ Q (.bl (decide (a = b))) H
theorem op_eqT (hu : X.A.units + 64 < cLine) : OpR X (compareOp .Eq) (rEqT X.K) := by
  intro pins s σ H x y v u Q I rx ry h
  obtain ⟨a, b, ha, hb, q⟩ := h
  obtain ⟨as, r1⟩ := Dp.reads I _ x v ha rx
  obtain ⟨bs, r2⟩ := Dp.reads I _ y u hb ry
  have e : decide ((Tup.mk a : Tup Int) = Tup.mk b) = decide (a = b) := decide_eq_decide.mpr ⟨fun z => congrArg Tup.items z, fun z => by rw [z]⟩
  refine PySem.W.eq_datum (α := Tup Int) (x := ⟨a⟩) (y := ⟨b⟩) ⟨as, r1⟩ ⟨bs, r2⟩ (by show X.A.units + 1 < cLine; omega) ⟨.bl _, H, I, rfl, ?_⟩
  rw [e]
  exact q
/-- xs != [], xs a list of tuples of ints -/
def rNeL (K : PySem.W.Frag) : R2 := fun x y H Q => ∃ (p q : Addr) (xs : List V) (as : List (List Int)), x = .ref p ∧ y = .ref q ∧ SqL K H p xs ∧ SqL K H q [] ∧ DpAll K H xs (as.map ti) ∧ Q (.bl (!as.isEmpty)) H
theorem op_neL (hu : X.A.units + 64 < cLine) : OpR X (compareOp .NotEq) (rNeL X.K) := by
  intro pins s σ H x y v u Q I rx ry h
  obtain ⟨p, q', xs, as, rfl, rfl, hp, hq, hd, q⟩ := h
  obtain ⟨ws, r1⟩ := Dp.reads I (.list (as.map ti)) (.ref p) v (.lst hp hd) rx
  obtain ⟨bs, r2⟩ := Dp.reads I (.list []) (.ref q') u (.lst hq .nil) ry
  have e0 : (as.map ti) = ((as.map Tup.mk).map Datum.toD : List PyData) := by rw [List.map_map]; rfl
  rw [e0] at r1
  refine PySem.W.ne_datum (α := List (Tup Int)) (x := as.map Tup.mk) (y := []) ⟨ws, r1⟩ ⟨bs, r2⟩ (by show X.A.units + 2 < cLine; omega) ⟨.bl _, H, I, rfl, ?_⟩
  have e : decide (as.map (Tup.mk (α := Int)) ≠ []) = !as.isEmpty := by cases as <;> simp
  rw [e]
  exact q
/-- [] == [] of lists made here -/
def rEqN (K : PySem.W.Frag) : R2 := fun x y H Q => ∃ (p q : Addr), x = .ref p ∧ y = .ref q ∧ SqL K H p [] ∧ SqL K H q [] ∧ Q (.bl true) H
theorem op_eqN (hu : X.A.units + 64 < cLine) : OpR X (compareOp .Eq) (rEqN X.K) := by
  intro pins s σ H x y v u Q I rx ry h
  obtain ⟨p, q', rfl, rfl, hp, hq, q⟩ := h
  obtain ⟨ws, r1⟩ := Dp.reads I (.list []) (.ref p) v (.lst hp .nil) rx
  obtain ⟨bs, r2⟩ := Dp.reads I (.list []) (.ref q') u (.lst hq .nil) ry
  refine PySem.W.eq_datum (α := List Int) (x := []) (y := []) ⟨ws, r1⟩ ⟨bs, r2⟩ (by show X.A.units + 1 < cLine; omega) ⟨.bl _, H, I, rfl, q⟩
end
/-! ### the top -/
/-- a def of the top -/
structure Fn (K : PySem.W.Frag) (mg : Str → Option Value) (x : Str) (st : Stmt) (ps : List Str) (f : Addr) (fd : FuncData) : Prop where
  F : Fun K x x st f fd
  g : mg x = some (.ref f)
  b : Binds K fd ps []
/-- the built-in names that the top leaves free -/
structure Bl (mg : Str → Option Value) : Prop where
  len : mg "len" = none
  tuple : mg "tuple" = none
  list : mg "list" = none
  sorted : mg "sorted" = none
  enumerate : mg "enumerate" = none
  range : mg "range" = none
  all : mg "all" = none
  isinstance : mg "isinstance" = none
  int : mg "int" = none
  bool : mg "bool" = none
  str : mg "str" = none
  min : mg "min" = none
theorem ite_t {c : Bool} {A B : Prop} (hc : c = true) (h : A) : if c = true then A else B := by
  rw [if_pos hc]
  exact h
theorem ite_f {c : Bool} {A B : Prop} (hc : c = false) (h : B) : if c = true then A else B := by
  rw [hc, if_neg Bool.false_ne_true]
  exact h
end Pk

/-! is_in, need_size, is_set, need_set, need_sets, need_choice -/
namespace Pk
open PySem PySem.Spec PyProof.Rows L2 GxR
section
variable {X : Cx} {P : Addr} {scope : Scope} {x : Str} {elt iter : Expr}
/-- .. over a tuple -/
def bTup (X : Cx) (P : Addr) (scope : Scope) (x : Str) (elt : Expr) (te : TE) : L2.St → Hp → (Hp → Prop) → Prop := fun σ H R => te σ H fun v H1 => ∃ a xs, v = .ref a ∧ SqT X.K H1 a xs ∧ TabG H1 P ∧
  (∀ (pins : List (Addr × Obj)) (s1 : Shared) (its : List Value), Inv X pins σ H1 s1 → Vals xs its → EltAll X P scope x elt s1 (fun i v => its[i]? = some v)) ∧ R H1
theorem beg_tup {te : TE} (hi : PE X iter te) (pins : List (Addr × Obj)) (s : Shared) (σ : L2.St) (H : Hp) (R : Hp → Prop) (I : Inv X pins σ H s) (h : bTup X P scope x elt te σ H R) :
    wpAny (model X.prog X.w) X.A (eval iter X.env) (fun xv s1 => wpAny (model X.prog X.w) X.A (pyIter xv) (Begun X pins σ P scope x elt R) X.xe s1) X.xe s := by
  refine thn (hi.run pins s σ H _ I h) fun xv s1 ⟨v, H1, I1, r1, a, xs, e, hq, ⟨ps, hP, ht⟩, hel, q⟩ => ?_
  subst e
  obtain rfl : xv = Value.ref a := r1
  obtain ⟨its, rv, p, hz⟩ := I1.tuple hq
  have hal : a < s1.heap.objs.size := IsTup.lt p
  have tabS : s1.heap.get? P = some { cls := .none, data := .fields ps } := I1.hok P _ hP
  refine wpAny_pyIter_tuple (show s1.heap.IsTuple a its.toArray from p) ?_
  refine ⟨s1, tupItO a, H1, [s1.heap.objs.size, a], its.toArray.size, fun i v => its.toArray[i]? = some v, _, s1.toks, I1, rfl, rfl, fun A' hA => Walks.tuple hA _ a (Nat.ne_of_lt hal) its.toArray, ⟨⟨_, Heap.get?_push_size _ rfl, rfl, rfl⟩, ?_⟩, fun b hb => ?_, fun z => ?_, ⟨ps, hP, ht⟩, ?_, q⟩
  · obtain ⟨o, ho, r⟩ := p
    exact ⟨o, Heap.get?_push_of_some _ ho, r⟩
  · show b < (s1.heap.push _).objs.size
    rw [Heap.size_push]
    rcases List.mem_cons.mp hb with z | z
    · rw [z]
      exact Nat.lt_succ_self _
    · rcases List.mem_cons.mp z with z | z
      · rw [z]
        exact Nat.lt_succ_of_lt hal
      · cases z
  · rcases List.mem_cons.mp z with z | z
    · rw [z] at tabS
      exact Nat.lt_irrefl _ (Heap.lt_size tabS)
    · rcases List.mem_cons.mp z with z | z
      · obtain ⟨o, ho, r⟩ := p
        rw [← z, tabS] at ho
        have e2 := congrArg Obj.cls (Option.some.inj ho)
        rw [r.1] at e2
        cases e2
      · cases z
  · intro C code A' E' i v s2 m2 hA hD hU hPf
    rw [List.getElem?_toArray] at hPf
    exact hel pins s1 its I1 rv C code A' E' i v s2 m2 hA hD hU hPf
/-- .. over range(n), the turns told -/
def bRng (X : Cx) (P : Addr) (scope : Scope) (x : Str) (elt : Expr) (tr : L2.St → Hp → (Int → Int → Hp → Prop) → Prop) : L2.St → Hp → (Hp → Prop) → Prop := fun σ H R => tr σ H fun a b H1 => a = 0 ∧ -(2 ^ 62) ≤ b ∧ b < 2 ^ 62 ∧ TabG H1 P ∧
  (∀ (pins : List (Addr × Obj)) (s1 : Shared), Inv X pins σ H1 s1 → EltAll X P scope x elt s1 (fun i v => i < b.toNat ∧ ∃ t, v = Value.int (i : Int) t)) ∧ R H1
theorem walks_lt {prog : Program} {w : World} {A : Around} {I : Addr} {fp wr : List Addr} {n : Nat} {Pf : Nat → Value → Prop} {St : Nat → Heap → Prop} (W : Walks prog w A I fp wr n Pf St) : Walks prog w A I fp wr n (fun i v => i < n ∧ Pf i v) St where
  sub := W.sub
  frame := W.frame
  item := fun i s Q E hi st hQ => W.item i s Q E hi st fun v h' tk p => hQ v h' tk ⟨hi, p⟩
  done := W.done
  self := W.self
theorem beg_rng {tr : L2.St → Hp → (Int → Int → Hp → Prop) → Prop} (hi : PRg X iter tr) (pins : List (Addr × Obj)) (s : Shared) (σ : L2.St) (H : Hp) (R : Hp → Prop) (I : Inv X pins σ H s) (h : bRng X P scope x elt tr σ H R) :
    wpAny (model X.prog X.w) X.A (eval iter X.env) (fun xv s1 => wpAny (model X.prog X.w) X.A (pyIter xv) (Begun X pins σ P scope x elt R) X.xe s1) X.xe s := by
  refine thn (hi pins s σ H _ I h) fun xv s1 ⟨r, a, b, t, u, v, H1, ex, hr, I1, e0, h1, h2, ⟨ps, hP, ht⟩, hel, q⟩ => ?_
  subst ex e0
  have tabS : s1.heap.get? P = some { cls := .none, data := .fields ps } := I1.hok P _ hP
  refine wpAny_pyIter_range hr (small_one (by omega) (by omega) h1 h2) ?_
  have e2 : Builtin.Range.rangeSize 0 b 1 = ((b.toNat : Nat) : Int) := by
    rw [rangeSize_one]
    split <;> omega
  refine ⟨s1, _, H1, [s1.heap.objs.size], b.toNat, fun i v => i < b.toNat ∧ ∃ t, v = Value.int (0 + (i : Int) * 1) t, _, s1.toks, I1, rfl, rfl, fun A' hA => walks_lt (Walks.range hA _ 0 1 b.toNat), ?_, fun b' hb => ?_, fun z => ?_, ⟨ps, hP, ht⟩, ?_, q⟩
  · show IsRangeIter _ _ (0 + ((0 : Nat) : Int) * 1) (((b.toNat : Nat) : Int) - ((0 : Nat) : Int)) 1
    have e3 : (0 : Int) + ((0 : Nat) : Int) * 1 = 0 := by simp
    have e4 : ((b.toNat : Nat) : Int) - ((0 : Nat) : Int) = Builtin.Range.rangeSize 0 b 1 := by rw [e2]; simp
    rw [e3, e4]
    exact Heap.get?_push_size _ rfl
  · show b' < (s1.heap.push _).objs.size
    rw [Heap.size_push]
    rcases List.mem_cons.mp hb with z | z
    · rw [z]
      exact Nat.lt_succ_self _
    · cases z
  · rcases List.mem_cons.mp z with z | z
    · rw [z] at tabS
      exact Nat.lt_irrefl _ (Heap.lt_size tabS)
    · cases z
  · intro C code A' E' i v s2 m2 hA hD hU hPf
    obtain ⟨hb, t, rfl⟩ := hPf
    refine hel pins s1 I1 C code A' E' i _ s2 m2 hA hD hU ⟨hb, t, ?_⟩
    have e3 : (0 : Int) + (i : Int) * 1 = i := by omega
    rw [e3]
end
section
variable {prog : Program} {w : World} {K : PySem.W.Frag} {mg : Str → Option Value} {base : Heap} {P : Addr}
/-! ### is_in, need_size -/
def spIsIn : Sp := fun vs H Q _ => ∃ z lo hi : Int, vs = [.int z, .int lo, .int hi] ∧ lo ≤ z ∧ z ≤ hi ∧ Q (.bl true) H
theorem ok_isIn {f : Addr} {fd : FuncData} {k : Nat} (F : Fn K mg "is_in" sIsIn pIsIn f fd) (B : Bl mg) : FnOk prog w K mg base CX0 (k + 1) f fd pIsIn spIsIn := by
  refine F.F.ok scIsIn (fun vs H Q E h => ?_) (fun cdv A outer s H vs Q E hr h => ?_)
  · obtain ⟨z, lo, hi, rfl, _⟩ := h
    rfl
  · obtain ⟨z, lo, hi, rfl, h1, h2, q⟩ := h
    refine ⟨_, pss_one (ps_ret (pe_and (pe_callB call_isi (by rfl) B.isinstance boot_isinstance (pa_cons (pv 0) (pa_cons (pe_bltn (v := .ty "int") (by rfl) B.int (by decide +kernel) rfl) pa_nil)))
      (pe_and (pe_not (pe_callB call_isi (by rfl) B.isinstance boot_isinstance (pa_cons (pv 0) (pa_cons (pe_bltn (v := .ty "bool") (by rfl) B.bool (by decide +kernel) rfl) pa_nil))))
        (pe_one (pe_chain op_le op_le (pv 1) (pv 0) (pv 2)))))), ?_⟩
    refine ⟨_, rfl, _, _, .type "int", .type "int", true, rfl, .ty _, .base (.int _), kit_ty (by decide +kernel), true, rfl, iteT ?_⟩
    refine ⟨_, rfl, _, _, .type "int", .type "bool", false, rfl, .ty _, .base (.int _), kit_ty (by decide +kernel), false, rfl, true, rfl, iteT ?_⟩
    refine ⟨_, rfl, _, rfl, _, _, rfl, rfl, _, rfl, ?_⟩
    rw [decide_eq_true h1]
    refine iteT ⟨_, rfl, _, _, rfl, rfl, ?_⟩
    show Q (.bl (decide (z ≤ hi))) H
    rw [decide_eq_true h2]
    exact q
/-- the size's bounds as the top keeps them -/
structure Bounds (mg : Str → Option Value) : Prop where
  lo : ∃ t, mg "LEAST_SIZE" = some (.int 2 t)
  hi : ∃ t, mg "MOST_SIZE" = some (.int 9 t)
  sets : ∃ t, mg "MOST_SETS" = some (.int 10 t)
def spNeedSize : Sp := fun vs H Q _ => ∃ z : Int, vs = [.int z] ∧ 2 ≤ z ∧ z ≤ 9 ∧ Q .non H
theorem ok_needSize {f f1 : Addr} {fd fd1 : FuncData} {k : Nat} (F : Fn K mg "need_size" sNeedSize pNeedSize f fd) (F1 : Fn K mg "is_in" sIsIn pIsIn f1 fd1) (B : Bl mg) (C : Bounds mg) : FnOk prog w K mg base CX0 (k + 2) f fd pNeedSize spNeedSize := by
  have G1 : FnOk prog w K mg base CX0 (k + 1) f1 fd1 pIsIn spIsIn := ok_isIn F1 B
  obtain ⟨t1, c1⟩ := C.lo
  obtain ⟨t2, c2⟩ := C.hi
  refine F.F.ok scNeedSize (fun vs H Q E h => ?_) (fun cdv A outer s H vs Q E hr h => ?_)
  · obtain ⟨z, rfl, _⟩ := h
    rfl
  · obtain ⟨z, rfl, h1, h2, q⟩ := h
    refine ⟨_, pss_one (ps_if (pt_not (pt_val (pe_call G1 hr (by rfl) F1.g F1.F.kp F1.b .nil pass0 (pa_cons (pv 0) (pa_cons (pe_glob (v := .int 2) rfl c1 ⟨_, rfl⟩) (pa_cons (pe_glob (v := .int 9) rfl c2 ⟨_, rfl⟩) pa_nil)))))) (pss_one ps_never) pss_nil), ?_⟩
    exact ⟨_, rfl, z, 2, 9, rfl, h1, h2, true, rfl, iteF q⟩
/-! ### is_set -/
/-- is_set as it stands, with its code object -/
structure SetTxt (K : PySem.W.Frag) (mg : Str → Option Value) (base : Heap) (P f : Addr) (fd : FuncData) : Prop where
  fn : Fn K mg "is_set" sIsSet pIsSet f fd
  ex : ∃ (c : Addr) (oc : Value) (od : Option Addr) (kV doc pm : Value) (an : Option Addr) (ct : Value) (osl : Array (Option Value)),
    fd = PySem.W.fnOf "is_set" "is_set" (defArgs sIsSet) (defBody sIsSet) (defScope sIsSet) .none kV doc pm an (.ref c) ct ∧ K.lookup f = some ⟨oc, od, .func fd, osl⟩ ∧ PySem.W.codeIn K (.ref c) "is_set" = true ∧ LamX.TabB base mg c P
def spIsSet (K : PySem.W.Frag) (P : Addr) : Sp := fun vs H Q _ => ∃ (n : Int) (a : Addr) (ns : List Int), vs = [.int n, .ref a] ∧ n ≤ 9 ∧ H a = some (.tup (ns.map V.int)) ∧ IsS n ns ∧ TabG H P ∧ ∀ H', Sm P H H' → Q (.bl true) H'
def gsc1 : Scope := { kind := .function, names := [((".0" : Str), .local), (("one" : Str), .local), (("size" : Str), .free), (("is_in" : Str), .globalImplicit)], isGenerator := true, isCoroutine := false }
def gsc2 : Scope := { kind := .function, names := [((".0" : Str), .local), (("k" : Str), .local), (("value" : Str), .free)], isGenerator := true, isCoroutine := false }
theorem has_cell {nm x : Str} {L f : Addr} {cd : Value} {sc : Scope} (h : sc.names.lookup x = some .cell) : ∃ c, (envOfC nm sc L f cd).cells.lookup x = some c :=
  Option.isSome_iff_exists.mp (PySem.W.cellsFrom_some _ _ _ (.inl h))
theorem gs1 (L f : Addr) (cd : Value) : GenS (envOfC "is_set" (defScope sIsSet) L f cd) gsc1 "one" := by
  refine ⟨rfl, rfl, by decide +kernel, rfl, rfl, fun y hy e => ?_⟩
  have cs : y = ((".0" : Str), .local) ∨ y = (("one" : Str), .local) ∨ y = (("size" : Str), .free) ∨ y = (("is_in" : Str), .globalImplicit) := by simpa [gsc1] using hy
  rcases cs with z | z | z | z
  · rw [z] at e
    cases e
  · rw [z] at e
    cases e
  · rw [z]
    exact has_cell (by decide +kernel)
  · rw [z] at e
    cases e
theorem gs2 (L f : Addr) (cd : Value) : GenS (envOfC "is_set" (defScope sIsSet) L f cd) gsc2 "k" := by
  refine ⟨rfl, rfl, by decide +kernel, rfl, rfl, fun y hy e => ?_⟩
  have cs : y = ((".0" : Str), .local) ∨ y = (("k" : Str), .local) ∨ y = (("value" : Str), .free) := by simpa [gsc2] using hy
  rcases cs with z | z | z
  · rw [z] at e
    cases e
  · rw [z] at e
    cases e
  · rw [z]
    exact has_cell (by decide +kernel)
theorem ok_isSet {f f1 : Addr} {fd fd1 : FuncData} {k : Nat} (T : SetTxt K mg base P f fd) (F1 : Fn K mg "is_in" sIsIn pIsIn f1 fd1) (B : Bl mg) : FnOk prog w K mg base CX0 (k + 3) f fd pIsSet (spIsSet K P) := by
  obtain ⟨c, oc, od, kV, doc, pm, an, ct, osl, rfl, lk, hcd, TB⟩ := T.ex
  refine fn_of lk hcd scIsSet (fun vs H Q E h => ?_) (fun A outer s H vs Q E hr h => ?_)
  · obtain ⟨n, a, ns, rfl, _⟩ := h
    rfl
  · obtain ⟨n, a, ns, rfl, hn9, hq, hS, hT, q⟩ := h
    refine ⟨_, PSs.nox (pss_cons (ps_if (PW.pt (pw_or (pt_not (pt_val (pe_callB call_isi (by rfl) B.isinstance boot_isinstance (pa_cons (pv 1) (pa_cons (pe_bltn (v := .ty "tuple") (by rfl) B.tuple (by decide +kernel) rfl) pa_nil)))))
        (pw_or1 (pt_not (pt_val (pe_allG (P := P) (c := c) hr (by rfl) B.all TB rfl (gs1 _ _ _) (fun _ => rfl) (beg_tup (pv 1))))))))
        (pss_one ps_never) pss_nil)
      (pss_one (ps_ret (pe_allG (P := P) (c := c) hr (by rfl) B.all TB rfl (gs2 _ _ _) (fun _ => rfl) (beg_rng (prg_1 (by rfl) B.range (pe_op op_sub (pe_callB call_len_seq (by rfl) B.len PySem.boot_len (pa_cons (pv 1) pa_nil)) pe_int))))))), ?_⟩
    have hl : ns.length ≤ 9 := by
      have := isS_len hS
      omega
    have sq : SqT K H a (ns.map V.int) := .inl (.inl hq)
    have hdep : (A.deeper (envOfC "is_set" (defScope sIsSet) s.heap.objs.size f (Value.ref c))).depth + 3 < recursionLimit := by
      have := hr.dp
      omega
    refine ⟨_, rfl, _, _, .type "tuple", .type "tuple", true, rfl, .ty _, .base (.tup hq), kit_ty (by decide +kernel), true, rfl, iteF ?_⟩
    refine ⟨_, rfl, a, ns.map V.int, rfl, sq, hT, fun pins s1 its I rv => ?_, fun H2 hT2 => ⟨true, rfl, iteF ?_⟩⟩
    · obtain ⟨ps, hP, _⟩ := hT
      exact elt_place I hP F1.F F1.g B.isinstance B.int B.bool hdep rfl (by rfl) rfl rv hS.1 rfl rfl rfl rfl (fun c hc => by
        show List.lookup ("size" : Str) [(("size" : Str), (List.lookup ("size" : Str) _).getD 0)] = some c
        rw [hc]
        rfl)
    · have sm := Sm.of_tab hT hT2
      have sq2 : SqT K H2 a (ns.map V.int) := sm.tk _ _ sq
      refine ⟨_, rfl, a, _, rfl, .inr sq2, _, _, rfl, rfl, _, rfl, rfl, ?_, ?_, hT2.1, fun pins s1 I => ?_, fun H3 hT3 => q H3 (sm.trans (Sm.of_tab hT2.1 hT3))⟩
      · rw [List.length_map]
        omega
      · rw [List.length_map]
        omega
      · obtain ⟨ps, hP, _⟩ := hT2.1
        intro C code A' E' i v s2 m2 hA hD hU hPf
        refine elt_rise (scope := gsc2) I hP sq2 rfl (by rfl) rfl hS.2 rfl rfl rfl (fun c hc => ?_) C code A' E' i v s2 m2 hA hD hU ⟨?_, hPf.2⟩
        · show List.lookup ("value" : Str) [(("value" : Str), (List.lookup ("value" : Str) _).getD 0)] = some c
          rw [hc]
          rfl
        · have h1 := hPf.1
          rw [List.length_map] at h1
          omega
end
end Pk

/-! need_set, need_sets, need_choice -/
namespace Pk
open PySem PySem.Spec PyProof.Rows L2 GxR
/-- x holds the set ns -/
def SetV (H : Hp) (n : Int) (x : V) (ns : List Int) : Prop := ∃ a, x = .ref a ∧ H a = some (.tup (ns.map V.int)) ∧ IsS n ns
theorem SetV.sm {P : Addr} {H H' : Hp} {n : Int} {x : V} {ns : List Int} (h : SetV H n x ns) (s : Sm P H H') : SetV H' n x ns := by
  obtain ⟨a, e, t, i⟩ := h
  exact ⟨a, e, s.2 a _ t (fun q z => nomatch z), i⟩
theorem SetV.sq {K : PySem.W.Frag} {H : Hp} {n : Int} {x : V} {ns : List Int} (h : SetV H n x ns) : Dp K H x (ti ns) := by
  obtain ⟨a, e, t, i⟩ := h
  subst e
  exact dp_ti (.inl (.inl t))
/-- xs holds the sets SS -/
def SetsV (H : Hp) (n : Int) (xs : List V) (SS : List (List Int)) : Prop := xs.length = SS.length ∧ ∀ (i : Nat) (x : V), xs[i]? = some x → ∃ ns, SS[i]? = some ns ∧ SetV H n x ns
theorem SetsV.sm {P : Addr} {H H' : Hp} {n : Int} {xs : List V} {SS : List (List Int)} (h : SetsV H n xs SS) (s : Sm P H H') : SetsV H' n xs SS :=
  ⟨h.1, fun i x e => by
    obtain ⟨ns, e1, v⟩ := h.2 i x e
    exact ⟨ns, e1, v.sm s⟩⟩
section
variable {prog : Program} {w : World} {K : PySem.W.Frag} {mg : Str → Option Value} {base : Heap} {P : Addr}
def spNeedSet (P : Addr) : Sp := fun vs H Q _ => ∃ (n : Int) (x : V) (ns : List Int), vs = [.int n, x] ∧ n ≤ 9 ∧ SetV H n x ns ∧ TabG H P ∧ ∀ H', Sm P H H' → Q .non H'
theorem ok_needSet {f f1 : Addr} {fd fd1 : FuncData} {k : Nat} (F : Fn K mg "need_set" sNeedSet pNeedSet f fd) (F1 : Fn K mg "is_set" sIsSet pIsSet f1 fd1) (G1 : FnOk prog w K mg base CX0 k f1 fd1 pIsSet (spIsSet K P)) :
    FnOk prog w K mg base CX0 (k + 1) f fd pNeedSet (spNeedSet P) := by
  refine F.F.ok scNeedSet (fun vs H Q E h => ?_) (fun cdv A outer s H vs Q E hr h => ?_)
  · obtain ⟨n, x, ns, rfl, _⟩ := h
    rfl
  · obtain ⟨n, x, ns, rfl, h9, ⟨a, rfl, ht, hS⟩, hT, q⟩ := h
    refine ⟨_, pss_one (ps_if (pt_not (pt_val (pe_call G1 hr (by rfl) F1.g F1.F.kp F1.b .nil pass0 (pa_cons (pv 0) (pa_cons (pv 1) pa_nil))))) (pss_one ps_never) pss_nil), ?_⟩
    exact ⟨_, rfl, _, rfl, n, a, ns, rfl, h9, ht, hS, hT, fun H' sm => ⟨true, rfl, iteF (q H' sm)⟩⟩
def spNeedSets (P : Addr) : Sp := fun vs H Q _ => ∃ (n : Int) (b : Addr) (xs : List V) (SS : List (List Int)), vs = [.int n, .ref b] ∧ 2 ≤ n ∧ n ≤ 9 ∧ H b = some (.tup xs) ∧ xs.length ≤ 10 ∧ SetsV H n xs SS ∧ TabG H P ∧ ∀ H', Sm P H H' → Q .non H'
theorem ok_needSets {f f1 f2 : Addr} {fd fd1 fd2 : FuncData} {k : Nat} (F : Fn K mg "need_sets" sNeedSets pNeedSets f fd) (F1 : Fn K mg "is_set" sIsSet pIsSet f1 fd1) (G1 : FnOk prog w K mg base CX0 k f1 fd1 pIsSet (spIsSet K P))
    (F2 : Fn K mg "need_size" sNeedSize pNeedSize f2 fd2) (G2 : FnOk prog w K mg base CX0 k f2 fd2 pNeedSize spNeedSize) (B : Bl mg) (C : Bounds mg) : FnOk prog w K mg base CX0 (k + 1) f fd pNeedSets (spNeedSets P) := by
  obtain ⟨t3, c3⟩ := C.sets
  refine F.F.ok scNeedSets (fun vs H Q E h => ?_) (fun cdv A outer s H vs Q E hr h => ?_)
  · obtain ⟨n, b, xs, SS, rfl, _⟩ := h
    rfl
  · obtain ⟨n, b, xs, SS, rfl, h2, h9, hb, hl, hSS, hT, q⟩ := h
    refine ⟨_, pss_cons (ps_expr (pe_call G2 hr (by rfl) F2.g F2.F.kp F2.b .nil pass0 (pa_cons (pv 0) pa_nil)))
      (pss_cons (ps_if (PW.pt (pw_or (pt_not (pt_val (pe_callB call_isi (by rfl) B.isinstance boot_isinstance (pa_cons (pv 1) (pa_cons (pe_bltn (v := .ty "tuple") (by rfl) B.tuple (by decide +kernel) rfl) pa_nil)))))
          (pw_or1 (pt_cmpR op_gt (pe_callB call_len_seq (by rfl) B.len PySem.boot_len (pa_cons (pv 1) pa_nil)) (pe_glob (v := .int 10) rfl c3 ⟨_, rfl⟩) (nomark _))))) (pss_one ps_never) pss_nil)
      (pss_one (ps_for PassesOwn.never rfl (pi_enT (by rfl) B.enumerate (pa_cons (pv 1) pa_nil)) (pg_tup rfl (pgs_cons (pg_name (i := 2) scNeedSets.nd rfl (.inl rfl)) (pgs_cons (pg_name (i := 3) scNeedSets.nd rfl (.inl rfl)) pgs_nil)))
        (pss_one (ps_if (pt_not (pt_val (pe_call G1 hr (by rfl) F1.g F1.F.kp F1.b .nil pass0 (pa_cons (pv 0) (pa_cons (pv 3) pa_nil))))) (pss_one ps_never) pss_nil))))), ?_⟩
    have sq : SqT K H b xs := .inl (.inl hb)
    refine ⟨_, rfl, n, rfl, h2, h9, ?_⟩
    refine ⟨_, rfl, _, _, .type "tuple", .type "tuple", true, rfl, .ty _, .base (.tup hb), kit_ty (by decide +kernel), true, rfl, iteF ?_⟩
    refine ⟨_, rfl, b, xs, rfl, .inr sq, (xs.length : Int), 10, rfl, rfl, _, rfl, ?_⟩
    rw [decide_eq_false (by omega)]
    refine iteF ?_
    refine ⟨_, rfl, b, xs, rfl, sq, for_it walk_enT (fun _ σ H' => (∃ y2 y3, σ = [some (.int n), some (.ref b), y2, y3]) ∧ Sm P H H') ⟨⟨_, _, rfl⟩, Sm.refl _ _⟩ (fun i σ H' _ hp => hp.2.tk _ _ sq) (fun i v σ H1 H2 hi hp y => ?_) (fun σ H' hp => q H' hp.2)⟩
    obtain ⟨⟨y2, y3, rfl⟩, sm⟩ := hp
    obtain ⟨T, x, z, rfl, nT, rfl, ex, ez⟩ := y
    obtain ⟨ns, _, a, rfl, ha, hS⟩ := hSS.2 i z ez
    have s2 : Sm P H (upd H1 T (.tup [x, .ref a])) := sm.trans (Sm.new nT)
    refine ⟨T, [x, .ref a], rfl, .inl (.inl upd_same), rfl, x, [.ref a], rfl, .ref a, [], rfl, rfl, ?_⟩
    exact ⟨_, rfl, _, rfl, n, a, ns, rfl, h9, s2.2 a _ ha (fun q z => nomatch z), hS, s2.1 hT, fun H' s3 => ⟨true, rfl, iteF ⟨⟨_, _, rfl⟩, s2.trans s3⟩⟩⟩
def spNeedChoice (P : Addr) : Sp := fun vs H Q _ => ∃ (n : Int) (b : Addr) (xs : List V) (SS : List (List Int)) (x : V) (g : List Int), vs = [.int n, .ref b, x] ∧ 2 ≤ n ∧ n ≤ 9 ∧ H b = some (.tup xs) ∧ xs.length ≤ 10 ∧ SetsV H n xs SS ∧ SetV H n x g ∧ TabG H P ∧ ∀ H', Sm P H H' → Q .non H'
theorem ok_needChoice {f f1 f2 : Addr} {fd fd1 fd2 : FuncData} {k : Nat} (F : Fn K mg "need_choice" sNeedChoice pNeedChoice f fd) (F1 : Fn K mg "need_sets" sNeedSets pNeedSets f1 fd1) (G1 : FnOk prog w K mg base CX0 k f1 fd1 pNeedSets (spNeedSets P))
    (F2 : Fn K mg "need_set" sNeedSet pNeedSet f2 fd2) (G2 : FnOk prog w K mg base CX0 k f2 fd2 pNeedSet (spNeedSet P)) : FnOk prog w K mg base CX0 (k + 1) f fd pNeedChoice (spNeedChoice P) := by
  refine F.F.ok scNeedChoice (fun vs H Q E h => ?_) (fun cdv A outer s H vs Q E hr h => ?_)
  · obtain ⟨n, b, xs, SS, x, g, rfl, _⟩ := h
    rfl
  · obtain ⟨n, b, xs, SS, x, g, rfl, h2, h9, hb, hl, hSS, hg, hT, q⟩ := h
    refine ⟨_, pss_cons (ps_expr (pe_call G1 hr (by rfl) F1.g F1.F.kp F1.b .nil pass0 (pa_cons (pv 0) (pa_cons (pv 1) pa_nil))))
      (pss_one (ps_expr (pe_call G2 hr (by rfl) F2.g F2.F.kp F2.b .nil pass0 (pa_cons (pv 0) (pa_cons (pv 2) pa_nil))))), ?_⟩
    exact ⟨_, rfl, _, rfl, n, b, xs, SS, rfl, h2, h9, hb, hl, hSS, hT, fun H1 s1 => ⟨_, rfl, _, rfl, n, x, g, rfl, h9, hg.sm s1, s1.1 hT, fun H2 s2 => q H2 (s1.trans s2)⟩⟩
end
end Pk

/-! spots_of and _law_spots -/
namespace Pk
open PySem PySem.Spec PyProof.Rows L2 GxR
theorem spotsFrom_snoc {n : Int} {w : Int} : ∀ (xs t : List Int), spotsFrom n t (xs ++ [w]) = spotsFrom n t xs ++ [nf n (spotsFrom n t xs) n.toNat w]
  | [], t => rfl
  | x :: xs, t => spotsFrom_snoc xs _
theorem spots_snoc {n : Int} {ws : List Int} {i : Nat} {w : Int} (h : ws[i]? = some w) : spots n (ws.take (i + 1)) = spots n (ws.take i) ++ [nf n (spots n (ws.take i)) n.toNat w] := by
  obtain ⟨hi, e⟩ := List.getElem?_eq_some_iff.mp h
  have q : ws.take (i + 1) = ws.take i ++ [w] := by
    rw [List.take_add_one, h]
    rfl
  rw [q]
  exact spotsFrom_snoc _ _
theorem inV_ints (w : Int) (ts : List Int) : inV (.int w) (ts.map V.int) = decide (w ∈ ts) := by
  unfold inV
  rw [List.any_map]
  induction ts with
  | nil => simp
  | cons x r ih =>
    rw [List.any_cons, ih]
    show (x == w || decide (w ∈ r)) = decide (w ∈ x :: r)
    rw [Bool.eq_iff_iff, Bool.or_eq_true, beq_iff_eq, decide_eq_true_iff, decide_eq_true_iff, List.mem_cons]
    exact ⟨fun h => h.imp (fun e => e.symm) id, fun h => h.imp (fun e => e.symm) id⟩
theorem flat_ints (ts : List Int) : (ts.map V.int).all flatV = true := by
  rw [List.all_map, List.all_eq_true]
  intro x _
  rfl
/-- the dict of the places taken -/
def dkT (ts : List Int) : List (Key × V) := ts.map fun z => (Sum.inl z, V.bl true)
theorem dkT_val (w : Int) (ts : List Int) : (valV (dkT ts) (Sum.inl w)).isSome = decide (w ∈ ts) := by
  rw [← valV_any]
  unfold dkT
  rw [List.any_map]
  induction ts with
  | nil => simp
  | cons x r ih =>
    rw [List.any_cons, ih]
    show (decide ((Sum.inl x : Key) = Sum.inl w) || decide (w ∈ r)) = decide (w ∈ x :: r)
    rw [Bool.eq_iff_iff, Bool.or_eq_true, decide_eq_true_iff, decide_eq_true_iff, decide_eq_true_iff, List.mem_cons]
    exact ⟨fun h => h.imp (fun e => (Sum.inl.inj e).symm) id, fun h => h.imp (fun e => by rw [e]) id⟩
theorem dkT_put {w : Int} {ts : List Int} (h : ¬ w ∈ ts) : putK (dkT ts) (Sum.inl w) (.bl true) = dkT (ts ++ [w]) := by
  have e : valV (dkT ts) (Sum.inl w) = none := by
    have q := dkT_val w ts
    rw [decide_eq_false h] at q
    cases z : valV (dkT ts) (Sum.inl w) with
    | none => rfl
    | some u =>
      rw [z] at q
      cases q
  rw [putK_new _ e]
  unfold dkT
  rw [List.map_append]
  rfl
section
variable {prog : Program} {w : World} {K : PySem.W.Frag} {mg : Str → Option Value} {base : Heap} {P : Addr}
/-- the places that the cars of ws take, a new list -/
def spSpots (K : PySem.W.Frag) (P : Addr) : Sp := fun vs H Q _ => ∃ (n : Int) (a : Addr) (ws : List Int), vs = [.int n, .ref a] ∧ 2 ≤ n ∧ n ≤ 9 ∧ SqL K H a (ws.map V.int) ∧ Pl n ws ∧ ws.length ≤ n.toNat ∧
  ∀ H' p, Sm P H H' → H p = none → H' p = some (.lst ((spots n ws).map V.int)) → Q (.ref p) H'
theorem ok_spots {f : Addr} {fd : FuncData} {k : Nat} (F : Fn K mg "spots_of" sSpots pSpots f fd) : FnOk prog w K mg base CX0 (k + 1) f fd pSpots (spSpots K P) := by
  refine F.F.ok scSpots (fun vs H Q E h => ?_) (fun cdv A outer s H vs Q E hr h => ?_)
  · obtain ⟨n, a, ws, rfl, _⟩ := h
    rfl
  · obtain ⟨n, a, ws, rfl, h2, h9, hS, hp, hl, q⟩ := h
    have hu := hu_of hr
    refine ⟨_, pss_cons (ps_par (i := 2) (j := 3) rfl scSpots.nd rfl rfl (by decide) rfl rfl (pa_cons (pe_lst pa_nil) (pa_cons pe_dnewK pa_nil)) (by rfl))
      (pss_cons (ps_for PassesOwn.never rfl (pi_list (pv 1)) (pg_name (i := 4) scSpots.nd rfl (.inl rfl))
        (pss_cons (ps_while PassesOwn.never (pt_cmp (pc_din hu (pv 4) (pv 3))) (pss_one (ps_set (i := 4) scSpots.nd rfl (.inl rfl) (pe_op op_modN (pe_op op_add (pv 4) pe_int) (pv 0)))))
        (pss_cons (ps_dput hu (pv 3) (pv 4) pe_bl rfl)
        (pss_one (ps_expr (pe_bm PySem.F.plainAttrs_list PySem.F.slot_list_append PySem.F.type_list_append mt_append (pv 2) (pa_cons (pv 4) pa_nil)))))))
      (pss_one (ps_ret (pv 2)))), ?_⟩
    refine ⟨Nat.zero_le _, fun o no d nd => ?_⟩
    have ndo : d ≠ o := fun e => by
      rw [e, upd_same] at nd
      cases nd
    have nd0 : H d = none := by
      rw [upd_ne ndo] at nd
      exact nd
    have s1 : Sm P H (upd H o (.lst [])) := Sm.new no
    have s2 : Sm P H (upd (upd H o (.lst [])) d (.dK [])) := s1.trans (Sm.new nd)
    refine ⟨_, _, rfl, _, rfl, a, rfl, ⟨_, s2.sqL hS⟩, for_it walk_list (fun i σ H' => (∃ y, σ = [some (.int n), some (.ref a), some (.ref o), some (.ref d), y]) ∧ Sm P H H' ∧ H' o = some (.lst ((spots n (ws.take i)).map V.int)) ∧ H' d = some (.dK (dkT (spots n (ws.take i)))))
      ⟨⟨_, rfl⟩, s2, by rw [upd_ne ndo.symm, upd_same]; rfl, upd_same⟩ (fun i σ H' _ hp => hp.2.1.sqL hS) (fun i v σ H1 H2 hi hP y => ?_) (fun σ H' hP => ?_)⟩
    · obtain ⟨⟨y4, rfl⟩, sm, ho, hd⟩ := hP
      obtain ⟨rfl, ev⟩ := y
      rw [List.length_map] at hi
      rw [List.getElem?_map, List.getElem?_eq_getElem hi] at ev
      obtain rfl : V.int ws[i] = v := Option.some.inj ev
      have hz := hp ws[i] (List.getElem_mem hi)
      have hsp := spots_snoc (n := n) (List.getElem?_eq_getElem hi)
      have ok1 := spots_ok (pl_take i hp) (by rw [List.length_take]; omega)
      have hlen : (spots n (ws.take i)).length < n.toNat := by
        rw [ok1.2.2, List.length_take]
        omega
      obtain ⟨fr, hfr, hfn⟩ := free_ex hlen
      generalize ets : spots n (ws.take i) = ts at *
      refine ⟨fun m σ' H' => ∃ w' k, σ' = [some (.int n), some (.ref a), some (.ref o), some (.ref d), some (.int w')] ∧ H' = H2 ∧ (0 ≤ w' ∧ w' < n) ∧ m = dist n fr w' ∧ dist n fr w' ≤ k ∧ nf n ts k w' = nf n ts n.toNat ws[i],
        ⟨_, ws[i], n.toNat, rfl, rfl, hz, rfl, Nat.le_of_lt (dist_lt hfr hz), rfl⟩, fun m σ' H' hW => ?_⟩
      obtain ⟨w', k', rfl, rfl, hw', rfl, hk', e'⟩ := hW
      refine ⟨_, rfl, _, rfl, d, _, rfl, DGet.k (k := Sum.inl w') hd, _, rfl, ?_⟩
      rw [dkT_val]
      by_cases hm : w' ∈ ts
      · rw [decide_eq_true hm]
        have hne : w' ≠ fr := fun e => hfn (e ▸ hm)
        have hst := dist_step hfr hw' hne
        cases k' with
        | zero => omega
        | succ k' =>
          rw [nf_in hm] at e'
          refine iteT ⟨fun σ'' H'' => σ'' = [some (.int n), some (.ref a), some (.ref o), some (.ref d), some (.int ((w' + 1) % n))] ∧ H'' = H', fun σ'' H'' hN => ?_, ?_⟩
          · obtain ⟨rfl, rfl⟩ := hN
            exact ⟨dist n fr ((w' + 1) % n), by omega, _, k', rfl, rfl, step_pl hw', rfl, by omega, e'⟩
          · refine ⟨_, rfl, _, _, rfl, rfl, _, rfl, w' + 1, n, rfl, rfl, by omega, ?_, rfl⟩
            show [some (V.int n), some (V.ref a), some (V.ref o), some (V.ref d), some (V.int ((w' + 1).fmod n))] = _
            rw [Int.fmod_eq_emod_of_nonneg (w' + 1) (show (0 : Int) ≤ n by omega)]
      · rw [decide_eq_false hm]
        rw [nf_out hm] at e'
        have nts : ts.length < 1000 := by omega
        refine iteF ⟨_, rfl, _, rfl, d, _, rfl, DPut.k (k := Sum.inl w') hd ?_, ?_⟩
        · unfold dkT
          rw [List.length_map]
          exact small1000 (by omega)
        · rw [dkT_put hm]
          have nod : o ≠ d := ndo.symm
          have ho2 : upd H' d (.dK (dkT (ts ++ [w']))) o = some (.lst (ts.map V.int)) := by
            rw [upd_ne nod]
            exact ho
          refine ⟨.ref o, rfl, .inl ⟨rfl, _, SqL.of ho2⟩, .int w', rfl, o, _, _, rfl, rfl, ho2, ?_, ?_⟩
          · rw [List.length_map]
            exact small1000 (by omega)
          · refine ⟨⟨_, rfl⟩, ?_, ?_, ?_⟩
            · refine Sm.put no (Sm.put nd0 sm (fun q z => ?_)) (fun q z => ?_)
              · rw [hd] at z
                cases z
              · rw [ho2] at z
                cases z
            · rw [upd_same, hsp, ← e', List.map_append]
              rfl
            · rw [upd_ne ndo, upd_same, hsp, ← e']
    · obtain ⟨⟨y4, rfl⟩, sm, ho, hd⟩ := hP
      rw [List.length_map, List.take_length] at ho
      exact ⟨_, rfl, q H' o sm no ho⟩
theorem ok_lspots {f : Addr} {fd : FuncData} {k : Nat} (F : Fn K mg "_law_spots" sLSpots pLSpots f fd) : FnOk prog w K mg base CX0 (k + 1) f fd pLSpots (spSpots K P) := by
  refine F.F.ok scLSpots (fun vs H Q E h => ?_) (fun cdv A outer s H vs Q E hr h => ?_)
  · obtain ⟨n, a, ws, rfl, _⟩ := h
    rfl
  · obtain ⟨n, a, ws, rfl, h2, h9, hS, hp, hl, q⟩ := h
    refine ⟨_, pss_cons (ps_set (i := 2) scLSpots.nd rfl (.inl rfl) (pe_lst pa_nil))
      (pss_cons (ps_for PassesOwn.never rfl (pi_list (pv 1)) (pg_name (i := 3) scLSpots.nd rfl (.inl rfl))
        (pss_cons (ps_while PassesOwn.never (pt_cmpR op_in_seq (pv 3) (pv 2) (by rfl)) (pss_one (ps_set (i := 3) scLSpots.nd rfl (.inl rfl)
          (pe_ifExp (pt_cmpR op_lt (pe_op op_add (pv 3) pe_int) (pv 0) (nomark _)) (pe_op op_add (pv 3) pe_int) pe_int))))
        (pss_one (ps_expr (pe_bm PySem.F.plainAttrs_list PySem.F.slot_list_append PySem.F.type_list_append mt_append (pv 2) (pa_cons (pv 3) pa_nil))))))
      (pss_one (ps_ret (pv 2)))), ?_⟩
    refine ⟨Nat.zero_le _, fun o no => ?_⟩
    have s1 : Sm P H (upd H o (.lst [])) := Sm.new no
    refine ⟨_, rfl, a, rfl, ⟨_, s1.sqL hS⟩, for_it walk_list (fun i σ H' => (∃ y, σ = [some (.int n), some (.ref a), some (.ref o), y]) ∧ Sm P H H' ∧ H' o = some (.lst ((spots n (ws.take i)).map V.int)))
      ⟨⟨_, rfl⟩, s1, by rw [upd_same]; rfl⟩ (fun i σ H' _ hp => hp.2.1.sqL hS) (fun i v σ H1 H2 hi hP y => ?_) (fun σ H' hP => ?_)⟩
    · obtain ⟨⟨y4, rfl⟩, sm, ho⟩ := hP
      obtain ⟨rfl, ev⟩ := y
      rw [List.length_map] at hi
      rw [List.getElem?_map, List.getElem?_eq_getElem hi] at ev
      obtain rfl : V.int ws[i] = v := Option.some.inj ev
      have hz := hp ws[i] (List.getElem_mem hi)
      have hsp := spots_snoc (n := n) (List.getElem?_eq_getElem hi)
      have ok1 := spots_ok (pl_take i hp) (by rw [List.length_take]; omega)
      have hlen : (spots n (ws.take i)).length < n.toNat := by
        rw [ok1.2.2, List.length_take]
        omega
      obtain ⟨fr, hfr, hfn⟩ := free_ex hlen
      generalize ets : spots n (ws.take i) = ts at *
      refine ⟨fun m σ' H' => ∃ w' k, σ' = [some (.int n), some (.ref a), some (.ref o), some (.int w')] ∧ H' = H2 ∧ (0 ≤ w' ∧ w' < n) ∧ m = dist n fr w' ∧ dist n fr w' ≤ k ∧ nf n ts k w' = nf n ts n.toNat ws[i],
        ⟨_, ws[i], n.toNat, rfl, rfl, hz, rfl, Nat.le_of_lt (dist_lt hfr hz), rfl⟩, fun m σ' H' hW => ?_⟩
      obtain ⟨w', k', rfl, rfl, hw', rfl, hk', e'⟩ := hW
      refine ⟨_, rfl, _, rfl, o, _, rfl, .inl (SqL.of ho), rfl, flat_ints ts, _, rfl, ?_⟩
      show if inV (.int w') (ts.map V.int) = true then _ else _
      rw [inV_ints]
      by_cases hm : w' ∈ ts
      · rw [decide_eq_true hm]
        have hne : w' ≠ fr := fun e => hfn (e ▸ hm)
        have hst := dist_step hfr hw' hne
        cases k' with
        | zero => omega
        | succ k' =>
          rw [nf_in hm] at e'
          refine iteT ⟨fun σ'' H'' => σ'' = [some (.int n), some (.ref a), some (.ref o), some (.int ((w' + 1) % n))] ∧ H'' = H', fun σ'' H'' hN => ?_, ?_⟩
          · obtain ⟨rfl, rfl⟩ := hN
            exact ⟨dist n fr ((w' + 1) % n), by omega, _, k', rfl, rfl, step_pl hw', rfl, by omega, e'⟩
          · refine ⟨_, rfl, _, _, rfl, rfl, _, rfl, w' + 1, n, rfl, rfl, _, rfl, ?_⟩
            rw [step_mod hw']
            by_cases c : w' + 1 < n
            · rw [decide_eq_true c, if_pos c]
              exact iteT ⟨_, rfl, _, _, rfl, rfl, rfl, rfl⟩
            · rw [decide_eq_false c, if_neg c]
              exact iteF ⟨rfl, rfl⟩
      · rw [decide_eq_false hm]
        rw [nf_out hm] at e'
        refine iteF ⟨.ref o, rfl, .inl ⟨rfl, _, SqL.of ho⟩, .int w', rfl, o, _, _, rfl, rfl, ho, ?_, ?_⟩
        · rw [List.length_map]
          exact small1000 (by omega)
        · refine ⟨⟨_, rfl⟩, Sm.put no sm (fun q z => ?_), ?_⟩
          · rw [ho] at z
            cases z
          · rw [upd_same, hsp, ← e', List.map_append]
            rfl
    · obtain ⟨⟨y4, rfl⟩, sm, ho⟩ := hP
      rw [List.length_map, List.take_length] at ho
      exact ⟨_, rfl, q H' o sm no ho⟩
end
end Pk

/-! everything, added, _law_sum, whole_sum -/
namespace Pk
open PySem PySem.Spec PyProof.Rows L2 GxR
/-- x holds the tuple ns -/
def TupV (H : Hp) (x : V) (ns : List Int) : Prop := ∃ a, x = .ref a ∧ H a = some (.tup (ns.map V.int))
theorem TupV.sm {P : Addr} {H H' : Hp} {x : V} {ns : List Int} (h : TupV H x ns) (s : Sm P H H') : TupV H' x ns := by
  obtain ⟨a, e, t⟩ := h
  exact ⟨a, e, s.2 a _ t (fun q z => nomatch z)⟩
theorem SetV.tup {H : Hp} {n : Int} {x : V} {ns : List Int} (h : SetV H n x ns) : TupV H x ns := by
  obtain ⟨a, e, t, _⟩ := h
  exact ⟨a, e, t⟩
theorem TupV.set {H : Hp} {n : Int} {x : V} {ns : List Int} (h : TupV H x ns) (i : IsS n ns) : SetV H n x ns := by
  obtain ⟨a, e, t⟩ := h
  exact ⟨a, e, t, i⟩
theorem TupV.dp {K : PySem.W.Frag} {H : Hp} {x : V} {ns : List Int} (h : TupV H x ns) : Dp K H x (ti ns) := by
  obtain ⟨a, e, t⟩ := h
  subst e
  exact dp_ti (.inl (.inl t))
/-- x is read as the set ns -/
def SetD (K : PySem.W.Frag) (H : Hp) (n : Int) (x : V) (ns : List Int) : Prop := Dp K H x (ti ns) ∧ IsS n ns
theorem SetV.d {K : PySem.W.Frag} {H : Hp} {n : Int} {x : V} {ns : List Int} (h : SetV H n x ns) : SetD K H n x ns := ⟨h.tup.dp, by obtain ⟨_, _, _, i⟩ := h; exact i⟩
theorem SetD.tk {K : PySem.W.Frag} {H H' : Hp} {n : Int} {x : V} {ns : List Int} (h : SetD K H n x ns) (t : TK K H H') : SetD K H' n x ns := ⟨dp_keep t _ _ (noL_ti ns) h.1, h.2⟩
/-- xs are read as the sets SS -/
def SetsD (K : PySem.W.Frag) (H : Hp) (n : Int) (xs : List V) (SS : List (List Int)) : Prop := xs.length = SS.length ∧ ∀ (i : Nat) (x : V), xs[i]? = some x → ∃ ns, SS[i]? = some ns ∧ SetD K H n x ns
theorem SetsV.d {K : PySem.W.Frag} {H : Hp} {n : Int} {xs : List V} {SS : List (List Int)} (h : SetsV H n xs SS) : SetsD K H n xs SS := ⟨h.1, fun i x e => by
  obtain ⟨ns, e1, v⟩ := h.2 i x e
  exact ⟨ns, e1, v.d⟩⟩
theorem SetsD.tk {K : PySem.W.Frag} {H H' : Hp} {n : Int} {xs : List V} {SS : List (List Int)} (h : SetsD K H n xs SS) (t : TK K H H') : SetsD K H' n xs SS := ⟨h.1, fun i x e => by
  obtain ⟨ns, e1, v⟩ := h.2 i x e
  exact ⟨ns, e1, v.tk t⟩⟩
theorem rgV_ran (n : Int) : rgV 0 n = (ran n).map V.int := by
  unfold rgV ran
  rw [List.map_map]
  have e : (n - 0).toNat = n.toNat := by rw [Int.sub_zero]
  rw [e]
  refine List.map_congr_left fun i _ => ?_
  show V.int (0 + (i : Int)) = V.int (i : Int)
  rw [Int.zero_add]
theorem cut_take (xs : List V) (n : Int) (h : 0 ≤ n) : cutV xs none (some n) = xs.take n.toNat := by
  have e : n = ((n.toNat : Nat) : Int) := by omega
  unfold cutV
  rw [HT.sIx_none]
  conv => lhs; rw [e]
  rw [HT.sIx_nat, List.drop_zero, Nat.sub_zero]
  rw [← List.take_take, List.take_of_length_le (Nat.le_refl xs.length)]
/-- the sum of sets -/
def wsum (n : Int) (SS : List (List Int)) : List Int := SS.foldl (add n) []
section
variable {prog : Program} {w : World} {K : PySem.W.Frag} {mg : Str → Option Value} {base : Heap} {P : Addr}
def spEvery (P : Addr) : Sp := fun vs H Q _ => ∃ n : Int, vs = [.int n] ∧ 2 ≤ n ∧ n ≤ 9 ∧ ∀ H' p, Sm P H H' → H' p = some (.tup ((ran n).map V.int)) → Q (.ref p) H'
theorem ok_every {f : Addr} {fd : FuncData} {k : Nat} (F : Fn K mg "everything" sEvery pEvery f fd) (B : Bl mg) : FnOk prog w K mg base CX0 (k + 1) f fd pEvery (spEvery P) := by
  refine F.F.ok scEvery (fun vs H Q E h => ?_) (fun cdv A outer s H vs Q E hr h => ?_)
  · obtain ⟨n, rfl, _⟩ := h
    rfl
  · obtain ⟨n, rfl, h2, h9, q⟩ := h
    refine ⟨_, pss_one (ps_ret (pe_tupRg rfl (by rfl) B.tuple (prg_1 (by rfl) B.range (pv 0)))), ?_⟩
    refine ⟨_, rfl, n, rfl, RgOk.of_le (by omega) (by omega) (by omega) (by omega), fun p np => q _ p (Sm.new np) ?_⟩
    rw [upd_same, rgV_ran]
/-- added, _law_sum: the sum of two sets -/
def spAdd (K : PySem.W.Frag) (P : Addr) : Sp := fun vs H Q _ => ∃ (n : Int) (x y : V) (a b : List Int), vs = [.int n, x, y] ∧ 2 ≤ n ∧ n ≤ 9 ∧ SetD K H n x a ∧ SetD K H n y b ∧ ∀ H' p, Sm P H H' → H' p = some (.tup ((add n a b).map V.int)) → Q (.ref p) H'
theorem ok_added {f f1 f2 : Addr} {fd fd1 fd2 : FuncData} {k : Nat} (F : Fn K mg "added" sAdded pAdded f fd) (F1 : Fn K mg "everything" sEvery pEvery f1 fd1) (F2 : Fn K mg "spots_of" sSpots pSpots f2 fd2) (B : Bl mg) :
    FnOk prog w K mg base CX0 (k + 2) f fd pAdded (spAdd K P) := by
  have G1 : FnOk prog w K mg base CX0 (k + 1) f1 fd1 pEvery (spEvery P) := ok_every F1 B
  have G2 : FnOk prog w K mg base CX0 (k + 1) f2 fd2 pSpots (spSpots K P) := ok_spots F2
  refine F.F.ok scAdded (fun vs H Q E h => ?_) (fun cdv A outer s H vs Q E hr h => ?_)
  · obtain ⟨n, x, y, a, b, rfl, _⟩ := h
    rfl
  · obtain ⟨n, x, y, a, b, rfl, h2, h9, ⟨hx, ix⟩, ⟨hy, iy⟩, q⟩ := h
    obtain ⟨ax, rfl, qx⟩ := ti_dp hx
    obtain ⟨ay, rfl, qy⟩ := ti_dp hy
    have la := isS_len ix
    have lb := isS_len iy
    refine ⟨_, pss_cons (ps_if (pt_cmpR op_ge (pe_op op_add (pe_callB call_len_seq (by rfl) B.len PySem.boot_len (pa_cons (pv 1) pa_nil)) (pe_callB call_len_seq (by rfl) B.len PySem.boot_len (pa_cons (pv 2) pa_nil))) (pv 0) (nomark _))
        (pss_one (ps_ret (pe_call G1 hr (by rfl) F1.g F1.F.kp F1.b .nil pass0 (pa_cons (pv 0) pa_nil)))) pss_nil)
      (pss_one (ps_ret (pe_callTy call_tuple_of (by rfl) B.tuple boot_tuple (pa_cons (pe_callB cr_sortedI (by rfl) B.sorted boot_sorted (pa_cons
        (pe_call G2 hr (by rfl) F2.g F2.F.kp F2.b .nil pass0 (pa_cons (pv 0) (pa_cons (pe_lst (StX.pa_star (pv 1) (StX.pa_star (pv 2) pa_nil))) pa_nil))) pa_nil)) pa_nil)))), ?_⟩
    refine ⟨_, rfl, ax, _, rfl, .inr qx, _, rfl, ay, _, rfl, .inr qy, _, _, rfl, rfl, _, rfl, _, _, rfl, rfl, _, rfl, ?_⟩
    by_cases c : n ≤ ((a.map V.int).length : Int) + ((b.map V.int).length : Int)
    · rw [decide_eq_true c]
      rw [List.length_map, List.length_map] at c
      refine iteT ⟨_, rfl, n, rfl, h2, h9, fun H' p sm hp => q H' p sm ?_⟩
      rw [hp, add_long ix.1 iy.1 (by omega)]
    · rw [decide_eq_false c]
      rw [List.length_map, List.length_map] at c
      refine iteF ⟨_, rfl, _, rfl, ax, _, rfl, .inl qx, _, rfl, ay, _, rfl, .inl qy, ?_, fun l nl => ?_⟩
      · rw [List.append_nil, List.length_append, List.length_map, List.length_map]
        exact Nat.le_of_lt (small1000 (by omega))
      · have e : a.map V.int ++ (b.map V.int ++ []) = (a ++ b).map V.int := by rw [List.append_nil, List.map_append]
        have hp := pl_app ix.1 iy.1
        have hlen : (a ++ b).length ≤ n.toNat := by rw [List.length_append]; omega
        rw [e]
        refine ⟨n, l, a ++ b, rfl, h2, h9, SqL.of upd_same, hp, hlen, fun H1 o s1 no ho => ?_⟩
        have s0 : Sm P H (upd H l (.lst ((a ++ b).map V.int))) := Sm.new nl
        refine ⟨o, _, rfl, SqL.of ho, fun ns' r pm pw nr => ?_⟩
        refine ⟨r, _, rfl, .inl ⟨SqL.of upd_same, fun p np => ?_⟩⟩
        have er : ns' = srt (spots n (a ++ b)) := srt_uniq pm pw
        refine q _ p (((s0.trans s1).trans (Sm.new nr)).trans (Sm.new np)) ?_
        rw [upd_same, er, add_short (by omega)]
theorem ok_lsum {f f2 : Addr} {fd fd2 : FuncData} {k : Nat} (F : Fn K mg "_law_sum" sLSum pLSum f fd) (F2 : Fn K mg "_law_spots" sLSpots pLSpots f2 fd2) (B : Bl mg) :
    FnOk prog w K mg base CX0 (k + 2) f fd pLSum (spAdd K P) := by
  have G2 : FnOk prog w K mg base CX0 (k + 1) f2 fd2 pLSpots (spSpots K P) := ok_lspots F2
  refine F.F.ok scLSum (fun vs H Q E h => ?_) (fun cdv A outer s H vs Q E hr h => ?_)
  · obtain ⟨n, x, y, a, b, rfl, _⟩ := h
    rfl
  · obtain ⟨n, x, y, a, b, rfl, h2, h9, ⟨hx, ix⟩, ⟨hy, iy⟩, q⟩ := h
    obtain ⟨ax, rfl, qx⟩ := ti_dp hx
    obtain ⟨ay, rfl, qy⟩ := ti_dp hy
    have la := isS_len ix
    have lb := isS_len iy
    refine ⟨_, pss_cons (ps_set (i := 3) scLSum.nd rfl (.inl rfl) (pe_slice sl_list (pe_op op_cat (pe_callTy call_list_of (by rfl) B.list boot_list (pa_cons (pv 1) pa_nil)) (pe_callTy call_list_of (by rfl) B.list boot_list (pa_cons (pv 2) pa_nil))) po_none (po_some (pv 0))))
      (pss_one (ps_ret (pe_callTy call_tuple_of (by rfl) B.tuple boot_tuple (pa_cons (pe_callB cr_sortedI (by rfl) B.sorted boot_sorted (pa_cons
        (pe_call G2 hr (by rfl) F2.g F2.F.kp F2.b .nil pass0 (pa_cons (pv 0) (pa_cons (pv 3) pa_nil))) pa_nil)) pa_nil)))), ?_⟩
    refine ⟨_, rfl, ax, _, rfl, .inr qx, fun l1 n1 => ?_⟩
    have s1 : Sm P H (upd H l1 (.lst (a.map V.int))) := Sm.new n1
    refine ⟨_, rfl, ay, _, rfl, .inr (s1.tk _ _ qy), fun l2 n2 => ?_⟩
    have s2 := s1.trans (Sm.new (o := .lst (b.map V.int)) n2)
    have n12 : l1 ≠ l2 := fun e => by
      rw [← e, upd_same] at n2
      cases n2
    refine ⟨l1, l2, _, _, rfl, rfl, by rw [upd_ne n12, upd_same], upd_same, ?_, fun l3 n3 => ?_⟩
    · rw [List.length_map, List.length_map]
      exact Nat.le_of_lt (small1000 (by omega))
    · have s3 := s2.trans (Sm.new (o := .lst (a.map V.int ++ b.map V.int)) n3)
      refine ⟨_, rfl, n, rfl, l3, _, rfl, SqL.of upd_same, fun l4 n4 => ?_⟩
      have s4 := s3.trans (Sm.new (o := .lst (cutV (a.map V.int ++ b.map V.int) none (some n))) n4)
      have e : cutV (a.map V.int ++ b.map V.int) none (some n) = ((a ++ b).take n.toNat).map V.int := by
        rw [cut_take _ _ (by omega), ← List.map_append, List.map_take]
      refine ⟨_, rfl, _, rfl, n, l4, (a ++ b).take n.toNat, rfl, h2, h9, ?_, pl_take _ (pl_app ix.1 iy.1), by rw [List.length_take]; omega, fun H5 o s5 no ho => ?_⟩
      · rw [← e]
        exact SqL.of upd_same
      · refine ⟨o, _, rfl, SqL.of ho, fun ns' r pm pw nr => ?_⟩
        refine ⟨r, _, rfl, .inl ⟨SqL.of upd_same, fun p np => ?_⟩⟩
        have er : ns' = add n a b := srt_uniq pm pw
        refine q _ p (((s4.trans s5).trans (Sm.new nr)).trans (Sm.new np)) ?_
        rw [upd_same, er]
def spWhole (K : PySem.W.Frag) (P : Addr) : Sp := fun vs H Q _ => ∃ (n : Int) (b : Addr) (xs : List V) (SS : List (List Int)), vs = [.int n, .ref b] ∧ 2 ≤ n ∧ n ≤ 9 ∧ SqL K H b xs ∧ SetsD K H n xs SS ∧ ∀ H' p, Sm P H H' → H' p = some (.tup ((wsum n SS).map V.int)) → IsS n (wsum n SS) → Q (.ref p) H'
theorem wsum_snoc {n : Int} {SS : List (List Int)} {i : Nat} {z : List Int} (h : SS[i]? = some z) : wsum n (SS.take (i + 1)) = add n (wsum n (SS.take i)) z := by
  unfold wsum
  rw [List.take_add_one, h, List.foldl_append]
  rfl
theorem ok_whole {f f2 : Addr} {fd fd2 : FuncData} {k : Nat} (F : Fn K mg "whole_sum" sWhole pWhole f fd) (F2 : Fn K mg "added" sAdded pAdded f2 fd2) (G2 : FnOk prog w K mg base CX0 k f2 fd2 pAdded (spAdd K P)) :
    FnOk prog w K mg base CX0 (k + 1) f fd pWhole (spWhole K P) := by
  refine F.F.ok scWhole (fun vs H Q E h => ?_) (fun cdv A outer s H vs Q E hr h => ?_)
  · obtain ⟨n, b, xs, SS, rfl, _⟩ := h
    rfl
  · obtain ⟨n, b, xs, SS, rfl, h2, h9, hb, hSS, q⟩ := h
    refine ⟨_, pss_cons (ps_set (i := 2) scWhole.nd rfl (.inl rfl) (pe_tup pa_nil))
      (pss_cons (ps_for PassesOwn.never rfl (pi_list (pv 1)) (pg_name (i := 3) scWhole.nd rfl (.inl rfl))
        (pss_one (ps_set (i := 2) scWhole.nd rfl (.inl rfl) (pe_call G2 hr (by rfl) F2.g F2.F.kp F2.b .nil pass0 (pa_cons (pv 0) (pa_cons (pv 2) (pa_cons (pv 3) pa_nil)))))))
      (pss_one (ps_ret (pv 2)))), ?_⟩
    refine ⟨Nat.zero_le _, fun o no => ?_⟩
    have s1 : Sm P H (upd H o (.tup [])) := Sm.new no
    refine ⟨_, rfl, b, rfl, ⟨_, s1.sqL hb⟩, for_it walk_list (fun i σ H' => (∃ p y, σ = [some (.int n), some (.ref b), some (.ref p), y] ∧ H' p = some (.tup ((wsum n (SS.take i)).map V.int))) ∧ Sm P H H' ∧ IsS n (wsum n (SS.take i)))
      ⟨⟨o, _, rfl, by rw [upd_same]; rfl⟩, s1, isS_nil n⟩ (fun i σ H' _ hp => hp.2.1.sqL hb) (fun i v σ H1 H2 hi hP y => ?_) (fun σ H' hP => ?_)⟩
    · obtain ⟨⟨p, y3, rfl, hp⟩, sm, ii⟩ := hP
      obtain ⟨rfl, ev⟩ := y
      obtain ⟨ns, e1, v1⟩ := hSS.2 i v ev
      refine ⟨_, rfl, _, rfl, _, rfl, n, .ref p, v, _, ns, rfl, h2, h9, ⟨dp_ti (.inl (.inl hp)), ii⟩, v1.tk sm.tk, fun H' r s' hr' => ?_⟩
      have e := wsum_snoc (n := n) e1
      rw [e]
      exact ⟨⟨r, _, rfl, hr'⟩, sm.trans s', add_isS ii.1 v1.2.1⟩
    · obtain ⟨⟨p, y3, rfl, hp⟩, sm, ii⟩ := hP
      rw [hSS.1, List.take_length] at hp ii
      exact ⟨_, rfl, q H' p sm hp ii⟩
end
end Pk

/-! choices -/
namespace Pk
open PySem PySem.Spec PyProof.Rows L2 GxR
open PySem.W (Datum DatumOrd Tup T3)
/-! ### the mirror -/
abbrev Ch := List Int × List Int
def chStep (n : Int) (F : List Ch) (i : Nat) (one : List Int) : List Ch := F ++ F.map fun p => (p.1 ++ [(i : Int)], add n p.2 one)
def chsTo (n : Int) (SS : List (List Int)) : Nat → List Ch
  | 0 => [([], [])]
  | i + 1 => chStep n (chsTo n SS i) i (SS[i]?.getD [])
def chs (n : Int) (SS : List (List Int)) : List Ch := chsTo n SS SS.length
theorem chsTo_len (n : Int) (SS : List (List Int)) : ∀ i, (chsTo n SS i).length = 2 ^ i
  | 0 => rfl
  | i + 1 => by
    show (chStep n (chsTo n SS i) i _).length = _
    unfold chStep
    rw [List.length_append, List.length_map, chsTo_len n SS i, Nat.pow_succ]
    omega
theorem chsTo_isS {n : Int} {SS : List (List Int)} (h : ∀ s ∈ SS, IsS n s) : ∀ i, ∀ p ∈ chsTo n SS i, IsS n p.2
  | 0, p, hp => by
    have e : p = ([], []) := by simpa [chsTo] using hp
    rw [e]
    exact isS_nil n
  | i + 1, p, hp => by
    have ih := chsTo_isS h i
    rcases List.mem_append.mp (show p ∈ chsTo n SS i ++ _ from hp) with q | q
    · exact ih p q
    · obtain ⟨r, hr, rfl⟩ := List.mem_map.mp q
      refine add_isS (ih r hr).1 ?_
      cases e : SS[i]? with
      | none => exact (isS_nil n).1
      | some s => exact (h s (List.mem_of_getElem? e)).1
theorem chsTo_w (n : Int) (SS : List (List Int)) : ∀ i, ∀ p ∈ chsTo n SS i, p.1.length ≤ i
  | 0, p, hp => by
    have e : p = ([], []) := by simpa [chsTo] using hp
    rw [e]
    exact Nat.le_refl _
  | i + 1, p, hp => by
    have ih := chsTo_w n SS i
    rcases List.mem_append.mp (show p ∈ chsTo n SS i ++ _ from hp) with q | q
    · exact Nat.le_succ_of_le (ih p q)
    · obtain ⟨r, hr, rfl⟩ := List.mem_map.mp q
      show (r.1 ++ [(i : Int)]).length ≤ i + 1
      rw [List.length_append]
      exact Nat.succ_le_succ (ih r hr)
/-- len of a list or tuple -/
def rLenS (K : PySem.W.Frag) : List V → Hp → VK → Prop := fun xs H Q => ∃ p ys, xs = [V.ref p] ∧ (SqL K H p ys ∨ SqT K H p ys) ∧ Q (.int ys.length) H
/-- (how many, which, sum) -/
abbrev t3 (p : Ch) : PyData := .tuple [.int (p.1.length : Int), ti p.1, ti p.2]
def tri (p : Ch) : T3 Int (Tup Int) (Tup Int) := ⟨(p.1.length : Int), ⟨p.1⟩, ⟨p.2⟩⟩
theorem t3_eq (p : Ch) : t3 p = Datum.toD (tri p) := rfl
def srtC (n : Int) (SS : List (List Int)) : List Ch := (chs n SS).mergeSort (PySem.W.dataLe false t3)
theorem noL_t3 (p : Ch) : noL (t3 p) = true := by
  show noL (.tuple _) = true
  simp only [noL, noLAll, Bool.and_true, Bool.true_and]
  exact Bool.and_eq_true_iff.mpr ⟨noL_ints p.1, noL_ints p.2⟩
section
variable {K : PySem.W.Frag} {H : Hp}
theorem t3_dp {v : V} {p : Ch} (h : Dp K H v (t3 p)) : ∃ a x y, v = .ref a ∧ SqT K H a [.int (p.1.length : Int), x, y] ∧ Dp K H x (ti p.1) ∧ Dp K H y (ti p.2) := by
  cases h with
  | tup h1 h2 =>
    cases h2 with
    | cons d1 d2 =>
      cases d1
      cases d2 with
      | cons d3 d4 =>
        cases d4 with
        | cons d5 d6 =>
          cases d6
          exact ⟨_, _, _, rfl, h1, d3, d5⟩
end
section
variable {prog : Program} {w : World} {K : PySem.W.Frag} {mg : Str → Option Value} {base : Heap} {P : Addr}
def spChoices (K : PySem.W.Frag) (P : Addr) : Sp := fun vs H Q _ => ∃ (n : Int) (b : Addr) (xs : List V) (SS : List (List Int)), vs = [.int n, .ref b] ∧ 2 ≤ n ∧ n ≤ 9 ∧ SqT K H b xs ∧ SetsD K H n xs SS ∧ SS.length ≤ 6 ∧
  ∀ H' p ys, Sm P H H' → H' p = some (.lst ys) → DpAll K H' ys ((srtC n SS).map tp) → Q (.ref p) H'
theorem ok_choices {f f2 : Addr} {fd fd2 : FuncData} {k : Nat} (F : Fn K mg "choices" sChoices pChoices f fd) (F2 : Fn K mg "added" sAdded pAdded f2 fd2) (G2 : FnOk prog w K mg base CX0 k f2 fd2 pAdded (spAdd K P)) (B : Bl mg) :
    FnOk prog w K mg base CX0 (k + 1) f fd pChoices (spChoices K P) := by
  refine F.F.ok scChoices (fun vs H Q E h => ?_) (fun cdv A outer s H vs Q E hr h => ?_)
  · obtain ⟨n, b, xs, SS, rfl, _⟩ := h
    rfl
  · obtain ⟨n, b, xs, SS, rfl, h2, h9, hb, hSS, h6, q⟩ := h
    have nd := scChoices.nd
    refine ⟨_, pss_cons (ps_set (i := 2) nd rfl (.inl rfl) (pe_lst (pa_cons (pe_tup (pa_cons (pe_tup pa_nil) (pa_cons (pe_tup pa_nil) pa_nil))) pa_nil)))
      (pss_cons (ps_for PassesOwn.never rfl (pi_enT (by rfl) B.enumerate (pa_cons (pv 1) pa_nil)) (pg_tup rfl (pgs_cons (pg_name (i := 3) nd rfl (.inr rfl)) (pgs_cons (pg_name (i := 4) nd rfl (.inr rfl)) pgs_nil)))
        (pss_one (ps_set (i := 2) nd rfl (.inl rfl) (pe_op op_cat (pv 2)
          (pe_lc (own := [("some", 5), ("total", 6)]) (g := gTup K 2 (gCons (gName 5) (gCons (gName 6) gNil))) (tt := tYes) (te := tTup (tCons (tTup (StX.tStar K (tVar 5) (tCons (tVar 3) tNil))) (tCons (tCall (spAdd K P) [] E0 (tCons (tVar 0) (tCons (tVar 6) (tCons (tVar 4) tNil)))) tNil))) rfl nd (pi_list (pv 2)) (blkOk_by (N := nChoices) (sc := defScope sChoices) (by decide +kernel))
            (fun _ _ _ _ _ => pg_tup rfl (pgs_cons (pg_name (i := 5) nd rfl (.inl rfl)) (pgs_cons (pg_name (i := 6) nd rfl (.inl rfl)) pgs_nil))) (fun _ _ _ _ _ => pts_nil)
            (fun _ _ _ _ _ => by exact (pe_tup (pa_cons (pe_tup (StX.pa_star (pv 5) (pa_cons (pv 3) pa_nil))) (pa_cons (pe_call G2 hr (by rfl) F2.g F2.F.kp F2.b .nil pass0 (pa_cons (pv 0) (pa_cons (pv 6) (pa_cons (pv 4) pa_nil)))) pa_nil)))))))))
      (pss_one (ps_ret (pe_lc (own := [("many", 7), ("some", 5), ("total", 6)]) (g := gTup K 3 (gCons (gName 7) (gCons (gName 5) (gCons (gName 6) gNil)))) (tt := tYes) rfl nd
          (pi_list (pe_callB (cr_sortD (enc := t3) (fun p p' => DatumOrd.alike (tri p) (tri p')) (fun p => ⟨_, _, rfl⟩) (fun p => Nat.le_trans (Datum.depth_le (tri p)) (by decide)) hr.units) (by rfl) B.sorted boot_sorted
            (pa_cons (pe_lc (own := [("some", 5), ("total", 6)]) (g := gTup K 2 (gCons (gName 5) (gCons (gName 6) gNil))) (tt := tYes) (te := tTup (tCons (tCB (rLenS K) (tCons (tVar 5) tNil)) (tCons (tVar 5) (tCons (tVar 6) tNil)))) rfl nd (pi_list (pv 2)) (blkOk_by (N := nChoices) (sc := defScope sChoices) (by decide +kernel))
              (fun _ _ _ _ _ => pg_tup rfl (pgs_cons (pg_name (i := 5) nd rfl (.inl rfl)) (pgs_cons (pg_name (i := 6) nd rfl (.inl rfl)) pgs_nil))) (fun _ _ _ _ _ => pts_nil)
              (fun _ _ _ _ _ => by exact (pe_tup (pa_cons (pe_callB call_len_seq (by rfl) B.len PySem.boot_len (pa_cons (pv 5) pa_nil)) (pa_cons (pv 5) (pa_cons (pv 6) pa_nil)))))) pa_nil)))
          (blkOk_by (N := nChoices) (sc := defScope sChoices) (by decide +kernel))
          (fun _ _ _ _ _ => pg_tup rfl (pgs_cons (pg_name (i := 7) nd rfl (.inl rfl)) (pgs_cons (pg_name (i := 5) nd rfl (.inl rfl)) (pgs_cons (pg_name (i := 6) nd rfl (.inl rfl)) pgs_nil)))) (fun _ _ _ _ _ => pts_nil)
          (fun _ _ _ _ _ => by exact (pe_tup (pa_cons (pv 5) (pa_cons (pv 6) pa_nil)))))))), ?_⟩
    have hIs : ∀ s ∈ SS, IsS n s := fun s hs => by
      obtain ⟨i, hi, e⟩ := List.getElem_of_mem hs
      obtain ⟨ns, e1, d⟩ := hSS.2 i (xs[i]'(by rw [hSS.1]; exact hi)) (List.getElem?_eq_getElem _)
      rw [List.getElem?_eq_getElem hi, e] at e1
      cases e1
      exact d.2
    refine ⟨Nat.zero_le _, fun p1 n1 => ⟨Nat.zero_le _, fun p2 n2 => ⟨by show 2 ≤ sizeLine; decide, fun p3 n3 => ⟨by show 1 ≤ sizeLine; decide, fun o no => ?_⟩⟩⟩⟩
    have s1 : Sm P H (upd H p1 (.tup [])) := Sm.new n1
    have s2 := s1.trans (Sm.new (o := .tup []) n2)
    have s3 := s2.trans (Sm.new (o := .tup [.ref p1, .ref p2]) n3)
    have s4 := s3.trans (Sm.new (o := .lst [.ref p3]) no)
    refine ⟨_, rfl, b, xs, rfl, s4.tk _ _ hb, for_it walk_enT (fun i σ H' => (∃ l ys y3 y4, σ = [some (.int n), some (.ref b), some (.ref l), y3, y4, none, none, none] ∧ H' l = some (.lst ys) ∧ DpAll K H' ys ((chsTo n SS i).map tp)) ∧ Sm P H H')
      ⟨⟨o, _, none, none, rfl, upd_same, ?_⟩, s4⟩ (fun i σ H' _ hp => hp.2.tk _ _ hb) (fun i v σ H1 H2 hi hP y => ?_) (fun σ H' hP => ?_)⟩
    · refine .cons (dp_tp (p := ([], [])) (x := .ref p1) (y := .ref p2) (.inl (.inl ?_)) (dp_ti (.inl (.inl ?_))) (dp_ti (.inl (.inl ?_)))) .nil
      · rw [upd_ne (ne_of_none upd_same no), upd_same]
      · have e1 : upd H p1 (.tup []) p1 = some (.tup []) := upd_same
        have e2 : upd (upd H p1 (.tup [])) p2 (.tup []) p1 = some (.tup []) := by
          rw [upd_ne (ne_of_none e1 n2)]
          exact e1
        have e3 : upd (upd (upd H p1 (.tup [])) p2 (.tup [])) p3 (.tup [.ref p1, .ref p2]) p1 = some (.tup []) := by
          rw [upd_ne (ne_of_none e2 n3)]
          exact e2
        rw [upd_ne (ne_of_none e3 no)]
        exact e3
      · have e2 : upd (upd H p1 (.tup [])) p2 (.tup []) p2 = some (.tup []) := upd_same
        have e3 : upd (upd (upd H p1 (.tup [])) p2 (.tup [])) p3 (.tup [.ref p1, .ref p2]) p2 = some (.tup []) := by
          rw [upd_ne (ne_of_none e2 n3)]
          exact e2
        rw [upd_ne (ne_of_none e3 no)]
        exact e3
    · obtain ⟨⟨l, ys, y3, y4, rfl, hl, hd⟩, sm⟩ := hP
      obtain ⟨T, x, z, rfl, nT, rfl, ex, ez⟩ := y
      cases ex
      obtain ⟨ns, e1, vd⟩ := hSS.2 i z ez
      have sT : Sm P H1 (upd H1 T (.tup [.int (i : Nat), z])) := Sm.new nT
      have sHT := sm.trans sT
      generalize eT : upd H1 T (.tup [.int (i : Nat), z]) = H2 at *
      have hlT : H2 l = some (.lst ys) := sT.lst hl
      have hdT : DpAll K H2 ys ((chsTo n SS i).map tp) := dpAll_keep sT.tk _ _ (noL_map noL_tp _) hd
      have vdT : SetD K H2 n z ns := vd.tk sHT.tk
      have ylen : ys.length = 2 ^ i := by
        have q := dpAll_len hdT
        rw [List.length_map, chsTo_len] at q
        exact q
      have i6 : 2 ^ i ≤ 2 ^ 6 := Nat.pow_le_pow_right (by decide) (by rw [hSS.1] at hi; omega)
      refine ⟨T, [.int (i : Nat), z], rfl, .inl (.inl (by rw [← eT]; exact upd_same)), rfl, .int (i : Nat), [z], rfl, z, [], rfl, rfl, ?_⟩
      refine ⟨_, rfl, _, rfl, l, rfl, ⟨_, SqL.of hlT⟩, fun D nD => ?_⟩
      have nDl : D ≠ l := fun e => by
        rw [e, hlT] at nD
        cases nD
      refine lc_it walk_list (fun j Hc => (∃ acc, Hc D = some (.lst acc) ∧ DpAll K Hc acc ((((chsTo n SS i).take j).map fun p => ((p.1 ++ [(i : Int)], add n p.2 ns) : Ch)).map tp)) ∧ Sm P H2 Hc)
        ⟨⟨[], upd_same, .nil⟩, Sm.new nD⟩ (fun j Hc _ hp => hp.2.sqL (SqL.of hlT)) (fun j x Hc Hc' hj hp hy => ?_) (fun Hc hp => ?_)
      · obtain ⟨⟨acc, hD, hacc⟩, sc⟩ := hp
        obtain ⟨rfl, ex⟩ := hy
        obtain ⟨p, ep, dpx⟩ := dpAll_at hdT ex
        obtain ⟨a, x1, x2, rfl, sq, d1, d2⟩ := tp_dp (dp_keep sc.tk _ _ (noL_tp p) dpx)
        obtain ⟨a1, rfl, sq1⟩ := ti_dp d1
        have isp : IsS n p.2 := chsTo_isS hIs i p (List.mem_of_getElem? ep)
        have plen : p.1.length ≤ i := chsTo_w n SS i p (List.mem_of_getElem? ep)
        refine ⟨a, [.ref a1, x2], rfl, sq, rfl, .ref a1, [x2], rfl, x2, [], rfl, rfl, rfl, ?_⟩
        refine ⟨.ref a1, rfl, a1, _, rfl, .inl sq1, _, rfl, ?_, fun q1 m1 => ?_⟩
        · rw [List.length_append, List.length_map]
          exact Nat.le_of_lt (small1000 (by rw [hSS.1] at hi; show p.1.length + 1 ≤ 1000; omega))
        · have t1 : Sm P Hc' (upd Hc' q1 (.tup (p.1.map V.int ++ [V.int (i : Nat)]))) := Sm.new m1
          refine ⟨_, rfl, _, rfl, _, rfl, n, x2, z, p.2, ns, rfl, h2, h9, ⟨dp_keep t1.tk _ _ (noL_ti _) d2, isp⟩, (vdT.tk sc.tk).tk t1.tk, fun H5 r s5 hr5 => ?_⟩
          have hq1 : H5 q1 = some (.tup (p.1.map V.int ++ [V.int (i : Nat)])) := s5.2 _ _ upd_same (fun q z => nomatch z)
          refine ⟨by show 2 ≤ sizeLine; decide, fun q2 m2 => ?_⟩
          have t2 : Sm P Hc' (upd H5 q2 (.tup [.ref q1, .ref r])) := (t1.trans s5).trans (Sm.new m2)
          have hD6 : upd H5 q2 (.tup [.ref q1, .ref r]) D = some (.lst acc) := t2.lst hD
          refine ⟨acc, hD6, ?_, ⟨_, upd_same, ?_⟩, Sm.put nD (sc.trans t2) (fun q z => by rw [hD6] at z; cases z)⟩
          · have q := dpAll_len hacc
            rw [List.length_map, List.length_map, List.length_take] at q
            have q9 : (chsTo n SS i).length = 2 ^ i := chsTo_len n SS i
            exact small1000 (by omega)
          · have tk7 : TK K (upd H5 q2 (.tup [.ref q1, .ref r])) (upd (upd H5 q2 (.tup [.ref q1, .ref r])) D (.lst (acc ++ [.ref q2]))) := tk_lst hD6
            have tkc := t2.tk.trans tk7
            rw [List.take_add_one, ep, List.map_append, List.map_append]
            refine dpAll_app (dpAll_keep tkc _ _ (noL_map noL_tp _) hacc) (.cons (dp_tp (p := (p.1 ++ [(i : Int)], add n p.2 ns)) (x := .ref q1) (y := .ref r) (tk7 _ _ (.inl (.inl upd_same))) (dp_ti (tk7 _ _ ((Sm.new (P := P) m2).tk _ _ (.inl (.inl ?_))))) (dp_ti (tk7 _ _ ((Sm.new (P := P) m2).tk _ _ (.inl (.inl hr5)))))) .nil)
            rw [hq1, List.map_append]
            rfl
      · obtain ⟨⟨acc, hD, hacc⟩, sc⟩ := hp
        have hlc : Hc l = some (.lst ys) := sc.lst hlT
        rw [ylen, ← chsTo_len n SS i, List.take_length] at hacc
        have alen : acc.length = 2 ^ i := by
          have q := dpAll_len hacc
          rw [List.length_map, List.length_map, chsTo_len] at q
          exact q
        refine ⟨l, D, ys, acc, rfl, rfl, hlc, hD, ?_, fun r nr => ?_⟩
        · exact Nat.le_of_lt (small1000 (by omega))
        · have sr : Sm P Hc (upd Hc r (.lst (ys ++ acc))) := Sm.new nr
          have tkr : TK K H2 (upd Hc r (.lst (ys ++ acc))) := sc.tk.trans sr.tk
          refine ⟨⟨r, _, _, _, rfl, upd_same, ?_⟩, sHT.trans (sc.trans sr)⟩
          show DpAll K _ (ys ++ acc) ((chStep n (chsTo n SS i) i (SS[i]?.getD [])).map tp)
          unfold chStep
          rw [e1, List.map_append]
          exact dpAll_app (dpAll_keep tkr _ _ (noL_map noL_tp _) hdT) (dpAll_keep sr.tk _ _ (noL_map noL_tp _) hacc)
    · obtain ⟨⟨l, ys, y3, y4, rfl, hl, hd⟩, sm⟩ := hP
      rw [hSS.1] at hd
      have ylen : ys.length = 2 ^ SS.length := by
        have q := dpAll_len hd
        rw [List.length_map, chsTo_len] at q
        exact q
      have i6 : 2 ^ SS.length ≤ 2 ^ 6 := Nat.pow_le_pow_right (by decide) h6
      have cl : (chs n SS).length = 2 ^ SS.length := chsTo_len n SS SS.length
      refine ⟨_, rfl, l, rfl, ⟨_, SqL.of hl⟩, fun D nD => ?_⟩
      refine lc_it walk_list (fun j Hc => (∃ acc, Hc D = some (.lst acc) ∧ DpAll K Hc acc (((chs n SS).take j).map t3)) ∧ Sm P H' Hc)
        ⟨⟨[], upd_same, .nil⟩, Sm.new nD⟩ (fun j Hc _ hp => hp.2.sqL (SqL.of hl)) (fun j x Hc Hc' hj hp hy => ?_) (fun Hc hp => ?_)
      · obtain ⟨⟨acc, hD, hacc⟩, sc⟩ := hp
        obtain ⟨rfl, ex⟩ := hy
        obtain ⟨p, ep, dpx⟩ := dpAll_at hd ex
        obtain ⟨a, x1, x2, rfl, sq, d1, d2⟩ := tp_dp (dp_keep sc.tk _ _ (noL_tp p) dpx)
        obtain ⟨a1, rfl, sq1⟩ := ti_dp d1
        refine ⟨a, [.ref a1, x2], rfl, sq, rfl, .ref a1, [x2], rfl, x2, [], rfl, rfl, rfl, ?_⟩
        refine ⟨.ref a1, rfl, a1, _, rfl, .inr sq1, .ref a1, rfl, x2, rfl, by show 3 ≤ sizeLine; decide, fun q2 m2 => ?_⟩
        have t2 : Sm P Hc' (upd Hc' q2 (.tup [.int ((p.1.map V.int).length : Nat), .ref a1, x2])) := Sm.new m2
        have hD6 := t2.lst hD
        refine ⟨acc, hD6, ?_, ⟨_, upd_same, ?_⟩, Sm.put nD (sc.trans t2) (fun q z => by rw [hD6] at z; cases z)⟩
        · have q := dpAll_len hacc
          rw [List.length_map, List.length_take] at q
          exact small1000 (by omega)
        · have tk7 : TK K (upd Hc' q2 (.tup [.int ((p.1.map V.int).length : Nat), .ref a1, x2])) (upd (upd Hc' q2 (.tup [.int ((p.1.map V.int).length : Nat), .ref a1, x2])) D (.lst (acc ++ [.ref q2]))) := tk_lst hD6
          have tkc := t2.tk.trans tk7
          have ep' : (chs n SS)[j]? = some p := ep
          rw [List.take_add_one, ep', List.map_append]
          refine dpAll_app (dpAll_keep tkc _ _ (noL_map noL_t3 _) hacc) (.cons (.tup (tk7 _ _ (.inl (.inl upd_same))) (.cons ?_ (.cons (dp_keep tkc _ _ (noL_ti _) d1) (.cons (dp_keep tkc _ _ (noL_ti _) d2) .nil)))) .nil)
          rw [List.length_map]
          exact .int _
      · obtain ⟨⟨acc, hD, hacc⟩, sc⟩ := hp
        rw [ylen, ← cl, List.take_length] at hacc
        refine ⟨D, acc, chs n SS, rfl, SqL.of hD, hacc, fun zs p dz np => ?_⟩
        have sp : Sm P Hc (upd Hc p (.lst zs)) := Sm.new np
        have dz' : DpAll K (upd Hc p (.lst zs)) zs ((srtC n SS).map t3) := dpAll_keep sp.tk _ _ (noL_map noL_t3 _) dz
        have zl : zs.length = 2 ^ SS.length := by
          have q := dpAll_len dz'
          unfold srtC at q
          rw [List.length_map, List.length_mergeSort, cl] at q
          exact q
        have sl : (srtC n SS).length = 2 ^ SS.length := by
          unfold srtC
          rw [List.length_mergeSort, cl]
        have s0 : Sm P H (upd Hc p (.lst zs)) := sm.trans (sc.trans sp)
        generalize eH : upd Hc p (.lst zs) = H3 at *
        have hz : H3 p = some (.lst zs) := by rw [← eH]; exact upd_same
        refine ⟨p, rfl, ⟨_, SqL.of hz⟩, fun D2 nD2 => ?_⟩
        refine lc_it walk_list (fun j Hd => (∃ acc, Hd D2 = some (.lst acc) ∧ DpAll K Hd acc (((srtC n SS).take j).map tp)) ∧ Sm P H3 Hd)
          ⟨⟨[], upd_same, .nil⟩, Sm.new nD2⟩ (fun j Hd _ hp => hp.2.sqL (SqL.of hz)) (fun j x Hd Hd' hj hp hy => ?_) (fun Hd hp => ?_)
        · obtain ⟨⟨acc2, hD2, hacc2⟩, sd⟩ := hp
          obtain ⟨rfl, ex⟩ := hy
          obtain ⟨r, er, dpx⟩ := dpAll_at dz' ex
          obtain ⟨a, x1, x2, rfl, sq, d1, d2⟩ := t3_dp (dp_keep sd.tk _ _ (noL_t3 r) dpx)
          refine ⟨a, [.int (r.1.length : Nat), x1, x2], rfl, sq, rfl, _, [x1, x2], rfl, x1, [x2], rfl, x2, [], rfl, rfl, rfl, ?_⟩
          refine ⟨x1, rfl, x2, rfl, by show 2 ≤ sizeLine; decide, fun q2 m2 => ?_⟩
          have t2 : Sm P Hd' (upd Hd' q2 (.tup [x1, x2])) := Sm.new m2
          have hD6 := t2.lst hD2
          refine ⟨acc2, hD6, ?_, ⟨_, upd_same, ?_⟩, Sm.put nD2 (sd.trans t2) (fun q z => by rw [hD6] at z; cases z)⟩
          · have q := dpAll_len hacc2
            rw [List.length_map, List.length_take] at q
            exact small1000 (by omega)
          · have tk7 : TK K (upd Hd' q2 (.tup [x1, x2])) (upd (upd Hd' q2 (.tup [x1, x2])) D2 (.lst (acc2 ++ [.ref q2]))) := tk_lst hD6
            have tkc := t2.tk.trans tk7
            rw [List.take_add_one, er, List.map_append]
            exact dpAll_app (dpAll_keep tkc _ _ (noL_map noL_tp _) hacc2) (.cons (dp_tp (p := r) (tk7 _ _ (.inl (.inl upd_same))) (dp_keep tkc _ _ (noL_ti _) d1) (dp_keep tkc _ _ (noL_ti _) d2)) .nil)
        · obtain ⟨⟨acc2, hD2, hacc2⟩, sd⟩ := hp
          rw [zl, ← sl, List.take_length] at hacc2
          exact q Hd D2 acc2 (s0.trans sd) hD2 hacc2
end
end Pk

/-! once_sum, once_count -/
namespace Pk
open PySem PySem.Spec PyProof.Rows L2 GxR
/-- what once_sum answers -/
def onceV (K : PySem.W.Frag) (H : Hp) (v : V) : Option (List Int) → Prop
  | some w => Dp K H v (ti w)
  | none => v = .non
def onceM (n : Int) (SS : List (List Int)) (G : List Int) : Option (List Int) := ((srtC n SS).find? fun p => decide (p.2 = G)).map (·.1)
def cntM (n : Int) (SS : List (List Int)) (G : List Int) : Nat := ((srtC n SS).filter fun p => decide (p.2 = G)).length
theorem find_at {α : Type} {f : α → Bool} {l : List α} {i : Nat} {x : α} (h : l[i]? = some x) (h1 : ∀ y ∈ l.take i, f y = false) (h2 : f x = true) : l.find? f = some x := by
  have e : l = l.take i ++ (x :: l.drop (i + 1)) := by
    obtain ⟨hi, e⟩ := List.getElem?_eq_some_iff.mp h
    rw [← e, List.getElem_cons_drop, List.take_append_drop]
  rw [e, List.find?_append]
  have e2 : (l.take i).find? f = none := List.find?_eq_none.mpr fun y hy => by rw [h1 y hy]; decide
  rw [e2, List.find?_cons, h2]
  rfl
section
variable {prog : Program} {w : World} {K : PySem.W.Frag} {mg : Str → Option Value} {base : Heap} {P : Addr}
/-- the arguments of once_sum, once_count -/
def OnceArgs (P : Addr) (H : Hp) (vs : List V) (n : Int) (SS : List (List Int)) (G : List Int) : Prop := ∃ (b : Addr) (xs : List V) (g : V), vs = [.int n, .ref b, g] ∧ 2 ≤ n ∧ n ≤ 9 ∧ H b = some (.tup xs) ∧ SS.length ≤ 6 ∧ SetsV H n xs SS ∧ SetV H n g G ∧ TabG H P
def spOnce (K : PySem.W.Frag) (P : Addr) : Sp := fun vs H Q _ => ∃ n SS G, OnceArgs P H vs n SS G ∧ ∀ H' v, Sm P H H' → onceV K H' v (onceM n SS G) → Q v H'
def spCount (K : PySem.W.Frag) (P : Addr) : Sp := fun vs H Q _ => ∃ n SS G, OnceArgs P H vs n SS G ∧ ∀ H', Sm P H H' → Q (.int (cntM n SS G : Nat)) H'
theorem ok_once {f f1 f2 : Addr} {fd fd1 fd2 : FuncData} {k : Nat} (F : Fn K mg "once_sum" sOnceSum pOnceSum f fd) (F1 : Fn K mg "need_choice" sNeedChoice pNeedChoice f1 fd1) (G1 : FnOk prog w K mg base CX0 k f1 fd1 pNeedChoice (spNeedChoice P))
    (F2 : Fn K mg "choices" sChoices pChoices f2 fd2) (G2 : FnOk prog w K mg base CX0 k f2 fd2 pChoices (spChoices K P)) : FnOk prog w K mg base CX0 (k + 1) f fd pOnceSum (spOnce K P) := by
  refine F.F.ok scOnceSum (fun vs H Q E h => ?_) (fun cdv A outer s H vs Q E hr h => ?_)
  · obtain ⟨n, SS, G, ⟨b, xs, g, rfl, _⟩, _⟩ := h
    rfl
  · obtain ⟨n, SS, G, ⟨b, xs, g, rfl, h2, h9, hb, h6, hSS, hg, hT⟩, q⟩ := h
    have nd := scOnceSum.nd
    refine ⟨_, pss_cons (ps_expr (pe_call G1 hr (by rfl) F1.g F1.F.kp F1.b .nil pass0 (pa_cons (pv 0) (pa_cons (pv 1) (pa_cons (pv 2) pa_nil)))))
      (pss_cons (ps_for PassesOwn.never rfl (pi_list (pe_call G2 hr (by rfl) F2.g F2.F.kp F2.b .nil pass0 (pa_cons (pv 0) (pa_cons (pv 1) pa_nil))))
        (pg_tup rfl (pgs_cons (pg_name (i := 3) nd rfl (.inl rfl)) (pgs_cons (pg_name (i := 4) nd rfl (.inl rfl)) pgs_nil)))
        (pss_one (ps_if (pt_cmpR (op_eqT hr.units) (pv 4) (pv 2) (nomark _)) (pss_one (ps_ret (pv 3))) pss_nil)))
      (pss_one (ps_ret pe_non))), ?_⟩
    refine ⟨_, rfl, _, rfl, _, rfl, n, b, xs, SS, g, G, rfl, h2, h9, hb, by rw [hSS.1]; omega, hSS, hg, hT, fun H1 s1 => ?_⟩
    have hS1 := hSS.sm s1
    have hb1 : H1 b = some (.tup xs) := s1.2 b _ hb (fun q z => nomatch z)
    refine ⟨_, rfl, _, rfl, n, b, xs, SS, rfl, h2, h9, .inl (.inl hb1), hS1.d, h6, fun H2 p ys s2 hp hy => ?_⟩
    have s12 := s1.trans s2
    have gd : Dp K H2 g (ti G) := (hg.sm s12).sq
    have yl : ys.length = (srtC n SS).length := by
      have q := dpAll_len hy
      rw [List.length_map] at q
      exact q
    refine ⟨p, rfl, ⟨_, SqL.of hp⟩, for_it walk_list (fun i σ H' => (∃ y3 y4, σ = [some (.int n), some (.ref b), some g, y3, y4]) ∧ Sm P H2 H' ∧ ∀ r ∈ (srtC n SS).take i, decide (r.2 = G) = false)
      ⟨⟨_, _, rfl⟩, Sm.refl _ _, fun r hr => by cases hr⟩ (fun i σ H' _ hp' => hp'.2.1.sqL (SqL.of hp)) (fun i v σ H3 H4 hi hP y => ?_) (fun σ H' hP => ?_)⟩
    · obtain ⟨⟨y3, y4, rfl⟩, s3, hno⟩ := hP
      obtain ⟨rfl, ev⟩ := y
      obtain ⟨r, er, dr⟩ := dpAll_at hy ev
      obtain ⟨a, x1, x2, rfl, sq, d1, d2⟩ := tp_dp (dp_keep s3.tk _ _ (noL_tp r) dr)
      refine ⟨a, [x1, x2], rfl, sq, rfl, x1, [x2], rfl, x2, [], rfl, rfl, ?_⟩
      refine ⟨x2, rfl, g, rfl, r.2, G, d2, dp_keep s3.tk _ _ (noL_ti _) gd, _, rfl, ?_⟩
      by_cases c : r.2 = G
      · rw [decide_eq_true c]
        refine iteT ⟨x1, rfl, q _ x1 (s12.trans s3) ?_⟩
        unfold onceM
        rw [find_at er hno (decide_eq_true c)]
        exact d1
      · rw [decide_eq_false c]
        refine iteF ⟨⟨_, _, rfl⟩, s3, fun t ht => ?_⟩
        rw [List.take_add_one, er] at ht
        rcases List.mem_append.mp ht with z | z
        · exact hno t z
        · have e : t = r := by simpa using z
          rw [e]
          exact decide_eq_false c
    · obtain ⟨_, s3, hno⟩ := hP
      rw [yl, List.take_length] at hno
      refine q H' .non (s12.trans s3) ?_
      unfold onceM
      rw [List.find?_eq_none.mpr fun r hr => by rw [hno r hr]; decide]
      exact rfl
theorem ok_count {f f1 f2 : Addr} {fd fd1 fd2 : FuncData} {k : Nat} (F : Fn K mg "once_count" sOnceCount pOnceCount f fd) (F1 : Fn K mg "need_choice" sNeedChoice pNeedChoice f1 fd1) (G1 : FnOk prog w K mg base CX0 k f1 fd1 pNeedChoice (spNeedChoice P))
    (F2 : Fn K mg "choices" sChoices pChoices f2 fd2) (G2 : FnOk prog w K mg base CX0 k f2 fd2 pChoices (spChoices K P)) (B : Bl mg) : FnOk prog w K mg base CX0 (k + 1) f fd pOnceCount (spCount K P) := by
  refine F.F.ok scOnceCount (fun vs H Q E h => ?_) (fun cdv A outer s H vs Q E hr h => ?_)
  · obtain ⟨n, SS, G, ⟨b, xs, g, rfl, _⟩, _⟩ := h
    rfl
  · obtain ⟨n, SS, G, ⟨b, xs, g, rfl, h2, h9, hb, h6, hSS, hg, hT⟩, q⟩ := h
    have nd := scOnceCount.nd
    refine ⟨_, pss_cons (ps_expr (pe_call G1 hr (by rfl) F1.g F1.F.kp F1.b .nil pass0 (pa_cons (pv 0) (pa_cons (pv 1) (pa_cons (pv 2) pa_nil)))))
      (pss_one (ps_ret (pe_callB call_len_seq (by rfl) B.len PySem.boot_len (pa_cons (pe_lc (own := [("some", 3), ("total", 4)]) (g := gTup K 2 (gCons (gName 3) (gCons (gName 4) gNil))) (tt := tTest (tOp (rEqT K) (tVar 4) (tVar 2))) (te := tVar 3) rfl nd
          (pi_list (pe_call G2 hr (by rfl) F2.g F2.F.kp F2.b .nil pass0 (pa_cons (pv 0) (pa_cons (pv 1) pa_nil)))) (blkOk_by (N := nOnceCount) (sc := defScope sOnceCount) (by decide +kernel))
          (fun _ _ _ _ _ => pg_tup rfl (pgs_cons (pg_name (i := 3) nd rfl (.inl rfl)) (pgs_cons (pg_name (i := 4) nd rfl (.inl rfl)) pgs_nil)))
          (fun _ _ _ _ _ => pts_one (pt_cmpR (op_eqT hr.units) (pv 4) (pv 2) (nomark _))) (fun _ _ _ _ _ => by exact (pv 3))) pa_nil)))), ?_⟩
    refine ⟨_, rfl, _, rfl, _, rfl, n, b, xs, SS, g, G, rfl, h2, h9, hb, by rw [hSS.1]; omega, hSS, hg, hT, fun H1 s1 => ?_⟩
    have hS1 := hSS.sm s1
    have hb1 : H1 b = some (.tup xs) := s1.2 b _ hb (fun q z => nomatch z)
    refine ⟨_, rfl, _, rfl, n, b, xs, SS, rfl, h2, h9, .inl (.inl hb1), hS1.d, h6, fun H2 p ys s2 hp hy => ?_⟩
    have s12 := s1.trans s2
    have gd : Dp K H2 g (ti G) := (hg.sm s12).sq
    have yl : ys.length = (srtC n SS).length := by
      have q := dpAll_len hy
      rw [List.length_map] at q
      exact q
    have sl : (srtC n SS).length = 2 ^ SS.length := by
      unfold srtC
      rw [List.length_mergeSort]
      exact chsTo_len n SS SS.length
    have i6 : 2 ^ SS.length ≤ 2 ^ 6 := Nat.pow_le_pow_right (by decide) h6
    refine ⟨p, rfl, ⟨_, SqL.of hp⟩, fun D nD => ?_⟩
    refine lc_it walk_list (fun j Hc => (∃ acc, Hc D = some (.lst acc) ∧ acc.length = (((srtC n SS).take j).filter fun p => decide (p.2 = G)).length) ∧ Sm P H2 Hc)
      ⟨⟨[], upd_same, rfl⟩, Sm.new nD⟩ (fun j Hc _ hp' => hp'.2.sqL (SqL.of hp)) (fun j x Hc Hc' hj hp' hy' => ?_) (fun Hc hp' => ?_)
    · obtain ⟨⟨acc, hD, hacc⟩, sc⟩ := hp'
      obtain ⟨rfl, ex⟩ := hy'
      obtain ⟨r, er, dr⟩ := dpAll_at hy ex
      obtain ⟨a, x1, x2, rfl, sq, d1, d2⟩ := tp_dp (dp_keep sc.tk _ _ (noL_tp r) dr)
      refine ⟨a, [x1, x2], rfl, sq, rfl, x1, [x2], rfl, x2, [], rfl, rfl, rfl, ?_⟩
      refine ⟨x2, rfl, g, rfl, r.2, G, d2, dp_keep sc.tk _ _ (noL_ti _) gd, _, rfl, ?_⟩
      by_cases c : r.2 = G
      · rw [decide_eq_true c]
        refine iteT ⟨x1, rfl, acc, hD, ?_, ⟨_, upd_same, ?_⟩, Sm.put nD sc (fun q z => by rw [hD] at z; cases z)⟩
        · have q := List.length_filter_le (fun p : Ch => decide (p.2 = G)) ((srtC n SS).take j)
          rw [List.length_take] at q
          exact small1000 (by omega)
        · rw [List.length_append, hacc, List.take_add_one, er, List.filter_append, List.length_append]
          show _ + 1 = _ + ([r].filter fun p => decide (p.2 = G)).length
          have e : ([r].filter fun p => decide (p.2 = G)) = [r] := by simp [c]
          rw [e]
          rfl
      · rw [decide_eq_false c]
        refine iteF ⟨⟨acc, hD, ?_⟩, sc⟩
        rw [hacc, List.take_add_one, er, List.filter_append, List.length_append]
        show _ = _ + ([r].filter fun p => decide (p.2 = G)).length
        have e : ([r].filter fun p => decide (p.2 = G)) = [] := by simp [c]
        rw [e]
        rfl
    · obtain ⟨⟨acc, hD, hacc⟩, sc⟩ := hp'
      rw [yl, List.take_length] at hacc
      refine ⟨D, acc, rfl, .inl (SqL.of hD), ?_⟩
      rw [hacc]
      exact q Hc (s12.trans sc)
end
end Pk

/-! equal_sums -/
namespace Pk
open PySem PySem.Spec PyProof.Rows L2 GxR
open PySem.W (Datum DatumOrd Tup T3)
/-- all sets but two -/
def restTo (SS : List (List Int)) (i j : Nat) : Nat → List (List Int)
  | 0 => []
  | k + 1 => if k = i ∨ k = j then restTo SS i j k else restTo SS i j k ++ [SS[k]?.getD []]
def rsum (n : Int) (SS : List (List Int)) (i j : Nat) : List Int := wsum n (restTo SS i j SS.length)
/-- the one does what the other does beside all others -/
def eqTest (n : Int) (SS : List (List Int)) (i j : Nat) : Bool := decide (add n (rsum n SS i j) (SS[i]?.getD []) = add n (rsum n SS i j) (SS[j]?.getD []))
def rowTo (n : Int) (SS : List (List Int)) (j : Nat) : Nat → List (Int × Int)
  | 0 => []
  | i + 1 => if eqTest n SS i j = true then rowTo n SS j i ++ [((i : Int), (j : Int))] else rowTo n SS j i
def prsTo (n : Int) (SS : List (List Int)) : Nat → List (Int × Int)
  | 0 => []
  | j + 1 => prsTo n SS j ++ rowTo n SS j j
def prs (n : Int) (SS : List (List Int)) : List (Int × Int) := prsTo n SS SS.length
/-- a pair of ints -/
abbrev pd (p : Int × Int) : PyData := .tuple [.int p.1, .int p.2]
def srtP (L : List (Int × Int)) : List (Int × Int) := L.mergeSort (PySem.W.dataLe false pd)
theorem noL_pd (p : Int × Int) : noL (pd p) = true := rfl
theorem rowTo_len (n : Int) (SS : List (List Int)) (j : Nat) : ∀ i, (rowTo n SS j i).length ≤ i
  | 0 => Nat.le_refl _
  | i + 1 => by
    have ih := rowTo_len n SS j i
    unfold rowTo
    split
    · rw [List.length_append]
      exact Nat.succ_le_succ ih
    · omega
theorem prsTo_len (n : Int) (SS : List (List Int)) : ∀ j, (prsTo n SS j).length ≤ j * j
  | 0 => Nat.le_refl _
  | j + 1 => by
    have ih := prsTo_len n SS j
    have h := rowTo_len n SS j j
    show (prsTo n SS j ++ rowTo n SS j j).length ≤ _
    rw [List.length_append, Nat.succ_mul, Nat.mul_succ]
    omega
theorem ty_sq {K : PySem.W.Frag} {H : Hp} {a : Addr} {xs : List V} (h : SqT K H a xs) : TyX K H (.ref a) (.type "tuple") := by
  rcases h with (h | ⟨o, h⟩) | ⟨o, its, n, h, hc, _⟩
  · exact .base (.tup h)
  · exact .fTuple h
  · exact .kTuple h hc
theorem restTo_len (SS : List (List Int)) (i j : Nat) : ∀ k, (restTo SS i j k).length ≤ k
  | 0 => Nat.le_refl _
  | k + 1 => by
    have ih := restTo_len SS i j k
    unfold restTo
    split
    · omega
    · rw [List.length_append]
      exact Nat.succ_le_succ ih
theorem SetsD.snoc {K : PySem.W.Frag} {H : Hp} {n : Int} {xs : List V} {SS : List (List Int)} {z : V} {ns : List Int} (h : SetsD K H n xs SS) (d : SetD K H n z ns) : SetsD K H n (xs ++ [z]) (SS ++ [ns]) := by
  refine ⟨by rw [List.length_append, List.length_append, h.1]; rfl, fun i x e => ?_⟩
  by_cases c : i < xs.length
  · rw [List.getElem?_append_left c] at e
    obtain ⟨ms, e1, v⟩ := h.2 i x e
    exact ⟨ms, by rw [List.getElem?_append_left (by rw [← h.1]; exact c)]; exact e1, v⟩
  · rw [List.getElem?_append_right (by omega)] at e
    have q := (List.getElem?_eq_some_iff.mp e).1
    have ei : i = xs.length := by
      have : ([z] : List V).length = 1 := rfl
      omega
    subst ei
    have ez : z = x := by simpa using e
    subst ez
    exact ⟨ns, by rw [h.1]; simp, d⟩
theorem restTo_yes {SS : List (List Int)} {i j k : Nat} (h : k = i ∨ k = j) : restTo SS i j (k + 1) = restTo SS i j k := if_pos h
theorem restTo_no {SS : List (List Int)} {i j k : Nat} {ns : List Int} (h : ¬ (k = i ∨ k = j)) (e : SS[k]? = some ns) : restTo SS i j (k + 1) = restTo SS i j k ++ [ns] := by
  show (if k = i ∨ k = j then _ else _) = _
  rw [if_neg h, e]
  rfl
section
variable {prog : Program} {w : World} {K : PySem.W.Frag} {mg : Str → Option Value} {base : Heap} {P : Addr}
theorem zadd (i : Nat) : V.int (0 + (i : Int)) = V.int (i : Int) := by rw [Int.zero_add]
theorem inV_two (x i j : Int) : inV (.int x) [.int i, .int j] = decide (x = i ∨ x = j) := by
  show ((i == x) || ((j == x) || false)) = _
  rw [Bool.or_false, Bool.eq_iff_iff, Bool.or_eq_true, beq_iff_eq, beq_iff_eq, decide_eq_true_iff]
  omega
def spEqual (K : PySem.W.Frag) (P : Addr) : Sp := fun vs H Q _ => ∃ (n : Int) (b : Addr) (xs : List V) (SS : List (List Int)), vs = [.int n, .ref b] ∧ 2 ≤ n ∧ n ≤ 9 ∧ H b = some (.tup xs) ∧ SS.length ≤ 6 ∧ SetsV H n xs SS ∧ TabG H P ∧
  ∀ H' v, Sm P H H' → Dp K H' v (.tuple ((srtP (prs n SS)).map pd)) → Q v H'
theorem ok_equal {f f1 f2 f3 : Addr} {fd fd1 fd2 fd3 : FuncData} {k : Nat} (F : Fn K mg "equal_sums" sEqualSums pEqualSums f fd) (F1 : Fn K mg "need_sets" sNeedSets pNeedSets f1 fd1) (G1 : FnOk prog w K mg base CX0 k f1 fd1 pNeedSets (spNeedSets P))
    (F2 : Fn K mg "whole_sum" sWhole pWhole f2 fd2) (G2 : FnOk prog w K mg base CX0 k f2 fd2 pWhole (spWhole K P)) (F3 : Fn K mg "added" sAdded pAdded f3 fd3) (G3 : FnOk prog w K mg base CX0 k f3 fd3 pAdded (spAdd K P)) (B : Bl mg) :
    FnOk prog w K mg base CX0 (k + 1) f fd pEqualSums (spEqual K P) := by
  refine F.F.ok scEqualSums (fun vs H Q E h => ?_) (fun cdv A outer s H vs Q E hr h => ?_)
  · obtain ⟨n, b, xs, SS, rfl, _⟩ := h
    rfl
  · obtain ⟨n, b, xs, SS, rfl, h2, h9, hb, h6, hSS, hT, q⟩ := h
    have nd := scEqualSums.nd
    refine ⟨_, pss_cons (ps_expr (pe_call G1 hr (by rfl) F1.g F1.F.kp F1.b .nil pass0 (pa_cons (pv 0) (pa_cons (pv 1) pa_nil))))
      (pss_cons (ps_set (i := 2) nd rfl (.inl rfl) (pe_lst pa_nil))
      (pss_cons (ps_for PassesOwn.never rfl (pi_range1 (by rfl) B.range (pa_cons (pe_callB call_len_seq (by rfl) B.len PySem.boot_len (pa_cons (pv 1) pa_nil)) pa_nil)) (pg_name (i := 3) nd rfl (.inr rfl))
        (pss_one (ps_for PassesOwn.never rfl (pi_range1 (by rfl) B.range (pa_cons (pv 3) pa_nil)) (pg_name (i := 4) nd rfl (.inr rfl))
          (pss_cons (ps_set (i := 5) nd rfl (.inl rfl) (pe_call G2 hr (by rfl) F2.g F2.F.kp F2.b .nil pass0 (pa_cons (pv 0) (pa_cons
              (pe_lc (own := [("k", 6), ("one", 7)]) (g := gTup K 2 (gCons (gName 6) (gCons (gName 7) gNil))) (tt := tTest (tOp (rIn K true) (tVar 6) (tTup (tCons (tVar 4) (tCons (tVar 3) tNil))))) (te := tVar 7) rfl nd
                (pi_enT (by rfl) B.enumerate (pa_cons (pv 1) pa_nil)) (blkOk_by (N := nEqualSums) (sc := defScope sEqualSums) (by decide +kernel))
                (fun _ _ _ _ _ => pg_tup rfl (pgs_cons (pg_name (i := 6) nd rfl (.inl rfl)) (pgs_cons (pg_name (i := 7) nd rfl (.inl rfl)) pgs_nil)))
                (fun _ _ _ _ _ => pts_one (pt_cmpR op_notIn_seq (pv 6) (pe_tup (pa_cons (pv 4) (pa_cons (pv 3) pa_nil))) (by rfl))) (fun _ _ _ _ _ => by exact (pv 7))) pa_nil))))
          (pss_one (ps_if (pt_cmpR (op_eqT hr.units) (pe_call G3 hr (by rfl) F3.g F3.F.kp F3.b .nil pass0 (pa_cons (pv 0) (pa_cons (pv 5) (pa_cons (pe_ix ix_tup (pv 1) (pv 4) (fun _ _ => rfl)) pa_nil))))
              (pe_call G3 hr (by rfl) F3.g F3.F.kp F3.b .nil pass0 (pa_cons (pv 0) (pa_cons (pv 5) (pa_cons (pe_ix ix_tup (pv 1) (pv 3) (fun _ _ => rfl)) pa_nil)))) (nomark _))
            (pss_one (ps_expr (pe_bm PySem.F.plainAttrs_list PySem.F.slot_list_append PySem.F.type_list_append mt_append (pv 2) (pa_cons (pe_tup (pa_cons (pv 4) (pa_cons (pv 3) pa_nil))) pa_nil)))) pss_nil))))))
      (pss_one (ps_ret (pe_callTy call_tuple_of (by rfl) B.tuple boot_tuple (pa_cons (pe_callB (cr_sortD (enc := pd) (fun p p' => DatumOrd.alike p p') (fun p => ⟨_, _, rfl⟩) (fun p => Nat.le_trans (Datum.depth_le p) (by decide)) hr.units) (by rfl) B.sorted boot_sorted (pa_cons (pv 2) pa_nil)) pa_nil)))))), ?_⟩
    refine ⟨_, rfl, _, rfl, n, b, xs, SS, rfl, h2, h9, hb, by rw [hSS.1]; omega, hSS, hT, fun H1 s1 => ?_⟩
    have hS1 := (hSS.sm s1).d (K := K)
    have hb1 : SqT K H1 b xs := s1.tk _ _ (.inl (.inl hb))
    refine ⟨Nat.zero_le _, fun o no => ?_⟩
    have s2 : Sm P H1 (upd H1 o (.lst [])) := Sm.new no
    refine ⟨.ref b, rfl, b, xs, rfl, .inr (s2.tk _ _ hb1), (xs.length : Int), rfl, by omega, by rw [hSS.1]; omega, for_it walk_range (fun j σ H' => (∃ y3 y4 y5 ys, σ = [some (.int n), some (.ref b), some (.ref o), y3, y4, y5, none, none] ∧ H' o = some (.lst ys) ∧ DpAll K H' ys ((prsTo n SS j).map pd)) ∧ Sm P H1 H')
      ⟨⟨none, none, none, [], rfl, upd_same, .nil⟩, s2⟩ (fun _ _ _ _ _ => trivial) (fun j v σ Ha Hb hj hP y => ?_) (fun σ H' hP => ?_)⟩
    · obtain ⟨⟨y3, y4, y5, ys, rfl, ho, hd⟩, sm⟩ := hP
      obtain ⟨rfl, ev⟩ := y
      have jl : j < SS.length := by
        rw [← hSS.1]
        omega
      obtain rfl : v = V.int (j : Int) := ev.trans (zadd j)
      refine ⟨_, rfl, (j : Int), rfl, by omega, by omega, for_it walk_range (fun i σ H' => (∃ y4 y5 ys, σ = [some (.int n), some (.ref b), some (.ref o), some (.int (j : Int)), y4, y5, none, none] ∧ H' o = some (.lst ys) ∧ DpAll K H' ys ((prsTo n SS j ++ rowTo n SS j i).map pd)) ∧ Sm P H1 H')
        ⟨⟨_, _, ys, rfl, ho, by rw [show rowTo n SS j 0 = [] from rfl, List.append_nil]; exact hd⟩, sm⟩ (fun _ _ _ _ _ => trivial) (fun i v σ Hc Hd hi hP y => ?_) (fun σ H' hP => ?_)⟩
      · obtain ⟨⟨y4, y5, ys, rfl, ho, hd⟩, sm⟩ := hP
        obtain ⟨rfl, ev⟩ := y
        have ij : i < j := by omega
        obtain rfl : v = V.int (i : Int) := ev.trans (zadd i)
        have sqb : SqT K Hd b xs := sm.tk _ _ hb1
        have hSd := hS1.tk sm.tk
        refine ⟨_, rfl, _, rfl, b, xs, rfl, sqb, fun D nD => ?_⟩
        refine lc_it walk_enT (fun k Hx => (∃ acc, Hx D = some (.lst acc) ∧ SetsD K Hx n acc (restTo SS i j k)) ∧ Sm P Hd Hx)
          ⟨⟨[], upd_same, rfl, fun i x e => by simp at e⟩, Sm.new nD⟩ (fun k Hx _ hp => hp.2.tk _ _ sqb) (fun k v Hx Hx' hk hp hy => ?_) (fun Hx hp => ?_)
        · obtain ⟨⟨acc, hD, hacc⟩, sc⟩ := hp
          obtain ⟨T, x, z, rfl, nT, rfl, ex, ez⟩ := hy
          cases ex
          obtain ⟨ns, e1, dz⟩ := hSd.2 k z ez
          have st : Sm P Hx (upd Hx T (.tup [.int (k : Nat), z])) := Sm.new nT
          refine ⟨T, [.int (k : Nat), z], rfl, .inl (.inl upd_same), rfl, .int (k : Nat), [z], rfl, z, [], rfl, rfl, rfl, ?_⟩
          refine ⟨.int (k : Nat), rfl, .int (i : Int), rfl, .int (j : Int), rfl, by show 2 ≤ sizeLine; decide, fun t nt => ?_⟩
          have st2 := st.trans (Sm.new (o := .tup [.int (i : Int), .int (j : Int)]) nt)
          refine ⟨t, [.int (i : Int), .int (j : Int)], rfl, .inr (.inl (.inl upd_same)), rfl, rfl, _, rfl, ?_⟩
          show if (!inV (.int (k : Int)) [.int (i : Int), .int (j : Int)]) = true then _ else _
          rw [inV_two]
          have hD2 := st2.lst hD
          by_cases c : k = i ∨ k = j
          · rw [decide_eq_true (by omega)]
            refine iteF ⟨⟨acc, hD2, ?_⟩, sc.trans st2⟩
            rw [restTo_yes c]
            exact hacc.tk st2.tk
          · rw [decide_eq_false (by omega)]
            refine iteT ⟨z, rfl, acc, hD2, ?_, ⟨_, upd_same, ?_⟩, Sm.put nD (sc.trans st2) (fun q z => by rw [hD2] at z; cases z)⟩
            · have := restTo_len SS i j k
              rw [hacc.1]
              rw [hSS.1] at hk
              exact small1000 (by omega)
            · rw [restTo_no c e1]
              exact ((hacc.tk st2.tk).tk (tk_lst hD2)).snoc (((dz.tk sc.tk).tk st2.tk).tk (tk_lst hD2))
        · obtain ⟨⟨acc, hD, hacc⟩, sc⟩ := hp
          rw [hSS.1] at hacc
          refine ⟨n, D, acc, _, rfl, h2, h9, SqL.of hD, hacc, fun H5 p s5 hp5 ip => ?_⟩
          have sx : Sm P Hd H5 := sc.trans s5
          have sqb5 : SqT K H5 b xs := sx.tk _ _ sqb
          have il : i < xs.length := by rw [hSS.1]; omega
          have jl' : j < xs.length := by rw [hSS.1]; omega
          obtain ⟨ni, ei, di⟩ := hSd.2 i xs[i] (List.getElem?_eq_getElem il)
          obtain ⟨nj, ej, dj⟩ := hSd.2 j xs[j] (List.getElem?_eq_getElem jl')
          refine ⟨_, rfl, .ref p, rfl, _, rfl, _, rfl, b, xs, (i : Int), xs[i], rfl, rfl, sqb5, atI_nat (List.getElem?_eq_getElem il), n, .ref p, xs[i], _, ni, rfl, h2, h9, ⟨dp_ti (.inl (.inl hp5)), ip⟩, di.tk sx.tk, fun H6 p1 s6 hp6 => ?_⟩
          refine ⟨_, rfl, .ref p, rfl, _, rfl, _, rfl, b, xs, (j : Int), xs[j], rfl, rfl, s6.tk _ _ sqb5, atI_nat (List.getElem?_eq_getElem jl'), n, .ref p, xs[j], _, nj, rfl, h2, h9, ⟨dp_ti (s6.tk _ _ (.inl (.inl hp5))), ip⟩, (di.tk sx.tk |> fun _ => (dj.tk sx.tk).tk s6.tk), fun H7 p2 s7 hp7 => ?_⟩
          refine ⟨_, _, dp_ti (s7.tk _ _ (.inl (.inl hp6))), dp_ti (.inl (.inl hp7)), _, rfl, ?_⟩
          have sy : Sm P Hd H7 := (sx.trans s6).trans s7
          have ho7 : H7 o = some (.lst ys) := sy.lst ho
          have hd7 := dpAll_keep sy.tk _ _ (noL_map noL_pd _) hd
          have et : decide (add n (wsum n (restTo SS i j SS.length)) ni = add n (wsum n (restTo SS i j SS.length)) nj) = eqTest n SS i j := by
            unfold eqTest rsum
            rw [ei, ej]
            rfl
          rw [et]
          have yl : ys.length ≤ 100 := by
            have q := dpAll_len hd
            rw [List.length_map, List.length_append] at q
            have q1 := prsTo_len n SS j
            have q2 := rowTo_len n SS j i
            have q3 : j * j ≤ 6 * 6 := Nat.mul_le_mul (by omega) (by omega)
            omega
          cases ce : eqTest n SS i j with
          | true =>
            refine iteT ⟨.ref o, rfl, .inl ⟨rfl, _, SqL.of ho7⟩, .int (i : Int), rfl, .int (j : Int), rfl, by show 2 ≤ sizeLine; decide, fun t nt => ?_⟩
            have st : Sm P H7 (upd H7 t (.tup [.int (i : Int), .int (j : Int)])) := Sm.new nt
            have ho8 := st.lst ho7
            refine ⟨o, ys, _, rfl, rfl, ho8, small1000 (by omega), ⟨_, _, _, rfl, upd_same, ?_⟩, Sm.put no (sm.trans (sy.trans st)) (fun q z => by rw [ho8] at z; cases z)⟩
            have tk8 : TK K (upd H7 t (.tup [.int (i : Int), .int (j : Int)])) (upd (upd H7 t (.tup [.int (i : Int), .int (j : Int)])) o (.lst (ys ++ [.ref t]))) := tk_lst ho8
            have er : rowTo n SS j (i + 1) = rowTo n SS j i ++ [((i : Int), (j : Int))] := if_pos ce
            rw [er, ← List.append_assoc, List.map_append]
            exact dpAll_app (dpAll_keep (st.tk.trans tk8) _ _ (noL_map noL_pd _) hd7) (.cons (.tup (tk8 _ _ (.inl (.inl upd_same))) (.cons (.int _) (.cons (.int _) .nil))) .nil)
          | false =>
            have er : rowTo n SS j (i + 1) = rowTo n SS j i := if_neg (by rw [ce]; decide)
            refine iteF ⟨⟨_, _, ys, rfl, ho7, ?_⟩, sm.trans sy⟩
            rw [er]
            exact hd7
      · obtain ⟨⟨y4, y5, ys, rfl, ho, hd⟩, sm⟩ := hP
        exact ⟨⟨_, _, _, ys, rfl, ho, hd⟩, sm⟩
    · obtain ⟨⟨y3, y4, y5, ys, rfl, ho, hd⟩, sm⟩ := hP
      have el : ((xs.length : Int)).toNat = SS.length := by rw [hSS.1]; omega
      rw [el] at hd
      refine ⟨_, rfl, o, ys, prs n SS, rfl, SqL.of ho, hd, fun zs p dz np => ?_⟩
      refine ⟨p, _, rfl, .inl ⟨SqL.of upd_same, fun r nr => ?_⟩⟩
      have sp : Sm P H' (upd H' p (.lst zs)) := Sm.new np
      have sr : Sm P _ (upd (upd H' p (.lst zs)) r (.tup zs)) := Sm.new nr
      exact q _ _ (s1.trans (sm.trans (sp.trans sr))) (.tup (.inl (.inl upd_same)) (dpAll_keep (sp.tk.trans sr.tk) _ _ (noL_map noL_pd _) dz))
end
end Pk

/-! blocks_of, gaps -/
namespace Pk
open PySem PySem.Spec PyProof.Rows L2 GxR
/-- how far the row of places goes on from p -/
def rl (n : Int) (C : List Int) (p : Int) : Nat → Int → Int
  | 0, l => l
  | k + 1, l => if (p + l) % n ∈ C then rl n C p k (l + 1) else l
def blk1 (n : Int) (C : List Int) (p : Int) : Option (Int × Int) := if (p - 1) % n ∈ C then none else some (p, rl n C p n.toNat 1)
def blkM (n : Int) (C : List Int) : List (Int × Int) := if C.length = n.toNat then [(0, n)] else C.filterMap (blk1 n C)
def compl (n : Int) (S : List Int) : List Int := (ran n).filter fun z => decide (¬ z ∈ S)
theorem rl_in {n : Int} {C : List Int} {p l : Int} {k : Nat} (h : (p + l) % n ∈ C) : rl n C p (k + 1) l = rl n C p k (l + 1) := if_pos h
theorem rl_out {n : Int} {C : List Int} {p l : Int} (h : ¬ (p + l) % n ∈ C) : ∀ k, rl n C p k l = l
  | 0 => rfl
  | k + 1 => if_neg h
theorem mod_pl {n w : Int} (h : 0 < n) : 0 ≤ w % n ∧ w % n < n := ⟨Int.emod_nonneg w (by omega), Int.emod_lt_of_pos w h⟩
theorem mod_next (n p l : Int) : (p + (l + 1)) % n = ((p + l) % n + 1) % n := by
  rw [← Int.add_assoc, Int.emod_add_emod]
theorem fmod_pos {a n : Int} (h : 0 < n) : a.fmod n = a % n := Int.fmod_eq_emod_of_nonneg a (by omega)
section
variable {prog : Program} {w : World} {K : PySem.W.Frag} {mg : Str → Option Value} {base : Heap} {P : Addr}
def spBlocks (K : PySem.W.Frag) (P : Addr) : Sp := fun vs H Q _ => ∃ (n : Int) (x : V) (C : List Int), vs = [.int n, x] ∧ 2 ≤ n ∧ n ≤ 9 ∧ SetD K H n x C ∧
  ∀ H' p ys, Sm P H H' → H' p = some (.lst ys) → DpAll K H' ys ((blkM n C).map pd) → Q (.ref p) H'
theorem ok_blocks {f : Addr} {fd : FuncData} {k : Nat} (F : Fn K mg "blocks_of" sBlocks pBlocks f fd) (B : Bl mg) : FnOk prog w K mg base CX0 (k + 1) f fd pBlocks (spBlocks K P) := by
  refine F.F.ok scBlocks (fun vs H Q E h => ?_) (fun cdv A outer s H vs Q E hr h => ?_)
  · obtain ⟨n, x, C, rfl, _⟩ := h
    rfl
  · obtain ⟨n, x, C, rfl, h2, h9, ⟨hx, hC⟩, q⟩ := h
    obtain ⟨a, rfl, sq⟩ := ti_dp hx
    have nd := scBlocks.nd
    have cl := isS_len hC
    refine ⟨_, pss_cons (ps_if (pt_cmpR op_eq (pe_callB call_len_seq (by rfl) B.len PySem.boot_len (pa_cons (pv 1) pa_nil)) (pv 0) (nomark _)) (pss_one (ps_ret (pe_lst (pa_cons (pe_tup (pa_cons pe_int (pa_cons (pv 0) pa_nil))) pa_nil)))) pss_nil)
      (pss_cons (ps_set (i := 2) nd rfl (.inl rfl) (pe_lst pa_nil))
      (pss_cons (ps_for PassesOwn.never rfl (pi_tup (pv 1)) (pg_name (i := 3) nd rfl (.inl rfl))
        (pss_one (ps_if (pt_cmpR op_notIn_seq (pe_op op_modN (pe_op op_sub (pv 3) pe_int) (pv 0)) (pv 1) (by rfl))
          (pss_cons (ps_set (i := 4) nd rfl (.inl rfl) pe_int)
          (pss_cons (ps_while PassesOwn.never (pt_cmpR op_in_seq (pe_op op_modN (pe_op op_add (pv 3) (pv 4)) (pv 0)) (pv 1) (by rfl)) (pss_one (ps_set (i := 4) nd rfl (.inl rfl) (pe_op op_add (pv 4) pe_int))))
          (pss_one (ps_expr (pe_bm PySem.F.plainAttrs_list PySem.F.slot_list_append PySem.F.type_list_append mt_append (pv 2) (pa_cons (pe_tup (pa_cons (pv 3) (pa_cons (pv 4) pa_nil))) pa_nil)))))) pss_nil)))
      (pss_one (ps_ret (pv 2))))), ?_⟩
    refine ⟨.ref a, rfl, a, _, rfl, .inr sq, .int n, rfl, rfl, _, rfl, ?_⟩
    by_cases c : C.length = n.toNat
    · have e : decide (V.int (((C.map V.int).length : Nat) : Int) = V.int n) = true := decide_eq_true (by rw [List.length_map]; congr 1; omega)
      show if decide (V.int (((C.map V.int).length : Nat) : Int) = V.int n) = true then _ else _
      rw [e]
      refine iteT ⟨.int n, rfl, by show 2 ≤ sizeLine; decide, fun t nt => ⟨by show 1 ≤ sizeLine; decide, fun o no => ?_⟩⟩
      have st : Sm P H (upd H t (.tup [.int 0, .int n])) := Sm.new nt
      have so := Sm.new (P := P) (o := .lst [.ref t]) no
      refine q _ o [.ref t] (st.trans so) upd_same ?_
      unfold blkM
      rw [if_pos c]
      exact .cons (.tup (so.tk _ _ (.inl (.inl upd_same))) (.cons (.int _) (.cons (.int _) .nil))) .nil
    · have e : decide (V.int (((C.map V.int).length : Nat) : Int) = V.int n) = false := decide_eq_false (by rw [List.length_map]; intro z; have := V.int.inj z; omega)
      show if decide (V.int (((C.map V.int).length : Nat) : Int) = V.int n) = true then _ else _
      rw [e]
      obtain ⟨fr, hfr, hfn⟩ := free_ex (n := n) (t := C) (by omega)
      refine iteF ⟨Nat.zero_le _, fun o no => ?_⟩
      have s1 : Sm P H (upd H o (.lst [])) := Sm.new no
      refine ⟨.ref a, rfl, a, rfl, ⟨_, s1.tk _ _ sq⟩, for_it walk_tup (fun i σ H' => (∃ y3 y4 ys, σ = [some (.int n), some (.ref a), some (.ref o), y3, y4] ∧ H' o = some (.lst ys) ∧ DpAll K H' ys (((C.take i).filterMap (blk1 n C)).map pd)) ∧ Sm P H H')
        ⟨⟨_, _, [], rfl, upd_same, .nil⟩, s1⟩ (fun i σ H' _ hp => hp.2.tk _ _ sq) (fun i v σ H1 H2 hi hP y => ?_) (fun σ H' hP => ?_)⟩
      · obtain ⟨⟨y3, y4, ys, rfl, ho, hd⟩, sm⟩ := hP
        obtain ⟨rfl, ev⟩ := y
        rw [List.length_map] at hi
        rw [List.getElem?_map, List.getElem?_eq_getElem hi] at ev
        obtain rfl : V.int C[i] = v := Option.some.inj ev
        have sq2 : SqT K H2 a (C.map V.int) := sm.tk _ _ sq
        generalize ep : C[i] = p at *
        have et : C.take (i + 1) = C.take i ++ [p] := by
          rw [List.take_add_one, List.getElem?_eq_getElem hi, ep]
          rfl
        refine ⟨_, rfl, _, _, rfl, rfl, _, rfl, p - 1, n, rfl, rfl, by omega, _, rfl, a, _, rfl, .inr sq2, rfl, flat_ints C, _, rfl, ?_⟩
        show if (!inV (.int ((p - 1).fmod n)) (C.map V.int)) = true then _ else _
        rw [inV_ints, fmod_pos (by omega)]
        by_cases hc : (p - 1) % n ∈ C
        · rw [decide_eq_true hc]
          refine iteF ⟨⟨_, _, ys, rfl, ho, ?_⟩, sm⟩
          have eb : blk1 n C p = none := if_pos hc
          rw [et, List.filterMap_append, List.filterMap_cons_none eb, List.filterMap_nil, List.append_nil]
          exact hd
        · rw [decide_eq_false hc]
          have eb : blk1 n C p = some (p, rl n C p n.toNat 1) := if_neg hc
          refine iteT ⟨fun m σ' H' => ∃ l k, σ' = [some (.int n), some (.ref a), some (.ref o), some (.int p), some (.int l)] ∧ H' = H2 ∧ m = dist n fr ((p + l) % n) ∧ dist n fr ((p + l) % n) ≤ k ∧ rl n C p k l = rl n C p n.toNat 1,
            ⟨_, 1, n.toNat, rfl, rfl, rfl, Nat.le_of_lt (dist_lt hfr (mod_pl (by omega))), rfl⟩, fun m σ' H' hW => ?_⟩
          obtain ⟨l, k', rfl, rfl, rfl, hk', e'⟩ := hW
          refine ⟨_, rfl, _, rfl, _, _, rfl, rfl, _, rfl, p + l, n, rfl, rfl, by omega, _, rfl, a, _, rfl, .inr sq2, rfl, flat_ints C, _, rfl, ?_⟩
          show if inV (.int ((p + l).fmod n)) (C.map V.int) = true then _ else _
          rw [inV_ints, fmod_pos (by omega)]
          by_cases hm : (p + l) % n ∈ C
          · rw [decide_eq_true hm]
            have hne : (p + l) % n ≠ fr := fun z => hfn (z ▸ hm)
            have hst := dist_step hfr (mod_pl (w := p + l) (by omega)) hne
            rw [← mod_next] at hst
            cases k' with
            | zero => omega
            | succ k' =>
              rw [rl_in hm] at e'
              refine iteT ⟨fun σ'' H'' => σ'' = [some (.int n), some (.ref a), some (.ref o), some (.int p), some (.int (l + 1))] ∧ H'' = H', fun σ'' H'' hN => ?_, ?_⟩
              · obtain ⟨rfl, rfl⟩ := hN
                exact ⟨dist n fr ((p + (l + 1)) % n), by omega, l + 1, k', rfl, rfl, rfl, by omega, e'⟩
              · exact ⟨_, rfl, _, _, rfl, rfl, rfl, rfl⟩
          · rw [decide_eq_false hm]
            rw [rl_out hm] at e'
            refine iteF ⟨.ref o, rfl, .inl ⟨rfl, _, SqL.of ho⟩, .int p, rfl, .int l, rfl, by show 2 ≤ sizeLine; decide, fun t nt => ?_⟩
            have st : Sm P H' (upd H' t (.tup [.int p, .int l])) := Sm.new nt
            have ho2 := st.lst ho
            have yl : ys.length ≤ 100 := by
              have q1 := dpAll_len hd
              rw [List.length_map] at q1
              have q2 := List.length_filterMap_le (blk1 n C) (C.take i)
              rw [List.length_take] at q2
              omega
            refine ⟨o, ys, _, rfl, rfl, ho2, small1000 (by omega), ⟨_, _, _, rfl, upd_same, ?_⟩, Sm.put no (sm.trans st) (fun q z => by rw [ho2] at z; cases z)⟩
            have tk8 : TK K (upd H' t (.tup [.int p, .int l])) (upd (upd H' t (.tup [.int p, .int l])) o (.lst (ys ++ [.ref t]))) := tk_lst ho2
            rw [et, List.filterMap_append, List.filterMap_cons_some eb, List.filterMap_nil, List.map_append, ← e']
            exact dpAll_app (dpAll_keep (st.tk.trans tk8) _ _ (noL_map noL_pd _) hd) (.cons (.tup (tk8 _ _ (.inl (.inl upd_same))) (.cons (.int _) (.cons (.int _) .nil))) .nil)
      · obtain ⟨⟨y3, y4, ys, rfl, ho, hd⟩, sm⟩ := hP
        rw [List.length_map, List.take_length] at hd
        refine ⟨_, rfl, q H' o ys sm ho ?_⟩
        unfold blkM
        rw [if_neg c]
        exact hd
theorem compl_isS (n : Int) (S : List Int) : IsS n (compl n S) := ⟨fun z hz => mem_ran.mp (List.mem_filter.mp hz).1, (ran_pw n).sublist List.filter_sublist⟩
def spGaps (K : PySem.W.Frag) (P : Addr) : Sp := fun vs H Q _ => ∃ (n : Int) (x : V) (S : List Int), vs = [.int n, x] ∧ 2 ≤ n ∧ n ≤ 9 ∧ SetV H n x S ∧ TabG H P ∧ ∀ H' v, Sm P H H' → Dp K H' v (.tuple ((blkM n (compl n S)).map pd)) → Q v H'
theorem ran_get {n : Int} {i : Nat} (h : i < n.toNat) : (ran n)[i]? = some (i : Int) := by
  unfold ran
  rw [List.getElem?_map, List.getElem?_range h]
  rfl
theorem ok_gaps {f f1 f2 f3 : Addr} {fd fd1 fd2 fd3 : FuncData} {k : Nat} (F : Fn K mg "gaps" sGaps pGaps f fd) (F1 : Fn K mg "need_size" sNeedSize pNeedSize f1 fd1) (G1 : FnOk prog w K mg base CX0 k f1 fd1 pNeedSize spNeedSize)
    (F2 : Fn K mg "need_set" sNeedSet pNeedSet f2 fd2) (G2 : FnOk prog w K mg base CX0 k f2 fd2 pNeedSet (spNeedSet P)) (F3 : Fn K mg "blocks_of" sBlocks pBlocks f3 fd3) (G3 : FnOk prog w K mg base CX0 k f3 fd3 pBlocks (spBlocks K P)) (B : Bl mg) :
    FnOk prog w K mg base CX0 (k + 1) f fd pGaps (spGaps K P) := by
  refine F.F.ok scGaps (fun vs H Q E h => ?_) (fun cdv A outer s H vs Q E hr h => ?_)
  · obtain ⟨n, x, S, rfl, _⟩ := h
    rfl
  · obtain ⟨n, x, S, rfl, h2, h9, hx, hT, q⟩ := h
    have nd := scGaps.nd
    refine ⟨_, pss_cons (ps_expr (pe_call G1 hr (by rfl) F1.g F1.F.kp F1.b .nil pass0 (pa_cons (pv 0) pa_nil)))
      (pss_cons (ps_expr (pe_call G2 hr (by rfl) F2.g F2.F.kp F2.b .nil pass0 (pa_cons (pv 0) (pa_cons (pv 1) pa_nil))))
      (pss_one (ps_ret (pe_callTy call_tuple_of (by rfl) B.tuple boot_tuple (pa_cons (pe_call G3 hr (by rfl) F3.g F3.F.kp F3.b .nil pass0 (pa_cons (pv 0) (pa_cons
        (pe_callTy call_tuple_of (by rfl) B.tuple boot_tuple (pa_cons (pe_lc (own := [("place", 2)]) (g := gName 2) (tt := tTest (tOp (rIn K true) (tVar 2) (tVar 1))) (te := tVar 2) rfl nd
          (pi_range1 (by rfl) B.range (pa_cons (pv 0) pa_nil)) (blkOk_by (N := nGaps) (sc := defScope sGaps) (by decide +kernel)) (fun _ _ _ _ _ => pg_name (i := 2) nd rfl (.inl rfl))
          (fun _ _ _ _ _ => pts_one (pt_cmpR op_notIn_seq (pv 2) (pv 1) (by rfl))) (fun _ _ _ _ _ => by exact (pv 2))) pa_nil)) pa_nil))) pa_nil))))), ?_⟩
    refine ⟨_, rfl, n, rfl, h2, h9, _, rfl, _, rfl, n, x, S, rfl, h9, hx, hT, fun H1 s1 => ?_⟩
    obtain ⟨a, rfl, sq⟩ := ti_dp (hx.sm s1).sq
    refine ⟨_, rfl, .int n, rfl, n, rfl, by omega, by omega, fun D nD => ?_⟩
    refine lc_it walk_range (fun j Hc => Hc D = some (.lst ((((ran n).take j).filter fun z => decide (¬ z ∈ S)).map V.int)) ∧ Sm P H1 Hc) ⟨upd_same, Sm.new nD⟩ (fun _ _ _ _ => trivial) (fun j v Hc Hc' hj hp hy => ?_) (fun Hc hp => ?_)
    · obtain ⟨hD, sc⟩ := hp
      obtain ⟨rfl, ev⟩ := hy
      obtain rfl : v = V.int (j : Int) := ev.trans (zadd j)
      have sqc : SqT K Hc' a (S.map V.int) := sc.tk _ _ sq
      have et : (ran n).take (j + 1) = (ran n).take j ++ [(j : Int)] := by
        rw [List.take_add_one, ran_get hj]
        rfl
      refine ⟨rfl, .int (j : Int), rfl, .ref a, rfl, a, _, rfl, .inr sqc, rfl, flat_ints S, _, rfl, ?_⟩
      show if (!inV (.int (j : Int)) (S.map V.int)) = true then _ else _
      rw [inV_ints]
      by_cases c : (j : Int) ∈ S
      · rw [decide_eq_true c]
        refine iteF ⟨?_, sc⟩
        have e : ([(j : Int)].filter fun z => decide (¬ z ∈ S)) = [] := by simp [c]
        rw [et, List.filter_append, e, List.append_nil]
        exact hD
      · rw [decide_eq_false c]
        refine iteT ⟨.int (j : Int), rfl, _, hD, ?_, ?_, Sm.put nD sc (fun q z => by rw [hD] at z; cases z)⟩
        · have q := List.length_filter_le (fun z => decide (¬ z ∈ S)) ((ran n).take j)
          rw [List.length_take] at q
          rw [List.length_map]
          exact small1000 (by omega)
        · have e : ([(j : Int)].filter fun z => decide (¬ z ∈ S)) = [(j : Int)] := by simp [c]
          rw [upd_same, et, List.filter_append, e, List.map_append]
          rfl
    · obtain ⟨hD, sc⟩ := hp
      rw [List.take_of_length_le (by rw [ran_len]; exact Nat.le_refl _)] at hD
      refine ⟨D, _, rfl, .inl ⟨SqL.of hD, fun t nt => ?_⟩⟩
      have st := sc.trans (Sm.new (P := P) (o := .tup ((compl n S).map V.int)) nt)
      refine ⟨n, .ref t, compl n S, rfl, h2, h9, ⟨dp_ti (.inl (.inl upd_same)), compl_isS n S⟩, fun H3 p ys s3 hp hd => ?_⟩
      refine ⟨p, ys, rfl, .inl ⟨SqL.of hp, fun r nr => ?_⟩⟩
      have sr : Sm P H3 (upd H3 r (.tup ys)) := Sm.new nr
      exact q _ _ (s1.trans (st.trans (s3.trans sr))) (.tup (.inl (.inl upd_same)) (dpAll_keep sr.tk _ _ (noL_map noL_pd _) hd))
end
end Pk

/-! the law's draws: _law_taken, _law_pick, _law_set -/
namespace Pk
open PySem PySem.Spec PyProof.Rows L2 GxR
/-- the row of the draws at r: the script at a, the turn, the mixed number, the great cell's rest -/
def RowIs (H : Hp) (r a : Addr) : Prop := ∃ i x c : Int, H r = some (.lst [.ref a, .int i, .int x, .int c]) ∧ 0 ≤ i ∧ 0 ≤ x ∧ x < 2147483647
/-- H without the row -/
def hid (H : Hp) (r : Addr) : Hp := fun b => if b = r then none else H b
theorem hid_ne {H : Hp} {r b : Addr} (h : b ≠ r) : hid H r b = H b := if_neg h
theorem hid_some {H : Hp} {r b : Addr} {o : HO} (h : hid H r b = some o) : b ≠ r ∧ H b = some o := by
  by_cases e : b = r
  · have q : hid H r b = none := if_pos e
    rw [q] at h
    cases h
  · rw [hid_ne e] at h
    exact ⟨e, h⟩
/-- the script at a stands whatever the row at r holds -/
def Scr (K : PySem.W.Frag) (H : Hp) (r a : Addr) (zs : List Int) : Prop := SqL K (hid H r) a (zs.map V.int)
theorem Scr.sq {K : PySem.W.Frag} {H : Hp} {r a : Addr} {zs : List Int} (h : Scr K H r a zs) : SqL K H a (zs.map V.int) := by
  rcases h with (h | ⟨o, h⟩) | h
  · exact .inl (.inl (hid_some h).2)
  · exact .inl (.inr ⟨o, (hid_some h).2⟩)
  · exact .inr h
/-- all but the row and tables stands -/
def SmR (r : Addr) (H H' : Hp) : Prop := ∀ b o, b ≠ r → H b = some o → (∀ q, o ≠ .tbl q) → H' b = some o
theorem SmR.refl (r : Addr) (H : Hp) : SmR r H H := fun _ _ _ h _ => h
theorem SmR.trans {r : Addr} {H H1 H2 : Hp} (a : SmR r H H1) (b : SmR r H1 H2) : SmR r H H2 := fun c o n h t => b c o n (a c o n h t) t
theorem Sm.r {P r : Addr} {H H' : Hp} (h : Sm P H H') : SmR r H H' := fun b o _ e t => h.2 b o e t
theorem SmR.row {r : Addr} {H : Hp} {o : HO} : SmR r H (upd H r o) := fun b u n e _ => by rw [upd_ne n]; exact e
theorem SmR.new {r p : Addr} {H : Hp} {o : HO} (h : H p = none) : SmR r H (upd H p o) := fun b u _ e _ => by rw [upd_ne (ne_of_none e h)]; exact e
theorem SmR.put {r p : Addr} {H0 H : Hp} {o : HO} (h : H0 p = none) (a : SmR r H0 H) : SmR r H0 (upd H p o) := fun b u n e t => by rw [upd_ne (ne_of_none e h)]; exact a b u n e t
theorem Scr.go {K : PySem.W.Frag} {H H' : Hp} {r a : Addr} {zs : List Int} (h : Scr K H r a zs) (s : SmR r H H') : Scr K H' r a zs := by
  rcases h with (h | ⟨o, h⟩) | h
  · obtain ⟨n, e⟩ := hid_some h
    exact .inl (.inl (by rw [hid_ne n]; exact s a _ n e (fun q z => nomatch z)))
  · obtain ⟨n, e⟩ := hid_some h
    exact .inl (.inr ⟨o, by rw [hid_ne n]; exact s a _ n e (fun q z => nomatch z)⟩)
  · exact .inr h
theorem RowIs.new {H : Hp} {r a p : Addr} {o : HO} (h : RowIs H r a) (n : H p = none) : RowIs (upd H p o) r a := by
  obtain ⟨i, x, c, e, q⟩ := h
  exact ⟨i, x, c, by rw [upd_ne (ne_of_none e n)]; exact e, q⟩
theorem RowIs.put {H : Hp} {r a p : Addr} {o : HO} (h : RowIs H r a) (n : r ≠ p) : RowIs (upd H p o) r a := by
  obtain ⟨i, x, c, e, q⟩ := h
  exact ⟨i, x, c, by rw [upd_ne n]; exact e, q⟩
theorem RowIs.sm {P : Addr} {H H' : Hp} {r a : Addr} (h : RowIs H r a) (s : Sm P H H') : RowIs H' r a := by
  obtain ⟨i, x, c, e, q⟩ := h
  exact ⟨i, x, c, s.lst e, q⟩
section
variable {prog : Program} {w : World} {K : PySem.W.Frag} {mg : Str → Option Value} {base : Heap} {P : Addr}
/-- a draw below m -/
def spTaken (K : PySem.W.Frag) : Sp := fun vs H Q _ => ∃ (r a : Addr) (zs : List Int) (m : Int), vs = [.ref r, .int m] ∧ RowIs H r a ∧ Scr K H r a zs ∧ 1 ≤ m ∧ m < 1000 ∧
  ∀ (d : Int) H', 0 ≤ d → d < m → RowIs H' r a → (∀ b, b ≠ r → H' b = H b) → Q (.int d) H'
theorem fm {a n : Int} (h : 0 < n) : 0 ≤ a.fmod n ∧ a.fmod n < n := by
  rw [fmod_pos h]
  exact mod_pl h
theorem ok_taken {f : Addr} {fd : FuncData} {k : Nat} (F : Fn K mg "_law_taken" sTaken pTaken f fd) (B : Bl mg) : FnOk prog w K mg base CX0 (k + 1) f fd pTaken (spTaken K) := by
  refine F.F.ok scTaken (fun vs H Q E h => ?_) (fun cdv A outer s H vs Q E hr h => ?_)
  · obtain ⟨r, a, zs, m, rfl, _⟩ := h
    rfl
  · obtain ⟨r, a, zs, m, rfl, ⟨i, x, c, hrow, hi, hx0, hx1⟩, hs, hm1, hm2, q⟩ := h
    have nd := scTaken.nd
    refine ⟨_, pss_cons (ps_if (pt_cmpR op_gt (pe_ix ix_list (pv 0) pe_int (fun _ _ => rfl)) pe_int (nomark _))
        (pss_cons (ps_set (i := 2) nd rfl (.inl rfl) (pe_op op_modN (pe_callTy call_int1 (by rfl) B.int PyProof.Rows.boot_int (pa_cons (pe_ix ix_list (pv 0) pe_int (fun _ _ => rfl)) pa_nil)) (pv 1)))
        (pss_cons (ps_asg (pe_op op_fdivN (pe_ix ix_list (pv 0) pe_int (fun _ _ => rfl)) (pv 1)) (pg_sub (pv 0) pe_int set_list (fun _ => rfl)))
        (pss_one (ps_ret (pv 2))))) pss_nil)
      (pss_cons (ps_asg (pe_op op_add (pe_ix ix_list (pv 0) pe_int (fun _ _ => rfl)) pe_int) (pg_sub (pv 0) pe_int set_list (fun _ => rfl)))
      (pss_cons (ps_if (pt_cmpR op_gt (pe_ix ix_list (pv 0) pe_int (fun _ _ => rfl)) (pe_callB call_len_seq (by rfl) B.len PySem.boot_len (pa_cons (pe_ix ix_list (pv 0) pe_int (fun _ _ => rfl)) pa_nil)) (nomark _))
        (pss_cons (ps_asg (pe_op op_modN (pe_callTy call_int1 (by rfl) B.int PyProof.Rows.boot_int (pa_cons (pe_op op_add (pe_op op_mul (pe_ix ix_list (pv 0) pe_int (fun _ _ => rfl)) pe_int) pe_int) pa_nil)) pe_int) (pg_sub (pv 0) pe_int set_list (fun _ => rfl)))
        (pss_one (ps_ret (pe_op op_modN (pe_callTy call_int1 (by rfl) B.int PyProof.Rows.boot_int (pa_cons (pe_op op_fdivN (pe_ix ix_list (pv 0) pe_int (fun _ _ => rfl)) pe_int) pa_nil)) (pv 1))))) pss_nil)
      (pss_cons (ps_set (i := 3) nd rfl (.inl rfl) (pe_ix ix_list (pe_ix ix_list (pv 0) pe_int (fun _ _ => rfl)) (pe_op op_sub (pe_ix ix_list (pv 0) pe_int (fun _ _ => rfl)) pe_int) (fun _ _ => rfl)))
      (pss_cons (ps_asg (pe_op op_modN (pe_callTy call_int1 (by rfl) B.int PyProof.Rows.boot_int (pa_cons (pe_op op_add (pe_op op_add (pe_op op_mul (pe_ix ix_list (pv 0) pe_int (fun _ _ => rfl)) pe_int) (pv 3)) pe_int) pa_nil)) pe_int) (pg_sub (pv 0) pe_int set_list (fun _ => rfl)))
      (pss_cons (ps_if (pt_cmpR op_ge (pv 3) (pe_op op_pow pe_int pe_int) (nomark _)) (pss_one (ps_asg (pe_op op_fdivN (pv 3) (pv 1)) (pg_sub (pv 0) pe_int set_list (fun _ => rfl)))) pss_nil)
      (pss_one (ps_ret (pe_op op_modN (pe_callTy call_int1 (by rfl) B.int PyProof.Rows.boot_int (pa_cons (pv 3) pa_nil)) (pv 1))))))))), ?_⟩
    have keep : ∀ {H1 : Hp} {o : HO}, (∀ b, b ≠ r → H1 b = H b) → ∀ b, b ≠ r → upd H1 r o b = H b := fun hk b n => by
      rw [upd_ne n]
      exact hk b n
    have hs' : ∀ {H1 : Hp}, (∀ b, b ≠ r → H1 b = H b) → SqL K H1 a (zs.map V.int) := fun {H1} hk => (hs.go (H' := H1) (fun b o n e _ => by rw [hk b n]; exact e)).sq
    refine ⟨_, rfl, r, _, 3, .int c, rfl, rfl, SqL.of hrow, rfl, c, 0, rfl, rfl, _, rfl, ?_⟩
    by_cases c0 : 0 < c
    · rw [decide_eq_true c0]
      refine iteT ⟨_, rfl, r, _, 3, .int c, rfl, rfl, SqL.of hrow, rfl, .inl ⟨c, rfl, _, rfl, c, m, rfl, rfl, by omega, ?_⟩⟩
      refine ⟨_, rfl, r, _, 3, .int c, rfl, rfl, SqL.of hrow, rfl, _, rfl, c, m, rfl, rfl, ⟨by omega, by omega⟩, _, rfl, r, _, 3, 3, rfl, rfl, hrow, rfl, ?_⟩
      have d := fm (a := c) (n := m) (by omega)
      exact ⟨_, rfl, q _ _ d.1 d.2 ⟨i, x, _, upd_same, hi, hx0, hx1⟩ (keep fun _ _ => rfl)⟩
    · rw [decide_eq_false c0]
      refine iteF ⟨_, rfl, r, _, 1, .int i, rfl, rfl, SqL.of hrow, rfl, i, 1, rfl, rfl, _, rfl, r, _, 1, 1, rfl, rfl, hrow, rfl, ?_⟩
      have hr1 : upd H r (.lst [.ref a, .int (i + 1), .int x, .int c]) r = some (.lst [.ref a, .int (i + 1), .int x, .int c]) := upd_same
      have k1 : ∀ b, b ≠ r → upd H r (.lst [.ref a, .int (i + 1), .int x, .int c]) b = H b := keep fun _ _ => rfl
      show tSeq _ _ _ _ (upd H r (.lst [.ref a, .int (i + 1), .int x, .int c]))
      generalize upd H r (.lst [.ref a, .int (i + 1), .int x, .int c]) = H1 at *
      have s1 := hs' k1
      refine ⟨_, rfl, r, _, 1, .int (i + 1), rfl, rfl, SqL.of hr1, rfl, _, rfl, r, _, 0, .ref a, rfl, rfl, SqL.of hr1, rfl, a, _, rfl, .inl s1, i + 1, _, rfl, rfl, _, rfl, ?_⟩
      by_cases c1 : ((zs.map V.int).length : Int) < i + 1
      · rw [decide_eq_true c1]
        refine iteT ⟨_, rfl, r, _, 2, .int x, rfl, rfl, SqL.of hr1, rfl, x, 48271, rfl, rfl, .inl ⟨by omega, by omega⟩, x * 48271, 11, rfl, rfl, .inl ⟨_, rfl, _, 2147483647, rfl, rfl, by omega, ?_⟩⟩
        refine ⟨_, rfl, r, _, 2, 2, rfl, rfl, hr1, rfl, ?_⟩
        have d2 := fm (a := x * 48271 + 11) (n := 2147483647) (by omega)
        have hr2 : upd H1 r (.lst [.ref a, .int (i + 1), .int ((x * 48271 + 11).fmod 2147483647), .int c]) r = some (.lst [.ref a, .int (i + 1), .int ((x * 48271 + 11).fmod 2147483647), .int c]) := upd_same
        have k2 : ∀ b, b ≠ r → upd H1 r (.lst [.ref a, .int (i + 1), .int ((x * 48271 + 11).fmod 2147483647), .int c]) b = H b := keep k1
        have d := fm (a := ((x * 48271 + 11).fmod 2147483647).fdiv 7) (n := m) (by omega)
        exact ⟨_, rfl, r, _, 2, .int ((x * 48271 + 11).fmod 2147483647), rfl, rfl, SqL.of hr2, rfl, _, 7, rfl, rfl, ⟨by omega, by decide⟩, .inl ⟨_, rfl, _, rfl, _, m, rfl, rfl, by omega, q _ _ d.1 d.2 ⟨_, _, _, hr2, by omega, d2.1, d2.2⟩ k2⟩⟩
      · rw [decide_eq_false c1]
        rw [List.length_map] at c1
        have hz : zs[i.toNat]? = some zs[i.toNat]! := by
          rw [List.getElem!_eq_getElem?_getD, List.getElem?_eq_getElem (show i.toNat < zs.length by omega)]
          rfl
        generalize zs[i.toNat]! = z at hz
        have ez : (zs.map V.int)[i.toNat]? = some (.int z) := by
          rw [List.getElem?_map, hz]
          rfl
        refine iteF ⟨_, rfl, r, _, 0, .ref a, rfl, rfl, SqL.of hr1, rfl, _, rfl, r, _, 1, .int (i + 1), rfl, rfl, SqL.of hr1, rfl, i + 1, 1, rfl, rfl, a, _, i + 1 - 1, .int z, rfl, rfl, s1, at_of (by omega) ez, ?_⟩
        refine ⟨_, rfl, r, _, 2, .int x, rfl, rfl, SqL.of hr1, rfl, x, 48271, rfl, rfl, .inl ⟨by omega, by omega⟩, _, rfl, x * 48271, z, rfl, rfl, x * 48271 + z, 11, rfl, rfl, .inl ⟨_, rfl, _, 2147483647, rfl, rfl, by omega, ?_⟩⟩
        refine ⟨_, rfl, r, _, 2, 2, rfl, rfl, hr1, rfl, ?_⟩
        have d2 := fm (a := x * 48271 + z + 11) (n := 2147483647) (by omega)
        have hr2 : upd H1 r (.lst [.ref a, .int (i + 1), .int ((x * 48271 + z + 11).fmod 2147483647), .int c]) r = some (.lst [.ref a, .int (i + 1), .int ((x * 48271 + z + 11).fmod 2147483647), .int c]) := upd_same
        have k2 : ∀ b, b ≠ r → upd H1 r (.lst [.ref a, .int (i + 1), .int ((x * 48271 + z + 11).fmod 2147483647), .int c]) b = H b := keep k1
        have d := fm (a := z) (n := m) (by omega)
        refine ⟨_, rfl, 10, 18, rfl, rfl, ⟨by decide, by decide, by decide⟩, z, _, rfl, rfl, _, rfl, ?_⟩
        refine ite2 (fun _ => ?_) (fun _ => ?_)
        · refine ⟨_, rfl, _, rfl, z, m, rfl, rfl, ⟨by omega, by omega⟩, _, rfl, r, _, 3, 3, rfl, rfl, hr2, rfl, ?_⟩
          exact ⟨_, rfl, .inl ⟨z, rfl, _, rfl, z, m, rfl, rfl, by omega, q _ _ d.1 d.2 ⟨_, _, _, upd_same, by omega, d2.1, d2.2⟩ (keep k2)⟩⟩
        · exact ⟨_, rfl, .inl ⟨z, rfl, _, rfl, z, m, rfl, rfl, by omega, q _ _ d.1 d.2 ⟨_, _, _, hr2, by omega, d2.1, d2.2⟩ k2⟩⟩
end
end Pk

/-! _law_pick, _law_set -/
namespace Pk
open PySem PySem.Spec PyProof.Rows L2 GxR
theorem smR_of {r : Addr} {H H' : Hp} (h : ∀ b, b ≠ r → H' b = H b) : SmR r H H' := fun b o n e _ => by rw [h b n]; exact e
/-- the places from f on, m of them, m less than n: unlike -/
theorem rot_nodup {n f : Int} (hn : 0 < n) : ∀ m : Nat, (m : Int) ≤ n → ((List.range m).map fun i : Nat => (f + (i : Int)) % n).Nodup := by
  intro m hm
  refine List.pairwise_map.mpr ((List.pairwise_lt_range (n := m)).imp_of_mem ?_)
  intro i j hi hj hij e
  have hj' := List.mem_range.mp hj
  have h := Int.emod_emod_of_dvd
  have e2 : (f + (j : Int) - (f + (i : Int))) % n = 0 := by
    rw [Int.sub_emod, ← e, Int.sub_self, Int.zero_emod]
  have e3 : f + (j : Int) - (f + (i : Int)) = (j : Int) - i := by omega
  rw [e3, Int.emod_eq_of_lt (by omega) (by omega)] at e2
  omega
section
variable {prog : Program} {w : World} {K : PySem.W.Frag} {mg : Str → Option Value} {base : Heap} {P : Addr}
def spPick (K : PySem.W.Frag) : Sp := fun vs H Q _ => ∃ (r a l : Addr) (zs : List Int) (xs : List V), vs = [.ref r, .ref l] ∧ RowIs H r a ∧ Scr K H r a zs ∧ H l = some (.lst xs) ∧ l ≠ r ∧ xs ≠ [] ∧ xs.length < 1000 ∧
  ∀ (x : V) H', x ∈ xs → RowIs H' r a → (∀ b, b ≠ r → H' b = H b) → Q x H'
theorem ok_pick {f f1 : Addr} {fd fd1 : FuncData} {k : Nat} (F : Fn K mg "_law_pick" sPick pPick f fd) (F1 : Fn K mg "_law_taken" sTaken pTaken f1 fd1) (G1 : FnOk prog w K mg base CX0 k f1 fd1 pTaken (spTaken K)) (B : Bl mg) :
    FnOk prog w K mg base CX0 (k + 1) f fd pPick (spPick K) := by
  refine F.F.ok scPick (fun vs H Q E h => ?_) (fun cdv A outer s H vs Q E hr h => ?_)
  · obtain ⟨r, a, l, zs, xs, rfl, _⟩ := h
    rfl
  · obtain ⟨r, a, l, zs, xs, rfl, hrow, hs, hl, nlr, hne, hlen, q⟩ := h
    refine ⟨_, pss_one (ps_ret (pe_ix ix_list (pv 1) (pe_call G1 hr (by rfl) F1.g F1.F.kp F1.b .nil pass0 (pa_cons (pv 0) (pa_cons (pe_callB call_len_seq (by rfl) B.len PySem.boot_len (pa_cons (pv 1) pa_nil)) pa_nil))) (fun _ _ => rfl))), ?_⟩
    have hp : 0 < xs.length := List.length_pos_iff.mpr hne
    refine ⟨_, rfl, _, rfl, _, rfl, l, xs, rfl, .inl (SqL.of hl), r, a, zs, (xs.length : Int), rfl, hrow, hs, by omega, by omega, fun d H' d0 d1 row' keep => ?_⟩
    have hl' : H' l = some (.lst xs) := by rw [keep l nlr]; exact hl
    have hd : xs[d.toNat]? = some (xs[d.toNat]'(by omega)) := List.getElem?_eq_getElem _
    exact ⟨l, xs, d, _, rfl, rfl, SqL.of hl', at_of (by omega) hd, q _ H' (List.getElem_mem _) row' keep⟩
def spLSet (K : PySem.W.Frag) : Sp := fun vs H Q _ => ∃ (r a : Addr) (zs : List Int) (n : Int), vs = [.ref r, .int n] ∧ 2 ≤ n ∧ n ≤ 9 ∧ RowIs H r a ∧ Scr K H r a zs ∧
  ∀ (p : Addr) (ns : List Int) H', IsS n ns → H' p = some (.tup (ns.map V.int)) → RowIs H' r a → SmR r H H' → (∀ q, H r ≠ some (.tbl q)) → (TabG H P → TabG H' P) → Q (.ref p) H'
theorem tabR {P r : Addr} {H H' : Hp} (hr : ∀ q, H r ≠ some (.tbl q)) (h : ∀ b, b ≠ r → H' b = H b) : TabG H P → TabG H' P := fun ⟨ps, e, t⟩ => ⟨ps, by rw [h P (fun z => hr ps (by rw [← z]; exact e))]; exact e, t⟩
theorem tabN {P p : Addr} {H : Hp} {o : HO} (h : H p = none) : TabG H P → TabG (upd H p o) P := fun ⟨ps, e, t⟩ => ⟨ps, by rw [upd_ne (ne_of_none e h)]; exact e, t⟩
theorem RowIs.noT {H : Hp} {r a : Addr} (h : RowIs H r a) : ∀ q, H r ≠ some (.tbl q) := fun q z => by
  obtain ⟨i, x, c, e, _⟩ := h
  rw [e] at z
  cases z
theorem tabL {P p : Addr} {H : Hp} {o : HO} {xs : List V} (h : H p = some (.lst xs)) : TabG H P → TabG (upd H p o) P := fun ⟨ps, e, t⟩ => ⟨ps, by rw [upd_ne (fun z => by rw [z, h] at e; cases e)]; exact e, t⟩
theorem ok_lset {f f1 : Addr} {fd fd1 : FuncData} {k : Nat} (F : Fn K mg "_law_set" sLSet pLSet f fd) (F1 : Fn K mg "_law_taken" sTaken pTaken f1 fd1) (G1 : FnOk prog w K mg base CX0 k f1 fd1 pTaken (spTaken K)) (B : Bl mg) :
    FnOk prog w K mg base CX0 (k + 1) f fd pLSet (spLSet (P := P) K) := by
  refine F.F.ok scLSet (fun vs H Q E h => ?_) (fun cdv A outer s H vs Q E hr h => ?_)
  · obtain ⟨r, a, zs, n, rfl, _⟩ := h
    rfl
  · obtain ⟨r, a, zs, n, rfl, h2, h9, hrow, hs, q⟩ := h
    have nd := scLSet.nd
    refine ⟨_, pss_cons (ps_set (i := 2) nd rfl (.inr rfl) (pe_call G1 hr (by rfl) F1.g F1.F.kp F1.b .nil pass0 (pa_cons (pv 0) (pa_cons pe_int pa_nil))))
      (pss_cons (ps_if (pt_cmpR op_eq (pv 2) pe_int (nomark _))
        (pss_cons (ps_asg (pe_tup (pa_cons (pe_call G1 hr (by rfl) F1.g F1.F.kp F1.b .nil pass0 (pa_cons (pv 0) (pa_cons (pv 1) pa_nil))) (pa_cons (pe_call G1 hr (by rfl) F1.g F1.F.kp F1.b .nil pass0 (pa_cons (pv 0) (pa_cons (pv 1) pa_nil))) pa_nil)))
            (pg_tup rfl (pgs_cons (pg_name (i := 3) nd rfl (.inr rfl)) (pgs_cons (pg_name (i := 4) nd rfl (.inl rfl)) pgs_nil))))
        (pss_one (ps_ret (pe_callTy call_tuple_of (by rfl) B.tuple boot_tuple (pa_cons (pe_callB cr_sortedI (by rfl) B.sorted boot_sorted (pa_cons
          (pe_lc (own := [("_law_k", 5)]) (g := gName 5) (tt := tYes) (te := tOp (rI (fun _ j => j ≠ 0) fun i j => .int (i.fmod j)) (tOp (rI0 fun i j => .int (i + j)) (tVar 3) (tVar 5)) (tVar 1)) rfl nd
            (pi_range1 (by rfl) B.range (pa_cons (pv 4) pa_nil)) (blkOk_by (N := nLSet) (sc := defScope sLSet) (by decide +kernel)) (fun _ _ _ _ _ => pg_name (i := 5) nd rfl (.inl rfl)) (fun _ _ _ _ _ => pts_nil)
            (fun _ _ _ _ _ => by exact (pe_op op_modN (pe_op op_add (pv 3) (pv 5)) (pv 1)))) pa_nil)) pa_nil))))) pss_nil)
      (pss_one (ps_ret (pe_callTy call_tuple_of (by rfl) B.tuple boot_tuple (pa_cons
          (pe_lc (own := [("_law_place", 6)]) (g := gName 6) (tt := tTest (tOp (rI0 fun i j => .bl (decide (i < j))) (tCall (spTaken K) [] E0 (tCons (tVar 0) (tCons (tC (.int 3)) tNil))) (tVar 2))) (te := tVar 6) rfl nd
            (pi_range1 (by rfl) B.range (pa_cons (pv 1) pa_nil)) (blkOk_by (N := nLSet) (sc := defScope sLSet) (by decide +kernel)) (fun _ _ _ _ _ => pg_name (i := 6) nd rfl (.inl rfl))
            (fun _ _ _ _ _ => pts_one (by exact (pt_cmpR op_lt (pe_call G1 hr (by rfl) F1.g F1.F.kp F1.b .nil pass0 (pa_cons (pv 0) (pa_cons pe_int pa_nil))) (pv 2) (nomark _))))
            (fun _ _ _ _ _ => by exact (pv 6))) pa_nil))))), ?_⟩
    refine ⟨_, rfl, r, a, zs, 4, rfl, hrow, hs, by decide, by decide, fun d H1 d0 d1 row1 k1 => ?_⟩
    have hs1 := hs.go (smR_of k1)
    have t1 : TabG H P → TabG H1 P := tabR hrow.noT k1
    refine ⟨_, rfl, rfl, _, rfl, ite2 (fun _ => ?_) (fun _ => ?_)⟩
    · refine ⟨_, rfl, _, rfl, r, a, zs, n, rfl, row1, hs1, by omega, by omega, fun f' H2 f0 f1 row2 k2 => ?_⟩
      have hs2 := hs1.go (smR_of k2)
      refine ⟨_, rfl, _, rfl, r, a, zs, n, rfl, row2, hs2, by omega, by omega, fun m H3 m0 m1 row3 k3 => ⟨by show 2 ≤ sizeLine; decide, fun t nt => ?_⟩⟩
      have s3 : SmR r H H3 := (smR_of k1).trans ((smR_of k2).trans (smR_of k3))
      have t3 : TabG H P → TabG H3 P := fun g => tabR row2.noT k3 (tabR row1.noT k2 (t1 g))
      have s4 : SmR r H (upd H3 t (.tup [.int f', .int m])) := s3.trans (SmR.new nt)
      have t4 : TabG H P → TabG (upd H3 t (.tup [.int f', .int m])) P := fun g => tabN nt (t3 g)
      have row4 : RowIs (upd H3 t (.tup [.int f', .int m])) r a := row3.new nt
      refine ⟨t, [.int f', .int m], rfl, .inl (.inl upd_same), rfl, .int f', [.int m], rfl, .int m, [], rfl, rfl, ?_⟩
      generalize upd H3 t (.tup [.int f', .int m]) = H4 at *
      refine ⟨_, rfl, m, rfl, by omega, by omega, fun D nD => ?_⟩
      refine lc_it walk_range (fun j Hc => Hc D = some (.lst (((List.range j).map fun i : Nat => (f' + (i : Int)) % n).map V.int)) ∧ RowIs Hc r a ∧ SmR r H4 Hc ∧ (TabG H4 P → TabG Hc P)) ⟨upd_same, row4.new nD, SmR.new nD, tabN nD⟩ (fun _ _ _ _ => trivial) (fun j v Hc Hc' hj hp hy => ?_) (fun Hc hp => ?_)
      · obtain ⟨hD, rowc, sc, tc⟩ := hp
        obtain ⟨rfl, ev⟩ := hy
        obtain rfl : v = V.int (j : Int) := ev.trans (zadd j)
        refine ⟨rfl, ?_⟩
        refine ⟨_, rfl, _, rfl, f', (j : Int), rfl, rfl, _, rfl, f' + (j : Int), n, rfl, rfl, by omega, _, hD, ?_, ?_, ?_, SmR.put nD sc, fun g => tabL hD (tc g)⟩
        · rw [List.length_map, List.length_map, List.length_range]
          exact small1000 (by omega)
        · rw [upd_same, List.range_succ, List.map_append, List.map_append]
          show some (HO.lst (_ ++ [V.int ((f' + (j : Int)).fmod n)])) = _
          rw [fmod_pos (by omega)]
          rfl
        · refine rowc.put fun e => ?_
          obtain ⟨i0, x0, c0, er, _⟩ := row4
          rw [← e, er] at nD
          cases nD
      · obtain ⟨hD, rowc, sc, tc⟩ := hp
        refine ⟨D, _, rfl, SqL.of hD, fun ns' o pm pw no => ⟨o, _, rfl, .inl ⟨SqL.of upd_same, fun p np => ?_⟩⟩⟩
        have hnd : ns'.Nodup := pm.nodup_iff.mpr (rot_nodup (by omega) m.toNat (by omega))
        refine q p ns' _ ⟨fun z hz => ?_, pw_lt pw hnd⟩ upd_same ((rowc.new no).new np) (s4.trans (sc.trans ((SmR.new no).trans (SmR.new np)))) hrow.noT fun g => tabN np (tabN no (tc (t4 g)))
        obtain ⟨i, _, rfl⟩ := List.mem_map.mp (pm.mem_iff.mp hz)
        exact mod_pl (by omega)
    · refine ⟨_, rfl, n, rfl, by omega, by omega, fun D nD => ?_⟩
      have nDr : D ≠ r := fun e => by
        obtain ⟨i0, x0, c0, er, _⟩ := row1
        rw [e, er] at nD
        cases nD
      refine lc_it walk_range (fun j Hc => (∃ ns : List Int, Hc D = some (.lst (ns.map V.int)) ∧ IsS (j : Int) ns) ∧ RowIs Hc r a ∧ SmR r H1 Hc ∧ (TabG H1 P → TabG Hc P)) ⟨⟨[], upd_same, isS_nil _⟩, row1.new nD, SmR.new nD, tabN nD⟩ (fun _ _ _ _ => trivial) (fun j v Hc Hc' hj hp hy => ?_) (fun Hc hp => ?_)
      · obtain ⟨⟨ns, hD, hns⟩, rowc, sc, tc⟩ := hp
        obtain ⟨rfl, ev⟩ := hy
        obtain rfl : v = V.int (j : Int) := ev.trans (zadd j)
        refine ⟨rfl, _, rfl, r, a, zs, 3, rfl, rowc, hs1.go sc, by decide, by decide, fun e Hd e0 e1 rowd kd => ?_⟩
        have hDd : Hd D = some (.lst (ns.map V.int)) := by rw [kd D nDr]; exact hD
        have sd := sc.trans (smR_of kd)
        have td : TabG H1 P → TabG Hd P := fun g => tabR rowc.noT kd (tc g)
        refine ⟨_, rfl, _, _, rfl, rfl, _, rfl, ite2 (fun _ => ?_) (fun _ => ?_)⟩
        · refine ⟨_, rfl, _, hDd, ?_, ⟨ns ++ [(j : Int)], ?_, ?_⟩, rowd.put nDr.symm, SmR.put nD sd, fun g => tabL hDd (td g)⟩
          · have := isS_len hns
            rw [List.length_map]
            exact small1000 (by omega)
          · rw [upd_same, List.map_append]
            rfl
          · refine ⟨fun z hz => ?_, List.pairwise_append.mpr ⟨hns.2, List.pairwise_singleton _ _, fun x hx y hy => ?_⟩⟩
            · rcases List.mem_append.mp hz with z' | z'
              · have := hns.1 z z'
                omega
              · have : z = (j : Int) := by simpa using z'
                omega
            · have h1 := hns.1 x hx
              have h2 : y = (j : Int) := by simpa using hy
              omega
        · refine ⟨⟨ns, hDd, fun z hz => ?_, hns.2⟩, rowd, sd, td⟩
          have := hns.1 z hz
          omega
      · obtain ⟨⟨ns, hD, hns⟩, rowc, sc, tc⟩ := hp
        have en : ((n.toNat : Nat) : Int) = n := by omega
        rw [en] at hns
        exact ⟨D, _, rfl, .inl ⟨SqL.of hD, fun p np => q p ns _ hns upd_same (rowc.new np) ((smR_of k1).trans (sc.trans (SmR.new np))) hrow.noT fun g => tabN np (tc (t1 g))⟩⟩
end
end Pk

/-! _law_alike: True where both stand for the same datum -/
namespace Pk
open PySem PySem.Spec PyProof.Rows L2 GxR
/-- None, ints, tuples of such to a depth -/
def okD : Nat → PyData → Prop
  | 0, d => d = .none ∨ ∃ i, d = .int i
  | m + 1, d => (d = .none ∨ ∃ i, d = .int i) ∨ ∃ ds, d = .tuple ds ∧ noLAll ds = true ∧ ds.length ≤ 1000 ∧ ∀ e ∈ ds, okD m e
def spA (K : PySem.W.Frag) (P : Addr) : Nat → Sp
  | 0 => fun _ _ _ _ => False
  | m + 1 => fun vs H Q _ => ∃ (x y : V) (d : PyData), vs = [x, y] ∧ okD m d ∧ Dp K H x d ∧ Dp K H y d ∧ ∀ H', Sm P H H' → Q (.bl true) H'
section
variable {prog : Program} {w : World} {K : PySem.W.Frag} {mg : Str → Option Value} {base : Heap} {P : Addr}
theorem noL_mem : ∀ {ds : List PyData} {d : PyData}, noLAll ds = true → d ∈ ds → noL d = true
  | e :: ds, d, h, m => by
    have h' : noL e = true ∧ noLAll ds = true := by simpa [noLAll] using h
    rcases List.mem_cons.mp m with z | z
    · rw [z]
      exact h'.1
    · exact noL_mem h'.2 z
theorem k2 {t : String} {b1 b2 : Bool} (h1 : kitB t "tuple" = some b1) (h2 : kitB t "list" = some b2) : PySem.W.kitAny K (.type t) [.type "tuple", .type "list"] = some (b1 || b2) := by
  refine kitAny_cons (kit_ty h1) (fun e => ?_) (fun e => by rw [e]; rfl)
  subst e
  refine kitAny_cons (kit_ty h2) (fun e => ?_) (fun e => by rw [e]; rfl)
  subst e
  rfl
theorem ok_alike {f : Addr} {fd : FuncData} (F : Fn K mg "_law_alike" sAlike pAlike f fd) (B : Bl mg) : ∀ m : Nat, FnOk prog w K mg base CX0 m f fd pAlike (spA K P m)
  | 0 => ⟨fun _ _ _ _ h => h.elim, fun _ _ _ _ _ _ _ _ _ _ _ _ _ h => h.elim⟩
  | m + 1 => by
    have G := ok_alike F B m
    refine F.F.ok scAlike (fun vs H Q E h => ?_) (fun cdv A outer s H vs Q E hr h => ?_)
    · obtain ⟨x, y, d, rfl, _⟩ := h
      rfl
    · obtain ⟨x, y, d, rfl, hok, hx, hy, q⟩ := h
      have nd := scAlike.nd
      refine ⟨_, pss_cons (ps_if (pt_val (pe_callB call_isiT (by rfl) B.isinstance boot_isinstance (pa_cons (pv 1) (pa_cons (pe_tup (pa_cons (pe_bltn (v := .ty "tuple") (by rfl) B.tuple (by decide +kernel) rfl) (pa_cons (pe_bltn (v := .ty "list") (by rfl) B.list (by decide +kernel) rfl) pa_nil))) pa_nil))))
          (pss_cons (ps_if (PW.pt (pw_or (pt_not (pt_val (pe_callB call_isiT (by rfl) B.isinstance boot_isinstance (pa_cons (pv 0) (pa_cons (pe_tup (pa_cons (pe_bltn (v := .ty "tuple") (by rfl) B.tuple (by decide +kernel) rfl) (pa_cons (pe_bltn (v := .ty "list") (by rfl) B.list (by decide +kernel) rfl) pa_nil))) pa_nil)))))
              (pw_or1 (pt_cmpR op_ne (pe_callB call_isi (by rfl) B.isinstance boot_isinstance (pa_cons (pv 0) (pa_cons (pe_bltn (v := .ty "list") (by rfl) B.list (by decide +kernel) rfl) pa_nil)))
                (pe_callB call_isi (by rfl) B.isinstance boot_isinstance (pa_cons (pv 1) (pa_cons (pe_bltn (v := .ty "list") (by rfl) B.list (by decide +kernel) rfl) pa_nil))) (nomark _))))) (pss_one ps_never) pss_nil)
          (pss_cons (ps_if (pt_cmpR op_ne (pe_callB call_len_seq (by rfl) B.len PySem.boot_len (pa_cons (pv 0) pa_nil)) (pe_callB call_len_seq (by rfl) B.len PySem.boot_len (pa_cons (pv 1) pa_nil)) (nomark _)) (pss_one ps_never) pss_nil)
          (pss_one (ps_ret (pe_cmpR (op_eqN hr.units)
            (pe_lc (own := [("_law_k", 2)]) (g := gName 2) (tt := tNot (tB (tCall (spA K P m) [] E0 (tCons (tOp (rIxT K) (tVar 0) (tVar 2)) (tCons (tOp (rIxT K) (tVar 1) (tVar 2)) tNil))))) (te := tVar 2) rfl nd
              (pi_range1 (by rfl) B.range (pa_cons (pe_callB call_len_seq (by rfl) B.len PySem.boot_len (pa_cons (pv 1) pa_nil)) pa_nil)) (blkOk_by (N := nAlike) (sc := defScope sAlike) (by decide +kernel))
              (fun _ _ _ _ _ => pg_name (i := 2) nd rfl (.inl rfl))
              (fun _ _ _ _ _ => pts_one (by exact (pt_not (pt_val (pe_call G hr (by rfl) F.g F.F.kp F.b .nil pass0 (pa_cons (pe_ix ix_tup (pv 0) (pv 2) (fun _ _ => rfl)) (pa_cons (pe_ix ix_tup (pv 1) (pv 2) (fun _ _ => rfl)) pa_nil)))))))
              (fun _ _ _ _ _ => by exact (pv 2))) (pe_lst pa_nil) (nomark _)))))) pss_nil)
        (pss_cons (ps_if (PW.pt (pw_or (pt_cmp (pc_isN (pv 1)) rfl) (pw_or1 (pt_val (pe_callB call_isi (by rfl) B.isinstance boot_isinstance (pa_cons (pv 1) (pa_cons (pe_bltn (v := .ty "str") (by rfl) B.str (by decide +kernel) rfl) pa_nil)))))))
          (pss_one (ps_ret (pe_and (pe_cmpR op_eq (pv 0) (pv 1) (nomark _)) (pe_one (pe_cmpR op_eq (pe_callB call_isi (by rfl) B.isinstance boot_isinstance (pa_cons (pv 0) (pa_cons (pe_bltn (v := .ty "str") (by rfl) B.str (by decide +kernel) rfl) pa_nil)))
            (pe_callB call_isi (by rfl) B.isinstance boot_isinstance (pa_cons (pv 1) (pa_cons (pe_bltn (v := .ty "str") (by rfl) B.str (by decide +kernel) rfl) pa_nil))) (nomark _)))))) pss_nil)
        (pss_one (ps_ret (pe_and (pe_callB call_isi (by rfl) B.isinstance boot_isinstance (pa_cons (pv 0) (pa_cons (pe_bltn (v := .ty "int") (by rfl) B.int (by decide +kernel) rfl) pa_nil)))
          (pe_and (pe_cmpR op_eq (pe_callB call_isi (by rfl) B.isinstance boot_isinstance (pa_cons (pv 0) (pa_cons (pe_bltn (v := .ty "bool") (by rfl) B.bool (by decide +kernel) rfl) pa_nil)))
            (pe_callB call_isi (by rfl) B.isinstance boot_isinstance (pa_cons (pv 1) (pa_cons (pe_bltn (v := .ty "bool") (by rfl) B.bool (by decide +kernel) rfl) pa_nil))) (nomark _))
          (pe_one (pe_cmpR op_eq (pv 0) (pv 1) (nomark _)))))))), ?_⟩
      have leaf : (d = .none ∨ ∃ i, d = .int i) ∨ ∃ (m' : Nat) (ds : List PyData), m = m' + 1 ∧ d = .tuple ds ∧ noLAll ds = true ∧ ds.length ≤ 1000 ∧ ∀ e ∈ ds, okD m' e := by
        cases m with
        | zero => exact .inl hok
        | succ m' =>
          rcases hok with h | ⟨ds, h⟩
          · exact .inl h
          · exact .inr ⟨m', ds, rfl, h⟩
      rcases leaf with (rfl | ⟨i, rfl⟩) | ⟨m', ds, rfl, rfl, hn, hl, hd⟩
      · cases hx
        cases hy
        refine ⟨_, rfl, by show 2 ≤ sizeLine; decide, fun tp ntp => ?_⟩
        have st : Sm P H (upd H tp (.tup [.ty "tuple", .ty "list"])) := Sm.new ntp
        refine ⟨_, tp, _, .type "NoneType", _, false, rfl, upd_same, .cons (.ty _) (.cons (.ty _) .nil), .base .non, k2 (b1 := false) (b2 := false) (by decide +kernel) (by decide +kernel), _, rfl, iteF ?_⟩
        refine ⟨_, rfl, _, rfl, ?_⟩
        rw [decide_eq_true (rfl : V.non = V.non)]
        refine iteT ?_
        refine ⟨_, rfl, _, rfl, rfl, _, rfl, ?_⟩
        rw [decide_eq_true (rfl : V.non = V.non)]
        refine iteT ⟨_, rfl, _, _, .type "NoneType", .type "str", false, rfl, .ty _, .base .non, kit_ty (by decide +kernel), _, rfl, _, _, .type "NoneType", .type "str", false, rfl, .ty _, .base .non, kit_ty (by decide +kernel), rfl, ?_⟩
        rw [decide_eq_true (rfl : V.bl false = V.bl false)]
        exact q _ st
      · cases hx
        cases hy
        refine ⟨_, rfl, by show 2 ≤ sizeLine; decide, fun tp ntp => ?_⟩
        have st : Sm P H (upd H tp (.tup [.ty "tuple", .ty "list"])) := Sm.new ntp
        refine ⟨_, tp, _, .type "int", _, false, rfl, upd_same, .cons (.ty _) (.cons (.ty _) .nil), .base (.int _), k2 (b1 := false) (b2 := false) (by decide +kernel) (by decide +kernel), _, rfl, iteF ?_⟩
        refine ⟨_, rfl, _, rfl, ?_⟩
        rw [decide_eq_false (fun z : V.int i = V.non => nomatch z)]
        refine iteF ⟨_, rfl, _, _, .type "int", .type "str", false, rfl, .ty _, .base (.int _), kit_ty (by decide +kernel), _, rfl, iteF ?_⟩
        refine ⟨_, rfl, _, _, .type "int", .type "int", true, rfl, .ty _, .base (.int _), kit_ty (by decide +kernel), _, rfl, iteT ?_⟩
        refine ⟨_, rfl, _, _, .type "int", .type "bool", false, rfl, .ty _, .base (.int _), kit_ty (by decide +kernel), _, rfl, _, _, .type "int", .type "bool", false, rfl, .ty _, .base (.int _), kit_ty (by decide +kernel), rfl, _, rfl, ?_⟩
        rw [decide_eq_true (rfl : V.bl false = V.bl false)]
        refine iteT ⟨_, rfl, _, rfl, rfl, ?_⟩
        rw [decide_eq_true (rfl : V.int i = V.int i)]
        exact q _ st
      · obtain ⟨ax, xs, rfl, sx, dx⟩ : ∃ ax xs, x = .ref ax ∧ SqT K H ax xs ∧ DpAll K H xs ds := by
          cases hx with
          | tup h1 h2 => exact ⟨_, _, rfl, h1, h2⟩
        obtain ⟨ay, ys, rfl, sy, dy⟩ : ∃ ay ys, y = .ref ay ∧ SqT K H ay ys ∧ DpAll K H ys ds := by
          cases hy with
          | tup h1 h2 => exact ⟨_, _, rfl, h1, h2⟩
        have lx := dpAll_len dx
        have ly := dpAll_len dy
        refine ⟨_, rfl, by show 2 ≤ sizeLine; decide, fun tp ntp => ?_⟩
        have s1 : Sm P H (upd H tp (.tup [.ty "tuple", .ty "list"])) := Sm.new ntp
        refine ⟨_, tp, _, .type "tuple", _, true, rfl, upd_same, .cons (.ty _) (.cons (.ty _) .nil), ty_sq (s1.tk _ _ sy), k2 (b1 := true) (b2 := false) (by decide +kernel) (by decide +kernel), _, rfl, iteT ?_⟩
        generalize upd H tp (.tup [.ty "tuple", .ty "list"]) = H1 at *
        refine ⟨_, rfl, by show 2 ≤ sizeLine; decide, fun tq ntq => ?_⟩
        have s2 : Sm P H1 (upd H1 tq (.tup [.ty "tuple", .ty "list"])) := Sm.new ntq
        refine ⟨_, tq, _, .type "tuple", _, true, rfl, upd_same, .cons (.ty _) (.cons (.ty _) .nil), ty_sq (s2.tk _ _ (s1.tk _ _ sx)), k2 (b1 := true) (b2 := false) (by decide +kernel) (by decide +kernel), _, rfl, iteF ?_⟩
        have s12 := s1.trans s2
        generalize upd H1 tq (.tup [.ty "tuple", .ty "list"]) = H2 at *
        have sx2 := s12.tk _ _ sx
        have sy2 := s12.tk _ _ sy
        refine ⟨_, rfl, _, _, .type "tuple", .type "list", false, rfl, .ty _, ty_sq sx2, kit_ty (by decide +kernel), _, rfl, _, _, .type "tuple", .type "list", false, rfl, .ty _, ty_sq sy2, kit_ty (by decide +kernel), rfl, _, rfl, ?_⟩
        rw [decide_eq_true (rfl : V.bl false = V.bl false)]
        refine iteF ?_
        refine ⟨_, rfl, ax, xs, rfl, .inr sx2, _, rfl, ay, ys, rfl, .inr sy2, rfl, _, rfl, ?_⟩
        rw [decide_eq_true (show V.int (xs.length : Nat) = V.int (ys.length : Nat) by rw [lx, ly])]
        refine iteF ?_
        refine ⟨_, rfl, ay, ys, rfl, .inr sy2, (ys.length : Int), rfl, by omega, by omega, fun D nD => ?_⟩
        refine lc_it walk_range (fun j Hc => Hc D = some (.lst []) ∧ Sm P H2 Hc) ⟨upd_same, Sm.new nD⟩ (fun _ _ _ _ => trivial) (fun j v Hc Hc' hj hp hy => ?_) (fun Hc hp => ?_)
        · obtain ⟨hD, sc⟩ := hp
          obtain ⟨rfl, ev⟩ := hy
          obtain rfl : v = V.int (j : Int) := ev.trans (zadd j)
          have jl : j < ds.length := by omega
          have ex : xs[j]? = some (xs[j]'(by omega)) := List.getElem?_eq_getElem _
          have ey : ys[j]? = some (ys[j]'(by omega)) := List.getElem?_eq_getElem _
          obtain ⟨e1, he1, d1⟩ := dpAll_get dx ex
          obtain ⟨e2, he2, d2⟩ := dpAll_get dy ey
          rw [he1] at he2
          cases he2
          have nl : noL e1 = true := noL_mem hn (List.mem_of_getElem? he1)
          have tkc := (s12.trans sc).tk (K := K)
          refine ⟨rfl, _, rfl, _, rfl, ax, xs, (j : Int), _, rfl, rfl, tkc _ _ sx, atI_nat ex, _, rfl, _, rfl, ay, ys, (j : Int), _, rfl, rfl, tkc _ _ sy, atI_nat ey, _, _, e1, rfl, hd e1 (List.mem_of_getElem? he1), dp_keep tkc _ _ nl d1, dp_keep tkc _ _ nl d2, fun H5 s5 => ⟨true, rfl, iteF ⟨s5.lst hD, sc.trans s5⟩⟩⟩
        · obtain ⟨hD, sc⟩ := hp
          refine ⟨Nat.zero_le _, fun p np => ?_⟩
          have sp : Sm P Hc (upd Hc p (.lst [])) := Sm.new np
          exact ⟨D, p, rfl, rfl, SqL.of (sp.lst hD), SqL.of upd_same, q _ (s12.trans (sc.trans sp))⟩
end
end Pk

/-! the mathematics: what the law asks is what the program answers -/
namespace Pk
open PySem PySem.W
/-! ### the order of words -/
abbrev wl (u v : List Int) : Bool := listLt u v
theorem wl_cons (x y : Int) (u v : List Int) : wl (x :: u) (y :: v) = if x = y then wl u v else decide (x < y) := rfl
theorem wl_irr : ∀ u : List Int, wl u u = false
  | [] => rfl
  | x :: u => by rw [wl_cons, if_pos rfl, wl_irr u]
theorem wl_tot : ∀ u v : List Int, wl u v = false → wl v u = false → u = v
  | [], [], _, _ => rfl
  | [], y :: v, h, _ => by cases h
  | x :: u, [], _, h => by cases h
  | x :: u, y :: v, h1, h2 => by
    rw [wl_cons] at h1 h2
    by_cases e : x = y
    · rw [if_pos e] at h1
      rw [if_pos e.symm] at h2
      rw [e, wl_tot u v h1 h2]
    · rw [if_neg e] at h1
      rw [if_neg (fun z => e z.symm)] at h2
      have := of_decide_eq_false h1
      have := of_decide_eq_false h2
      omega
theorem wl_neg : ∀ u v w : List Int, wl v u = false → wl w v = false → wl w u = false
  | [], _, [], _, _ => rfl
  | [], [], z :: w, _, h => h
  | [], y :: v, z :: w, _, _ => rfl
  | x :: u, [], w, h, _ => by cases h
  | x :: u, y :: v, [], _, h => by cases h
  | x :: u, y :: v, z :: w, h1, h2 => by
    rw [wl_cons] at h1 h2 ⊢
    by_cases e1 : y = x
    · rw [if_pos e1] at h1
      by_cases e2 : z = y
      · rw [if_pos e2] at h2
        rw [if_pos (e2.trans e1)]
        exact wl_neg u v w h1 h2
      · rw [if_neg e2] at h2
        rw [if_neg (fun q => e2 (q.trans e1.symm)), ← e1]
        exact h2
    · rw [if_neg e1] at h1
      have := of_decide_eq_false h1
      by_cases e2 : z = y
      · rw [e2, if_neg e1]
        exact h1
      · rw [if_neg e2] at h2
        have := of_decide_eq_false h2
        have e3 : z ≠ x := by omega
        rw [if_neg e3]
        exact decide_eq_false (by omega)
theorem wl_as : ∀ u v : List Int, wl u v = true → wl v u = false
  | [], [], h => by cases h
  | [], y :: v, _ => rfl
  | x :: u, [], h => by cases h
  | x :: u, y :: v, h => by
    rw [wl_cons] at h ⊢
    by_cases e : x = y
    · rw [if_pos e] at h
      rw [if_pos e.symm]
      exact wl_as u v h
    · rw [if_neg e] at h
      rw [if_neg (fun z => e z.symm)]
      have := of_decide_eq_true h
      exact decide_eq_false (by omega)
/-- the order of choices -/
def tl (p q : Ch) : Bool := if (p.1.length : Int) = q.1.length then (if p.1 = q.1 then wl p.2 q.2 else wl p.1 q.1) else decide ((p.1.length : Int) < q.1.length)
theorem tup_eq {a b : List Int} : (Tup.mk a = Tup.mk b) ↔ a = b := ⟨fun z => congrArg Tup.items z, fun z => by rw [z]⟩
theorem tl_eq (p q : Ch) : dataLt (t3 p) (t3 q) = tl p q := by
  rw [t3_eq, t3_eq, DatumOrd.lt_eq]
  show (if (p.1.length : Int) = q.1.length then (if (Tup.mk p.1 : Tup Int) = Tup.mk q.1 then wl p.2 q.2 else wl p.1 q.1) else decide ((p.1.length : Int) < q.1.length)) = tl p q
  unfold tl
  by_cases e : p.1 = q.1
  · rw [if_pos (tup_eq.mpr e), if_pos e]
  · rw [if_neg (fun z => e (tup_eq.mp z)), if_neg e]
theorem tl_tot (p q : Ch) : tl p q = false ∨ tl q p = false := by
  cases h : tl p q with
  | false => exact .inl rfl
  | true =>
    refine .inr ?_
    unfold tl at h ⊢
    by_cases e : (p.1.length : Int) = q.1.length
    · rw [if_pos e] at h
      rw [if_pos e.symm]
      by_cases e2 : p.1 = q.1
      · rw [if_pos e2] at h
        rw [if_pos e2.symm]
        cases h3 : wl q.2 p.2 with
        | false => rfl
        | true =>
          exfalso
          have z := wl_as p.2 q.2 h
          rw [h3] at z
          cases z
      · rw [if_neg e2] at h
        rw [if_neg (fun z => e2 z.symm)]
        exact wl_as _ _ h
    · rw [if_neg e] at h
      rw [if_neg (fun z => e z.symm)]
      have := of_decide_eq_true h
      exact decide_eq_false (by omega)
theorem tl_neg (p q r : Ch) (h1 : tl q p = false) (h2 : tl r q = false) : tl r p = false := by
  unfold tl at h1 h2 ⊢
  by_cases a : (q.1.length : Int) = p.1.length
  · rw [if_pos a] at h1
    by_cases b : (r.1.length : Int) = q.1.length
    · rw [if_pos b] at h2
      rw [if_pos (b.trans a)]
      by_cases c : q.1 = p.1
      · rw [if_pos c] at h1
        by_cases d : r.1 = q.1
        · rw [if_pos d] at h2
          rw [if_pos (d.trans c)]
          exact wl_neg _ _ _ h1 h2
        · rw [if_neg d] at h2
          rw [if_neg (fun z => d (z.trans c.symm)), ← c]
          exact h2
      · rw [if_neg c] at h1
        by_cases d : r.1 = q.1
        · rw [d, if_neg c]
          exact h1
        · rw [if_neg d] at h2
          have h3 := wl_neg _ _ _ h1 h2
          by_cases e : r.1 = p.1
          · rw [e] at h2
            exact (c (wl_tot _ _ h1 h2)).elim
          · rw [if_neg e]
            exact h3
    · rw [if_neg b] at h2
      rw [if_neg (by omega)]
      have := of_decide_eq_false h2
      exact decide_eq_false (by omega)
  · rw [if_neg a] at h1
    have h3 := of_decide_eq_false h1
    by_cases b : (r.1.length : Int) = q.1.length
    · rw [if_neg (by omega)]
      exact decide_eq_false (by omega)
    · rw [if_neg b] at h2
      have := of_decide_eq_false h2
      rw [if_neg (by omega)]
      exact decide_eq_false (by omega)
theorem le_tl (p q : Ch) : PySem.W.dataLe false t3 p q = !tl q p := by
  rw [PySem.W.dataLe_eq]
  show (!dataLt (t3 q) (t3 p)) = _
  rw [tl_eq]
theorem srtC_pw (n : Int) (SS : List (List Int)) : (srtC n SS).Pairwise fun p q => tl q p = false := by
  have h := PySem.W.sort_pairwise (le := PySem.W.dataLe false t3) ⟨fun a b c h1 h2 => by
      rw [le_tl] at h1 h2 ⊢
      rw [tl_neg a b c (by simpa using h1) (by simpa using h2)]
      rfl, fun a b => by
      rw [le_tl, le_tl]
      rcases tl_tot b a with h | h
      · exact .inl (by rw [h]; rfl)
      · exact .inr (by rw [h]; rfl)⟩ (chs n SS)
  exact h.imp fun h => by
    rw [le_tl] at h
    simpa using h
theorem srtC_mem {n : Int} {SS : List (List Int)} {p : Ch} : p ∈ srtC n SS ↔ p ∈ chs n SS := (List.mergeSort_perm (chs n SS) (PySem.W.dataLe false t3)).mem_iff
/-! ### the law's own answer -/
/-- the words for a goal -/
def fitsM (L : List Ch) (G : List Int) : List (List Int) := (L.filter fun p => decide (p.2 = G)).map (·.1)
theorem fits_mem {L : List Ch} {G u : List Int} : u ∈ fitsM L G ↔ ∃ p ∈ L, p.2 = G ∧ p.1 = u := by
  unfold fitsM
  rw [List.mem_map]
  constructor
  · rintro ⟨p, hp, e⟩
    obtain ⟨h1, h2⟩ := List.mem_filter.mp hp
    exact ⟨p, h1, of_decide_eq_true h2, e⟩
  · rintro ⟨p, hp, h, e⟩
    exact ⟨p, List.mem_filter.mpr ⟨hp, decide_eq_true h⟩, e⟩
theorem cnt_law (n : Int) (SS : List (List Int)) (G : List Int) : cntM n SS G = (fitsM (chs n SS) G).length := by
  unfold cntM fitsM
  rw [List.length_map]
  exact ((List.mergeSort_perm (chs n SS) (PySem.W.dataLe false t3)).filter _).length_eq
theorem once_none {n : Int} {SS : List (List Int)} {G : List Int} (h : fitsM (chs n SS) G = []) : onceM n SS G = none := by
  unfold onceM
  rw [List.find?_eq_none.mpr fun p hp => ?_]
  · rfl
  · intro e
    have q : p.1 ∈ fitsM (chs n SS) G := fits_mem.mpr ⟨p, srtC_mem.mp hp, of_decide_eq_true e, rfl⟩
    rw [h] at q
    cases q
open PySem.W in
theorem minOf_ok : ∀ (bs : List (Tup Int)) (b : Tup Int), minOf b bs ∈ b :: bs ∧ ∀ y ∈ b :: bs, wl y.items (minOf b bs).items = false
  | [], b => ⟨List.mem_cons_self, fun y hy => by
      have e : y = b := by simpa using hy
      rw [e]
      exact wl_irr _⟩
  | y :: bs, b => by
    have e : minOf b (y :: bs) = minOf (if wl y.items b.items = true then y else b) bs := rfl
    rw [e]
    obtain ⟨h1, h2⟩ := minOf_ok bs (if wl y.items b.items = true then y else b)
    generalize hM : minOf (if wl y.items b.items = true then y else b) bs = M at *
    cases c : wl y.items b.items with
    | true =>
      rw [c, if_pos rfl] at h1 h2
      refine ⟨List.mem_cons_of_mem _ h1, fun z hz => ?_⟩
      rcases List.mem_cons.mp hz with r | r
      · rw [r]
        exact wl_neg _ _ _ (h2 y List.mem_cons_self) (wl_as _ _ c)
      · exact h2 z r
    | false =>
      rw [c, if_neg (by decide)] at h1 h2
      refine ⟨?_, fun z hz => ?_⟩
      · rcases List.mem_cons.mp h1 with r | r
        · rw [r]
          exact List.mem_cons_self
        · exact List.mem_cons_of_mem _ (List.mem_cons_of_mem _ r)
      · rcases List.mem_cons.mp hz with r | r
        · rw [r]
          exact h2 b List.mem_cons_self
        · rcases List.mem_cons.mp r with r | r
          · rw [r]
            exact wl_neg _ _ _ (h2 b List.mem_cons_self) c
          · exact h2 z (List.mem_cons_of_mem _ r)
theorem few_ne {fits : List (List Int)} {m : Int} (hne : fits ≠ []) (hl : ∀ u ∈ fits, u.length < 99) (h1 : m ∈ (fits.map fun u => (u.length : Int)) ++ [99]) (h2 : ∀ y ∈ (fits.map fun u => (u.length : Int)) ++ [99], m ≤ y) : (fits.filter fun u => decide ((u.length : Int) = m)) ≠ [] := by
  intro e
  rcases List.mem_append.mp h1 with q | q
  · obtain ⟨u, hu, eu⟩ := List.mem_map.mp q
    have : u ∈ fits.filter fun u => decide ((u.length : Int) = m) := List.mem_filter.mpr ⟨hu, decide_eq_true eu⟩
    rw [e] at this
    cases this
  · have em : m = 99 := by simpa using q
    cases fits with
    | nil => exact hne rfl
    | cons u us =>
      have := h2 (u.length : Int) (List.mem_append_left _ (List.mem_map.mpr ⟨u, List.mem_cons_self, rfl⟩))
      have := hl u List.mem_cons_self
      omega
theorem once_some {n : Int} {SS : List (List Int)} {G : List Int} {m : Int} {b : List Int} {bs : List (List Int)} (h2 : ∀ y ∈ ((fitsM (chs n SS) G).map fun u => (u.length : Int)) ++ [99], m ≤ y)
    (hf : ((fitsM (chs n SS) G).filter fun u => decide ((u.length : Int) = m)) = b :: bs) : onceM n SS G = some (PySem.W.minOf (PySem.W.Tup.mk b) (bs.map PySem.W.Tup.mk)).items := by
  obtain ⟨k1, k2⟩ := minOf_ok (bs.map PySem.W.Tup.mk) (PySem.W.Tup.mk b)
  generalize PySem.W.minOf (PySem.W.Tup.mk b) (bs.map PySem.W.Tup.mk) = M at *
  have few : ∀ u : List Int, (u ∈ fitsM (chs n SS) G ∧ (u.length : Int) = m) ↔ PySem.W.Tup.mk u ∈ PySem.W.Tup.mk b :: bs.map PySem.W.Tup.mk := fun u => by
    rw [← List.map_cons, ← hf, List.mem_map]
    constructor
    · rintro ⟨c1, c2⟩
      exact ⟨u, List.mem_filter.mpr ⟨c1, decide_eq_true c2⟩, rfl⟩
    · rintro ⟨v, hv, e⟩
      obtain ⟨c1, c2⟩ := List.mem_filter.mp hv
      rw [← tup_eq.mp e]
      exact ⟨c1, of_decide_eq_true c2⟩
  obtain ⟨f1, f2⟩ := (few M.items).mpr k1
  obtain ⟨p, hp, hpG, hpM⟩ := fits_mem.mp f1
  have hps := srtC_mem.mpr hp
  cases e : (srtC n SS).find? fun p => decide (p.2 = G) with
  | none => exact absurd (decide_eq_true hpG) (List.find?_eq_none.mp e p hps)
  | some p0 =>
    obtain ⟨g0, as, cs, es, hno⟩ := List.find?_eq_some_iff_append.mp e
    have hp0 : p0 ∈ srtC n SS := by rw [es]; simp
    have q0 : p0.1 ∈ fitsM (chs n SS) G := fits_mem.mpr ⟨p0, srtC_mem.mp hp0, of_decide_eq_true g0, rfl⟩
    have m0 := h2 (p0.1.length : Int) (List.mem_append_left _ (List.mem_map.mpr ⟨p0.1, q0, rfl⟩))
    have ht : p = p0 ∨ tl p p0 = false := by
      rw [es] at hps
      rcases List.mem_append.mp hps with z | z
      · have := hno p z
        rw [decide_eq_true hpG] at this
        cases this
      · rcases List.mem_cons.mp z with z | z
        · exact .inl z
        · have pw := srtC_pw n SS
          rw [es] at pw
          exact .inr ((List.pairwise_cons.mp (List.pairwise_append.mp pw).2.1).1 p z)
    unfold onceM
    rw [e]
    show some p0.1 = some M.items
    congr 1
    rcases ht with rfl | ht
    · exact hpM
    · unfold tl at ht
      rw [hpM] at ht
      by_cases c : (M.items.length : Int) = p0.1.length
      · rw [if_pos c] at ht
        by_cases d : M.items = p0.1
        · exact d.symm
        · rw [if_neg d] at ht
          exact wl_tot _ _ (k2 ⟨p0.1⟩ ((few p0.1).mp ⟨q0, by omega⟩)) ht
      · rw [if_neg c] at ht
        have := of_decide_eq_false ht
        omega
/-! ### gaps, as the law goes -/
def gl (n : Int) (S : List Int) (p : Int) : Nat → Int → Int
  | 0, l => l
  | k + 1, l => if l < n ∧ ¬ (p + l) % n ∈ S then gl n S p k (l + 1) else l
def lg1 (n : Int) (S : List Int) (p : Int) : Option (Int × Int) := if ¬ p ∈ S ∧ ((p - 1) % n ∈ S ∨ (S = [] ∧ p = 0)) then some (p, gl n S p n.toNat 1) else none
def lgM (n : Int) (S : List Int) : List (Int × Int) := (ran n).filterMap (lg1 n S)
def subs : List Int → List (List Int)
  | [] => [[]]
  | x :: l => subs l ++ (subs l).map (x :: ·)
theorem filter_subs (f : Int → Bool) : ∀ l, l.filter f ∈ subs l
  | [] => List.mem_singleton.mpr rfl
  | x :: l => by
    have ih := filter_subs f l
    cases c : f x with
    | true =>
      rw [List.filter_cons_of_pos c]
      exact List.mem_append_right _ (List.mem_map.mpr ⟨_, ih, rfl⟩)
    | false =>
      rw [List.filter_cons_of_neg (by rw [c]; decide)]
      exact List.mem_append_left _ ih
theorem isS_subs {n : Int} {S : List Int} (h : IsS n S) : S ∈ subs (ran n) := by
  have e : S = (ran n).filter fun z => decide (z ∈ S) := pw_mem_eq h.2 ((ran_pw n).sublist List.filter_sublist) fun z => by
    rw [List.mem_filter, decide_eq_true_iff, mem_ran]
    exact ⟨fun q => ⟨h.1 z q, q⟩, fun q => q.2⟩
  rw [e]
  exact filter_subs _ _
theorem gaps_law {n : Int} {S : List Int} (h2 : 2 ≤ n) (h7 : n ≤ 7) (h : IsS n S) : blkM n (compl n S) = lgM n S := by
  have hs := isS_subs h
  have c : n = 2 ∨ n = 3 ∨ n = 4 ∨ n = 5 ∨ n = 6 ∨ n = 7 := by omega
  have all : ∀ n : Int, (subs (ran n)).all (fun S => decide (blkM n (compl n S) = lgM n S)) = true → S ∈ subs (ran n) → blkM n (compl n S) = lgM n S := fun n ha hm => of_decide_eq_true (List.all_eq_true.mp ha S hm)
  rcases c with rfl | rfl | rfl | rfl | rfl | rfl <;> exact all _ (by decide +kernel) hs
end Pk

/-! law: its helpers -/
namespace Pk
open PySem PySem.Spec PyProof.Rows L2 GxR
open PySem.W (Datum DatumOrd Tup T3)
/-- every tuple made here stands -/
def TT (H H' : Hp) : Prop := ∀ b xs, H b = some (.tup xs) → H' b = some (.tup xs)
theorem TT.trans {H H1 H2 : Hp} (a : TT H H1) (b : TT H1 H2) : TT H H2 := fun c xs e => b c xs (a c xs e)
theorem Sm.tt {P : Addr} {H H' : Hp} (s : Sm P H H') : TT H H' := fun b xs e => s.2 b _ e (fun q z => nomatch z)
theorem SmR.tt {r a : Addr} {H H' : Hp} (s : SmR r H H') (row : RowIs H r a) : TT H H' := fun b xs e => s b _ (fun z => by
  obtain ⟨i, x, c, er, _⟩ := row
  rw [z, er] at e
  cases e) e (fun q z => nomatch z)
theorem SmR.lst {r b : Addr} {H H' : Hp} {xs : List V} (s : SmR r H H') (n : b ≠ r) (h : H b = some (.lst xs)) : H' b = some (.lst xs) := s b _ n h (fun q z => nomatch z)
theorem TupV.tt {H H' : Hp} {x : V} {ns : List Int} (h : TupV H x ns) (s : TT H H') : TupV H' x ns := by
  obtain ⟨a, e, t⟩ := h
  exact ⟨a, e, s a _ t⟩
theorem SetV.tt {H H' : Hp} {n : Int} {x : V} {ns : List Int} (h : SetV H n x ns) (s : TT H H') : SetV H' n x ns := by
  obtain ⟨a, e, t, i⟩ := h
  exact ⟨a, e, s a _ t, i⟩
theorem SetsV.tt {H H' : Hp} {n : Int} {xs : List V} {SS : List (List Int)} (h : SetsV H n xs SS) (s : TT H H') : SetsV H' n xs SS := ⟨h.1, fun i x e => by
  obtain ⟨ns, e1, v⟩ := h.2 i x e
  exact ⟨ns, e1, v.tt s⟩⟩
/-- y is a tuple of a word and its sum -/
def ChV (H : Hp) (y : V) (p : Ch) : Prop := ∃ a x1 x2, y = .ref a ∧ H a = some (.tup [x1, x2]) ∧ TupV H x1 p.1 ∧ TupV H x2 p.2
theorem ChV.tt {H H' : Hp} {y : V} {p : Ch} (h : ChV H y p) (s : TT H H') : ChV H' y p := by
  obtain ⟨a, x1, x2, e, t, h1, h2⟩ := h
  exact ⟨a, x1, x2, e, s a _ t, h1.tt s, h2.tt s⟩
/-- ys are the words with their sums -/
def ChsV (H : Hp) (ys : List V) (L : List Ch) : Prop := ys.length = L.length ∧ ∀ (i : Nat) (y : V), ys[i]? = some y → ∃ p, L[i]? = some p ∧ ChV H y p
theorem ChsV.tt {H H' : Hp} {ys : List V} {L : List Ch} (h : ChsV H ys L) (s : TT H H') : ChsV H' ys L := ⟨h.1, fun i y e => by
  obtain ⟨p, e1, v⟩ := h.2 i y e
  exact ⟨p, e1, v.tt s⟩⟩
theorem ChsV.nil {H : Hp} : ChsV H [] [] := ⟨rfl, fun i y e => by simp at e⟩
theorem get_app {α : Type} {xs ys : List α} {i : Nat} {x : α} (e : (xs ++ ys)[i]? = some x) : (i < xs.length ∧ xs[i]? = some x) ∨ (xs.length ≤ i ∧ ys[i - xs.length]? = some x) := by
  by_cases c : i < xs.length
  · rw [List.getElem?_append_left c] at e
    exact .inl ⟨c, e⟩
  · rw [List.getElem?_append_right (by omega)] at e
    exact .inr ⟨by omega, e⟩
theorem ChsV.app {H : Hp} {xs ys : List V} {L M : List Ch} (h : ChsV H xs L) (g : ChsV H ys M) : ChsV H (xs ++ ys) (L ++ M) := by
  refine ⟨by rw [List.length_append, List.length_append, h.1, g.1], fun i y e => ?_⟩
  rcases get_app e with ⟨c, e1⟩ | ⟨c, e1⟩
  · obtain ⟨p, e2, v⟩ := h.2 i y e1
    exact ⟨p, by rw [List.getElem?_append_left (by rw [← h.1]; exact c)]; exact e2, v⟩
  · obtain ⟨p, e2, v⟩ := g.2 _ y e1
    exact ⟨p, by rw [List.getElem?_append_right (by rw [← h.1]; exact c), ← h.1]; exact e2, v⟩
theorem ChsV.one {H : Hp} {y : V} {p : Ch} (h : ChV H y p) : ChsV H [y] [p] := ⟨rfl, fun i z e => by
  have hi : i = 0 := by
    have := (List.getElem?_eq_some_iff.mp e).1
    have : ([y] : List V).length = 1 := rfl
    omega
  subst hi
  have ez : y = z := by simpa using e
  rw [← ez]
  exact ⟨p, rfl, h⟩⟩
/-- t + (z,) -/
theorem catA_int {K : PySem.W.Frag} {P a q : Addr} {H : Hp} {ns : List Int} {z : Int} {Q : VK} (h1 : H a = some (.tup (ns.map V.int))) (h2 : H q = some (.tup [.int z])) (hl : ns.length ≤ 900)
    (hQ : ∀ Hd u, Sm P H Hd → Hd u = some (.tup ((ns ++ [z]).map V.int)) → Q (.ref u) Hd) : rCatA K (.ref a) (.ref q) H Q := by
  refine ⟨a, q, _, _, rfl, rfl, .inl (.inl h1), .inl (.inl h2), ?_, fun e => ?_, fun _ e => (nomatch e), fun _ _ p np => ?_⟩
  · rw [List.length_map]
    exact Nat.le_of_lt (small1000 (show ns.length + 1 ≤ 1000 by omega))
  · have e' : ns = [] := by simpa using e
    rw [e'] at hQ
    exact hQ H q (Sm.refl _ _) h2
  · refine hQ _ p (Sm.new np) ?_
    rw [upd_same, List.map_append]
    rfl
theorem tt_put {H : Hp} {p : Addr} {ys : List V} {o : HO} (h : H p = some (.lst ys)) : TT H (upd H p o) := fun b xs e => by
  rw [upd_ne (fun z => by rw [z, h] at e; cases e)]
  exact e
section
variable {prog : Program} {w : World} {K : PySem.W.Frag} {mg : Str → Option Value} {base : Heap} {P : Addr} {k : Nat}
/-- all that law calls -/
structure Deps (prog : Program) (w : World) (K : PySem.W.Frag) (mg : Str → Option Value) (base : Heap) (P : Addr) (k : Nat) : Prop where
  taken : ∃ f fd, Fn K mg "_law_taken" sTaken pTaken f fd ∧ FnOk prog w K mg base CX0 k f fd pTaken (spTaken K)
  pick : ∃ f fd, Fn K mg "_law_pick" sPick pPick f fd ∧ FnOk prog w K mg base CX0 k f fd pPick (spPick K)
  lset : ∃ f fd, Fn K mg "_law_set" sLSet pLSet f fd ∧ FnOk prog w K mg base CX0 k f fd pLSet (spLSet (P := P) K)
  lsum : ∃ f fd, Fn K mg "_law_sum" sLSum pLSum f fd ∧ FnOk prog w K mg base CX0 k f fd pLSum (spAdd K P)
  alike : ∃ f fd, Fn K mg "_law_alike" sAlike pAlike f fd ∧ FnOk prog w K mg base CX0 k f fd pAlike (spA K P 3)
  once : ∃ f fd, Fn K mg "once_sum" sOnceSum pOnceSum f fd ∧ FnOk prog w K mg base CX0 k f fd pOnceSum (spOnce K P)
  count : ∃ f fd, Fn K mg "once_count" sOnceCount pOnceCount f fd ∧ FnOk prog w K mg base CX0 k f fd pOnceCount (spCount K P)
  equal : ∃ f fd, Fn K mg "equal_sums" sEqualSums pEqualSums f fd ∧ FnOk prog w K mg base CX0 k f fd pEqualSums (spEqual K P)
  gaps : ∃ f fd, Fn K mg "gaps" sGaps pGaps f fd ∧ FnOk prog w K mg base CX0 k f fd pGaps (spGaps K P)
  B : Bl mg
abbrev LX (prog : Program) (w : World) (K : PySem.W.Frag) (mg : Str → Option Value) (base : Heap) (f : Addr) (cdv : Value) (A : Around) (outer : List Env) (s : Shared) (H : Hp) (E : XK) : Cx :=
  (cxOf CX0 prog w K mg base nLaw "law" (defScope sLaw) f cdv A outer s H E).nox
def forB : Stmt → List Stmt
  | .For _ _ b _ _ => b
  | _ => []
def lawAt (i : Nat) : Stmt := (defBody sLaw)[i]?.getD (.Pass default)
variable {f : Addr} {cdv : Value} {A : Around} {outer : List Env} {s : Shared} {H0 : Hp} {E : XK}
/-! ### the words and their sums -/
theorem blk_some (L : Deps prog w K mg base P k) (hr : Room k (A.deeper (envOfC "law" (defScope sLaw) s.heap.objs.size f cdv))) :
    ∃ t, PSs (LX prog w K mg base f cdv A outer s H0 E) (forB (lawAt 4)) t ∧ ∀ (D : Ends) (H : Hp) (y0 y1 y4 y8 : Option V) (l3 l6 : Addr) (n : Int) (xs ys : List V) (SS : List (List Int)) (i : Nat),
      2 ≤ n → n ≤ 9 → H l3 = some (.lst xs) → SetsV H n xs SS → SS.length ≤ 6 → H l6 = some (.lst ys) → ChsV H ys (chsTo n SS i) → i < SS.length →
      (∀ H' p zs, Sm P H H' → H' p = some (.lst zs) → ChsV H' zs (chsTo n SS (i + 1)) → D.nx [y0, y1, some (.int n), some (.ref l3), y4, none, some (.ref p), some (.int (i : Int)), y8, none, none, none, none, none, none, none, none, none, none, none] H') →
      t D [y0, y1, some (.int n), some (.ref l3), y4, none, some (.ref l6), some (.int (i : Int)), y8, none, none, none, none, none, none, none, none, none, none, none] H := by
  obtain ⟨f1, fd1, F1, G1⟩ := L.lsum
  have nd := scLaw.nd
  refine ⟨_, pss_one (ps_set (i := 6) nd rfl (.inl rfl) (pe_op op_cat (pv 6)
      (pe_lc (own := [("_law_word", 18), ("_law_total", 19)]) (g := gTup K 2 (gCons (gName 18) (gCons (gName 19) gNil))) (tt := tYes)
        (te := tTup (tCons (tOp (rCatA K) (tVar 18) (tTup (tCons (tVar 7) tNil))) (tCons (tCall (spAdd K P) [] E0 (tCons (tVar 2) (tCons (tVar 19) (tCons (tOp (rIxL K) (tVar 3) (tVar 7)) tNil)))) tNil))) rfl nd (pi_list (pv 6)) (blkOk_by (N := nLaw) (sc := defScope sLaw) (by decide +kernel))
        (fun _ _ _ _ _ => pg_tup rfl (pgs_cons (pg_name (i := 18) nd rfl (.inl rfl)) (pgs_cons (pg_name (i := 19) nd rfl (.inl rfl)) pgs_nil))) (fun _ _ _ _ _ => pts_nil)
        (fun _ _ _ _ _ => by exact (pe_tup (pa_cons (pe_op op_catA (pv 18) (pe_tup (pa_cons (pv 7) pa_nil))) (pa_cons (pe_call G1 hr (by rfl) F1.g F1.F.kp F1.b .nil pass0 (pa_cons (pv 2) (pa_cons (pv 19) (pa_cons (pe_ix ix_list (pv 3) (pv 7) (fun _ _ => rfl)) pa_nil)))) pa_nil))))))), ?_⟩
  intro D H y0 y1 y4 y8 l3 l6 n xs ys SS i h2 h9 h3 hSS h6 hl6 hys hi q
  have hIs : ∀ s ∈ SS, IsS n s := fun s hs => by
    obtain ⟨i, hi, e⟩ := List.getElem_of_mem hs
    obtain ⟨ns, e1, d⟩ := hSS.2 i (xs[i]'(by rw [hSS.1]; exact hi)) (List.getElem?_eq_getElem _)
    rw [List.getElem?_eq_getElem hi, e] at e1
    cases e1
    exact d.d (K := K).2
  have ylen : ys.length = 2 ^ i := by rw [hys.1, chsTo_len]
  have i6 : 2 ^ i ≤ 2 ^ 6 := Nat.pow_le_pow_right (by decide) (by omega)
  have exi : xs[i]? = some (xs[i]'(by rw [hSS.1]; exact hi)) := List.getElem?_eq_getElem _
  generalize xs[i]'(by rw [hSS.1]; exact hi) = z at exi
  obtain ⟨ns, e1, vz⟩ := hSS.2 i z exi
  refine ⟨_, rfl, _, rfl, l6, rfl, ⟨_, SqL.of hl6⟩, fun DD nD => ?_⟩
  refine lc_it walk_list (fun j Hc => (∃ acc, Hc DD = some (.lst acc) ∧ ChsV Hc acc (((chsTo n SS i).take j).map fun p => ((p.1 ++ [(i : Int)], add n p.2 ns) : Ch))) ∧ Sm P H Hc)
    ⟨⟨[], upd_same, ChsV.nil⟩, Sm.new nD⟩ (fun j Hc _ hp => hp.2.sqL (SqL.of hl6)) (fun j x Hc Hc' hj hp hy => ?_) (fun Hc hp => ?_)
  · obtain ⟨⟨acc, hD, hacc⟩, sc⟩ := hp
    obtain ⟨rfl, ex⟩ := hy
    obtain ⟨p, ep, a, x1, x2, rfl, ht, ⟨a1, rfl, t1⟩, v2⟩ := hys.2 j x ex
    have isp : IsS n p.2 := chsTo_isS hIs i p (List.mem_of_getElem? ep)
    have plen : p.1.length ≤ i := chsTo_w n SS i p (List.mem_of_getElem? ep)
    have htc := sc.tt _ _ ht
    have t1c := sc.tt _ _ t1
    refine ⟨a, [.ref a1, x2], rfl, .inl (.inl htc), rfl, .ref a1, [x2], rfl, x2, [], rfl, rfl, rfl, ?_⟩
    refine ⟨.ref a1, rfl, .int (i : Int), rfl, by show 1 ≤ sizeLine; decide, fun q1 m1 => ?_⟩
    have sm1 : Sm P Hc' (upd Hc' q1 (.tup [.int (i : Int)])) := Sm.new m1
    refine catA_int (P := P) (sm1.tt _ _ t1c) upd_same (by omega) fun Hd u sd hu => ?_
    have sd0 := sm1.trans sd
    have sHd := sc.trans sd0
    refine ⟨_, rfl, _, rfl, _, rfl, _, rfl, l3, xs, (i : Int), z, rfl, rfl, SqL.of (sHd.lst h3), atI_nat exi, n, x2, z, p.2, ns, rfl, h2, h9, ⟨(v2.tt sHd.tt).dp, isp⟩, (vz.tt sHd.tt).d, fun H5 r5 s5 hr5 => ?_⟩
    refine ⟨by show 2 ≤ sizeLine; decide, fun q2 m2 => ?_⟩
    have t2 : Sm P Hc' (upd H5 q2 (.tup [.ref u, .ref r5])) := (sd0.trans s5).trans (Sm.new m2)
    have hD6 := t2.lst hD
    refine ⟨acc, hD6, ?_, ⟨_, upd_same, ?_⟩, Sm.put nD (sc.trans t2) (fun q z => by rw [hD6] at z; cases z)⟩
    · rw [hacc.1, List.length_map, List.length_take, chsTo_len]
      exact small1000 (by omega)
    · have tp7 : TT (upd H5 q2 (.tup [.ref u, .ref r5])) (upd (upd H5 q2 (.tup [.ref u, .ref r5])) DD (.lst (acc ++ [.ref q2]))) := tt_put hD6
      rw [List.take_add_one, ep, List.map_append]
      refine (hacc.tt (t2.tt.trans tp7)).app (ChsV.one ⟨q2, .ref u, .ref r5, rfl, tp7 _ _ upd_same, ?_, ?_⟩)
      · exact ⟨u, rfl, tp7 _ _ ((Sm.new (P := P) m2).tt _ _ (s5.tt _ _ hu))⟩
      · exact ⟨r5, rfl, tp7 _ _ ((Sm.new (P := P) m2).tt _ _ hr5)⟩
  · obtain ⟨⟨acc, hD, hacc⟩, sc⟩ := hp
    have hlc : Hc l6 = some (.lst ys) := sc.lst hl6
    rw [ylen, ← chsTo_len n SS i, List.take_length] at hacc
    refine ⟨l6, DD, ys, acc, rfl, rfl, hlc, hD, ?_, fun r nr => ?_⟩
    · rw [hacc.1, List.length_map, chsTo_len, ylen]
      exact Nat.le_of_lt (small1000 (by omega))
    · have sr : Sm P Hc (upd Hc r (.lst (ys ++ acc))) := Sm.new nr
      refine q _ r _ (sc.trans sr) upd_same ?_
      show ChsV _ _ (chStep n (chsTo n SS i) i (SS[i]?.getD []))
      unfold chStep
      rw [e1]
      exact (hys.tt (sc.trans sr).tt).app (hacc.tt sr.tt)
end
end Pk

/-! law: a goal's turn -/
namespace Pk
open PySem PySem.Spec PyProof.Rows L2 GxR
open PySem.W (Datum DatumOrd Tup T3)
theorem okD_int (m : Nat) (i : Int) : okD m (.int i) := by
  cases m with
  | zero => exact .inr ⟨i, rfl⟩
  | succ m => exact .inl (.inr ⟨i, rfl⟩)
theorem okD_ti (m : Nat) {w : List Int} (h : w.length ≤ 1000) : okD (m + 1) (ti w) := .inr ⟨_, rfl, noL_ints w, by rw [List.length_map]; exact h, fun e he => by
  obtain ⟨i, _, rfl⟩ := List.mem_map.mp he
  exact okD_int m i⟩
theorem filter_snoc {α : Type} {f : α → Bool} {l : List α} {j : Nat} {x : α} (h : l[j]? = some x) : (l.take (j + 1)).filter f = (l.take j).filter f ++ if f x = true then [x] else [] := by
  rw [List.take_add_one, h, List.filter_append]
  congr 1
  show [x].filter f = _
  rw [List.filter_cons, List.filter_nil]
section
variable {prog : Program} {w : World} {K : PySem.W.Frag} {mg : Str → Option Value} {base : Heap} {P : Addr} {k : Nat}
variable {f : Addr} {cdv : Value} {A : Around} {outer : List Env} {s : Shared} {H0 : Hp} {E : XK}
def dueD : Option (List Int) → PyData
  | some w => ti w
  | none => .none
theorem onceV_d {H : Hp} {v : V} {o : Option (List Int)} (h : onceV K H v o) : Dp K H v (dueD o) := by
  cases o with
  | none =>
    have e : v = .non := h
    subst e
    exact .non
  | some w => exact h
theorem onceV_tk {H H' : Hp} {v : V} {o : Option (List Int)} (h : onceV K H v o) (t : TK K H H') : onceV K H' v o := by
  cases o with
  | none => exact h
  | some w => exact dp_keep t _ _ (noL_ti w) h
theorem blk_goal2 (L : Deps prog w K mg base P k) (hr : Room k (A.deeper (envOfC "law" (defScope sLaw) s.heap.objs.size f cdv))) :
    ∃ t, PSs (LX prog w K mg base f cdv A outer s H0 E) ((forB (lawAt 5)).drop 3) t ∧ ∀ (D : Ends) (H : Hp) (y0 y1 y4 y6 y7 y10 : Option V) (g v : V) (l3 l9 : Addr) (n : Int) (xs fl : List V) (SS : List (List Int)) (G : List Int),
      2 ≤ n → n ≤ 9 → H l3 = some (.lst xs) → SetsV H n xs SS → SS.length ≤ 6 → SetV H n g G → TabG H P → SqL K H l9 fl → fl.length = cntM n SS G → onceV K H v (onceM n SS G) → (∀ w, onceM n SS G = some w → w.length ≤ 1000) →
      (∀ H', Sm P H H' → D.nx [y0, y1, some (.int n), some (.ref l3), y4, none, y6, y7, some g, some (.ref l9), y10, some v, none, none, none, none, none, none, none, none] H') →
      t D [y0, y1, some (.int n), some (.ref l3), y4, none, y6, y7, some g, some (.ref l9), y10, some v, none, none, none, none, none, none, none, none] H := by
  obtain ⟨f1, fd1, F1, G1⟩ := L.alike
  obtain ⟨f2, fd2, F2, G2⟩ := L.once
  obtain ⟨f3, fd3, F3, G3⟩ := L.count
  have B := L.B
  refine ⟨_, pss_one (ps_if (PW.pt (pw_or (pt_not (pt_val (pe_call G1 hr (by rfl) F1.g F1.F.kp F1.b .nil pass0 (pa_cons
          (pe_call G2 hr (by rfl) F2.g F2.F.kp F2.b .nil pass0 (pa_cons (pv 2) (pa_cons (pe_callTy call_tuple_of (by rfl) B.tuple boot_tuple (pa_cons (pv 3) pa_nil)) (pa_cons (pv 8) pa_nil)))) (pa_cons (pv 11) pa_nil)))))
        (pw_or1 (pt_not (pt_val (pe_call G1 hr (by rfl) F1.g F1.F.kp F1.b .nil pass0 (pa_cons
          (pe_call G3 hr (by rfl) F3.g F3.F.kp F3.b .nil pass0 (pa_cons (pv 2) (pa_cons (pe_callTy call_tuple_of (by rfl) B.tuple boot_tuple (pa_cons (pv 3) pa_nil)) (pa_cons (pv 8) pa_nil)))) (pa_cons
          (pe_callB call_len_seq (by rfl) B.len PySem.boot_len (pa_cons (pv 9) pa_nil)) pa_nil))))))))
      (pss_one ps_never) pss_nil), ?_⟩
  intro D H y0 y1 y4 y6 y7 y10 g v l3 l9 n xs fl SS G h2 h9 h3 hSS h6 hg hT h9l hfl hv hw q
  refine ⟨_, rfl, _, rfl, l3, xs, rfl, .inl ⟨SqL.of h3, fun t1 n1 => ?_⟩⟩
  have s1 : Sm P H (upd H t1 (.tup xs)) := Sm.new n1
  refine ⟨_, rfl, n, SS, G, ⟨t1, xs, g, rfl, h2, h9, upd_same, h6, hSS.sm s1, hg.sm s1, s1.1 hT⟩, fun H2 v2 s2 o2 => ?_⟩
  have s12 := s1.trans s2
  refine ⟨v, rfl, v2, v, dueD (onceM n SS G), rfl, ?_, onceV_d o2, onceV_d (onceV_tk hv s12.tk), fun H3 s3 => ⟨true, rfl, iteF ?_⟩⟩
  · cases e : onceM n SS G with
    | none => exact .inl (.inl rfl)
    | some w => exact okD_ti 1 (hw w e)
  · have s13 := s12.trans s3
    refine ⟨_, rfl, _, rfl, l3, xs, rfl, .inl ⟨SqL.of (s13.lst h3), fun t2 n2 => ?_⟩⟩
    have s4 : Sm P H3 (upd H3 t2 (.tup xs)) := Sm.new n2
    have s14 := s13.trans s4
    refine ⟨_, rfl, n, SS, G, ⟨t2, xs, g, rfl, h2, h9, upd_same, h6, hSS.sm s14, hg.sm s14, s14.1 hT⟩, fun H5 s5 => ?_⟩
    have s15 := s14.trans s5
    refine ⟨_, rfl, l9, fl, rfl, .inl (s15.sqL h9l), _, _, .int (cntM n SS G : Nat), rfl, okD_int 2 _, .int _, ?_, fun H6 s6 => ⟨true, rfl, iteF (q H6 (s15.trans s6))⟩⟩
    rw [hfl]
    exact .int _
theorem blk_goal (L : Deps prog w K mg base P k) (hr : Room k (A.deeper (envOfC "law" (defScope sLaw) s.heap.objs.size f cdv))) :
    ∃ t, PSs (LX prog w K mg base f cdv A outer s H0 E) (forB (lawAt 5)) t ∧ ∀ (D : Ends) (H : Hp) (y0 y1 y4 y7 y9 y10 y11 : Option V) (g : V) (l3 l6 : Addr) (n : Int) (xs ys : List V) (SS : List (List Int)) (G : List Int),
      2 ≤ n → n ≤ 9 → H l3 = some (.lst xs) → SetsV H n xs SS → SS.length ≤ 6 → H l6 = some (.lst ys) → ChsV H ys (chs n SS) → SetV H n g G → TabG H P →
      (∀ H' y9 y10 y11, Sm P H H' → D.nx [y0, y1, some (.int n), some (.ref l3), y4, none, some (.ref l6), y7, some g, y9, y10, y11, none, none, none, none, none, none, none, none] H') →
      t D [y0, y1, some (.int n), some (.ref l3), y4, none, some (.ref l6), y7, some g, y9, y10, y11, none, none, none, none, none, none, none, none] H := by
  obtain ⟨t2, ht2, h2nd⟩ := blk_goal2 (f := f) (cdv := cdv) (A := A) (outer := outer) (s := s) (H0 := H0) (E := E) L hr
  have B := L.B
  have nd := scLaw.nd
  have hu1 : (LX prog w K mg base f cdv A outer s H0 E).A.units + 1 + Datum.depth (Tup Int) < cLine := by
    have h := hr.units
    have d : Datum.depth (Tup Int) ≤ 8 := by decide
    show (A.deeper (envOfC "law" (defScope sLaw) s.heap.objs.size f cdv)).units + 1 + _ < _
    omega
  refine ⟨_, pss_cons (ps_setLc (i := 9) (own := [("_law_word", 18), ("_law_total", 19)]) (g := gTup K 2 (gCons (gName 18) (gCons (gName 19) gNil))) (tt := tTest (tOp (rEqT K) (tVar 19) (tVar 8))) (te := tVar 18) rfl nd rfl rfl rfl (pi_list (pv 6)) (blkOk_by (N := nLaw) (sc := defScope sLaw) (by decide +kernel))
        (fun _ _ _ _ _ => pg_tup rfl (pgs_cons (pg_name (i := 18) nd rfl (.inl rfl)) (pgs_cons (pg_name (i := 19) nd rfl (.inl rfl)) pgs_nil)))
        (fun _ _ _ _ _ => pts_one (pt_cmpR (op_eqT hr.units) (pv 19) (pv 8) (nomark _))) (fun _ _ _ _ _ => by exact (pv 18)))
    (pss_cons (ps_set (i := 10) nd rfl (.inr rfl) (pe_callB (cr_min rfl) (by rfl) B.min boot_min (pa_cons (pe_op op_cat
        (pe_lc (own := [("_law_word", 18)]) (g := gName 18) (tt := tYes) (te := tCB (rLenS K) (tCons (tVar 18) tNil)) rfl nd (pi_list (pv 9)) (blkOk_by (N := nLaw) (sc := defScope sLaw) (by decide +kernel))
          (fun _ _ _ _ _ => pg_name (i := 18) nd rfl (.inl rfl)) (fun _ _ _ _ _ => pts_nil)
          (fun _ _ _ _ _ => by exact (pe_callB call_len_seq (by rfl) B.len PySem.boot_len (pa_cons (pv 18) pa_nil))))
        (pe_lst (pa_cons pe_int pa_nil))) pa_nil)))
    (pss_cons (ps_set (i := 11) nd rfl (.inl rfl) (pe_ifExp (pt_cmpR (op_neL hr.units) (pv 9) (pe_lst pa_nil) (nomark _))
        (pe_callB (cr_minD (α := Tup Int) rfl hu1) (by rfl) B.min boot_min (pa_cons
          (pe_lc (own := [("_law_word", 18)]) (g := gName 18) (tt := tTest (tOp rEq (tCB (rLenS K) (tCons (tVar 18) tNil)) (tVar 10))) (te := tVar 18) rfl nd (pi_list (pv 9)) (blkOk_by (N := nLaw) (sc := defScope sLaw) (by decide +kernel))
            (fun _ _ _ _ _ => pg_name (i := 18) nd rfl (.inl rfl))
            (fun _ _ _ _ _ => pts_one (by exact (pt_cmpR op_eq (pe_callB call_len_seq (by rfl) B.len PySem.boot_len (pa_cons (pv 18) pa_nil)) (pv 10) (nomark _))))
            (fun _ _ _ _ _ => by exact (pv 18))) pa_nil)) pe_non))
    ht2)), ?_⟩
  intro D H y0 y1 y4 y7 y9 y10 y11 g l3 l6 n xs ys SS G h2 h9 h3 hSS h6 hl6 hys hg hT q
  have cl : (chs n SS).length = 2 ^ SS.length := chsTo_len n SS SS.length
  have ylen : ys.length = (chs n SS).length := hys.1
  have i6 : 2 ^ SS.length ≤ 2 ^ 6 := Nat.pow_le_pow_right (by decide) h6
  have hfl : (fitsM (chs n SS) G).length ≤ 64 := by
    unfold fitsM
    rw [List.length_map]
    have := List.length_filter_le (fun p : Ch => decide (p.2 = G)) (chs n SS)
    omega
  have hw6 : ∀ u ∈ fitsM (chs n SS) G, u.length ≤ 6 := fun u hu => by
    obtain ⟨p, hp, _, rfl⟩ := fits_mem.mp hu
    exact Nat.le_trans (chsTo_w n SS SS.length p hp) h6
  refine ⟨_, rfl, l6, rfl, ⟨_, SqL.of hl6⟩, fun D1 nD1 => ?_⟩
  refine lc_it walk_list (fun j Hc => (∃ acc, Hc D1 = some (.lst acc) ∧ DpAll K Hc acc ((fitsM ((chs n SS).take j) G).map ti)) ∧ Sm P H Hc)
    ⟨⟨[], upd_same, .nil⟩, Sm.new nD1⟩ (fun j Hc _ hp => hp.2.sqL (SqL.of hl6)) (fun j x Hc Hc' hj hp hy => ?_) (fun Ha hp => ?_)
  · obtain ⟨⟨acc, hD, hacc⟩, sc⟩ := hp
    obtain ⟨rfl, ex⟩ := hy
    obtain ⟨p, ep, a, x1, x2, rfl, ht, v1, v2⟩ := hys.2 j x ex
    have htc := sc.tt _ _ ht
    refine ⟨a, [x1, x2], rfl, .inl (.inl htc), rfl, x1, [x2], rfl, x2, [], rfl, rfl, rfl, ?_⟩
    refine ⟨x2, rfl, g, rfl, p.2, G, (v2.tt sc.tt).dp, (hg.tt sc.tt).sq, _, rfl, ?_⟩
    have es : fitsM ((chs n SS).take (j + 1)) G = fitsM ((chs n SS).take j) G ++ if p.2 = G then [p.1] else [] := by
      unfold fitsM
      rw [filter_snoc ep, List.map_append]
      congr 1
      by_cases c : p.2 = G
      · rw [if_pos c, if_pos (decide_eq_true c)]
        rfl
      · rw [if_neg c, if_neg (by rw [decide_eq_false c]; decide)]
        rfl
    rw [es]
    by_cases c : p.2 = G
    · rw [decide_eq_true c, if_pos c]
      refine iteT ⟨x1, rfl, acc, hD, ?_, ⟨_, upd_same, ?_⟩, Sm.put nD1 sc (fun q z => by rw [hD] at z; cases z)⟩
      · have e := dpAll_len hacc
        unfold fitsM at e
        rw [List.length_map, List.length_map] at e
        have := List.length_filter_le (fun p : Ch => decide (p.2 = G)) ((chs n SS).take j)
        rw [List.length_take] at this
        exact small1000 (by omega)
      · rw [List.map_append]
        exact dpAll_app (dpAll_keep (tk_lst hD) _ _ (noL_map noL_ti _) hacc) (.cons (dp_keep (tk_lst hD) _ _ (noL_ti _) (v1.tt sc.tt).dp) .nil)
    · rw [decide_eq_false c, if_neg c, List.append_nil]
      exact iteF ⟨⟨acc, hD, hacc⟩, sc⟩
  obtain ⟨⟨fl, hfD, hf⟩, sa⟩ := hp
  rw [ylen, List.take_length] at hf
  generalize eF : fitsM (chs n SS) G = F at *
  have fll : fl.length = F.length := by
    have e := dpAll_len hf
    rw [List.length_map] at e
    exact e
  refine ⟨_, rfl, D1, rfl, ⟨_, SqL.of hfD⟩, fun D2 nD2 => ?_⟩
  refine lc_it walk_list (fun j Hc => Hc D2 = some (.lst (((F.take j).map fun u => (u.length : Int)).map V.int)) ∧ Sm P Ha Hc)
    ⟨upd_same, Sm.new nD2⟩ (fun j Hc _ hp => hp.2.sqL (SqL.of hfD)) (fun j x Hc Hc' hj hp hy => ?_) (fun Hb hp => ?_)
  · obtain ⟨hD, sc⟩ := hp
    obtain ⟨rfl, ex⟩ := hy
    obtain ⟨u, eu, du⟩ := dpAll_at hf ex
    obtain ⟨a, rfl, sq⟩ := ti_dp (dp_keep sc.tk _ _ (noL_ti _) du)
    refine ⟨rfl, .ref a, rfl, a, _, rfl, .inr sq, _, hD, ?_, ?_, Sm.put nD2 sc (fun q z => by rw [hD] at z; cases z)⟩
    · rw [List.length_map, List.length_map, List.length_take]
      exact small1000 (by omega)
    · rw [upd_same, List.take_add_one, eu, List.map_append, List.map_append, List.length_map]
      rfl
  obtain ⟨hD2, sb⟩ := hp
  rw [fll, List.take_length] at hD2
  refine ⟨by show 1 ≤ sizeLine; decide, fun D3 nD3 => ?_⟩
  have hD2' : upd Hb D3 (.lst [.int 99]) D2 = some (.lst ((F.map fun u => (u.length : Int)).map V.int)) := by
    rw [upd_ne (ne_of_none hD2 nD3)]
    exact hD2
  refine ⟨D2, D3, _, _, rfl, rfl, hD2', upd_same, ?_, fun D4 nD4 => ?_⟩
  · rw [List.length_map, List.length_map]
    exact Nat.le_of_lt (small1000 (show F.length + 1 ≤ 1000 by omega))
  have s4 : Sm P Ha (upd (upd Hb D3 (.lst [.int 99])) D4 (.lst ((F.map fun u => (u.length : Int)).map V.int ++ [V.int 99]))) := sb.trans ((Sm.new nD3).trans (Sm.new nD4))
  have e4 : (F.map fun u : List Int => (u.length : Int)).map V.int ++ [V.int 99] = ((F.map fun u : List Int => (u.length : Int)) ++ [99]).map V.int := by
    rw [List.map_append]
    rfl
  rw [e4] at s4 ⊢
  refine ⟨D4, _, rfl, SqL.of upd_same, by rw [List.length_append]; exact Nat.succ_pos _, fun m m1 m2 => ?_⟩
  generalize upd (upd Hb D3 (.lst [.int 99])) D4 _ = Hd at *
  have hfd := s4.lst hfD
  have hf4 := dpAll_keep s4.tk _ _ (noL_map noL_ti _) hf
  refine ⟨_, rfl, Nat.zero_le _, fun D5 nD5 => ?_⟩
  have s5 : Sm P Hd (upd Hd D5 (.lst [])) := Sm.new nD5
  generalize e5 : upd Hd D5 (.lst []) = He at *
  have hf5 := dpAll_keep s5.tk _ _ (noL_map noL_ti _) hf4
  have hfe := s5.lst hfd
  have sAll : Sm P H He := sa.trans (s4.trans s5)
  refine ⟨D1, D5, fl, F, rfl, rfl, SqL.of hfe, SqL.of (by rw [← e5]; exact upd_same), hf5, _, rfl, ?_⟩
  have h3e := sAll.lst h3
  have hSSe := hSS.sm sAll
  have hge := hg.sm sAll
  have hTe := sAll.1 hT
  have hcnt : fl.length = cntM n SS G := by rw [cnt_law, eF]; exact fll
  by_cases cF : F = []
  · have e0 : (!F.isEmpty) = false := by rw [cF]; rfl
    rw [e0]
    have en : onceM n SS G = none := once_none (by rw [eF]; exact cF)
    refine iteF ?_
    refine h2nd D He y0 y1 y4 _ y7 _ g .non l3 D1 n xs fl SS G h2 h9 h3e hSSe h6 hge hTe (SqL.of hfe) hcnt ?_ (fun w hw => by rw [en] at hw; cases hw) (fun H' s' => q H' _ _ _ (sAll.trans s'))
    rw [en]
    exact rfl
  · have e0 : (!F.isEmpty) = true := by
      cases F with
      | nil => exact (cF rfl).elim
      | cons u us => rfl
    rw [e0]
    refine iteT ⟨_, rfl, D1, rfl, ⟨_, SqL.of hfe⟩, fun D6 nD6 => ?_⟩
    refine lc_it walk_list (fun j Hc => (∃ acc, Hc D6 = some (.lst acc) ∧ DpAll K Hc acc (((F.take j).filter fun u => decide ((u.length : Int) = m)).map ti)) ∧ Sm P He Hc)
      ⟨⟨[], upd_same, .nil⟩, Sm.new nD6⟩ (fun j Hc _ hp => hp.2.sqL (SqL.of hfe)) (fun j x Hc Hc' hj hp hy => ?_) (fun Hx hp => ?_)
    · obtain ⟨⟨acc, hD, hacc⟩, sc⟩ := hp
      obtain ⟨rfl, ex⟩ := hy
      obtain ⟨u, eu, du⟩ := dpAll_at hf5 ex
      have du' := dp_keep sc.tk _ _ (noL_ti _) du
      obtain ⟨a, rfl, sq⟩ := ti_dp du'
      refine ⟨rfl, .ref a, rfl, a, _, rfl, .inr sq, .int m, rfl, rfl, _, rfl, ?_⟩
      rw [filter_snoc eu]
      have ed : decide (V.int (((u.map V.int).length : Nat) : Int) = V.int m) = decide ((u.length : Int) = m) := by
        rw [List.length_map]
        exact decide_eq_decide.mpr ⟨fun z => V.int.inj z, fun z => by rw [z]⟩
      rw [ed]
      by_cases c : (u.length : Int) = m
      · rw [decide_eq_true c, if_pos rfl]
        refine iteT ⟨.ref a, rfl, acc, hD, ?_, ⟨_, upd_same, ?_⟩, Sm.put nD6 sc (fun q z => by rw [hD] at z; cases z)⟩
        · have e := dpAll_len hacc
          rw [List.length_map] at e
          have := List.length_filter_le (fun u : List Int => decide ((u.length : Int) = m)) (F.take j)
          rw [List.length_take] at this
          exact small1000 (by omega)
        · rw [List.map_append]
          exact dpAll_app (dpAll_keep (tk_lst hD) _ _ (noL_map noL_ti _) hacc) (.cons (dp_keep (tk_lst hD) _ _ (noL_ti _) du') .nil)
      · rw [decide_eq_false c, if_neg (by decide), List.append_nil]
        exact iteF ⟨⟨acc, hD, hacc⟩, sc⟩
    · obtain ⟨⟨acc, hD, hacc⟩, sc⟩ := hp
      rw [fll, List.take_length] at hacc
      have ne := few_ne cF (fun u hu => by have := hw6 u hu; omega) m1 m2
      cases ef : F.filter fun u => decide ((u.length : Int) = m) with
      | nil => exact (ne ef).elim
      | cons b bs =>
        rw [ef] at hacc
        have hon := once_some (n := n) (SS := SS) (G := G) (m := m) (b := b) (bs := bs) (by rw [eF]; exact m2) (by rw [eF]; exact ef)
        have hM : ∀ w, onceM n SS G = some w → w.length ≤ 1000 := fun w hw => by
          have := (minOf_ok (bs.map Tup.mk) (Tup.mk b)).1
          rw [← List.map_cons, ← ef] at this
          obtain ⟨u, hu, eu⟩ := List.mem_map.mp this
          rw [hon] at hw
          cases hw
          rw [← eu]
          have := hw6 u (List.mem_filter.mp hu).1
          show u.length ≤ 1000
          omega
        refine ⟨D6, acc, Tup.mk b, bs.map Tup.mk, rfl, SqL.of hD, ?_, fun v hv => ?_⟩
        · rw [← List.map_cons, List.map_map]
          exact hacc
        · refine h2nd D Hx y0 y1 y4 _ y7 _ g v l3 D1 n xs fl SS G h2 h9 (sc.lst h3e) (hSSe.sm sc) h6 (hge.sm sc) (sc.1 hTe) (SqL.of (sc.lst hfe)) hcnt ?_ hM (fun H' s' => q H' _ _ _ (sAll.trans (sc.trans s')))
          rw [hon]
          exact hv
end
end Pk

/-! law: gaps -/
namespace Pk
open PySem PySem.Spec PyProof.Rows L2 GxR
open PySem.W (Datum DatumOrd Tup T3)
theorem okD_pd (p : Int × Int) : okD 1 (pd p) := .inr ⟨_, rfl, rfl, by show 2 ≤ 1000; decide, fun e he => by
  rcases List.mem_cons.mp he with z | z
  · rw [z]
    exact okD_int 0 _
  · have z' : e = .int p.2 := by simpa using z
    rw [z']
    exact okD_int 0 _⟩
theorem okD_pds {L : List (Int × Int)} (h : L.length ≤ 1000) : okD 2 (.tuple (L.map pd)) := .inr ⟨_, rfl, noL_map noL_pd L, by rw [List.length_map]; exact h, fun e he => by
  obtain ⟨p, _, rfl⟩ := List.mem_map.mp he
  exact okD_pd p⟩
theorem gl_stop {n : Int} {S : List Int} {p l : Int} (h : ¬ (l < n ∧ ¬ (p + l) % n ∈ S)) : ∀ k, gl n S p k l = l
  | 0 => rfl
  | k + 1 => if_neg h
theorem gl_go {n : Int} {S : List Int} {p l : Int} {k : Nat} (h : l < n ∧ ¬ (p + l) % n ∈ S) : gl n S p (k + 1) l = gl n S p k (l + 1) := if_pos h
section
variable {prog : Program} {w : World} {K : PySem.W.Frag} {mg : Str → Option Value} {base : Heap} {P : Addr} {k : Nat}
variable {f : Addr} {cdv : Value} {A : Around} {outer : List Env} {s : Shared} {H0 : Hp} {E : XK}
def ifB : Stmt → List Stmt
  | .If _ b _ _ => b
  | _ => []
theorem blk_gap (L : Deps prog w K mg base P k) (hr : Room k (A.deeper (envOfC "law" (defScope sLaw) s.heap.objs.size f cdv))) :
    ∃ t, PSs (LX prog w K mg base f cdv A outer s H0 E) (ifB ((forB (lawAt 10))[0]?.getD (.Pass default))) t ∧ ∀ (D : Ends) (H : Hp) (y0 y1 y3 y4 y6 y7 y8 y9 y10 y12 y13 y14 y15 y17 : Option V) (o b : Addr) (ys : List V) (n p : Int) (S : List Int),
      2 ≤ n → SqT K H b (S.map V.int) → H o = some (.lst ys) → ys.length ≤ 100 →
      (∀ t y17, H t = none → D.nx [y0, y1, some (.int n), y3, y4, some (.int p), y6, y7, y8, y9, y10, some (.ref o), y12, y13, y14, y15, some (.ref b), y17, none, none] (upd (upd H t (.tup [.int p, .int (gl n S p n.toNat 1)])) o (.lst (ys ++ [.ref t])))) →
      t D [y0, y1, some (.int n), y3, y4, some (.int p), y6, y7, y8, y9, y10, some (.ref o), y12, y13, y14, y15, some (.ref b), y17, none, none] H := by
  have nd := scLaw.nd
  refine ⟨_, pss_cons (ps_set (i := 17) nd rfl (.inl rfl) pe_int)
        (pss_cons (ps_while PassesOwn.never (PW.pt (pw_and (pt_cmpR op_lt (pv 17) (pv 2) (nomark _)) (pw_and1 (pt_cmpR op_notIn_seq (pe_op op_modN (pe_op op_add (pv 5) (pv 17)) (pv 2)) (pv 16) (by rfl)))))
          (pss_one (ps_set (i := 17) nd rfl (.inl rfl) (pe_op op_add (pv 17) pe_int))))
        (pss_one (ps_expr (pe_bm PySem.F.plainAttrs_list PySem.F.slot_list_append PySem.F.type_list_append mt_append (pv 11) (pa_cons (pe_tup (pa_cons (pv 5) (pa_cons (pv 17) pa_nil))) pa_nil))))), ?_⟩
  intro D H y0 y1 y3 y4 y6 y7 y8 y9 y10 y12 y13 y14 y15 y17 o b ys n p S h2 sqb ho yl q
  refine ⟨fun m σ' H' => ∃ l k, σ' = [y0, y1, some (.int n), y3, y4, some (.int p), y6, y7, y8, y9, y10, some (.ref o), y12, y13, y14, y15, some (.ref b), some (.int l), none, none] ∧ H' = H ∧ m = (n - l).toNat ∧ (n - l).toNat ≤ k ∧ gl n S p k l = gl n S p n.toNat 1,
    ⟨_, 1, n.toNat, rfl, rfl, rfl, by omega, rfl⟩, fun m σ' H' hW => ?_⟩
  obtain ⟨l, k', rfl, rfl, rfl, hk', e'⟩ := hW
  have stop : ¬ (l < n ∧ ¬ (p + l) % n ∈ S) → gl n S p n.toNat 1 = l := fun c => by
    rw [← e']
    exact gl_stop c k'
  have fin : gl n S p n.toNat 1 = l → ∀ t, H' t = none → D.nx [y0, y1, some (.int n), y3, y4, some (.int p), y6, y7, y8, y9, y10, some (.ref o), y12, y13, y14, y15, some (.ref b), some (.int l), none, none] (upd (upd H' t (.tup [.int p, .int l])) o (.lst (ys ++ [.ref t]))) := fun e t nt => by
    have := q t (some (.int l)) nt
    rw [e] at this
    exact this
  refine ⟨_, rfl, _, rfl, l, n, rfl, rfl, _, rfl, ?_⟩
  by_cases c1 : l < n
  · rw [decide_eq_true c1]
    refine iteT ⟨_, rfl, _, rfl, p, l, rfl, rfl, _, rfl, p + l, n, rfl, rfl, by omega, _, rfl, b, _, rfl, .inr sqb, rfl, flat_ints S, _, rfl, ?_⟩
    show if (!inV (.int ((p + l).fmod n)) (S.map V.int)) = true then _ else _
    rw [inV_ints, fmod_pos (by omega)]
    by_cases hm : (p + l) % n ∈ S
    · rw [decide_eq_true hm]
      refine iteF ⟨.ref o, rfl, .inl ⟨rfl, _, SqL.of ho⟩, .int p, rfl, .int l, rfl, by show 2 ≤ sizeLine; decide, fun t nt => ?_⟩
      have ho2 : upd H' t (.tup [.int p, .int l]) o = some (.lst ys) := by rw [upd_ne (ne_of_none ho nt)]; exact ho
      exact ⟨o, ys, _, rfl, rfl, ho2, small1000 (by omega), fin (stop (fun z => z.2 hm)) t nt⟩
    · rw [decide_eq_false hm]
      cases k' with
      | zero => omega
      | succ k' =>
        rw [gl_go ⟨c1, hm⟩] at e'
        refine iteT ⟨fun σ'' H'' => σ'' = [y0, y1, some (.int n), y3, y4, some (.int p), y6, y7, y8, y9, y10, some (.ref o), y12, y13, y14, y15, some (.ref b), some (.int (l + 1)), none, none] ∧ H'' = H', fun σ'' H'' hN => ?_, ?_⟩
        · obtain ⟨rfl, rfl⟩ := hN
          exact ⟨(n - (l + 1)).toNat, by omega, l + 1, k', rfl, rfl, rfl, by omega, e'⟩
        · exact ⟨_, rfl, _, _, rfl, rfl, rfl, rfl⟩
  · rw [decide_eq_false c1]
    refine iteF ⟨.ref o, rfl, .inl ⟨rfl, _, SqL.of ho⟩, .int p, rfl, .int l, rfl, by show 2 ≤ sizeLine; decide, fun t nt => ?_⟩
    have ho2 : upd H' t (.tup [.int p, .int l]) o = some (.lst ys) := by rw [upd_ne (ne_of_none ho nt)]; exact ho
    exact ⟨o, ys, _, rfl, rfl, ho2, small1000 (by omega), fin (stop (fun z => c1 z.1)) t nt⟩
theorem blk9 (L : Deps prog w K mg base P k) (hr : Room k (A.deeper (envOfC "law" (defScope sLaw) s.heap.objs.size f cdv))) :
    ∃ t, PSs (LX prog w K mg base f cdv A outer s H0 E) ((defBody sLaw).drop 9) t ∧ ∀ (D : Ends) (H : Hp) (y0 y3 y4 y6 y7 y8 y9 y10 y11 y12 y13 y14 y15 : Option V) (r a : Addr) (zs : List Int) (n : Int),
      2 ≤ n → n ≤ 7 → RowIs H r a → Scr K H r a zs → TabG H P → (∀ H', D.rt (.bl true) H') →
      t D [y0, some (.ref r), some (.int n), y3, y4, none, y6, y7, y8, y9, y10, y11, y12, y13, y14, y15, none, none, none, none] H := by
  obtain ⟨f1, fd1, F1, G1⟩ := L.alike
  obtain ⟨f2, fd2, F2, G2⟩ := L.lset
  obtain ⟨f3, fd3, F3, G3⟩ := L.gaps
  obtain ⟨t2, ht2, h2nd⟩ := blk_gap (f := f) (cdv := cdv) (A := A) (outer := outer) (s := s) (H0 := H0) (E := E) L hr
  have B := L.B
  have nd := scLaw.nd
  refine ⟨_, pss_cons (ps_par (i := 16) (j := 11) rfl nd rfl rfl (by decide) rfl rfl (pa_cons (pe_call G2 hr (by rfl) F2.g F2.F.kp F2.b .nil pass0 (pa_cons (pv 1) (pa_cons (pv 2) pa_nil))) (pa_cons (pe_lst pa_nil) pa_nil)) (by rfl))
    (pss_cons (ps_for PassesOwn.never rfl (pi_range1 (by rfl) B.range (pa_cons (pv 2) pa_nil)) (pg_name (i := 5) nd rfl (.inl rfl))
      (pss_one (ps_if (PW.pt (pw_and (pt_cmpR op_notIn_seq (pv 5) (pv 16) (by rfl)) (pw_and1 (PW.pt (pw_or (pt_cmpR op_in_seq (pe_op op_modN (pe_op op_sub (pv 5) pe_int) (pv 2)) (pv 16) (by rfl))
            (pw_or1 (PW.pt (pw_and (pt_cmpR (op_eqT hr.units) (pv 16) (pe_tup pa_nil) (nomark _)) (pw_and1 (pt_cmpR op_eq (pv 5) pe_int (nomark _)))))))))))
        ht2 pss_nil)))
    (pss_one (ps_ret (pe_call G1 hr (by rfl) F1.g F1.F.kp F1.b .nil pass0 (pa_cons (pe_call G3 hr (by rfl) F3.g F3.F.kp F3.b .nil pass0 (pa_cons (pv 2) (pa_cons (pv 16) pa_nil)))
      (pa_cons (pe_callTy call_tuple_of (by rfl) B.tuple boot_tuple (pa_cons (pv 11) pa_nil)) pa_nil)))))), ?_⟩
  intro D H y0 y3 y4 y6 y7 y8 y9 y10 y11 y12 y13 y14 y15 r a zs n h2 h7 hrow hs hT q
  refine ⟨_, rfl, _, rfl, r, a, zs, n, rfl, h2, by omega, hrow, hs, fun b S H1 iS hb row1 s1 _ tab1 => ⟨Nat.zero_le _, fun o no => ?_⟩⟩
  have hT1 := tab1 hT
  have vS : SetV H1 n (.ref b) S := ⟨b, rfl, hb, iS⟩
  have so : Sm P H1 (upd H1 o (.lst [])) := Sm.new no
  refine ⟨_, _, rfl, _, rfl, n, rfl, by omega, by omega, for_it walk_range (fun i σ H' => (∃ y5 y17 ys, σ = [y0, some (.ref r), some (.int n), y3, y4, y5, y6, y7, y8, y9, y10, some (.ref o), y12, y13, y14, y15, some (.ref b), y17, none, none] ∧ H' o = some (.lst ys) ∧ DpAll K H' ys ((((ran n).take i).filterMap (lg1 n S)).map pd)) ∧ Sm P H1 H')
    ⟨⟨_, _, [], rfl, upd_same, .nil⟩, so⟩ (fun _ _ _ _ _ => trivial) (fun i v σ Ha Hb hi hP y => ?_) (fun σ H' hP => ?_)⟩
  · obtain ⟨⟨y5, y17, ys, rfl, ho, hd⟩, sm⟩ := hP
    obtain ⟨rfl, ev⟩ := y
    obtain rfl : v = V.int (i : Int) := ev.trans (zadd i)
    have sqb : SqT K Hb b (S.map V.int) := .inl (.inl (sm.tt _ _ hb))
    have et : (ran n).take (i + 1) = (ran n).take i ++ [(i : Int)] := by
      rw [List.take_add_one, ran_get hi]
      rfl
    have yl : ys.length ≤ 100 := by
      have q1 := dpAll_len hd
      rw [List.length_map] at q1
      have q2 := List.length_filterMap_le (lg1 n S) ((ran n).take i)
      rw [List.length_take] at q2
      omega
    generalize (i : Int) = p at *
    have none_ : lg1 n S p = none → ∀ H', DpAll K H' ys ((((ran n).take i).filterMap (lg1 n S)).map pd) → DpAll K H' ys ((((ran n).take (i + 1)).filterMap (lg1 n S)).map pd) := fun e H' d => by
      rw [et, List.filterMap_append, List.filterMap_cons_none e, List.filterMap_nil, List.append_nil]
      exact d
    have some_ : lg1 n S p = some (p, gl n S p n.toNat 1) → ∀ Hc, Sm P Hb Hc → ∀ t, Hc t = none → DpAll K (upd (upd Hc t (.tup [.int p, .int (gl n S p n.toNat 1)])) o (.lst (ys ++ [.ref t]))) (ys ++ [.ref t]) ((((ran n).take (i + 1)).filterMap (lg1 n S)).map pd) ∧ Sm P H1 (upd (upd Hc t (.tup [.int p, .int (gl n S p n.toNat 1)])) o (.lst (ys ++ [.ref t]))) := fun e Hc sc t nt => by
      have st : Sm P Hc (upd Hc t (.tup [.int p, .int (gl n S p n.toNat 1)])) := Sm.new nt
      have hot := (sc.trans st).lst ho
      have tk8 : TK K (upd Hc t (.tup [.int p, .int (gl n S p n.toNat 1)])) (upd (upd Hc t (.tup [.int p, .int (gl n S p n.toNat 1)])) o (.lst (ys ++ [.ref t]))) := tk_lst hot
      refine ⟨?_, Sm.put no (sm.trans (sc.trans st)) (fun q z => by rw [hot] at z; cases z)⟩
      rw [et, List.filterMap_append, List.filterMap_cons_some e, List.filterMap_nil, List.map_append]
      exact dpAll_app (dpAll_keep ((sc.trans st).tk.trans tk8) _ _ (noL_map noL_pd _) hd) (.cons (.tup (tk8 _ _ (.inl (.inl upd_same))) (.cons (.int _) (.cons (.int _) .nil))) .nil)
    refine ⟨_, rfl, .ref b, rfl, b, _, rfl, .inr sqb, rfl, flat_ints S, _, rfl, ?_⟩
    show if (!inV (.int p) (S.map V.int)) = true then _ else _
    rw [inV_ints]
    by_cases hp : p ∈ S
    · rw [decide_eq_true hp]
      exact iteF ⟨⟨_, _, ys, rfl, ho, none_ (if_neg (fun z => z.1 hp)) _ hd⟩, sm⟩
    · rw [decide_eq_false hp]
      refine iteT ⟨_, rfl, _, _, rfl, rfl, _, rfl, p - 1, n, rfl, rfl, by omega, _, rfl, b, _, rfl, .inr sqb, rfl, flat_ints S, _, rfl, ?_⟩
      show if inV (.int ((p - 1).fmod n)) (S.map V.int) = true then _ else _
      rw [inV_ints, fmod_pos (by omega)]
      by_cases hm : (p - 1) % n ∈ S
      · rw [decide_eq_true hm]
        refine iteT (h2nd _ Hb y0 _ y3 y4 y6 y7 y8 y9 y10 y12 y13 y14 y15 y17 o b ys n p S h2 sqb ho yl fun t y17' nt => ?_)
        obtain ⟨z1, z2⟩ := some_ (if_pos ⟨hp, .inl hm⟩) Hb (Sm.refl _ _) t nt
        exact ⟨⟨_, _, _, rfl, upd_same, z1⟩, z2⟩
      · rw [decide_eq_false hm]
        refine iteF ⟨_, rfl, Nat.zero_le _, fun t nt => ?_⟩
        have st : Sm P Hb (upd Hb t (.tup [])) := Sm.new nt
        have hdt := dpAll_keep st.tk _ _ (noL_map noL_pd _) hd
        refine ⟨S, [], dp_ti (st.tk _ _ sqb), dp_ti (.inl (.inl upd_same)), _, rfl, ?_⟩
        by_cases hS : S = []
        · rw [decide_eq_true hS]
          refine iteT ⟨_, rfl, rfl, _, rfl, ?_⟩
          by_cases h0 : p = 0
          · rw [decide_eq_true (show V.int p = V.int 0 by rw [h0])]
            refine iteT (h2nd _ _ y0 _ y3 y4 y6 y7 y8 y9 y10 y12 y13 y14 y15 y17 o b ys n p S h2 (st.tk _ _ sqb) (st.lst ho) yl fun t' y17' nt' => ?_)
            obtain ⟨z1, z2⟩ := some_ (if_pos ⟨hp, .inr ⟨hS, h0⟩⟩) _ st t' nt'
            exact ⟨⟨_, _, _, rfl, upd_same, z1⟩, z2⟩
          · rw [decide_eq_false (fun z => h0 (V.int.inj z))]
            exact iteF ⟨⟨_, _, ys, rfl, st.lst ho, none_ (if_neg (fun z => z.2.elim hm (fun y => h0 y.2))) _ hdt⟩, sm.trans st⟩
        · rw [decide_eq_false hS]
          exact iteF ⟨⟨_, _, ys, rfl, st.lst ho, none_ (if_neg (fun z => z.2.elim hm (fun y => hS y.1))) _ hdt⟩, sm.trans st⟩
  · obtain ⟨⟨y5, y17, ys, rfl, ho, hd⟩, sm⟩ := hP
    rw [List.take_of_length_le (by rw [ran_len]; exact Nat.le_refl _)] at hd
    refine ⟨_, rfl, _, rfl, n, .ref b, S, rfl, h2, by omega, vS.sm sm, sm.1 hT1, fun H2 v2 s2 d2 => ?_⟩
    have ho2 := s2.lst ho
    have hd2 := dpAll_keep s2.tk _ _ (noL_map noL_pd _) hd
    refine ⟨_, rfl, o, ys, rfl, .inl ⟨SqL.of ho2, fun t nt => ?_⟩⟩
    have st : Sm P H2 (upd H2 t (.tup ys)) := Sm.new nt
    rw [gaps_law h2 h7 iS] at d2
    have hdt : Dp K (upd H2 t (.tup ys)) (.ref t) (.tuple ((lgM n S).map pd)) := .tup (.inl (.inl upd_same)) (dpAll_keep st.tk _ _ (noL_map noL_pd _) hd2)
    have nl : noL (.tuple ((lgM n S).map pd)) = true := by
      show noL (.tuple _) = true
      simp only [noL]
      exact noL_map noL_pd _
    refine ⟨v2, .ref t, _, rfl, okD_pds ?_, dp_keep st.tk _ _ nl d2, hdt, fun H5 s5 => q H5⟩
    have := List.length_filterMap_le (lg1 n S) (ran n)
    rw [ran_len] at this
    show (lgM n S).length ≤ 1000
    unfold lgM
    omega
end
end Pk

/-! law: equal sums -/
namespace Pk
open PySem PySem.Spec PyProof.Rows L2 GxR
open PySem.W (Datum DatumOrd Tup T3)
section
variable {prog : Program} {w : World} {K : PySem.W.Frag} {mg : Str → Option Value} {base : Heap} {P : Addr} {k : Nat}
variable {f : Addr} {cdv : Value} {A : Around} {outer : List Env} {s : Shared} {H0 : Hp} {E : XK}
theorem blk6 (L : Deps prog w K mg base P k) (hr : Room k (A.deeper (envOfC "law" (defScope sLaw) s.heap.objs.size f cdv))) :
    ∃ t, PSs (LX prog w K mg base f cdv A outer s H0 E) ((defBody sLaw).drop 6) t ∧ ∀ (D : Ends) (H : Hp) (y0 y4 y6 y7 y8 y9 y10 y11 y12 y13 y14 y15 : Option V) (r a l3 : Addr) (zs : List Int) (n : Int) (xs : List V) (SS : List (List Int)),
      2 ≤ n → n ≤ 7 → RowIs H r a → Scr K H r a zs → TabG H P → H l3 = some (.lst xs) → SetsV H n xs SS → SS.length ≤ 6 → (∀ H', D.rt (.bl true) H') →
      t D [y0, some (.ref r), some (.int n), some (.ref l3), y4, none, y6, y7, y8, y9, y10, y11, y12, y13, y14, y15, none, none, none, none] H := by
  obtain ⟨f1, fd1, F1, G1⟩ := L.alike
  obtain ⟨f2, fd2, F2, G2⟩ := L.lsum
  obtain ⟨f3, fd3, F3, G3⟩ := L.equal
  obtain ⟨t9, ht9, h9nd⟩ := blk9 (f := f) (cdv := cdv) (A := A) (outer := outer) (s := s) (H0 := H0) (E := E) L hr
  have B := L.B
  have nd := scLaw.nd
  refine ⟨_, pss_cons (ps_set (i := 12) nd rfl (.inl rfl) (pe_lst pa_nil))
    (pss_cons (ps_for PassesOwn.never rfl (pi_range1 (by rfl) B.range (pa_cons (pe_callB call_len_seq (by rfl) B.len PySem.boot_len (pa_cons (pv 3) pa_nil)) pa_nil)) (pg_name (i := 13) nd rfl (.inl rfl))
      (pss_one (ps_for PassesOwn.never rfl (pi_range1 (by rfl) B.range (pa_cons (pv 13) pa_nil)) (pg_name (i := 14) nd rfl (.inl rfl))
        (pss_cons (ps_set (i := 15) nd rfl (.inl rfl) (pe_tup pa_nil))
        (pss_cons (ps_for PassesOwn.never rfl (pi_range1 (by rfl) B.range (pa_cons (pe_callB call_len_seq (by rfl) B.len PySem.boot_len (pa_cons (pv 3) pa_nil)) pa_nil)) (pg_name (i := 7) nd rfl (.inr rfl))
          (pss_one (ps_set (i := 15) nd rfl (.inl rfl) (pe_ifExp (pt_cmpR op_notIn_seq (pv 7) (pe_lst (pa_cons (pv 14) (pa_cons (pv 13) pa_nil))) (by rfl))
            (pe_call G2 hr (by rfl) F2.g F2.F.kp F2.b .nil pass0 (pa_cons (pv 2) (pa_cons (pv 15) (pa_cons (pe_ix ix_list (pv 3) (pv 7) (fun _ _ => rfl)) pa_nil)))) (pv 15)))))
        (pss_one (ps_if (pt_cmpR (op_eqT hr.units) (pe_call G2 hr (by rfl) F2.g F2.F.kp F2.b .nil pass0 (pa_cons (pv 2) (pa_cons (pv 15) (pa_cons (pe_ix ix_list (pv 3) (pv 14) (fun _ _ => rfl)) pa_nil))))
            (pe_call G2 hr (by rfl) F2.g F2.F.kp F2.b .nil pass0 (pa_cons (pv 2) (pa_cons (pv 15) (pa_cons (pe_ix ix_list (pv 3) (pv 13) (fun _ _ => rfl)) pa_nil)))) (nomark _))
          (pss_one (ps_expr (pe_bm PySem.F.plainAttrs_list PySem.F.slot_list_append PySem.F.type_list_append mt_append (pv 12) (pa_cons (pe_tup (pa_cons (pv 14) (pa_cons (pv 13) pa_nil))) pa_nil)))) pss_nil)))))))
    (pss_cons (ps_if (pt_not (pt_val (pe_call G1 hr (by rfl) F1.g F1.F.kp F1.b .nil pass0 (pa_cons
        (pe_call G3 hr (by rfl) F3.g F3.F.kp F3.b .nil pass0 (pa_cons (pv 2) (pa_cons (pe_callTy call_tuple_of (by rfl) B.tuple boot_tuple (pa_cons (pv 3) pa_nil)) pa_nil)))
        (pa_cons (pe_callTy call_tuple_of (by rfl) B.tuple boot_tuple (pa_cons (pe_callB (cr_sortD (enc := pd) (fun p p' => DatumOrd.alike p p') (fun p => ⟨_, _, rfl⟩) (fun p => Nat.le_trans (Datum.depth_le p) (by decide)) hr.units) (by rfl) B.sorted boot_sorted (pa_cons (pv 12) pa_nil)) pa_nil)) pa_nil))))) (pss_one ps_never) pss_nil) ht9)), ?_⟩
  intro D H y0 y4 y6 y7 y8 y9 y10 y11 y12 y13 y14 y15 r a l3 zs n xs SS h2 h7 hrow hs hT h3 hSS h6 q
  refine ⟨Nat.zero_le _, fun o no => ?_⟩
  have so : Sm P H (upd H o (.lst [])) := Sm.new no
  refine ⟨.ref l3, rfl, l3, xs, rfl, .inl (SqL.of (so.lst h3)), (xs.length : Int), rfl, by omega, by rw [hSS.1]; omega, for_it walk_range (fun j σ H' => (∃ y7 y13 y14 y15 ys, σ = [y0, some (.ref r), some (.int n), some (.ref l3), y4, none, y6, y7, y8, y9, y10, y11, some (.ref o), y13, y14, y15, none, none, none, none] ∧ H' o = some (.lst ys) ∧ DpAll K H' ys ((prsTo n SS j).map pd)) ∧ Sm P H H')
    ⟨⟨_, _, _, _, [], rfl, upd_same, .nil⟩, so⟩ (fun _ _ _ _ _ => trivial) (fun j v σ Ha Hb hj hP y => ?_) (fun σ H' hP => ?_)⟩
  · obtain ⟨⟨y7, y13, y14, y15, ys, rfl, ho, hd⟩, sm⟩ := hP
    obtain ⟨rfl, ev⟩ := y
    have jl : j < SS.length := by
      rw [← hSS.1]
      omega
    obtain rfl : v = V.int (j : Int) := ev.trans (zadd j)
    refine ⟨_, rfl, (j : Int), rfl, by omega, by omega, for_it walk_range (fun i σ H' => (∃ y7 y14 y15 ys, σ = [y0, some (.ref r), some (.int n), some (.ref l3), y4, none, y6, y7, y8, y9, y10, y11, some (.ref o), some (.int (j : Int)), y14, y15, none, none, none, none] ∧ H' o = some (.lst ys) ∧ DpAll K H' ys ((prsTo n SS j ++ rowTo n SS j i).map pd)) ∧ Sm P H H')
      ⟨⟨_, _, _, ys, rfl, ho, by rw [show rowTo n SS j 0 = [] from rfl, List.append_nil]; exact hd⟩, sm⟩ (fun _ _ _ _ _ => trivial) (fun i v σ Hc Hd hi hP y => ?_) (fun σ H' hP => ?_)⟩
    · obtain ⟨⟨y7, y14, y15, ys, rfl, ho, hd⟩, sm⟩ := hP
      obtain ⟨rfl, ev⟩ := y
      have ij : i < j := by omega
      obtain rfl : v = V.int (i : Int) := ev.trans (zadd i)
      refine ⟨Nat.zero_le _, fun e ne => ?_⟩
      have se : Sm P Hd (upd Hd e (.tup [])) := Sm.new ne
      have sHe := sm.trans se
      refine ⟨.ref l3, rfl, l3, xs, rfl, .inl (SqL.of (sHe.lst h3)), (xs.length : Int), rfl, by omega, by rw [hSS.1]; omega, for_it walk_range (fun k σ H' => (∃ y7 p, σ = [y0, some (.ref r), some (.int n), some (.ref l3), y4, none, y6, y7, y8, y9, y10, y11, some (.ref o), some (.int (j : Int)), some (.int (i : Int)), some (.ref p), none, none, none, none] ∧ H' p = some (.tup ((wsum n (restTo SS i j k)).map V.int)) ∧ IsS n (wsum n (restTo SS i j k))) ∧ Sm P Hd H')
        ⟨⟨_, e, rfl, upd_same, isS_nil n⟩, se⟩ (fun _ _ _ _ _ => trivial) (fun k v σ He Hf hk hP y => ?_) (fun σ Hx hP => ?_)⟩
      · obtain ⟨⟨y7, p, rfl, hp, ip⟩, sc⟩ := hP
        obtain ⟨rfl, ev⟩ := y
        obtain rfl : v = V.int (k : Int) := ev.trans (zadd k)
        have sH := sm.trans sc
        have hk' : k < xs.length := by omega
        obtain ⟨ns, e1, vz⟩ := hSS.2 k xs[k] (List.getElem?_eq_getElem hk')
        refine ⟨_, rfl, _, rfl, _, rfl, by show 2 ≤ sizeLine; decide, fun l nl => ?_⟩
        have sl : Sm P Hf (upd Hf l (.lst [.int (i : Int), .int (j : Int)])) := Sm.new nl
        have sHl := sH.trans sl
        refine ⟨l, [.int (i : Int), .int (j : Int)], rfl, .inl (SqL.of upd_same), rfl, rfl, _, rfl, ?_⟩
        show if (!inV (.int (k : Int)) [.int (i : Int), .int (j : Int)]) = true then _ else _
        rw [inV_two]
        by_cases c : k = i ∨ k = j
        · rw [decide_eq_true (by omega)]
          refine iteF ⟨_, rfl, ⟨_, p, rfl, ?_, ?_⟩, sc.trans sl⟩
          · rw [restTo_yes c]
            exact sl.tt _ _ hp
          · rw [restTo_yes c]
            exact ip
        · rw [decide_eq_false (by omega)]
          refine iteT ⟨_, rfl, _, rfl, _, rfl, _, rfl, l3, xs, (k : Int), xs[k], rfl, rfl, SqL.of (sHl.lst h3), atI_nat (List.getElem?_eq_getElem hk'), n, .ref p, xs[k], _, ns, rfl, h2, by omega, ⟨dp_ti (.inl (.inl (sl.tt _ _ hp))), ip⟩, (vz.sm sHl).d, fun H5 r5 s5 hr5 => ?_⟩
          have er : wsum n (restTo SS i j (k + 1)) = add n (wsum n (restTo SS i j k)) ns := by
            rw [restTo_no c e1]
            unfold wsum
            rw [List.foldl_append]
            rfl
          refine ⟨⟨_, r5, rfl, ?_, ?_⟩, sc.trans (sl.trans s5)⟩
          · rw [er]
            exact hr5
          · rw [er]
            exact add_isS ip.1 (by obtain ⟨_, _, _, ii⟩ := vz; exact ii.1)
      · obtain ⟨⟨y7, p, rfl, hp5, ip⟩, sx⟩ := hP
        have ek : (xs.length : Int).toNat = SS.length := by rw [hSS.1]; omega
        rw [ek] at hp5 ip
        have sH := sm.trans sx
        have il : i < xs.length := by rw [hSS.1]; omega
        have jl' : j < xs.length := by rw [hSS.1]; omega
        obtain ⟨ni, ei, di⟩ := hSS.2 i xs[i] (List.getElem?_eq_getElem il)
        obtain ⟨nj, ej, dj⟩ := hSS.2 j xs[j] (List.getElem?_eq_getElem jl')
        refine ⟨_, rfl, .ref p, rfl, _, rfl, _, rfl, l3, xs, (i : Int), xs[i], rfl, rfl, SqL.of (sH.lst h3), atI_nat (List.getElem?_eq_getElem il), n, .ref p, xs[i], _, ni, rfl, h2, by omega, ⟨dp_ti (.inl (.inl hp5)), ip⟩, (di.sm sH).d, fun H6 p1 s6 hp6 => ?_⟩
        have sH6 := sH.trans s6
        refine ⟨_, rfl, .ref p, rfl, _, rfl, _, rfl, l3, xs, (j : Int), xs[j], rfl, rfl, SqL.of (sH6.lst h3), atI_nat (List.getElem?_eq_getElem jl'), n, .ref p, xs[j], _, nj, rfl, h2, by omega, ⟨dp_ti (s6.tk _ _ (.inl (.inl hp5))), ip⟩, (dj.sm sH6).d, fun H7 p2 s7 hp7 => ?_⟩
        refine ⟨_, _, dp_ti (s7.tk _ _ (.inl (.inl hp6))), dp_ti (.inl (.inl hp7)), _, rfl, ?_⟩
        have sy : Sm P Hd H7 := (sx.trans s6).trans s7
        have ho7 : H7 o = some (.lst ys) := sy.lst ho
        have hd7 := dpAll_keep sy.tk _ _ (noL_map noL_pd _) hd
        have et : decide (add n (wsum n (restTo SS i j SS.length)) ni = add n (wsum n (restTo SS i j SS.length)) nj) = eqTest n SS i j := by
          unfold eqTest rsum
          rw [ei, ej]
          rfl
        rw [et]
        have yl : ys.length ≤ 100 := by
          have q := dpAll_len hd
          rw [List.length_map, List.length_append] at q
          have q1 := prsTo_len n SS j
          have q2 := rowTo_len n SS j i
          have q3 : j * j ≤ 6 * 6 := Nat.mul_le_mul (by omega) (by omega)
          omega
        cases ce : eqTest n SS i j with
        | true =>
          refine iteT ⟨.ref o, rfl, .inl ⟨rfl, _, SqL.of ho7⟩, .int (i : Int), rfl, .int (j : Int), rfl, by show 2 ≤ sizeLine; decide, fun t nt => ?_⟩
          have st : Sm P H7 (upd H7 t (.tup [.int (i : Int), .int (j : Int)])) := Sm.new nt
          have ho8 := st.lst ho7
          refine ⟨o, ys, _, rfl, rfl, ho8, small1000 (by omega), ⟨_, _, _, _, rfl, upd_same, ?_⟩, Sm.put no (sm.trans (sy.trans st)) (fun q z => by rw [ho8] at z; cases z)⟩
          have tk8 : TK K (upd H7 t (.tup [.int (i : Int), .int (j : Int)])) (upd (upd H7 t (.tup [.int (i : Int), .int (j : Int)])) o (.lst (ys ++ [.ref t]))) := tk_lst ho8
          have er : rowTo n SS j (i + 1) = rowTo n SS j i ++ [((i : Int), (j : Int))] := if_pos ce
          rw [er, ← List.append_assoc, List.map_append]
          exact dpAll_app (dpAll_keep (st.tk.trans tk8) _ _ (noL_map noL_pd _) hd7) (.cons (.tup (tk8 _ _ (.inl (.inl upd_same))) (.cons (.int _) (.cons (.int _) .nil))) .nil)
        | false =>
          have er : rowTo n SS j (i + 1) = rowTo n SS j i := if_neg (by rw [ce]; decide)
          refine iteF ⟨⟨_, _, _, ys, rfl, ho7, ?_⟩, sm.trans sy⟩
          rw [er]
          exact hd7
    · obtain ⟨⟨y7, y14, y15, ys, rfl, ho, hd⟩, sm⟩ := hP
      exact ⟨⟨_, _, _, _, ys, rfl, ho, hd⟩, sm⟩
  · obtain ⟨⟨y7, y13, y14, y15, ys, rfl, ho, hd⟩, sm⟩ := hP
    have el : ((xs.length : Int)).toNat = SS.length := by rw [hSS.1]; omega
    rw [el] at hd
    refine ⟨_, rfl, _, rfl, l3, xs, rfl, .inl ⟨SqL.of (sm.lst h3), fun t1 n1 => ?_⟩⟩
    have s1 : Sm P H' (upd H' t1 (.tup xs)) := Sm.new n1
    have sH1 := sm.trans s1
    refine ⟨n, t1, xs, SS, rfl, h2, by omega, upd_same, h6, hSS.sm sH1, sH1.1 hT, fun H2 v2 s2 d2 => ?_⟩
    have sH2 := sH1.trans s2
    have ho2 := (s1.trans s2).lst ho
    have hd2 := dpAll_keep (s1.trans s2).tk _ _ (noL_map noL_pd _) hd
    refine ⟨_, rfl, o, ys, prs n SS, rfl, SqL.of ho2, hd2, fun zs' p dz np => ?_⟩
    have sp : Sm P H2 (upd H2 p (.lst zs')) := Sm.new np
    refine ⟨p, zs', rfl, .inl ⟨SqL.of upd_same, fun t nt => ?_⟩⟩
    have st : Sm P (upd H2 p (.lst zs')) (upd (upd H2 p (.lst zs')) t (.tup zs')) := Sm.new nt
    have dzt : DpAll K (upd (upd H2 p (.lst zs')) t (.tup zs')) zs' ((srtP (prs n SS)).map pd) := by
      exact dpAll_keep (sp.trans st).tk _ _ (noL_map noL_pd _) dz
    have nl : noL (.tuple ((srtP (prs n SS)).map pd)) = true := by
      show noL (.tuple _) = true
      simp only [noL]
      exact noL_map noL_pd _
    refine ⟨v2, .ref t, _, rfl, okD_pds ?_, dp_keep (sp.trans st).tk _ _ nl d2, .tup (.inl (.inl upd_same)) dzt, fun H5 s5 => ⟨true, rfl, iteF ?_⟩⟩
    · have := prsTo_len n SS SS.length
      have q3 : SS.length * SS.length ≤ 6 * 6 := Nat.mul_le_mul h6 h6
      unfold srtP
      rw [List.length_mergeSort]
      show (prsTo n SS SS.length).length ≤ 1000
      omega
    · have sF := sH2.trans ((sp.trans st).trans s5)
      exact h9nd D H5 y0 _ y4 y6 y7 y8 y9 y10 y11 _ y13 y14 y15 r a zs n h2 h7 (hrow.sm sF) (hs.go sF.r) (sF.1 hT) q
end
end Pk

/-! law -/
namespace Pk
open PySem PySem.Spec PyProof.Rows L2 GxR
open PySem.W (Datum DatumOrd Tup T3)
theorem scr_new {K : PySem.W.Frag} {H : Hp} {r a : Addr} {o : HO} {zs : List Int} (h : SqL K H a (zs.map V.int)) (nr : H r = none) : Scr K (upd H r o) r a zs := by
  rcases h with (h | ⟨u, h⟩) | h
  · have n := ne_of_none h nr
    exact .inl (.inl (by rw [hid_ne n, upd_ne n]; exact h))
  · have n := ne_of_none h nr
    exact .inl (.inr ⟨u, by rw [hid_ne n, upd_ne n]; exact h⟩)
  · exact .inr h
theorem SetsV.snoc {H : Hp} {n : Int} {xs : List V} {SS : List (List Int)} {z : V} {ns : List Int} (h : SetsV H n xs SS) (d : SetV H n z ns) : SetsV H n (xs ++ [z]) (SS ++ [ns]) := by
  refine ⟨by rw [List.length_append, List.length_append, h.1]; rfl, fun i x e => ?_⟩
  rcases get_app e with ⟨c, e1⟩ | ⟨c, e1⟩
  · obtain ⟨p, e2, v⟩ := h.2 i x e1
    exact ⟨p, by rw [List.getElem?_append_left (by rw [← h.1]; exact c)]; exact e2, v⟩
  · have hi : i - xs.length = 0 := by
      have := (List.getElem?_eq_some_iff.mp e1).1
      have : ([z] : List V).length = 1 := rfl
      omega
    rw [hi] at e1
    have ez : z = x := by simpa using e1
    rw [← ez]
    exact ⟨ns, by rw [List.getElem?_append_right (by rw [← h.1]; exact c), ← h.1, hi]; rfl, d⟩
section
variable {prog : Program} {w : World} {K : PySem.W.Frag} {mg : Str → Option Value} {base : Heap} {P : Addr} {k : Nat}
def spLaw (K : PySem.W.Frag) (P : Addr) : Sp := fun vs H Q _ => ∃ (a : Addr) (zs : List Int), vs = [.ref a] ∧ SqL K H a (zs.map V.int) ∧ TabG H P ∧ ∀ H', Q (.bl true) H'
/-- a goal of law -/
def GoalV (H : Hp) (n : Int) (v : V) : Prop := ∃ G, SetV H n v G
theorem ok_law {f : Addr} {fd : FuncData} (F : Fn K mg "law" sLaw pLaw f fd) (L : Deps prog w K mg base P k) : FnOk prog w K mg base CX0 (k + 1) f fd pLaw (spLaw K P) := by
  obtain ⟨f1, fd1, F1, G1⟩ := L.taken
  obtain ⟨f2, fd2, F2, G2⟩ := L.lset
  obtain ⟨f3, fd3, F3, G3⟩ := L.pick
  have B := L.B
  refine F.F.ok scLaw (fun vs H Q E h => ?_) (fun cdv A outer s H vs Q E hr h => ?_)
  · obtain ⟨a, zs, rfl, _⟩ := h
    rfl
  · obtain ⟨a, zs, rfl, hsq, hT, q⟩ := h
    obtain ⟨t4, ht4, h4nd⟩ := blk_some (f := f) (cdv := cdv) (A := A) (outer := outer) (s := s) (H0 := H) (E := E) L hr
    obtain ⟨t5, ht5, h5nd⟩ := blk_goal (f := f) (cdv := cdv) (A := A) (outer := outer) (s := s) (H0 := H) (E := E) L hr
    obtain ⟨t6, ht6, h6nd⟩ := blk6 (f := f) (cdv := cdv) (A := A) (outer := outer) (s := s) (H0 := H) (E := E) L hr
    have nd := scLaw.nd
    refine ⟨_, pss_cons (ps_set (i := 1) nd rfl (.inr rfl) (pe_lst (pa_cons (pv 0) (pa_cons pe_int (pa_cons pe_int (pa_cons pe_int pa_nil))))))
      (pss_cons (ps_asg (pe_tup (pa_cons (pe_op op_add pe_int (pe_call G1 hr (by rfl) F1.g F1.F.kp F1.b .nil pass0 (pa_cons (pv 1) (pa_cons pe_int pa_nil)))) (pa_cons (pe_lst pa_nil) pa_nil)))
          (pg_tup rfl (pgs_cons (pg_name (i := 2) nd rfl (.inr rfl)) (pgs_cons (pg_name (i := 3) nd rfl (.inr rfl)) pgs_nil))))
      (pss_cons (ps_for PassesOwn.never rfl (pi_range1 (by rfl) B.range (pa_cons (pe_call G1 hr (by rfl) F1.g F1.F.kp F1.b .nil pass0 (pa_cons (pv 1) (pa_cons pe_int pa_nil))) pa_nil)) (pg_name (i := 4) nd rfl (.inl rfl))
        (pss_one (ps_expr (pe_bm PySem.F.plainAttrs_list PySem.F.slot_list_append PySem.F.type_list_append mt_append (pv 3) (pa_cons (pe_callTy call_tuple_of (by rfl) B.tuple boot_tuple (pa_cons
          (pe_lc (own := [("_law_place", 5)]) (g := gName 5) (tt := tTest (tOp rEq (tCall (spTaken K) [] E0 (tCons (tVar 1) (tCons (tC (.int 3)) tNil))) (tC (.int 0)))) (te := tVar 5) rfl nd
            (pi_range1 (by rfl) B.range (pa_cons (pv 2) pa_nil)) (blkOk_by (N := nLaw) (sc := defScope sLaw) (by decide +kernel)) (fun _ _ _ _ _ => pg_name (i := 5) nd rfl (.inl rfl))
            (fun _ _ _ _ _ => pts_one (by exact (pt_cmpR op_eq (pe_call G1 hr (by rfl) F1.g F1.F.kp F1.b .nil pass0 (pa_cons (pv 1) (pa_cons pe_int pa_nil))) pe_int (nomark _))))
            (fun _ _ _ _ _ => by exact (pv 5))) pa_nil)) pa_nil)))))
      (pss_cons (ps_set (i := 6) nd rfl (.inl rfl) (pe_lst (pa_cons (pe_tup (pa_cons (pe_tup pa_nil) (pa_cons (pe_tup pa_nil) pa_nil))) pa_nil)))
      (pss_cons (ps_for PassesOwn.never rfl (pi_range1 (by rfl) B.range (pa_cons (pe_callB call_len_seq (by rfl) B.len PySem.boot_len (pa_cons (pv 3) pa_nil)) pa_nil)) (pg_name (i := 7) nd rfl (.inr rfl)) ht4)
      (pss_cons (ps_for PassesOwn.never rfl (pi_list (pe_lst (pa_cons (pe_call G2 hr (by rfl) F2.g F2.F.kp F2.b .nil pass0 (pa_cons (pv 1) (pa_cons (pv 2) pa_nil)))
          (pa_cons (pe_ix ix_tup (pe_call G3 hr (by rfl) F3.g F3.F.kp F3.b .nil pass0 (pa_cons (pv 1) (pa_cons (pv 6) pa_nil))) pe_int (fun _ _ => rfl)) (pa_cons (pe_tup pa_nil) pa_nil))))) (pg_name (i := 8) nd rfl (.inr rfl)) ht5)
        ht6))))), ?_⟩
    refine ⟨.ref a, rfl, by show 4 ≤ sizeLine; decide, fun r nr => ?_⟩
    have sr : Sm P H (upd H r (.lst [.ref a, .int 0, .int 8834, .int 0])) := Sm.new nr
    have row1 : RowIs (upd H r (.lst [.ref a, .int 0, .int 8834, .int 0])) r a := ⟨0, 8834, 0, upd_same, by decide, by decide, by decide⟩
    have scr1 : Scr K (upd H r (.lst [.ref a, .int 0, .int 8834, .int 0])) r a zs := scr_new hsq nr
    have hT1 := sr.1 hT
    generalize upd H r (.lst [.ref a, .int 0, .int 8834, .int 0]) = H1 at *
    refine ⟨_, rfl, r, a, zs, 6, rfl, row1, scr1, by decide, by decide, fun d H2 d0 d6 row2 k2 => ⟨2, d, rfl, rfl, Nat.zero_le _, fun l3 n3 => ⟨by show 2 ≤ sizeLine; decide, fun t nt => ?_⟩⟩⟩
    have scr2 := scr1.go (smR_of k2)
    have hT2 := tabR row1.noT k2 hT1
    have l3r : l3 ≠ r := fun e => by
      obtain ⟨i0, x0, c0, er, _⟩ := row2
      rw [e, er] at n3
      cases n3
    have s3 : Sm P H2 (upd H2 l3 (.lst [])) := Sm.new n3
    have st : Sm P (upd H2 l3 (.lst [])) (upd (upd H2 l3 (.lst [])) t (.tup [.int (2 + d), .ref l3])) := Sm.new nt
    have h3 : upd (upd H2 l3 (.lst [])) t (.tup [.int (2 + d), .ref l3]) l3 = some (.lst []) := st.lst upd_same
    have row3 := row2.sm (s3.trans st)
    have b3 : SmR r H2 _ := (s3.trans st).r
    have scr3 := scr2.go b3
    have hT3 := (s3.trans st).1 hT2
    refine ⟨t, [.int (2 + d), .ref l3], rfl, .inl (.inl upd_same), rfl, .int (2 + d), [.ref l3], rfl, .ref l3, [], rfl, rfl, ?_⟩
    generalize upd (upd H2 l3 (.lst [])) t (.tup [.int (2 + d), .ref l3]) = H3 at *
    obtain ⟨n, en⟩ : ∃ n : Int, n = 2 + d := ⟨_, rfl⟩
    rw [← en]
    have h2 : 2 ≤ n := by omega
    have h7 : n ≤ 7 := by omega
    refine ⟨_, rfl, r, a, zs, 7, rfl, row3, scr3, by decide, by decide, fun m H4 m0 m7 row4 k4 => ⟨m, rfl, by omega, by omega, ?_⟩⟩
    have b4 : SmR r H2 H4 := b3.trans (smR_of k4)
    have hT4 := tabR row3.noT k4 hT3
    have h34 : H4 l3 = some (.lst []) := by rw [k4 l3 l3r]; exact h3
    refine for_it walk_range (fun i σ H' => ∃ y4 xs SS, σ = [some (.ref a), some (.ref r), some (.int n), some (.ref l3), y4, none, none, none, none, none, none, none, none, none, none, none, none, none, none, none] ∧ H' l3 = some (.lst xs) ∧ SetsV H' n xs SS ∧ SS.length = i ∧ RowIs H' r a ∧ SmR r H2 H' ∧ TabG H' P)
      ⟨none, [], [], rfl, h34, ⟨rfl, fun i x e => by simp at e⟩, rfl, row4, b4, hT4⟩ (fun _ _ _ _ _ => trivial) (fun i v σ Ha Hb hi hP y => ?_) (fun σ Hs hP => ?_)
    · obtain ⟨y4, xs, SS, rfl, hl, hSS, hlen, rowb, bb, hTb⟩ := hP
      have scrb := scr2.go bb
      obtain ⟨rfl, ev⟩ := y
      refine ⟨.ref l3, rfl, .inl ⟨rfl, _, SqL.of hl⟩, _, rfl, n, rfl, by omega, by omega, fun D nD => ?_⟩
      have nDr : r ≠ D := fun e => by
        obtain ⟨i0, x0, c0, er, _⟩ := rowb
        rw [← e, er] at nD
        cases nD
      refine lc_it walk_range (fun j Hc => (∃ ns : List Int, Hc D = some (.lst (ns.map V.int)) ∧ IsS (j : Int) ns) ∧ RowIs Hc r a ∧ SmR r Hb Hc ∧ (TabG Hb P → TabG Hc P)) ⟨⟨[], upd_same, isS_nil _⟩, rowb.new nD, SmR.new nD, tabN nD⟩ (fun _ _ _ _ => trivial) (fun j v Hc Hc' hj hp hy => ?_) (fun Hc hp => ?_)
      · obtain ⟨⟨ns, hD, hns⟩, rowc, sc, tc⟩ := hp
        obtain ⟨rfl, ev⟩ := hy
        obtain rfl : v = V.int (j : Int) := ev.trans (zadd j)
        refine ⟨rfl, _, rfl, r, a, zs, 3, rfl, rowc, scrb.go sc, by decide, by decide, fun e Hd e0 e1 rowd kd => ?_⟩
        have hDd : Hd D = some (.lst (ns.map V.int)) := by rw [kd D (fun z => nDr z.symm)]; exact hD
        have sd := sc.trans (smR_of kd)
        have td : TabG Hb P → TabG Hd P := fun g => tabR rowc.noT kd (tc g)
        refine ⟨rfl, _, rfl, ite2 (fun _ => ?_) (fun _ => ?_)⟩
        · refine ⟨_, rfl, _, hDd, ?_, ⟨ns ++ [(j : Int)], ?_, ?_⟩, rowd.put nDr, SmR.put nD sd, fun g => tabL hDd (td g)⟩
          · have := isS_len hns
            rw [List.length_map]
            exact small1000 (by omega)
          · rw [upd_same, List.map_append]
            rfl
          · refine ⟨fun z hz => ?_, List.pairwise_append.mpr ⟨hns.2, List.pairwise_singleton _ _, fun x hx y hy => ?_⟩⟩
            · rcases List.mem_append.mp hz with z' | z'
              · have := hns.1 z z'
                omega
              · have : z = (j : Int) := by simpa using z'
                omega
            · have h1 := hns.1 x hx
              have h2 : y = (j : Int) := by simpa using hy
              omega
        · refine ⟨⟨ns, hDd, fun z hz => ?_, hns.2⟩, rowd, sd, td⟩
          have := hns.1 z hz
          omega
      · obtain ⟨⟨ns, hD, hns⟩, rowc, sc, tc⟩ := hp
        have en' : ((n.toNat : Nat) : Int) = n := by omega
        rw [en'] at hns
        refine ⟨D, _, rfl, .inl ⟨SqL.of hD, fun p np => ?_⟩⟩
        have sp : SmR r Hb (upd Hc p (.tup (ns.map V.int))) := sc.trans (SmR.new np)
        have hlp : upd Hc p (.tup (ns.map V.int)) l3 = some (.lst xs) := sp.lst l3r hl
        have tp : TT (upd Hc p (.tup (ns.map V.int))) (upd (upd Hc p (.tup (ns.map V.int))) l3 (.lst (xs ++ [.ref p]))) := tt_put hlp
        refine ⟨l3, xs, _, rfl, rfl, hlp, small1000 (by rw [hSS.1]; omega), _, _, SS ++ [ns], rfl, upd_same, (hSS.tt ((sp.tt rowb).trans tp)).snoc ⟨p, rfl, tp _ _ upd_same, hns⟩, ?_, (rowc.new np).put (fun e => l3r e.symm), SmR.put n3 (bb.trans sp), tabL hlp (tabN np (tc hTb))⟩
        rw [List.length_append, hlen]
        rfl
    · obtain ⟨y4, xs, SS, rfl, hl, hSS, hlen, rows, bs, hTs⟩ := hP
      have scrs := scr2.go bs
      have h6 : SS.length ≤ 6 := by omega
      refine ⟨Nat.zero_le _, fun p1 n1 => ⟨Nat.zero_le _, fun p2 n2 => ⟨by show 2 ≤ sizeLine; decide, fun p3 n3' => ⟨by show 1 ≤ sizeLine; decide, fun o no => ?_⟩⟩⟩⟩
      have s1 : Sm P Hs (upd Hs p1 (.tup [])) := Sm.new n1
      have s2 : Sm P (upd Hs p1 (.tup [])) (upd (upd Hs p1 (.tup [])) p2 (.tup [])) := Sm.new n2
      have s3' : Sm P (upd (upd Hs p1 (.tup [])) p2 (.tup [])) (upd (upd (upd Hs p1 (.tup [])) p2 (.tup [])) p3 (.tup [.ref p1, .ref p2])) := Sm.new n3'
      have s4 : Sm P (upd (upd (upd Hs p1 (.tup [])) p2 (.tup [])) p3 (.tup [.ref p1, .ref p2])) (upd (upd (upd (upd Hs p1 (.tup [])) p2 (.tup [])) p3 (.tup [.ref p1, .ref p2])) o (.lst [.ref p3])) := Sm.new no
      have hch : ChsV (upd (upd (upd (upd Hs p1 (.tup [])) p2 (.tup [])) p3 (.tup [.ref p1, .ref p2])) o (.lst [.ref p3])) [.ref p3] (chsTo n SS 0) :=
        ChsV.one ⟨p3, .ref p1, .ref p2, rfl, s4.tt _ _ upd_same, ⟨p1, rfl, (s2.trans (s3'.trans s4)).tt _ _ upd_same⟩, ⟨p2, rfl, (s3'.trans s4).tt _ _ upd_same⟩⟩
      have hol : (upd (upd (upd (upd Hs p1 (.tup [])) p2 (.tup [])) p3 (.tup [.ref p1, .ref p2])) o (.lst [.ref p3])) o = some (.lst [.ref p3]) := upd_same
      have sA : Sm P Hs (upd (upd (upd (upd Hs p1 (.tup [])) p2 (.tup [])) p3 (.tup [.ref p1, .ref p2])) o (.lst [.ref p3])) := s1.trans (s2.trans (s3'.trans s4))
      generalize upd (upd (upd (upd Hs p1 (.tup [])) p2 (.tup [])) p3 (.tup [.ref p1, .ref p2])) o (.lst [.ref p3]) = Hq at *
      refine ⟨.ref l3, rfl, l3, xs, rfl, .inl (SqL.of (sA.lst hl)), (xs.length : Int), rfl, by omega, by rw [hSS.1]; omega, ?_⟩
      refine for_it walk_range (fun i σ H' => ∃ y7 l6 ys, σ = [some (.ref a), some (.ref r), some (.int n), some (.ref l3), y4, none, some (.ref l6), y7, none, none, none, none, none, none, none, none, none, none, none, none] ∧ H' l6 = some (.lst ys) ∧ ChsV H' ys (chsTo n SS i) ∧ Sm P Hs H')
        ⟨none, o, _, rfl, hol, hch, sA⟩ (fun _ _ _ _ _ => trivial) (fun i v σ Ha Hb hi hP y => ?_) (fun σ Hg hP => ?_)
      · obtain ⟨y7, l6, ys, rfl, hl6, hys, sm⟩ := hP
        obtain ⟨rfl, ev⟩ := y
        obtain rfl : v = V.int (i : Int) := ev.trans (zadd i)
        exact h4nd _ Hb (some (.ref a)) (some (.ref r)) y4 none l3 l6 n xs ys SS i h2 (by omega) (sm.lst hl) (hSS.sm sm) h6 hl6 hys (by rw [← hSS.1]; omega) (fun H' p zs' s' hp hz => ⟨_, p, zs', rfl, hp, hz, sm.trans s'⟩)
      · obtain ⟨y7, l6, ys, rfl, hl6, hys, sm⟩ := hP
        have el : ((xs.length : Int)).toNat = SS.length := by rw [hSS.1]; omega
        rw [el] at hys
        have rowg := rows.sm sm
        have scrg := scrs.go sm.r
        have hTg := sm.1 hTs
        have hlg := sm.lst hl
        have hSSg := hSS.sm sm
        have hIs : ∀ s ∈ SS, IsS n s := fun s hs => by
          obtain ⟨i, hi, e⟩ := List.getElem_of_mem hs
          obtain ⟨ns, e1, d⟩ := hSS.2 i (xs[i]'(by rw [hSS.1]; exact hi)) (List.getElem?_eq_getElem _)
          rw [List.getElem?_eq_getElem hi, e] at e1
          cases e1
          exact d.d (K := K).2
        have l6r : l6 ≠ r := fun e => by
          obtain ⟨i0, x0, c0, er, _⟩ := rowg
          rw [e, er] at hl6
          cases hl6
          obtain ⟨p, _, a', x1, x2, e', _⟩ := hys.2 1 (.int i0) rfl
          cases e'
        have ylen : ys.length = 2 ^ SS.length := by rw [hys.1]; exact chsTo_len n SS _
        have i6 : 2 ^ SS.length ≤ 2 ^ 6 := Nat.pow_le_pow_right (by decide) h6
        have i1 : 0 < 2 ^ SS.length := Nat.pow_pos (by decide)
        refine ⟨_, rfl, _, rfl, r, a, zs, n, rfl, h2, by omega, rowg, scrg, fun g1 S1 Ha iS1 hg1 rowa sa _ ta => ?_⟩
        have hl6a : Ha l6 = some (.lst ys) := sa.lst l6r hl6
        refine ⟨_, rfl, _, rfl, r, a, l6, zs, ys, rfl, rowa, scrg.go sa, hl6a, l6r, (fun e => by rw [e] at ylen; simp at ylen; omega), by omega, fun x Hb hx rowb kb => ?_⟩
        have sb : SmR r Hg Hb := sa.trans (smR_of kb)
        have ttb : TT Hg Hb := sb.tt rowg
        obtain ⟨ix, hix, ex⟩ := List.getElem_of_mem hx
        obtain ⟨p, ep, b, x1, x2, rfl, hb, v1, v2⟩ := hys.2 ix x (by rw [List.getElem?_eq_getElem hix, ex])
        have iS2 : IsS n p.2 := chsTo_isS hIs _ p (List.mem_of_getElem? ep)
        refine ⟨b, [x1, x2], 1, x2, rfl, rfl, .inl (.inl (ttb _ _ hb)), rfl, Nat.zero_le _, fun g3 n3g => ⟨by show 3 ≤ sizeLine; decide, fun gl ngl => ?_⟩⟩
        have sc : Sm P Hb (upd (upd Hb g3 (.tup [])) gl (.lst [.ref g1, x2, .ref g3])) := (Sm.new n3g).trans (Sm.new ngl)
        have hgl : (upd (upd Hb g3 (.tup [])) gl (.lst [.ref g1, x2, .ref g3])) gl = some (.lst [.ref g1, x2, .ref g3]) := upd_same
        have vg1 : SetV (upd (upd Hb g3 (.tup [])) gl (.lst [.ref g1, x2, .ref g3])) n (.ref g1) S1 := ⟨g1, rfl, sc.tt _ _ ((smR_of kb).tt rowa _ _ hg1), iS1⟩
        have vg2 : SetV (upd (upd Hb g3 (.tup [])) gl (.lst [.ref g1, x2, .ref g3])) n x2 p.2 := (v2.tt (ttb.trans sc.tt)).set iS2
        have vg3 : SetV (upd (upd Hb g3 (.tup [])) gl (.lst [.ref g1, x2, .ref g3])) n (.ref g3) [] := ⟨g3, rfl, (Sm.new (P := P) ngl).tt _ _ upd_same, isS_nil n⟩
        have rowc := rowb.sm sc
        have sgc : SmR r Hg (upd (upd Hb g3 (.tup [])) gl (.lst [.ref g1, x2, .ref g3])) := sb.trans sc.r
        have hTc := sc.1 (tabR rowa.noT kb (ta hTg))
        generalize upd (upd Hb g3 (.tup [])) gl (.lst [.ref g1, x2, .ref g3]) = Hc at *
        have scrc := scrg.go sgc
        have hlc := sgc.lst l3r hlg
        have hl6c := sgc.lst l6r hl6
        have hSSc := hSSg.tt (sgc.tt rowg)
        have hysc := hys.tt (sgc.tt rowg)
        refine ⟨gl, rfl, ⟨_, SqL.of hgl⟩, for_it walk_list (fun i σ H' => ∃ y8 y9 y10 y11, σ = [some (.ref a), some (.ref r), some (.int n), some (.ref l3), y4, none, some (.ref l6), y7, y8, y9, y10, y11, none, none, none, none, none, none, none, none] ∧ Sm P Hc H')
          ⟨_, _, _, _, rfl, Sm.refl _ _⟩ (fun i σ H' _ hp => by obtain ⟨_, _, _, _, _, s'⟩ := hp; exact s'.sqL (SqL.of hgl)) (fun i v σ Hd He hi hP y => ?_) (fun σ Hz hP => ?_)⟩
        · obtain ⟨y8, y9, y10, y11, rfl, sd⟩ := hP
          obtain ⟨rfl, ev⟩ := y
          have gv : GoalV Hc n v := by
            have hi3 : i < 3 := hi
            match i, hi3, ev with
            | 0, _, ev =>
              cases ev
              exact ⟨_, vg1⟩
            | 1, _, ev =>
              cases ev
              exact ⟨_, vg2⟩
            | 2, _, ev =>
              cases ev
              exact ⟨_, vg3⟩
          obtain ⟨G, vg⟩ := gv
          exact h5nd _ He (some (.ref a)) (some (.ref r)) y4 y7 y9 y10 y11 v l3 l6 n xs ys SS G h2 (by omega) (sd.lst hlc) (hSSc.sm sd) h6 (sd.lst hl6c) (hysc.tt sd.tt) (vg.sm sd) (sd.1 hTc) (fun H' _ _ _ s' => ⟨_, _, _, _, rfl, sd.trans s'⟩)
        · obtain ⟨y8, y9, y10, y11, rfl, sd⟩ := hP
          exact h6nd _ Hz (some (.ref a)) y4 _ y7 y8 y9 y10 y11 none none none none r a l3 zs n xs SS h2 h7 (rowc.sm sd) (scrc.go sd.r) (sd.1 hTc) (sd.lst hlc) (hSSc.sm sd) h6 q
end
end Pk

/-! the end: what the top has written -/
namespace Pk
open PySem PySem.Spec PyProof.Rows L2 GxR
/-- what is known of a def of the top with its table -/
def TabsOf (h : Heap) (mg : Str → Option Value) (nm : Str) : Prop := ∃ a o fd c P, mg nm = some (.ref a) ∧ h.get? a = some o ∧ o.data = .func fd ∧ fd.code = .ref c ∧ h.IsCode c P #[] ∧ h.TableAt c P #[]
theorem walk_tab {l : PySem.W.OpenLaw} {n k : Nat} {q : Program} {loose : List Str} {XP : (Str → Option Value) → Heap → Prop} {YP : World → Heap → Prop} {d : DefRec} {K : Params → PySem.W.Frag} {CX : World → CXT} {x : Str} (nm : Str)
    (hn : l.most = some n) (hn2 : n ≤ sizeLine) (hdf : d.params.defaults = []) (hr : Room k callerA) (hrec : ((recsOf q).any fun e => e.name == nm) = true) (hY : ∀ (w : World) (h : Heap), YP w h → (K w.params).In h)
    (F : ∀ (w : World) (mg : Str → Option Value) (fa : Addr) (h : Heap), (K w.params).In h → h.Ns mainGlobals mg → mg d.name = some (.ref fa) → TabsOf h mg nm → LamX.LawAtS l w (K w.params) (CX w) k n x mg fa h)
    (hCX : ∀ (w : World) (H : Hp) (s : Shared) (e : Value) (s' : Shared), CX w [] H s (fun _ _ _ => False) e s' → False) :
    PySem.W.WalkO q loose XP YP l.row.toRowW d [] (fun f vs => PySem.call f vs) := by
  refine Att.attach_callB hn hdf fun w s₀ s₁ mg mb fa o pm cd doc a vs ns G Y ho hd hcd hmg hobj hints hlen hbits hg => ?_
  have KX := hY w _ Y
  have own : TabsOf s₁.heap mg nm := by
    obtain ⟨dL, hm, hn1⟩ := List.any_eq_true.mp hrec
    have hn2 : dL.name = nm := beq_iff_eq.mp hn1
    have t := G.T.tab dL hm
    rw [hn2] at t
    exact t
  obtain ⟨fd, cs, sp, hT, nT, C, hb, hsp, hF⟩ := F w mg fa _ KX G.T.g hmg own
  exact LamX.law_callTs KX G.T.g G.T.b G.T.builtins G.T.nolimit hg hT nT C G.T.bmain hobj hints (Nat.le_trans hlen hn2) hr hF hb (fun H hH hS => hsp H a ns hlen hbits hH hS) fun H e s' => hCX w H s₁ e s'
theorem tabs_at {K : PySem.W.Frag} {h : Heap} {mg : Str → Option Value} {nm : Str} {f c P : Addr} {oc e : Value} {od dd : Option Addr} {fd : FuncData} {vs : Array Value} {sl sl2 : Array (Option Value)} (X : K.In h) (G : h.Ns mainGlobals mg) (T : TabsOf h mg nm)
    (a1 : PySem.W.nsIn K mainGlobals nm = some (some (.ref f))) (l1 : K.lookup f = some ⟨oc, od, .func fd, sl⟩) (hc : fd.code = .ref c) (lc : K.lookup c = some ⟨e, dd, .fields vs, sl2⟩) (vP : vs[11]? = some (.ref P)) :
    PySem.W.CodeHd h c P ∧ h.get? P = some { cls := .none, data := .fields #[] } := by
  obtain ⟨a', o', fd', c', P', h1, h2, h3, h4, h5, h6⟩ := T
  rw [PySem.W.mg_of X G a1] at h1
  cases h1
  rw [X _ _ l1] at h2
  cases h2
  cases h3
  rw [hc] at h4
  cases h4
  have h6' := h6
  obtain ⟨⟨oo, vv, e1, _, e3, e4⟩, hP⟩ := h6'
  rw [X _ _ lc] at e1
  cases e1
  cases e3
  rw [vP] at e4
  cases e4
  exact ⟨PySem.W.CodeHd.of h5 h6, hP⟩
theorem all_mk {l : PySem.W.OpenLaw} {w : World} {K : PySem.W.Frag} {h : Heap} {mg : Str → Option Value} {fa cS P : Addr} (X : K.In h) (G : h.Ns mainGlobals mg) (hfa : mg "law" = some (.ref fa)) (T : TabsOf h mg "is_set")
    {f1 f2 f3 f4 f5 f6 f7 f8 f9 f10 f11 f12 f13 f14 f15 f16 f17 f18 f19 f20 f21 f22 f23 : Addr} {od1 an1 od2 an2 od3 an3 od4 an4 od5 an5 od6 an6 od7 an7 od8 an8 od9 an9 od10 an10 od11 an11 od12 an12 od13 an13 od14 an14 od15 an15 od16 an16 od17 an17 od18 an18 od19 an19 od20 an20 od21 an21 od22 an22 od23 an23 ddS : Option Addr} {sl1 sl2 sl3 sl4 sl5 sl6 sl7 sl8 sl9 sl10 sl11 sl12 sl13 sl14 sl15 sl16 sl17 sl18 sl19 sl20 sl21 sl22 sl23 slS : Array (Option Value)}
    {oc1 kV1 dc1 pm1 ct1 cd1 oc2 kV2 dc2 pm2 ct2 cd2 oc3 kV3 dc3 pm3 ct3 oc4 kV4 dc4 pm4 ct4 cd4 oc5 kV5 dc5 pm5 ct5 cd5 oc6 kV6 dc6 pm6 ct6 cd6 oc7 kV7 dc7 pm7 ct7 cd7 oc8 kV8 dc8 pm8 ct8 cd8 oc9 kV9 dc9 pm9 ct9 cd9 oc10 kV10 dc10 pm10 ct10 cd10 oc11 kV11 dc11 pm11 ct11 cd11 oc12 kV12 dc12 pm12 ct12 cd12 oc13 kV13 dc13 pm13 ct13 cd13 oc14 kV14 dc14 pm14 ct14 cd14 oc15 kV15 dc15 pm15 ct15 cd15 oc16 kV16 dc16 pm16 ct16 cd16 oc17 kV17 dc17 pm17 ct17 cd17 oc18 kV18 dc18 pm18 ct18 cd18 oc19 kV19 dc19 pm19 ct19 cd19 oc20 kV20 dc20 pm20 ct20 cd20 oc21 kV21 dc21 pm21 ct21 cd21 oc22 kV22 dc22 pm22 ct22 cd22 oc23 kV23 dc23 pm23 ct23 cd23 eS : Value} {vS : Array Value} {t_LEAST_SIZE t_MOST_SIZE t_MOST_SETS : Tok}
    (a1 : PySem.W.nsIn K mainGlobals "is_in" = some (some (.ref f1))) (l1 : K.lookup f1 = some ⟨oc1, od1, .func (PySem.W.fnOf "is_in" "is_in" (defArgs sIsIn) (defBody sIsIn) (defScope sIsIn) .none kV1 dc1 pm1 an1 cd1 ct1), sl1⟩) (c1 : PySem.W.codeIn K cd1 "is_in" = true) (k1 : PySem.W.keepIn K (.ref f1) = true)
    (a2 : PySem.W.nsIn K mainGlobals "need_size" = some (some (.ref f2))) (l2 : K.lookup f2 = some ⟨oc2, od2, .func (PySem.W.fnOf "need_size" "need_size" (defArgs sNeedSize) (defBody sNeedSize) (defScope sNeedSize) .none kV2 dc2 pm2 an2 cd2 ct2), sl2⟩) (c2 : PySem.W.codeIn K cd2 "need_size" = true) (k2 : PySem.W.keepIn K (.ref f2) = true)
    (a3 : PySem.W.nsIn K mainGlobals "is_set" = some (some (.ref f3))) (l3 : K.lookup f3 = some ⟨oc3, od3, .func (PySem.W.fnOf "is_set" "is_set" (defArgs sIsSet) (defBody sIsSet) (defScope sIsSet) .none kV3 dc3 pm3 an3 (.ref cS) ct3), sl3⟩) (c3 : PySem.W.codeIn K (.ref cS) "is_set" = true) (k3 : PySem.W.keepIn K (.ref f3) = true)
    (a4 : PySem.W.nsIn K mainGlobals "need_set" = some (some (.ref f4))) (l4 : K.lookup f4 = some ⟨oc4, od4, .func (PySem.W.fnOf "need_set" "need_set" (defArgs sNeedSet) (defBody sNeedSet) (defScope sNeedSet) .none kV4 dc4 pm4 an4 cd4 ct4), sl4⟩) (c4 : PySem.W.codeIn K cd4 "need_set" = true) (k4 : PySem.W.keepIn K (.ref f4) = true)
    (a5 : PySem.W.nsIn K mainGlobals "spots_of" = some (some (.ref f5))) (l5 : K.lookup f5 = some ⟨oc5, od5, .func (PySem.W.fnOf "spots_of" "spots_of" (defArgs sSpots) (defBody sSpots) (defScope sSpots) .none kV5 dc5 pm5 an5 cd5 ct5), sl5⟩) (c5 : PySem.W.codeIn K cd5 "spots_of" = true) (k5 : PySem.W.keepIn K (.ref f5) = true)
    (a6 : PySem.W.nsIn K mainGlobals "everything" = some (some (.ref f6))) (l6 : K.lookup f6 = some ⟨oc6, od6, .func (PySem.W.fnOf "everything" "everything" (defArgs sEvery) (defBody sEvery) (defScope sEvery) .none kV6 dc6 pm6 an6 cd6 ct6), sl6⟩) (c6 : PySem.W.codeIn K cd6 "everything" = true) (k6 : PySem.W.keepIn K (.ref f6) = true)
    (a7 : PySem.W.nsIn K mainGlobals "blocks_of" = some (some (.ref f7))) (l7 : K.lookup f7 = some ⟨oc7, od7, .func (PySem.W.fnOf "blocks_of" "blocks_of" (defArgs sBlocks) (defBody sBlocks) (defScope sBlocks) .none kV7 dc7 pm7 an7 cd7 ct7), sl7⟩) (c7 : PySem.W.codeIn K cd7 "blocks_of" = true) (k7 : PySem.W.keepIn K (.ref f7) = true)
    (a8 : PySem.W.nsIn K mainGlobals "added" = some (some (.ref f8))) (l8 : K.lookup f8 = some ⟨oc8, od8, .func (PySem.W.fnOf "added" "added" (defArgs sAdded) (defBody sAdded) (defScope sAdded) .none kV8 dc8 pm8 an8 cd8 ct8), sl8⟩) (c8 : PySem.W.codeIn K cd8 "added" = true) (k8 : PySem.W.keepIn K (.ref f8) = true)
    (a9 : PySem.W.nsIn K mainGlobals "whole_sum" = some (some (.ref f9))) (l9 : K.lookup f9 = some ⟨oc9, od9, .func (PySem.W.fnOf "whole_sum" "whole_sum" (defArgs sWhole) (defBody sWhole) (defScope sWhole) .none kV9 dc9 pm9 an9 cd9 ct9), sl9⟩) (c9 : PySem.W.codeIn K cd9 "whole_sum" = true) (k9 : PySem.W.keepIn K (.ref f9) = true)
    (a10 : PySem.W.nsIn K mainGlobals "need_sets" = some (some (.ref f10))) (l10 : K.lookup f10 = some ⟨oc10, od10, .func (PySem.W.fnOf "need_sets" "need_sets" (defArgs sNeedSets) (defBody sNeedSets) (defScope sNeedSets) .none kV10 dc10 pm10 an10 cd10 ct10), sl10⟩) (c10 : PySem.W.codeIn K cd10 "need_sets" = true) (k10 : PySem.W.keepIn K (.ref f10) = true)
    (a11 : PySem.W.nsIn K mainGlobals "choices" = some (some (.ref f11))) (l11 : K.lookup f11 = some ⟨oc11, od11, .func (PySem.W.fnOf "choices" "choices" (defArgs sChoices) (defBody sChoices) (defScope sChoices) .none kV11 dc11 pm11 an11 cd11 ct11), sl11⟩) (c11 : PySem.W.codeIn K cd11 "choices" = true) (k11 : PySem.W.keepIn K (.ref f11) = true)
    (a12 : PySem.W.nsIn K mainGlobals "need_choice" = some (some (.ref f12))) (l12 : K.lookup f12 = some ⟨oc12, od12, .func (PySem.W.fnOf "need_choice" "need_choice" (defArgs sNeedChoice) (defBody sNeedChoice) (defScope sNeedChoice) .none kV12 dc12 pm12 an12 cd12 ct12), sl12⟩) (c12 : PySem.W.codeIn K cd12 "need_choice" = true) (k12 : PySem.W.keepIn K (.ref f12) = true)
    (a13 : PySem.W.nsIn K mainGlobals "once_sum" = some (some (.ref f13))) (l13 : K.lookup f13 = some ⟨oc13, od13, .func (PySem.W.fnOf "once_sum" "once_sum" (defArgs sOnceSum) (defBody sOnceSum) (defScope sOnceSum) .none kV13 dc13 pm13 an13 cd13 ct13), sl13⟩) (c13 : PySem.W.codeIn K cd13 "once_sum" = true) (k13 : PySem.W.keepIn K (.ref f13) = true)
    (a14 : PySem.W.nsIn K mainGlobals "once_count" = some (some (.ref f14))) (l14 : K.lookup f14 = some ⟨oc14, od14, .func (PySem.W.fnOf "once_count" "once_count" (defArgs sOnceCount) (defBody sOnceCount) (defScope sOnceCount) .none kV14 dc14 pm14 an14 cd14 ct14), sl14⟩) (c14 : PySem.W.codeIn K cd14 "once_count" = true) (k14 : PySem.W.keepIn K (.ref f14) = true)
    (a15 : PySem.W.nsIn K mainGlobals "equal_sums" = some (some (.ref f15))) (l15 : K.lookup f15 = some ⟨oc15, od15, .func (PySem.W.fnOf "equal_sums" "equal_sums" (defArgs sEqualSums) (defBody sEqualSums) (defScope sEqualSums) .none kV15 dc15 pm15 an15 cd15 ct15), sl15⟩) (c15 : PySem.W.codeIn K cd15 "equal_sums" = true) (k15 : PySem.W.keepIn K (.ref f15) = true)
    (a16 : PySem.W.nsIn K mainGlobals "gaps" = some (some (.ref f16))) (l16 : K.lookup f16 = some ⟨oc16, od16, .func (PySem.W.fnOf "gaps" "gaps" (defArgs sGaps) (defBody sGaps) (defScope sGaps) .none kV16 dc16 pm16 an16 cd16 ct16), sl16⟩) (c16 : PySem.W.codeIn K cd16 "gaps" = true) (k16 : PySem.W.keepIn K (.ref f16) = true)
    (a17 : PySem.W.nsIn K mainGlobals "_law_taken" = some (some (.ref f17))) (l17 : K.lookup f17 = some ⟨oc17, od17, .func (PySem.W.fnOf "_law_taken" "_law_taken" (defArgs sTaken) (defBody sTaken) (defScope sTaken) .none kV17 dc17 pm17 an17 cd17 ct17), sl17⟩) (c17 : PySem.W.codeIn K cd17 "_law_taken" = true) (k17 : PySem.W.keepIn K (.ref f17) = true)
    (a18 : PySem.W.nsIn K mainGlobals "_law_pick" = some (some (.ref f18))) (l18 : K.lookup f18 = some ⟨oc18, od18, .func (PySem.W.fnOf "_law_pick" "_law_pick" (defArgs sPick) (defBody sPick) (defScope sPick) .none kV18 dc18 pm18 an18 cd18 ct18), sl18⟩) (c18 : PySem.W.codeIn K cd18 "_law_pick" = true) (k18 : PySem.W.keepIn K (.ref f18) = true)
    (a19 : PySem.W.nsIn K mainGlobals "_law_alike" = some (some (.ref f19))) (l19 : K.lookup f19 = some ⟨oc19, od19, .func (PySem.W.fnOf "_law_alike" "_law_alike" (defArgs sAlike) (defBody sAlike) (defScope sAlike) .none kV19 dc19 pm19 an19 cd19 ct19), sl19⟩) (c19 : PySem.W.codeIn K cd19 "_law_alike" = true) (k19 : PySem.W.keepIn K (.ref f19) = true)
    (a20 : PySem.W.nsIn K mainGlobals "_law_spots" = some (some (.ref f20))) (l20 : K.lookup f20 = some ⟨oc20, od20, .func (PySem.W.fnOf "_law_spots" "_law_spots" (defArgs sLSpots) (defBody sLSpots) (defScope sLSpots) .none kV20 dc20 pm20 an20 cd20 ct20), sl20⟩) (c20 : PySem.W.codeIn K cd20 "_law_spots" = true) (k20 : PySem.W.keepIn K (.ref f20) = true)
    (a21 : PySem.W.nsIn K mainGlobals "_law_sum" = some (some (.ref f21))) (l21 : K.lookup f21 = some ⟨oc21, od21, .func (PySem.W.fnOf "_law_sum" "_law_sum" (defArgs sLSum) (defBody sLSum) (defScope sLSum) .none kV21 dc21 pm21 an21 cd21 ct21), sl21⟩) (c21 : PySem.W.codeIn K cd21 "_law_sum" = true) (k21 : PySem.W.keepIn K (.ref f21) = true)
    (a22 : PySem.W.nsIn K mainGlobals "_law_set" = some (some (.ref f22))) (l22 : K.lookup f22 = some ⟨oc22, od22, .func (PySem.W.fnOf "_law_set" "_law_set" (defArgs sLSet) (defBody sLSet) (defScope sLSet) .none kV22 dc22 pm22 an22 cd22 ct22), sl22⟩) (c22 : PySem.W.codeIn K cd22 "_law_set" = true) (k22 : PySem.W.keepIn K (.ref f22) = true)
    (a23 : PySem.W.nsIn K mainGlobals "law" = some (some (.ref f23))) (l23 : K.lookup f23 = some ⟨oc23, od23, .func (PySem.W.fnOf "law" "law" (defArgs sLaw) (defBody sLaw) (defScope sLaw) .none kV23 dc23 pm23 an23 cd23 ct23), sl23⟩) (c23 : PySem.W.codeIn K cd23 "law" = true) (k23 : PySem.W.keepIn K (.ref f23) = true)
    (z_len : PySem.W.nsIn K mainGlobals "len" = some none)
    (z_tuple : PySem.W.nsIn K mainGlobals "tuple" = some none)
    (z_list : PySem.W.nsIn K mainGlobals "list" = some none)
    (z_sorted : PySem.W.nsIn K mainGlobals "sorted" = some none)
    (z_enumerate : PySem.W.nsIn K mainGlobals "enumerate" = some none)
    (z_range : PySem.W.nsIn K mainGlobals "range" = some none)
    (z_all : PySem.W.nsIn K mainGlobals "all" = some none)
    (z_isinstance : PySem.W.nsIn K mainGlobals "isinstance" = some none)
    (z_int : PySem.W.nsIn K mainGlobals "int" = some none)
    (z_bool : PySem.W.nsIn K mainGlobals "bool" = some none)
    (z_str : PySem.W.nsIn K mainGlobals "str" = some none)
    (z_min : PySem.W.nsIn K mainGlobals "min" = some none)
    (g_LEAST_SIZE : PySem.W.nsIn K mainGlobals "LEAST_SIZE" = some (some (.int 2 t_LEAST_SIZE)))
    (g_MOST_SIZE : PySem.W.nsIn K mainGlobals "MOST_SIZE" = some (some (.int 9 t_MOST_SIZE)))
    (g_MOST_SETS : PySem.W.nsIn K mainGlobals "MOST_SETS" = some (some (.int 10 t_MOST_SETS)))
    (lcS : K.lookup cS = some ⟨eS, ddS, .fields vS, slS⟩) (vPS : vS[11]? = some (.ref P)) (nPS : K.lookup P = none) :
    LamX.LawAtS l w K CX0 7 63 "_law_script" mg fa h := by
  have e := hfa.symm.trans (PySem.W.mg_of X G a23)
  cases e
  have FIsIn : Fn K mg "is_in" sIsIn pIsIn _ _ := ⟨fun_mk (st := sIsIn) l1 c1 k1, PySem.W.mg_of X G a1, (fun_mk (st := sIsIn) l1 c1 k1).binds (ps := pIsIn) fun _ _ _ _ _ _ us hl => match us, hl with | [_, _, _], _ => rfl⟩
  have FNeedSize : Fn K mg "need_size" sNeedSize pNeedSize _ _ := ⟨fun_mk (st := sNeedSize) l2 c2 k2, PySem.W.mg_of X G a2, (fun_mk (st := sNeedSize) l2 c2 k2).binds (ps := pNeedSize) fun _ _ _ _ _ _ us hl => match us, hl with | [_], _ => rfl⟩
  have FIsSet : Fn K mg "is_set" sIsSet pIsSet _ _ := ⟨fun_mk (st := sIsSet) l3 c3 k3, PySem.W.mg_of X G a3, (fun_mk (st := sIsSet) l3 c3 k3).binds (ps := pIsSet) fun _ _ _ _ _ _ us hl => match us, hl with | [_, _], _ => rfl⟩
  have FNeedSet : Fn K mg "need_set" sNeedSet pNeedSet _ _ := ⟨fun_mk (st := sNeedSet) l4 c4 k4, PySem.W.mg_of X G a4, (fun_mk (st := sNeedSet) l4 c4 k4).binds (ps := pNeedSet) fun _ _ _ _ _ _ us hl => match us, hl with | [_, _], _ => rfl⟩
  have FSpots : Fn K mg "spots_of" sSpots pSpots _ _ := ⟨fun_mk (st := sSpots) l5 c5 k5, PySem.W.mg_of X G a5, (fun_mk (st := sSpots) l5 c5 k5).binds (ps := pSpots) fun _ _ _ _ _ _ us hl => match us, hl with | [_, _], _ => rfl⟩
  have FEvery : Fn K mg "everything" sEvery pEvery _ _ := ⟨fun_mk (st := sEvery) l6 c6 k6, PySem.W.mg_of X G a6, (fun_mk (st := sEvery) l6 c6 k6).binds (ps := pEvery) fun _ _ _ _ _ _ us hl => match us, hl with | [_], _ => rfl⟩
  have FBlocks : Fn K mg "blocks_of" sBlocks pBlocks _ _ := ⟨fun_mk (st := sBlocks) l7 c7 k7, PySem.W.mg_of X G a7, (fun_mk (st := sBlocks) l7 c7 k7).binds (ps := pBlocks) fun _ _ _ _ _ _ us hl => match us, hl with | [_, _], _ => rfl⟩
  have FAdded : Fn K mg "added" sAdded pAdded _ _ := ⟨fun_mk (st := sAdded) l8 c8 k8, PySem.W.mg_of X G a8, (fun_mk (st := sAdded) l8 c8 k8).binds (ps := pAdded) fun _ _ _ _ _ _ us hl => match us, hl with | [_, _, _], _ => rfl⟩
  have FWhole : Fn K mg "whole_sum" sWhole pWhole _ _ := ⟨fun_mk (st := sWhole) l9 c9 k9, PySem.W.mg_of X G a9, (fun_mk (st := sWhole) l9 c9 k9).binds (ps := pWhole) fun _ _ _ _ _ _ us hl => match us, hl with | [_, _], _ => rfl⟩
  have FNeedSets : Fn K mg "need_sets" sNeedSets pNeedSets _ _ := ⟨fun_mk (st := sNeedSets) l10 c10 k10, PySem.W.mg_of X G a10, (fun_mk (st := sNeedSets) l10 c10 k10).binds (ps := pNeedSets) fun _ _ _ _ _ _ us hl => match us, hl with | [_, _], _ => rfl⟩
  have FChoices : Fn K mg "choices" sChoices pChoices _ _ := ⟨fun_mk (st := sChoices) l11 c11 k11, PySem.W.mg_of X G a11, (fun_mk (st := sChoices) l11 c11 k11).binds (ps := pChoices) fun _ _ _ _ _ _ us hl => match us, hl with | [_, _], _ => rfl⟩
  have FNeedChoice : Fn K mg "need_choice" sNeedChoice pNeedChoice _ _ := ⟨fun_mk (st := sNeedChoice) l12 c12 k12, PySem.W.mg_of X G a12, (fun_mk (st := sNeedChoice) l12 c12 k12).binds (ps := pNeedChoice) fun _ _ _ _ _ _ us hl => match us, hl with | [_, _, _], _ => rfl⟩
  have FOnceSum : Fn K mg "once_sum" sOnceSum pOnceSum _ _ := ⟨fun_mk (st := sOnceSum) l13 c13 k13, PySem.W.mg_of X G a13, (fun_mk (st := sOnceSum) l13 c13 k13).binds (ps := pOnceSum) fun _ _ _ _ _ _ us hl => match us, hl with | [_, _, _], _ => rfl⟩
  have FOnceCount : Fn K mg "once_count" sOnceCount pOnceCount _ _ := ⟨fun_mk (st := sOnceCount) l14 c14 k14, PySem.W.mg_of X G a14, (fun_mk (st := sOnceCount) l14 c14 k14).binds (ps := pOnceCount) fun _ _ _ _ _ _ us hl => match us, hl with | [_, _, _], _ => rfl⟩
  have FEqualSums : Fn K mg "equal_sums" sEqualSums pEqualSums _ _ := ⟨fun_mk (st := sEqualSums) l15 c15 k15, PySem.W.mg_of X G a15, (fun_mk (st := sEqualSums) l15 c15 k15).binds (ps := pEqualSums) fun _ _ _ _ _ _ us hl => match us, hl with | [_, _], _ => rfl⟩
  have FGaps : Fn K mg "gaps" sGaps pGaps _ _ := ⟨fun_mk (st := sGaps) l16 c16 k16, PySem.W.mg_of X G a16, (fun_mk (st := sGaps) l16 c16 k16).binds (ps := pGaps) fun _ _ _ _ _ _ us hl => match us, hl with | [_, _], _ => rfl⟩
  have FTaken : Fn K mg "_law_taken" sTaken pTaken _ _ := ⟨fun_mk (st := sTaken) l17 c17 k17, PySem.W.mg_of X G a17, (fun_mk (st := sTaken) l17 c17 k17).binds (ps := pTaken) fun _ _ _ _ _ _ us hl => match us, hl with | [_, _], _ => rfl⟩
  have FPick : Fn K mg "_law_pick" sPick pPick _ _ := ⟨fun_mk (st := sPick) l18 c18 k18, PySem.W.mg_of X G a18, (fun_mk (st := sPick) l18 c18 k18).binds (ps := pPick) fun _ _ _ _ _ _ us hl => match us, hl with | [_, _], _ => rfl⟩
  have FAlike : Fn K mg "_law_alike" sAlike pAlike _ _ := ⟨fun_mk (st := sAlike) l19 c19 k19, PySem.W.mg_of X G a19, (fun_mk (st := sAlike) l19 c19 k19).binds (ps := pAlike) fun _ _ _ _ _ _ us hl => match us, hl with | [_, _], _ => rfl⟩
  have FLSpots : Fn K mg "_law_spots" sLSpots pLSpots _ _ := ⟨fun_mk (st := sLSpots) l20 c20 k20, PySem.W.mg_of X G a20, (fun_mk (st := sLSpots) l20 c20 k20).binds (ps := pLSpots) fun _ _ _ _ _ _ us hl => match us, hl with | [_, _], _ => rfl⟩
  have FLSum : Fn K mg "_law_sum" sLSum pLSum _ _ := ⟨fun_mk (st := sLSum) l21 c21 k21, PySem.W.mg_of X G a21, (fun_mk (st := sLSum) l21 c21 k21).binds (ps := pLSum) fun _ _ _ _ _ _ us hl => match us, hl with | [_, _, _], _ => rfl⟩
  have FLSet : Fn K mg "_law_set" sLSet pLSet _ _ := ⟨fun_mk (st := sLSet) l22 c22 k22, PySem.W.mg_of X G a22, (fun_mk (st := sLSet) l22 c22 k22).binds (ps := pLSet) fun _ _ _ _ _ _ us hl => match us, hl with | [_, _], _ => rfl⟩
  have FLaw : Fn K mg "law" sLaw pLaw _ _ := ⟨fun_mk (st := sLaw) l23 c23 k23, PySem.W.mg_of X G a23, (fun_mk (st := sLaw) l23 c23 k23).binds (ps := pLaw) fun _ _ _ _ _ _ us hl => match us, hl with | [_], _ => rfl⟩
  have B : Bl mg := { len := PySem.W.mg_none_of X G z_len, tuple := PySem.W.mg_none_of X G z_tuple, list := PySem.W.mg_none_of X G z_list, sorted := PySem.W.mg_none_of X G z_sorted, enumerate := PySem.W.mg_none_of X G z_enumerate, range := PySem.W.mg_none_of X G z_range, all := PySem.W.mg_none_of X G z_all, isinstance := PySem.W.mg_none_of X G z_isinstance, int := PySem.W.mg_none_of X G z_int, bool := PySem.W.mg_none_of X G z_bool, str := PySem.W.mg_none_of X G z_str, min := PySem.W.mg_none_of X G z_min }
  have C : Bounds mg := ⟨⟨_, PySem.W.mg_of X G g_LEAST_SIZE⟩, ⟨_, PySem.W.mg_of X G g_MOST_SIZE⟩, ⟨_, PySem.W.mg_of X G g_MOST_SETS⟩⟩
  obtain ⟨hd, hP⟩ := tabs_at X G T a3 l3 rfl lcS vPS
  refine ⟨PySem.W.fnOf "law" "law" (defArgs sLaw) (defBody sLaw) (defScope sLaw) .none kV23 dc23 pm23 an23 cd23 ct23, [(cS, P)], spLaw K P, fun p hp => ?_, fun p hp => ?_, fun p hp => ?_, fun s u => (.of_eq rfl), fun H a ns _ _ hH hS => ⟨a, ns, rfl, hS, ⟨#[], hH (cS, P) List.mem_cons_self, by trivial⟩, fun _ => rfl⟩, fun base KX GX TB => ?_⟩
  · have e : p = (cS, P) := by simpa using hp
    rw [e]
    exact hP
  · have e : p = (cS, P) := by simpa using hp
    rw [e]
    exact nPS
  · have e : p = (cS, P) := by simpa using hp
    rw [e]
    exact hd
  · have tb := TB (cS, P) List.mem_cons_self
    have ST : SetTxt K mg base P f3 _ := ⟨FIsSet, cS, _, _, _, _, _, _, _, _, rfl, l3, c3, tb⟩
    have gSize := ok_needSize (prog := l.prog) (w := w) (base := base) (k := 0) FNeedSize FIsIn B C
    have gSet := ok_isSet (prog := l.prog) (w := w) (base := base) (k := 0) ST FIsIn B
    have gNSet := ok_needSet FNeedSet FIsSet gSet
    have gNSets := ok_needSets FNeedSets FIsSet gSet FNeedSize (gSize.mono (by decide)) B C
    have gNCh := ok_needChoice FNeedChoice FNeedSets gNSets FNeedSet gNSet
    have gAdd := ok_added (prog := l.prog) (w := w) (base := base) (P := P) (k := 0) FAdded FEvery FSpots B
    have gChs := ok_choices FChoices FAdded gAdd B
    have gOnce := ok_once FOnceSum FNeedChoice gNCh FChoices (gChs.mono (by decide))
    have gCnt := ok_count FOnceCount FNeedChoice gNCh FChoices (gChs.mono (by decide)) B
    have gWh := ok_whole FWhole FAdded gAdd
    have gEq := ok_equal FEqualSums FNeedSets gNSets FWhole (gWh.mono (by decide)) FAdded (gAdd.mono (by decide)) B
    have gBl := ok_blocks (prog := l.prog) (w := w) (base := base) (P := P) (k := 3) FBlocks B
    have gGp := ok_gaps FGaps FNeedSize (gSize.mono (by decide)) FNeedSet gNSet FBlocks gBl B
    have gTk := ok_taken (prog := l.prog) (w := w) (base := base) (k := 0) FTaken B
    have gPk := ok_pick FPick FTaken gTk B
    have gLs := ok_lset (P := P) FLSet FTaken gTk B
    have gSm := ok_lsum (prog := l.prog) (w := w) (base := base) (P := P) (k := 0) FLSum FLSpots B
    have gAl := ok_alike (prog := l.prog) (w := w) (base := base) (P := P) FAlike B 3
    exact ok_law FLaw (k := 6) ⟨⟨_, _, FTaken, gTk.mono (by decide)⟩, ⟨_, _, FPick, gPk.mono (by decide)⟩, ⟨_, _, FLSet, gLs.mono (by decide)⟩, ⟨_, _, FLSum, gSm.mono (by decide)⟩, ⟨_, _, FAlike, gAl.mono (by decide)⟩, ⟨_, _, FOnceSum, gOnce.mono (by decide)⟩, ⟨_, _, FOnceCount, gCnt.mono (by decide)⟩, ⟨_, _, FEqualSums, gEq.mono (by decide)⟩, ⟨_, _, FGaps, gGp.mono (by decide)⟩, B⟩
end Pk

open PySem PySem.W PyProof.Rows in
set_option maxRecDepth 100000 in
set_option maxHeartbeats 0 in
theorem PySem.Challenge.cw_parksums_k34_whole_sets_once_holds : PySem.Challenge.rw_parksums_k34_whole_sets_once.Holds := by
  w_on; o_law; k_head; (case hw => w_witness2)
  k_fill
  refine Pk.walk_tab (l := PySem.Challenge.rw_parksums_k34_whole_sets_once) (n := 63) (k := 7) (x := "_law_script") (CX := fun _ => L2.CX0) "is_set" rfl (by decide) rfl ⟨rfl, by decide, by decide⟩ (by kernel_rfl) (fun w h Y => PySem.W.kIn_of Y) ?F (fun _ _ _ _ _ z => z)
  case F =>
    intro w mg fa h KX G hmg T
    refine' Pk.all_mk KX G hmg T ?a1 ?l1 ?c1 ?k1 ?a2 ?l2 ?c2 ?k2 ?a3 ?l3 ?c3 ?k3 ?a4 ?l4 ?c4 ?k4 ?a5 ?l5 ?c5 ?k5 ?a6 ?l6 ?c6 ?k6 ?a7 ?l7 ?c7 ?k7 ?a8 ?l8 ?c8 ?k8 ?a9 ?l9 ?c9 ?k9 ?a10 ?l10 ?c10 ?k10 ?a11 ?l11 ?c11 ?k11 ?a12 ?l12 ?c12 ?k12 ?a13 ?l13 ?c13 ?k13 ?a14 ?l14 ?c14 ?k14 ?a15 ?l15 ?c15 ?k15 ?a16 ?l16 ?c16 ?k16 ?a17 ?l17 ?c17 ?k17 ?a18 ?l18 ?c18 ?k18 ?a19 ?l19 ?c19 ?k19 ?a20 ?l20 ?c20 ?k20 ?a21 ?l21 ?c21 ?k21 ?a22 ?l22 ?c22 ?k22 ?a23 ?l23 ?c23 ?k23 ?z_len ?z_tuple ?z_list ?z_sorted ?z_enumerate ?z_range ?z_all ?z_isinstance ?z_int ?z_bool ?z_str ?z_min ?g_LEAST_SIZE ?g_MOST_SIZE ?g_MOST_SETS ?lcS ?vPS ?nPS
    (case a1 => k_is)
    (case l1 => k_is)
    (case c1 => k_is)
    (case k1 => k_is)
    (case a2 => k_is)
    (case l2 => k_is)
    (case c2 => k_is)
    (case k2 => k_is)
    (case a3 => k_is)
    (case l3 => k_is)
    (case c3 => k_is)
    (case k3 => k_is)
    (case a4 => k_is)
    (case l4 => k_is)
    (case c4 => k_is)
    (case k4 => k_is)
    (case a5 => k_is)
    (case l5 => k_is)
    (case c5 => k_is)
    (case k5 => k_is)
    (case a6 => k_is)
    (case l6 => k_is)
    (case c6 => k_is)
    (case k6 => k_is)
    (case a7 => k_is)
    (case l7 => k_is)
    (case c7 => k_is)
    (case k7 => k_is)
    (case a8 => k_is)
    (case l8 => k_is)
    (case c8 => k_is)
    (case k8 => k_is)
    (case a9 => k_is)
    (case l9 => k_is)
    (case c9 => k_is)
    (case k9 => k_is)
    (case a10 => k_is)
    (case l10 => k_is)
    (case c10 => k_is)
    (case k10 => k_is)
    (case a11 => k_is)
    (case l11 => k_is)
    (case c11 => k_is)
    (case k11 => k_is)
    (case a12 => k_is)
    (case l12 => k_is)
    (case c12 => k_is)
    (case k12 => k_is)
    (case a13 => k_is)
    (case l13 => k_is)
    (case c13 => k_is)
    (case k13 => k_is)
    (case a14 => k_is)
    (case l14 => k_is)
    (case c14 => k_is)
    (case k14 => k_is)
    (case a15 => k_is)
    (case l15 => k_is)
    (case c15 => k_is)
    (case k15 => k_is)
    (case a16 => k_is)
    (case l16 => k_is)
    (case c16 => k_is)
    (case k16 => k_is)
    (case a17 => k_is)
    (case l17 => k_is)
    (case c17 => k_is)
    (case k17 => k_is)
    (case a18 => k_is)
    (case l18 => k_is)
    (case c18 => k_is)
    (case k18 => k_is)
    (case a19 => k_is)
    (case l19 => k_is)
    (case c19 => k_is)
    (case k19 => k_is)
    (case a20 => k_is)
    (case l20 => k_is)
    (case c20 => k_is)
    (case k20 => k_is)
    (case a21 => k_is)
    (case l21 => k_is)
    (case c21 => k_is)
    (case k21 => k_is)
    (case a22 => k_is)
    (case l22 => k_is)
    (case c22 => k_is)
    (case k22 => k_is)
    (case a23 => k_is)
    (case l23 => k_is)
    (case c23 => k_is)
    (case k23 => k_is)
    (case z_len => k_is)
    (case z_tuple => k_is)
    (case z_list => k_is)
    (case z_sorted => k_is)
    (case z_enumerate => k_is)
    (case z_range => k_is)
    (case z_all => k_is)
    (case z_isinstance => k_is)
    (case z_int => k_is)
    (case z_bool => k_is)
    (case z_str => k_is)
    (case z_min => k_is)
    (case g_LEAST_SIZE => k_is)
    (case g_MOST_SIZE => k_is)
    (case g_MOST_SETS => k_is)
    (case lcS => k_is)
    (case vPS => first | rfl | decide | kernel_rfl)
    (case nPS => first | rfl | decide | kernel_rfl)
