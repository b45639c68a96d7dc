import PyProof.Rows.All
import Wide.All
import OpenK.AllK
import Wide.FinOn
import KE.KStateDown
import Lean
import KE.GoesEnum
import KE.GoesSet
import KE.GoesDict
import KE.KDictKeyed
import KE.KDictDisplayH
import HandS.ForMost
import HandS.Star
import HandS.Strs
import HandS.SetFor
import HandS.Deep
import HandS.Flow
import HandS.Style
import HandS.Small
import HandS.Conv
import HandS.IsInst
import HandS.TupAny
import HandS.TupLe
import HandS.TupSets
import HandS.SetBool
import HandS.DictTup
import HandS.Keys
import HandS.NamedTupSort
import HandS.SortInts
import HandS.Wide
import HandS.More
import HandS.WordsExc
import HandS.Defaults
import HandS.Head0
import HandS.Head1
import HandS.Head2
import HandS.HeadEnd
import HandS.HeadHook1
import HandS.HeadHook2
import HandS.Base
import HandS.Call
import HandS.Ends
import HandS.Words
import HandS.Walk
import PySem.Challenge.RW_thermogames_k69_whole_elements_of_quotie
set_option Elab.async false
set_option linter.all false
set_option maxRecDepth 100000
set_option maxHeartbeats 4000000
namespace QT
open PySem PySem.Spec PyProof.Rows L2
/-! small words -/
theorem small_line {n : Nat} (h : n ≤ 100000) : n ≤ sizeLine := by rw [sizeLine_eq]; omega
theorem small_line' {n : Nat} (h : n ≤ 100000) : n < sizeLine := by rw [sizeLine_eq]; omega
end QT
set_option Elab.async false
set_option linter.all false
set_option maxRecDepth 100000
set_option maxHeartbeats 0
namespace QT
open PySem PySem.Spec PyProof.Rows L2
/-! the text by places -/
def top (i : Nat) : Stmt := PySem.Challenge.pw_thermogames_k69_whole_elements_of_quotie.main.body.getD i (.Pass ⟨0, 0, 0, 0⟩)
def gD (x : Str) (st : Stmt) : He.DefD := ⟨(x, none), x, x, defArgs st, defBody st, defScope st, [], []⟩
def mD (c x q : Str) (st : Stmt) : He.DefD := ⟨(c, some x), x, q, defArgs st, defBody st, defScope st, [], []⟩
def fns : List He.DefD := [
  gD "is_int" (top 6), gD "is_in" (top 7), gD "need_number" (top 8), gD "need_rule" (top 12), gD "heap_options" (top 13),
  mD "Late" "__init__" "Late.__init__" (inClass (top 18) 0), mD "Late" "loses" "Late.loses" (inClass (top 18) 1),
  gD "image_of" (top 19), gD "pairs_of" (top 20), gD "first_fault" (top 21), gD "is_table" (top 22), gD "is_shape" (top 23), gD "are_apart" (top 24), gD "shows_quotient" (top 25),
  mD "Search" "__init__" "Search.__init__" (inClass (top 26) 0), mD "Search" "sign" "Search.sign" (inClass (top 26) 1), mD "Search" "spread" "Search.spread" (inClass (top 26) 2),
  mD "Search" "place" "Search.place" (inClass (top 26) 3), mD "Search" "table" "Search.table" (inClass (top 26) 4), mD "Search" "widen" "Search.widen" (inClass (top 26) 5), mD "Search" "longer" "Search.longer" (inClass (top 26) 6),
  gD "parts_of" (top 27), gD "tried" (top 28), gD "quotient" (top 29),
  gD "_law_taken" (top 31), gD "_law_small_rule" (top 32), gD "_law_lists_to" (top 33), gD "_law_image" (top 34), gD "law" (top 35)]
def fcs : List He.Fa := [
  .glo "is_int", .glo "is_in", .glo "need_number", .glo "need_rule", .glo "heap_options", .glo "image_of", .glo "pairs_of", .glo "first_fault", .glo "is_table", .glo "is_shape", .glo "are_apart", .glo "shows_quotient",
  .glo "parts_of", .glo "tried", .glo "quotient", .glo "_law_taken", .glo "_law_small_rule", .glo "_law_lists_to", .glo "_law_image", .glo "law", .glo "Late", .glo "Search",
  .int "MOST_DIGITS" 6, .int "MOST_OPTIONS" 60, .int "MOST_MOST" 6, .int "MOST_ELEMENTS" 60, .int "MOST_PAIRS" 20000,
  .free "isinstance", .free "int", .free "bool", .free "tuple", .free "len", .free "all", .free "any", .free "enumerate", .free "range", .free "sorted", .free "set",
  .cls "Late", .noat "Late" "moves", .noat "Late" "known", .meth "Late" "loses", .mkr "Late",
  .cls "Search", .noat "Search" "late", .noat "Search" "most", .noat "Search" "tests", .noat "Search" "reps", .noat "Search" "places",
  .meth "Search" "sign", .meth "Search" "spread", .meth "Search" "place", .meth "Search" "table", .meth "Search" "widen", .meth "Search" "longer", .mkr "Search"]
def loose : List PySem.Str := ["PlayError", "BadNumber", "BadRule", "TooMany", "is_int", "is_in", "need_number", "MOST_DIGITS", "MOST_OPTIONS", "need_rule", "heap_options", "MOST_MOST", "MOST_ELEMENTS", "MOST_PAIRS", "Late", "image_of", "pairs_of", "first_fault", "is_table", "is_shape", "are_apart", "shows_quotient", "Search", "parts_of", "tried", "quotient", "_law_taken", "_law_small_rule", "_law_lists_to", "_law_image"]
abbrev R : PySem.W.OpenRow := PySem.W.OpenLaw.row PySem.Challenge.rw_thermogames_k69_whole_elements_of_quotie
abbrev hk : PySem.W.Hook := He.hookD 6 fcs fns
def ob (s : PySem.W.SharedT) : He.AlD := He.obsDG 6 fcs fns (HandSHeadRun.getT s)
theorem ob_eq (s : PySem.W.SharedT) : ob s = hk.obs s.abs := He.obsDG_eq (HandSHeadRun.getT_eq s)
theorem run (w : World) : HandSHeadRun.RunEq R (PySem.W.view R.prog [35]) hk ob 4000 loose w := by
  intro os
  kernel_rfl
end QT
set_option Elab.async false
set_option linter.all false
set_option maxRecDepth 100000
set_option maxHeartbeats 4000000
namespace QT
open PySem PySem.Spec PyProof.Rows L2
open PySem.AutoSeq1 (wpAny_loadPart')
/-! enumerate of a tuple -/
theorem enum_new_one {v : Value} {o : Obj} {G : Heap → Prop} (B : Begins v o G) :
    Meets (Builtin.«enumerate.__new__» ⟨[.type "enumerate", v], []⟩) (fun _ R s => G s.heap ∧
      R (.ok (.ret (.ref (s.heap.push o).objs.size))) { s with heap := (s.heap.push o).push { cls := .type "enumerate", data := .fields #[.none, .bool false, .ref s.heap.objs.size, rawInt 0, .none, .none] } }) :=
  .of_wp fun prog w A R s hyp => by
    obtain ⟨hp, gs, dr, tk, os⟩ := s
    obtain ⟨g0, hyp⟩ := hyp
    have hsub := sub_enumerate
    have itr : ∀ {A' : Around} {E' : Value → Shared → Prop} {Q' : Value → Shared → Prop}, Q' (.ref hp.objs.size) ⟨hp.push o, gs, dr, tk, os⟩ → wpAny (model prog w) A' (pyIter v) Q' E' ⟨hp, gs, dr, tk, os⟩ :=
      fun z => B.iter prog w _ _ ⟨hp, gs, dr, tk, os⟩ _ g0 z
    wp_walk using itr
    refine wpAny_stack_any fun st => wpAny_pure ?_
    split
    · rename_i c _ _ _ _ _
      cases (c == Value.type "enumerate") <;> (wp_walk using itr; exact ⟨_, rfl, hyp⟩)
    · wp_walk using itr
      exact ⟨_, rfl, hyp⟩
section
variable {prog : Program} {w : World} {A : Around} {E : Value → Shared → Prop} {s : Shared}
theorem call_enum_one {v : Value} {o : Obj} {G : Heap → Prop} {Q : Value → Shared → Prop} (B : Begins v o G) (g0 : G s.heap)
    (k : ∀ h', IsEnum h' (s.heap.objs.size + 1) s.heap.objs.size 0 .none → h'.get? s.heap.objs.size = some o → h'.objs.size = s.heap.objs.size + 2 →
      (∀ b ob, s.heap.get? b = some ob → h'.get? b = some ob) → Q (.ref (s.heap.objs.size + 1)) { s with heap := h' }) :
    wpAny (model prog w) A (call (.type "enumerate") [v]) Q E s := by
  refine callType_new F.called_enumerate (by decide) (F.typeCall_enumerate_1 _) (F.newCall_enumerate_1 _) (fun obj => F.args_object_init_2 obj _) F.entry_enumerate_new
    (enum_new_one B) ⟨g0, ?_⟩
  have hz : (s.heap.push o).objs.size = s.heap.objs.size + 1 := Heap.size_push ..
  show _ ∧ _
  rw [hz]
  have he : IsEnum ((s.heap.push o).push { cls := .type "enumerate", data := .fields #[.none, .bool false, .ref s.heap.objs.size, rawInt 0, .none, .none] }) (s.heap.objs.size + 1) s.heap.objs.size 0 .none := by
    have z := Heap.get?_push_size (s.heap.push o) (o := { cls := .type "enumerate", data := .fields #[.none, .bool false, .ref s.heap.objs.size, rawInt 0, .none, .none] }) rfl
    rw [hz] at z
    exact z
  exact ⟨⟨_, he, rfl⟩, k _ he (Heap.get?_push_of_some _ (Heap.get?_push_size _ B.free)) (by rw [Heap.size_push, hz]) fun b ob x => Heap.get?_push_of_some _ (Heap.get?_push_of_some _ x)⟩
end
/-- the items of the tuple at a, each in a new pair with its place -/
def ItE (K : PySem.W.Frag) (a : Addr) : It :=
  ⟨fun i H => ∃ (xs : List V) (x : V), SqT K H a xs ∧ xs[i]? = some x,
    fun i H v H' => ∃ T x, v = .ref T ∧ H T = none ∧ H' = upd H T (.tup [.int (i : Nat), x]) ∧ ∀ xs, SqT K H a xs → xs[i]? = some x,
    fun i H => ∃ xs : List V, SqT K H a xs ∧ xs.length ≤ i⟩
theorem turn_enumT {P : Program} {w : World} {K : PySem.W.Frag} {elts : List Expr} {kk : Nat} {tpos : Pos} (a e it : Addr) :
    Turn P w K (.Tuple elts kk tpos) (ItE K a) [e, it] e (fun i h => (∃ old, IsEnum h e it ((i : Nat) : Int) old) ∧ h.IsTupleIter it a i ∧ e ≠ it ∧ a ≠ it) where
  mem := by simp
  obj := fun i h st b hb => by
    obtain ⟨⟨old, he⟩, ⟨o, ho, hc, hd⟩, _, _⟩ := st
    have e' : b = e ∨ b = it := by simpa using hb
    rcases e' with z | z
    · rw [z]; exact ⟨_, he, fun v q => nomatch q⟩
    · rw [z]; exact ⟨o, ho, fun v q => by rw [hd] at q; cases q⟩
  keep := fun i h h' st k => let ⟨⟨old, he⟩, hi, hne, ha⟩ := st; ⟨⟨old, k e (by simp) _ he⟩, hi.at fun o q => k it (by simp) o q, hne, ha⟩
  item := by
    intro X hP hw hK hc i pins s σ H E I hf st hg
    subst hP hw hK
    obtain ⟨⟨old, he⟩, hit, hne, hai⟩ := st
    obtain ⟨xs, x, hq, hx⟩ := hg
    obtain ⟨its, rv, p, hz⟩ := I.tuple hq
    obtain ⟨u, hu, ru⟩ := rv.get hx
    have hel : e < s.heap.objs.size := Heap.lt_size he
    have hil : it < s.heap.objs.size := by obtain ⟨_, q, _⟩ := hit; exact Heap.lt_size q
    have hil2 : i < its.toArray.size := by
      have z := (List.getElem?_eq_some_iff.mp hu).1
      simpa using z
    have hae : e ≠ a := by
      rintro rfl
      obtain ⟨o, ho, hcl, _⟩ := p
      rw [he] at ho
      cases ho
      have z : Value.type "enumerate" = Value.type "tuple" := hcl
      injection z with z
      exact absurd z (by decide)
    have D := Draws.tuple (prog := X.prog) (w := X.w) (A := X.A.in1) (I.ok.hd hc) it a hai its.toArray
    refine wpAny_pyNext_enum_itemD D he ⟨hit, p⟩ hil2 hne (by simp [hne, hae]) fun y h' tk hP ho hit' hT hsz hk => ?_
    have ey : y = u := by
      have z1 : its.toArray[i]? = some y := hP
      have z2 : its.toArray[i]? = some u := by simpa using hu
      rw [z1] at z2
      exact Option.some.inj z2
    subst ey
    refine ⟨_, rfl, wpAny_letOwnedTupleGo_enum (s := { s with heap := h', toks := tk + 1 }) ho fun h'' he' sb => ?_⟩
    have hT2 : h''.get? s.heap.objs.size = some { cls := .type "tuple", data := .seq #[.int i tk, y] } := (sb.2 _ (Nat.ne_of_gt hel)).trans hT
    have new : ObjOk X.prog X.w (upd H s.heap.objs.size (.tup [.int (i : Nat), x])) h'' s.heap.objs.size (.tup [.int (i : Nat), x]) :=
      ⟨by show 2 ≤ sizeLine; decide, [.int i tk, y], .cons ⟨_, rfl⟩ (.cons ru .nil), ⟨_, hT2, rfl, _, rfl⟩⟩
    have I1 : Inv X pins σ (upd H s.heap.objs.size (.tup [.int (i : Nat), x])) { s with heap := h'', toks := tk + 1 } :=
      I.turnedNew (ch := [e, it]) (fun b ob hb q => (sb.2 b (fun z => hb (by simp [z]))).trans (hk b ob (fun z => hb (by simp [z])) (fun z => hb (by simp [z])) q)) hf (Nat.le_refl _) new
    refine ⟨.ref s.heap.objs.size, _, I1, rfl, ⟨_, x, rfl, I.hok.fresh (Nat.le_refl _), rfl, fun ys hy => by rw [I.tuple_inj hy hq]; exact hx⟩, ⟨⟨y, ?_⟩, hit'.1.at fun o q => (sb.2 it (Ne.symm hne)).trans q, hne, hai⟩, fun b hb => ?_⟩
    · have e1 : ((i + 1 : Nat) : Int) = (i : Int) + 1 := by omega
      rw [e1]
      exact he'
    · have hb' : b < s.heap.objs.size := by
        have e' : b = e ∨ b = it := by simpa using hb
        rcases e' with z | z
        · rw [z]; exact hel
        · rw [z]; exact hil
      rw [upd_ne (Nat.ne_of_lt hb')]
      exact (hf b hb).1
  done := by
    intro X hP hw hK hc i pins s σ H E I hf st hg
    subst hP hw hK
    obtain ⟨⟨old, he⟩, hit, hne, hai⟩ := st
    obtain ⟨xs, hq, hx⟩ := hg
    obtain ⟨its, rv, p, hz⟩ := I.tuple hq
    obtain ⟨f0, f1, f2, f3, f4, f5⟩ := hf it (by simp)
    have hl := rv.length
    have hT : s.TypeIs (.ref e) "enumerate" := ⟨_, he, rfl⟩
    unfold pyNext
    refine wpAny_bind (wpAny_attempt (wpAny_callSpecial?_slot (name := Str.ofString "__next__") hT F.slot_enumerate_next
      (wpAny_call_entry F.slot_enumerate_next hT F.entry_enumerate_next ?_ (F.args_enumerate_next_1 _))))
    show wpAny _ _ (field (.ref e) 2 >>= _) _ _ _
    refine wpAny_bind (wpAny_field he rfl (x := .ref it) rfl ?_)
    refine wpAny_bind (wpAny_nextOf_tuple_end (I.ok.hd hc) hit p (by simp; omega) fun h' x he' hx' => ?_)
    obtain ⟨o, ho, hcl⟩ := hx'
    refine wpAny_bind (wpAny_isInstance (T := "StopIteration") (b := true) ⟨o, ho, hcl⟩ isSubtype_stop ?_)
    exact wpAny_pure ⟨rfl, I.turned (t' := s.toks) (fun b o hb q => he' b o hb q) f0 f1 f3 f4 f5⟩
  self := fun A i s Q E st h => let ⟨⟨_, he⟩, _⟩ := st; wpAny_pyIter_enum he h
def iEnumT (K : PySem.W.Frag) (ta : TA) : TI := fun σ H R => ta σ H fun vs H1 => ∃ a xs, vs = [.ref a] ∧ SqT K H1 a xs ∧ R (ItE K a) H1
theorem pi_enumT {X : Cx} {e : Expr} {ta : TA} {p pos tpos : Pos} {elts : List Expr} {kk : Nat} (hg : Gl X "enumerate") (hm : X.mg "enumerate" = none) (ha : PA X [e] ta) (hs : starEach [e] X.env = [(false, eval e X.env)] := by rfl) :
    PI X (.Tuple elts kk tpos) (.Call (.Name "enumerate" p) [e] [] pos) (iEnumT X.K ta) := by
  refine ⟨fun pins s σ H R I hyp => ?_⟩
  refine Call_ (ld_blt I hg hm boot_enumerate (PyProof.Rows.callWith_type1 (thn (ha.run pos pins s σ H _ I hyp) fun us s1 ⟨vs, H1, I1, r1, q1⟩ => ?_) hs rfl))
  obtain ⟨a, xs, ex, hq, q⟩ := q1
  subst ex
  cases r1 with
  | cons r rr =>
    cases rr
    cases r
    obtain ⟨its, rv, p', hz⟩ := I1.tuple hq
    have hlt : a < s1.heap.objs.size := by obtain ⟨o, ho, _⟩ := p'; exact Heap.lt_size ho
    refine call_enum_one (begins_tuple a its.toArray) p' fun h' he hit hsz hk => wpAny_pyIter_enum he ?_
    have I2 : Inv X pins σ H1 { s1 with heap := h' } := I1.kept (t' := s1.toks) hk
    refine ⟨s1.heap.objs.size + 1, [s1.heap.objs.size + 1, s1.heap.objs.size], _, _, H1, rfl, I2, turn_enumT a (s1.heap.objs.size + 1) s1.heap.objs.size, ⟨⟨.none, he⟩, ⟨_, hit, rfl, rfl⟩, Nat.succ_ne_self _, Nat.ne_of_lt hlt⟩, fun b hb => ?_, q⟩
    have e' : b = s1.heap.objs.size + 1 ∨ b = s1.heap.objs.size := by simpa using hb
    have hle : s1.heap.objs.size ≤ b := by
      rcases e' with z | z
      · rw [z]; exact Nat.le_add_right _ _
      · rw [z]; exact Nat.le_refl _
    exact I1.fpOk hle (I1.hok.fresh hle)
end QT
set_option Elab.async false
set_option linter.all false
set_option maxRecDepth 100000
set_option maxHeartbeats 4000000
namespace QT
open PySem PySem.Spec PyProof.Rows L2
/-! sorted of tuples of ints, of any lengths; of anything that is collected -/
section
variable {prog : Program} {w : World} {A : Around} {E : Value → Shared → Prop} {s : Shared}
/-- the first item of a tuple, read off the heap -/
def frst (h : Heap) (v : Value) : Option Value := match v with
  | .ref a => match h.get? a with
    | some o => match o.data with
      | .seq xs _ => xs[0]?
      | _ => none
    | none => none
  | _ => none
theorem frst_of {h : Heap} {v : Value} {ns : List Int} (x : TS.TupInts h v ns) : (ns = [] ∧ frst h v = none) ∨ ∃ n r t, ns = n :: r ∧ frst h v = some (.int n t) := by
  obtain ⟨a, xs, rfl, ⟨o, ho, hc, n, hd⟩, i⟩ := x
  simp only [frst, ho, hd]
  cases e : xs.toList with
  | nil =>
    rw [e] at i
    cases i
    refine .inl ⟨rfl, ?_⟩
    rw [← Array.getElem?_toList, e] <;> rfl
  | cons y ys =>
    rw [e] at i
    cases i with
    | cons m t r =>
      refine .inr ⟨m, _, t, rfl, ?_⟩
      rw [← Array.getElem?_toList, e] <;> rfl
theorem looks_tup {M : Model} {h : Heap} {v : Value} {ns : List Int} (x : TS.TupInts h v ns) : PySem.W.Looks M h (typeOf v) (.type "tuple") := by
  obtain ⟨a, xs, rfl, ⟨o, ho, hc, n, hd⟩, i⟩ := x
  rw [← hc]
  exact (PySem.W.Looks.ld ho).andThen .now
theorem firsts_run {M : Model} {k : Value → List Int} : ∀ (vs : List Value) {Q : List (Option Value) → Shared → Prop}, (∀ v ∈ vs, TS.TupInts s.heap v (k v)) → Q (vs.map (frst s.heap)) s → wpAny M A (vs.mapM firstOfTuple') Q E s
  | [], _, _, h => by
    rw [List.mapM_nil]
    exact wpAny_pure h
  | v :: vs, Q, hv, h => by
    rw [List.mapM_cons]
    have x := hv v List.mem_cons_self
    refine wpAny_bind ?_
    rw [PySem.W.kas_first_eq]
    refine wpAny_bind ((looks_tup x).here ?_)
    obtain ⟨a, xs, rfl, ⟨o, ho, hc, n, hd⟩, i⟩ := x
    rw [if_neg (by first | decide | simp)]
    refine wpAny_bind (PyProof.Rows.listItems_at ho hd (wpAny_pure ?_))
    have ef : frst s.heap (.ref a) = xs[0]? := by simp only [frst, ho, hd]
    refine wpAny_bind (firsts_run vs (Q := fun bs s' => wpAny M A (pure (xs[0]? :: bs)) Q E s') (fun u hu => hv u (List.mem_cons_of_mem _ hu)) (wpAny_pure ?_))
    rw [← ef]
    exact h
/-- which kind the sort takes for tuples of ints -/
theorem kind_ti {vs : List Value} {k : Value → List Int} (hv : ∀ v ∈ vs, TS.TupInts s.heap v (k v)) (h2 : 2 ≤ vs.length) :
    ∃ κ, (κ = tuples' true ∨ κ = general' ∨ κ = oneType') ∧ ∀ (Q : SortKind → Shared → Prop) (E : Value → Shared → Prop), Q κ s → wpAny (model prog w) A (keyKind' vs.toArray) Q E s := by
  by_cases hall : (vs.map (frst s.heap)).toArray.all (fun x => x.isSome) = true
  · -- tuples, none empty
    refine ⟨tuples' true, .inl rfl, fun Q E hq => ?_⟩
    rw [keyKind'_eq, List.mapM_toArray, map_eq_pure_bind]
    refine wpAny_bind (wpAny_bind (firsts_run vs hv (wpAny_pure ?_)))
    rw [if_pos hall]
    refine wpAny_bind (wpAny_rule ?_)
    have hfs : ∃ fs : List Value, vs.map (frst s.heap) = fs.map some ∧ (∀ f ∈ fs, ∃ n t, f = Value.int n t) ∧ fs.length = vs.length := by
      have key : ∀ l : List Value, (∀ v ∈ l, TS.TupInts s.heap v (k v)) → (l.map (frst s.heap)).all (fun x => x.isSome) = true → ∃ fs : List Value, l.map (frst s.heap) = fs.map some ∧ (∀ f ∈ fs, ∃ n t, f = Value.int n t) ∧ fs.length = l.length := by
        intro l
        induction l with
        | nil => intro _ _; exact ⟨[], rfl, (fun f hf => by cases hf), rfl⟩
        | cons v l ih =>
          intro hl ha
          rw [List.map_cons, List.all_cons, Bool.and_eq_true] at ha
          obtain ⟨fs, e1, e2, e3⟩ := ih (fun u hu => hl u (List.mem_cons_of_mem _ hu)) ha.2
          rcases frst_of (hl v List.mem_cons_self) with ⟨_, e⟩ | ⟨n, r, t, _, e⟩
          · rw [e] at ha
            exact absurd ha.1 (by simp)
          · refine ⟨.int n t :: fs, by rw [List.map_cons, e, e1] <;> rfl, fun f hf => ?_, by rw [List.length_cons, List.length_cons, e3]⟩
            rcases List.mem_cons.mp hf with z | z
            · exact ⟨n, t, z⟩
            · exact e2 f z
      exact key vs hv (by simpa using hall)
    obtain ⟨fs, e1, e2, e3⟩ := hfs
    have hfm : ((vs.map (frst s.heap)).toArray.filterMap id) = fs.toArray := by
      rw [e1]
      simp
    rw [hfm, oneTypeOnly'_eq, List.mapM_toArray, map_eq_pure_bind]
    refine wpAny_bind (wpAny_bind (wpAny_bind (PySem.W.kas_mapM (r := Value.type "int") _ (fun v hv' Q' hq' => ?_) (wpAny_pure ?_))))
    · obtain ⟨n, t, rfl⟩ := e2 v hv'
      exact wpAny_pure hq'
    · have hall2 : ((List.map (fun _ => Value.type "int") fs).toArray.all fun x => x == Value.type "int") = true := by
        simp only [List.all_toArray, List.all_map, List.all_eq_true]
        intro _ _
        simp
      have h0 : (List.map (fun _ => Value.type "int") fs).toArray[0]? = some (Value.type "int") := by
        cases fs with
        | nil => rw [List.length_nil] at e3; omega
        | cons f fs => simp
      rw [h0]
      simp only [hall2, if_true]
      exact wpAny_pure (wpAny_pure hq)
  · by_cases hone : (((vs.map (frst s.heap)).toArray[0]?).bind id).isSome = true
    · refine ⟨general', .inr (.inl rfl), fun Q E hq => ?_⟩
      rw [keyKind'_eq, List.mapM_toArray, map_eq_pure_bind]
      refine wpAny_bind (wpAny_bind (firsts_run vs hv (wpAny_pure ?_)))
      rw [if_neg hall]
      first
        | rw [if_pos hone]; exact wpAny_pure hq
        | (refine wpAny_bind (wpAny_pure ?_); rw [if_pos hone]; exact wpAny_pure hq)
    · refine ⟨oneType', .inr (.inr rfl), fun Q E hq => ?_⟩
      rw [keyKind'_eq, List.mapM_toArray, map_eq_pure_bind]
      refine wpAny_bind (wpAny_bind (firsts_run vs hv (wpAny_pure ?_)))
      rw [if_neg hall, if_neg hone]
      rw [oneTypeOnly'_eq, List.mapM_toArray, map_eq_pure_bind]
      refine wpAny_bind (wpAny_bind (wpAny_bind (PySem.W.kas_mapM (r := Value.type "tuple") _ (fun v hv' Q' hq' => (looks_tup (hv v hv')).here hq') (wpAny_pure ?_))))
      have hall2 : ((List.map (fun _ => Value.type "tuple") vs).toArray.all fun x => x == Value.type "tuple") = true := by
        simp only [List.all_toArray, List.all_map, List.all_eq_true]
        intro _ _
        simp
      have h0 : (List.map (fun _ => Value.type "tuple") vs).toArray[0]? = some (Value.type "tuple") := by
        cases vs with
        | nil => rw [List.length_nil] at h2; omega
        | cons f fs => simp
      rw [h0]
      simp only [hall2, if_true]
      exact wpAny_pure (wpAny_pure hq)
/-- two tuples of ints item by item -/
theorem lex_run {Q : Bool → Shared → Prop} (b : Bool) : ∀ {xs ys : List Value} {ns ms : List Int} (i : Nat) (fin : Bool), IntsAre xs ns → IntsAre ys ms → (ns.length + 0 = ns.length → fin = decide (ns.length < ms.length)) → Q (HT.lexLt ns ms) s → PySem.W.KatLex prog w A b fin Q (xs.zip ys) i s := by
  intro xs ys ns ms i fin hx
  induction hx generalizing ys ms i with
  | nil =>
    intro hy hf h
    have hf := hf rfl
    cases hy with
    | nil =>
      rw [HT.lexLt_nil_nil] at h
      rw [hf]
      exact PySem.W.kat_nil (by simpa using h)
    | cons q u hy =>
      rw [HT.lexLt_nil_cons] at h
      rw [hf]
      exact PySem.W.kat_nil (by simpa using h)
  | @cons p t xs ns hx ih =>
    intro hy hf h
    have hf := hf rfl
    cases hy with
    | nil =>
      rw [HT.lexLt_cons_nil] at h
      rw [hf]
      exact PySem.W.kat_nil (by simpa using h)
    | @cons q u ys ms hy =>
      show PySem.W.KatLex prog w A b fin Q ((Value.int p t, Value.int q u) :: xs.zip ys) i s
      rw [HT.lexLt_cons] at h
      refine PySem.W.kat_cons (wpAny_eqBool_int ?_)
      by_cases e : p = q
      · subst e
        rw [if_pos rfl] at h
        rw [beq_self_eq_true]
        refine PySem.W.kat_yes ?_
        have hfin : fin = decide (ns.length < ms.length) := by
          rw [hf]
          simp only [List.length_cons, Nat.succ_lt_succ_iff, Nat.add_lt_add_iff_right]
        exact ih (i + 1) hy (fun _ => hfin) h
      · rw [if_neg e] at h
        rw [show (p == q) = false from beq_eq_false_iff_ne.mpr e]
        exact PySem.W.kat_no (TS.oneLt_ints _ h)
theorem lt_ti {κ : SortKind} (hκ : κ = tuples' true ∨ κ = general' ∨ κ = oneType') {v u : Value} {ns ms : List Int} {Q : Bool → Shared → Prop} (hu : A.units < cLine) (hv : TS.TupInts s.heap v ns) (hw : TS.TupInts s.heap u ms) (h : Q (HT.lexLt ns ms) s) :
    wpAny (model prog w) A (keyLt' κ v u) Q E s := by
  obtain ⟨a, xs, rfl, ha, ia⟩ := hv
  obtain ⟨b, ys, rfl, hb, ib⟩ := hw
  rcases hκ with rfl | rfl | rfl
  · obtain ⟨o, ho, hc, n, hd⟩ := ha
    obtain ⟨o', ho', hc', n', hd'⟩ := hb
    refine PySem.W.kat_lt ho hd ho' hd' (lex_run true 0 _ ia ib (fun _ => ?_) h)
    have l1 := ia.length
    have l2 := ib.length
    rw [Array.length_toList] at l1 l2
    rw [l1, l2]
  · exact PySem.W.kat_one _ _ (HT.lt_tupInts ha hb ia ib hu h)
  · rw [keyLt'_oneType, oneLt'_eq]
    simp only [if_true]
    refine wpAny_bind (wpAny_cRoomFor hu ?_)
    have tv : s.TypeIs (.ref a) "tuple" := let ⟨o, ho, hc, _⟩ := ha; ⟨o, ho, hc⟩
    refine wpAny_bind (wpAny_callSpecialIfBound?_slot tv PySem.F.slot_tuple_lt ?_)
    obtain ⟨⟨cls, dd, data, sl⟩, ho, hc, n, hd⟩ := id ha
    obtain ⟨⟨cls2, dd2, data2, sl2⟩, ho2, hc2, n2, hd2⟩ := id hb
    simp only at hc hd hc2 hd2
    subst hc hd hc2 hd2
    exact call_meets PySem.F.slot_tuple_lt tv PySem.F.entry_tuple_lt (PySem.F.args_tuple_lt_2 _ _) (HT.tuple_lt_ints a b xs ys n n2 dd dd2 sl sl2 ns ms ia ib)
      ⟨ho, ho2, wpAny_truthy_bool h⟩
theorem ti_sortable {a : Addr} {vs : List Value} {k : Value → List Int} (h2 : 2 ≤ vs.length) (hu : A.units < cLine) (hv : ∀ v ∈ vs, TS.TupInts s.heap v (k v)) (ha : ∀ v ∈ vs, v ≠ .ref a) :
    SrtO.SortableO prog w A s a vs fun v u => HT.lexLt (k v) (k u) := by
  intro h' keep
  have hv' : ∀ v ∈ vs, TS.TupInts h' v (k v) := fun v hm => by
    obtain ⟨b, xs, e, ⟨o, ho, hc, hd⟩, i⟩ := hv v hm
    exact ⟨b, xs, e, ⟨o, keep b o (fun z => ha v hm (by rw [e, z])) ho, hc, hd⟩, i⟩
  obtain ⟨κ, hκ, run⟩ := kind_ti (prog := prog) (w := w) (A := A) (s := { s with heap := h' }) hv' h2
  refine ⟨κ, run, ?_⟩
  intro p q hp hq
  exact lt_ti (s := { s with heap := h' }) hκ hu (hv' p.1 hp) (hv' q.1 hq) ⟨rfl, rfl⟩
/-- sorted of whatever is collected -/
theorem sorted_src {src : Value} {Q : Value → Shared → Prop} {C : List Value → Shared → Prop} (hc : wpAny (model prog w) A.in1 (collect src) C E s)
    (hk : ∀ vs s1, C vs s1 → ∃ ltv, SrtO.Swo ltv ∧ vs.length ≤ sizeLine ∧
      (2 ≤ vs.length → ∀ (h1 : Heap) (a : Addr), h1.get? a = some (seqObj "list" vs.toArray 0) → (∀ b o, s1.heap.get? b = some o → b ≠ a ∧ h1.get? b = some o) → SrtO.SortableO prog w A.in1.in1 { s1 with heap := h1 } a vs ltv) ∧
      ∀ (out : List Value) (h' : Heap) (d : Addr) (n : Nat), SrtO.Srtd ltv out → SrtO.Stb ltv out vs → (∀ b o, s1.heap.get? b = some o → h'.get? b = some o) → s1.heap.objs.size ≤ d → h'.get? d = some (seqObj "list" out.toArray n) → Q (.ref d) { s1 with heap := h' }) :
    wpAny (model prog w) A (call (.builtin "sorted") [src]) Q E s := by
  refine Calls.call_function_entry kind_sorted plain_sorted entry_sorted (args_sorted1 _) ?_
  unfold Builtin.«sorted»
  refine wpAny_bind (m := checkCount "sorted" 1 1 _) (wpAny_pure ?_)
  refine wpAny_bind (wpAny_mono hc (fun vs s1 hC => ?_) fun _ _ z => z)
  obtain ⟨ltv, O, hz, hS, fin⟩ := hk vs s1 hC
  refine wpAny_bind (wpAny_newList ?_ hz)
  have hoL : (s1.heap.push (seqObj "list" vs.toArray 0)).get? s1.heap.objs.size = some (seqObj "list" vs.toArray 0) := Heap.get?_push_size _ rfl
  have keep : ∀ b o, s1.heap.get? b = some o → b ≠ s1.heap.objs.size ∧ (s1.heap.push (seqObj "list" vs.toArray 0)).get? b = some o := fun b o q => ⟨Nat.ne_of_lt (Heap.lt_size q), Heap.get?_push_of_some _ q⟩
  refine wpAny_bind (wpAny_holding (wpAny_call_entry slot_list_sort ⟨_, hoL, rfl⟩ entry_list_sort (SrtO.list_sort_ord (s := { s1 with heap := s1.heap.push (seqObj "list" vs.toArray 0) }) O hoL hz (fun h2 => hS h2 _ _ hoL keep) fun out hs hb => ⟨_, rfl, ?_⟩) (args_list_sort _)))
  obtain ⟨c, hc2⟩ := sortedHeap_at (vs := vs) (out := out.toArray) hoL
  refine wpAny_pure ⟨_, rfl, fin out _ s1.heap.objs.size c hs hb (fun b u e => ?_) (Nat.le_refl _) hc2⟩
  have hlt := Heap.lt_size e
  show (sortedHeap (s1.heap.push (seqObj "list" vs.toArray 0)) s1.heap.objs.size vs out.toArray).get? b = some u
  rw [sortedHeap_old (Nat.ne_of_lt hlt) (by rw [size_push']; exact Nat.lt_succ_of_lt hlt)]
  exact Heap.get?_push_of_some _ e
end
section
variable {X : Cx}
/-- sorted of a tuple of ints -/
def rSortTI (K : PySem.W.Frag) : List V → Hp → VK → Prop := fun vs H Q => ∃ (a : Addr) (ns : List Int), vs = [V.ref a] ∧ SqT K H a (ns.map V.int) ∧
  ∀ (ns' : List Int) (p : Addr), ns'.Perm ns → ns'.Pairwise (· ≤ ·) → H p = none → Q (.ref p) (upd H p (.lst (ns'.map V.int)))
theorem cr_sortTI : CallR X (.builtin "sorted") (rSortTI X.K) := by
  intro pins s σ H vs us Q I r hyp
  obtain ⟨a, ns, rfl, hs, q⟩ := hyp
  obtain ⟨its, rv, ⟨o, ho, hc, n, hd⟩, hz⟩ := I.tuple hs
  rw [Vals.ref1 r]
  have hi := rv.ints
  have hz2 : its.length ≤ sizeLine := by rw [← rv.length]; exact hz
  refine sorted_src (C := fun vs s1 => vs = its ∧ ∃ h1, s1 = { s with heap := h1 } ∧ ∀ b o, s.heap.get? b = some o → h1.get? b = some o) (wpAny_collect_seq a (.inr rfl) ho hc hd (fun h' k => ⟨by simp, h', rfl, k⟩) (by rw [List.size_toArray]; exact hz2)) ?_
  rintro vs s1 ⟨rfl, h1, rfl, k⟩
  refine ⟨SrtO.ltIv, SrtO.swo_int, hz2, fun h2 h₁ a' _ _ => SrtO.ints_sortable hi h2, fun out h' d n hs hb k2 hsz hd2 => ?_⟩
  obtain ⟨k1, k2', k3⟩ := SrtO.ints_out hi hs hb
  have I1 : Inv X pins σ H { s with heap := h1 } := I.kept (t' := s.toks) k
  have hlen : ((out.map SrtO.iv).map V.int).length ≤ sizeLine := by
    rw [List.length_map, k2'.length_eq]
    rw [List.length_map] at hz
    exact hz
  exact ⟨.ref d, upd H d (.lst ((out.map SrtO.iv).map V.int)), I1.laid (t' := s.toks) k2 hsz ⟨hlen, out, n, vals_of_ints k1, hd2⟩, rfl, q _ _ k2' k3 (I1.hok.fresh hsz)⟩
end
end QT
set_option Elab.async false
set_option linter.all false
set_option maxRecDepth 100000
set_option maxHeartbeats 4000000
namespace QT
open PySem PySem.Spec PyProof.Rows L2
/-! sorted of a set of tuples of ints, of the keys of a dict with such keys -/
section
variable {X : Cx}
/-- behind the collecting: vs are the addresses of L in some order -/
theorem sort_rows {pins : List (Addr × Obj)} {σ : L2.St} {H : Hp} {s1 : Shared} {vs : List Value} {L : List (Addr × List Int)} {Q : VK} (hu : X.A.units + 64 < cLine) (I1 : Inv X pins σ H s1) (hL : ∀ q ∈ L, TS.TupInts s1.heap (.ref q.1) q.2)
    (hz : L.length ≤ sizeLine) (pm : vs.Perm (L.map fun q => Value.ref q.1))
    (q : ∀ (L' : List (Addr × List Int)) (p : Addr), L'.Perm L → L'.Pairwise (fun q r => HT.lexLt r.2 q.2 = false) → H p = none → Q (.ref p) (upd H p (.lst (L'.map fun q => V.ref q.1)))) :
    ∃ ltv, SrtO.Swo ltv ∧ vs.length ≤ sizeLine ∧
      (2 ≤ vs.length → ∀ (h1 : Heap) (a : Addr), h1.get? a = some (seqObj "list" vs.toArray 0) → (∀ b o, s1.heap.get? b = some o → b ≠ a ∧ h1.get? b = some o) → SrtO.SortableO X.prog X.w X.A.in1.in1 { s1 with heap := h1 } a vs ltv) ∧
      ∀ (out : List Value) (h' : Heap) (d : Addr) (n : Nat), SrtO.Srtd ltv out → SrtO.Stb ltv out vs → (∀ b o, s1.heap.get? b = some o → h'.get? b = some o) → s1.heap.objs.size ≤ d → h'.get? d = some (seqObj "list" out.toArray n) → EP X pins σ Q (.ref d) { s1 with heap := h' } := by
  have tk : ∀ h : Heap, (∀ b u, s1.heap.get? b = some u → h.get? b = some u) → ∀ v ∈ vs, TS.TupInts h v (TS.intsOf s1.heap v) := fun h kh v hv => by
    obtain ⟨q, hq, e⟩ := List.mem_map.mp (pm.mem_iff.mp hv)
    have x := hL q hq
    rw [← e, x.ints]
    exact x.keeps fun b u z _ => kh b u z
  have hvl : vs.length = L.length := by rw [pm.length_eq, List.length_map]
  refine ⟨fun v u => HT.lexLt (TS.intsOf s1.heap v) (TS.intsOf s1.heap u), NtL.swo_lexL _, by rw [hvl]; exact hz, fun h2 h1 a' ha' keep => ?_, fun out h' d n hs hb k2 hsz2 hd2 => ?_⟩
  · refine ti_sortable (s := { s1 with heap := h1 }) h2 (by show X.A.units + 1 + 1 < cLine; omega) (tk h1 fun b u z => (keep b u z).2) fun v hv e => ?_
    obtain ⟨b, xs, e2, ⟨o2, ho2, _⟩, _⟩ := tk s1.heap (fun _ _ z => z) v hv
    rw [e] at e2
    injection e2 with e2
    exact (keep b o2 ho2).1 e2.symm
  · obtain ⟨L', pL, e'⟩ := perm_lift (fun q : Addr × List Int => Value.ref q.1) (hb.perm.trans pm) L rfl
    have pw : L'.Pairwise (fun q r => HT.lexLt r.2 q.2 = false) := by
      have hs2 : out.Pairwise (fun v u => HT.lexLt (TS.intsOf s1.heap u) (TS.intsOf s1.heap v) = false) := hs
      rw [← e'] at hs2
      refine List.Pairwise.imp_of_mem (fun {q r} hq hr hle => ?_) (List.pairwise_map.mp hs2)
      have f1 : TS.intsOf s1.heap (.ref q.1) = q.2 := (hL q (pL.mem_iff.mp hq)).ints
      have f2 : TS.intsOf s1.heap (.ref r.1) = r.2 := (hL r (pL.mem_iff.mp hr)).ints
      rw [f1, f2] at hle
      exact hle
    have hlen : (L'.map fun q => V.ref q.1).length ≤ sizeLine := by rw [List.length_map, pL.length_eq]; exact hz
    have hv : Vals (L'.map fun q => V.ref q.1) out := by rw [← e']; exact vals_of_refs L'
    exact ⟨.ref d, upd H d (.lst (L'.map fun q => V.ref q.1)), I1.laid (t' := s1.toks) k2 hsz2 ⟨hlen, out, n, hv, hd2⟩, rfl, q L' d pL pw (I1.hok.fresh hsz2)⟩
def rSortST (K : PySem.W.Frag) (P : Program) (w : World) : List V → Hp → VK → Prop := fun vs H Q => ∃ (a : Addr) (L : List (Addr × List Int)), vs = [V.ref a] ∧ H a = some (SetTO P w a L) ∧ (∀ p ∈ L, SqT K H p.1 (p.2.map V.int)) ∧
  ∀ (L' : List (Addr × List Int)) (p : Addr), (L.map (·.2)).Nodup → L'.Perm L → L'.Pairwise (fun q r => HT.lexLt r.2 q.2 = false) → H p = none → Q (.ref p) (upd H p (.lst (L'.map fun q => V.ref q.1)))
theorem cr_sortST (hcalm : X.calm = true) (hu : X.A.units + 64 < cLine) : CallR X (.builtin "sorted") (rSortST X.K X.prog X.w) := by
  intro pins s σ H vs us Q I r hyp
  obtain ⟨a, L, rfl, ha, hk, q⟩ := hyp
  have R0 : SetT0 X.prog X.w s.heap a L := (I.hok a _ ha).1
  obtain ⟨es, ep, t, R⟩ := R0.full fun p hp => I.isT (hk p hp)
  rw [Vals.ref1 r]
  obtain ⟨o, ho, hex, hd⟩ := R.ob
  have hsz := R.size
  have hfew := R.few
  have hes : es.toList.map (·.2) = L.map fun q => Value.ref q.1 := by
    rw [R.rows]
    unfold rowsOf
    rw [List.map_map] <;> rfl
  refine sorted_src (C := fun vs s1 => (∀ b u, s.heap.get? b = some u → s1.heap.get? b = some u) ∧ s1.gens = s.gens ∧ s1.os = s.os ∧ vs.Perm (es.toList.map (·.2)))
    (collect_set (A := X.A.in1) (I.ok.hd hcalm) ⟨o, ho, hex.1, hd⟩ R.fits (by unfold scanBound; omega) R.tab.ris R.led fun s1 vs k1 hz g1 o1 pm => ⟨k1, g1, o1, pm⟩) ?_
  rintro vs s1 ⟨k1, g1, o1, pm⟩
  rw [hes] at pm
  have I1 : Inv X pins σ H s1 := I.call' (ch := []) o1 (Un.kept k1) (I.hok.kept k1) (by rw [g1]; exact I.bare) (fun _ z => nomatch z)
  exact sort_rows hu I1 (fun q hq => tupInts_of (P := X.prog) (w := X.w) (isT_keep (R.tup q hq) k1)) (by rw [sizeLine_eq]; omega) pm fun L' p pL => q L' p R.nd pL
/-- a key of ints -/
def kI (ns : List Int) : List L2.Key := ns.map Sum.inl
theorem kI_V (ns : List Int) : (kI ns).map kV = ns.map V.int := by
  unfold kI
  rw [List.map_map]
  exact List.map_congr_left fun _ _ => rfl
theorem dt_rows {P : Program} {w : World} {H : Hp} : ∀ {kvs : List (List L2.Key × V)} {xs : List (List L2.Key × Addr × Value)} {ks : List (List Int)}, KT H kvs xs → kvs.map (·.1) = ks.map kI →
    ∃ L : List (Addr × List Int), L.map (·.2) = ks ∧ (xs.map (entryOfKey (tupleKind (mixKind P w)))).map (·.key) = L.map (fun q => Value.ref q.1) ∧ ∀ q ∈ L, H q.1 = some (.tup (q.2.map V.int))
  | _, _, [], .nil, _ => ⟨[], rfl, rfl, fun q hq => by cases hq⟩
  | _, _, _ :: _, .nil, e => by cases e
  | _, _, [], .cons _ _, e => by cases e
  | p :: ps, x :: xs, k :: ks, .cons hq t, e => by
    rw [List.map_cons, List.map_cons] at e
    injection e with e1 e2
    obtain ⟨L, l1, l2, l3⟩ := dt_rows (P := P) (w := w) t e2
    refine ⟨(x.2.1, k) :: L, by rw [List.map_cons, l1], ?_, fun q hm => ?_⟩
    · rw [List.map_cons, List.map_cons, List.map_cons, l2]
      rfl
    · rcases List.mem_cons.mp hm with z | z
      · subst z
        have h1 := hq.2.1
        rw [e1, kI_V] at h1
        exact h1
      · exact l3 q z
def rSortDT : List V → Hp → VK → Prop := fun vs H Q => ∃ (a : Addr) (kvs : List (List L2.Key × V)) (ks : List (List Int)), vs = [V.ref a] ∧ H a = some (.dT kvs) ∧ kvs.map (·.1) = ks.map kI ∧
  ∀ (L' : List (Addr × List Int)) (p : Addr), (L'.map (·.2)).Perm ks → (∀ q ∈ L', H q.1 = some (.tup (q.2.map V.int))) → L'.Pairwise (fun q r => HT.lexLt r.2 q.2 = false) → H p = none → Q (.ref p) (upd H p (.lst (L'.map fun q => V.ref q.1)))
theorem cr_sortDT (hcalm : X.calm = true) (hu : X.A.units + 64 < cLine) : CallR X (.builtin "sorted") rSortDT := by
  intro pins s σ H vs us Q I r hyp
  obtain ⟨a, kvs, ks, rfl, ha, hks, q⟩ := hyp
  rw [Vals.ref1 r]
  obtain ⟨hz, lo, xs, rel, o, es, ep, h1, h2, h3, h4, h5, h6⟩ := dt_of I.hok ha
  obtain ⟨L, l1, l2, l3⟩ := dt_rows (P := X.prog) (w := X.w) rel hks
  have hn : es.size ≤ sizeLine := by
    have e1 : es.toList.length = xs.length := by rw [h4, List.length_map]
    have e2 := Paired.length rel
    rw [Array.length_toList] at e1
    omega
  refine sorted_src (C := fun vs s1 => vs = es.toList.map (·.key) ∧ ∃ h1 tk, s1 = { s with heap := h1, toks := tk } ∧ ∀ b o, s.heap.get? b = some o → h1.get? b = some o)
    (PySem.W.kdu_collect (A := X.A.in1) (KdlSrc.rawDict (es := es) (ep := ep) lo) (I.ok.hd hcalm) ⟨o, h1, h2, h3⟩ hn fun h' tk acc hk hacc => ⟨?_, h', tk, rfl, hk⟩) ?_
  · refine List.ext_getElem? fun j => ?_
    by_cases hj : j < es.size
    · have hj2 : j < acc.size := by rw [hacc.1]; exact hj
      obtain ⟨hi, e⟩ := hacc.2 j acc[j] (by simp [hj2])
      rw [List.getElem?_map]
      simp [hj, hj2, e]
    · rw [List.getElem?_eq_none (by rw [Array.length_toList, hacc.1]; omega), List.getElem?_eq_none (by rw [List.length_map, Array.length_toList]; omega)]
  · rintro vs s1 ⟨rfl, g1, tk, rfl, k1⟩
    have I1 : Inv X pins σ H { s with heap := g1, toks := tk } := I.kept k1
    rw [h4, l2]
    have hzL : L.length ≤ sizeLine := by
      have e := congrArg List.length l2
      rw [List.length_map, List.length_map, List.length_map] at e
      have e2 := Paired.length rel
      omega
    refine sort_rows hu I1 (fun q hq => ?_) hzL (List.Perm.refl _) fun L' p pL => q L' p (by rw [← l1]; exact pL.map _) fun q hq => l3 q (pL.mem_iff.mp hq)
    exact tupInts_of (P := X.prog) (w := X.w) (I1.isT (SqT.of (l3 q hq)))
end
end QT
set_option Elab.async false
set_option linter.all false
set_option maxRecDepth 100000
set_option maxHeartbeats 4000000
namespace QT
open PySem PySem.Spec PyProof.Rows L2
/-! set comprehensions, one clause or two, over any kind of set that can be added to -/
/-- a kind of set: what a new one is, what adding asks -/
structure Acc (P : Program) (w : World) (K : PySem.W.Frag) where
  o : Addr → HO
  new : ∀ (H : Hp) (h : Heap) (D : Addr), h.get? D = some { cls := .type "set", dict := none, data := .set #[] 0 (.fresh 0 0 (!w.params.followText "set-order")) } → ObjOk P w H h D (o D)
  rd : Addr → V → Hp → (Hp → Prop) → Prop
  add : ∀ (X : Cx), X.prog = P → X.w = w → X.K = K → X.A.units + 64 < cLine → ∀ (pins : List (Addr × Obj)) (s : Shared) (σ : L2.St) (H : Hp) (E : Value → Shared → Prop) (D : Addr) (y : V) (v : Value) (N : Hp → Prop), Inv X pins σ H s → RelV y v → rd D y H N →
    wpAny (model P w) X.A (call (.builtin "set.add") [.ref D, v]) (fun _ s' => ∃ H', Inv X pins σ H' s' ∧ N H') E s
section
variable {prog : Program} {w : World} {A : Around} {R : Result → Shared → Prop} {s : Shared} {elt t0 i0 t1 i1 : Expr} {ifs0 ifs1 : List Expr} {scope : Scope} {pos : Pos} {it acc : Value} {env : Env}
theorem sturn_out (elt t0 i0 t1 i1 : Expr) (ifs0 ifs1 : List Expr) (scope : Scope) (pos : Pos) (it acc : Value) (env : Env) :
    compTurn (.SetComp elt [⟨t0, i0, ifs0, 0⟩, ⟨t1, i1, ifs1, 0⟩] scope pos) 0 it acc env = (do
      standAt i0.pos
      match ← pyNext it with
      | none => pure (.done .next)
      | some v =>
        letOwnedTupleGo t0 it v
        assign t0 env v
        let mut ok := true
        for c in ifs0 do
          if ok then ok ← isTrue c env (eval c env)
        if ok then
          let x ← eval i1 env
          standAt i1.pos
          let x ← foldedSetIterable i1 env x
          let _ ← runOwn (.compStart (.SetComp elt [⟨t0, i0, ifs0, 0⟩, ⟨t1, i1, ifs1, 0⟩] scope pos) 1 (← holding [x] (pyIter x)) acc env) env
        again (.compLoop (.SetComp elt [⟨t0, i0, ifs0, 0⟩, ⟨t1, i1, ifs1, 0⟩] scope pos) 0 it acc env)) := by rfl
theorem sturn_in (elt t0 i0 t1 i1 : Expr) (ifs0 ifs1 : List Expr) (scope : Scope) (pos : Pos) (it acc : Value) (env : Env) :
    compTurn (.SetComp elt [⟨t0, i0, ifs0, 0⟩, ⟨t1, i1, ifs1, 0⟩] scope pos) 1 it acc env = (do
      standAt i1.pos
      match ← pyNext it with
      | none => pure (.done .next)
      | some v =>
        letOwnedTupleGo t1 it v
        assign t1 env v
        let mut ok := true
        for c in ifs1 do
          if ok then ok ← isTrue c env (eval c env)
        if ok then
          (do let v ← eval elt env; standAt elt.pos; let _ ← call (.builtin "set.add") [acc, v])
        again (.compLoop (.SetComp elt [⟨t0, i0, ifs0, 0⟩, ⟨t1, i1, ifs1, 0⟩] scope pos) 1 it acc env)) := by rfl
/-- the first clause's loop -/
theorem sloop_out (hs : ∀ x, foldedSetIterable i1 env x = pure x) (J : Nat → Shared → Prop)
    (turn : ∀ n s, J n s → wpAny (model prog w) A (pyNext it) (fun r s1 => match r with
      | none => R (.ok .next) s1
      | some v => wpAny (model prog w) A (letOwnedTupleGo t0 it v) (fun _ s1' => wpAny (model prog w) A (assign t0 env v) (fun _ s2 =>
          wpAny (model prog w) A (forIn ifs0 true fun c r => if r = true then do let ok ← isTrue c env (eval c env); pure (ForInStep.yield ok) else pure (ForInStep.yield r)) (fun ok s3 =>
            if ok = true then wpAny (model prog w) A (eval i1 env) (fun x s4 => wpAny (model prog w) A (pyIter x) (fun it1 s5 =>
              codeAny (model prog w) A (.compStart (.SetComp elt [⟨t0, i0, ifs0, 0⟩, ⟨t1, i1, ifs1, 0⟩] scope pos) 1 it1 acc env) (fun r s' => match r with
                | .ok _ => ∃ m, m < n ∧ J m s'
                | .error _ => False) s5) (notedBy (model prog w) A env fun e s' => R (.error e) s') s4) (notedBy (model prog w) A env fun e s' => R (.error e) s') s3
            else ∃ m, m < n ∧ J m s3) (notedBy (model prog w) A env fun e s' => R (.error e) s') s2) (notedBy (model prog w) A env fun e s' => R (.error e) s') s1') (notedBy (model prog w) A env fun e s' => R (.error e) s') s1) (notedBy (model prog w) A env fun e s' => R (.error e) s') s)
    (n : Nat) (h : J n s) :
    codeAny (model prog w) A (.compLoop (.SetComp elt [⟨t0, i0, ifs0, 0⟩, ⟨t1, i1, ifs1, 0⟩] scope pos) 0 it acc env) R s := by
  refine codeAny_loop rfl J (fun n s hI => ?_) n h
  show wpAny _ A ((compTurn (.SetComp elt [⟨t0, i0, ifs0, 0⟩, ⟨t1, i1, ifs1, 0⟩] scope pos) 0 it acc env).onRaise (fun x => do noteFrame x env; theTreesLotGoes x)) _ _ s
  refine wpAny_noted ?_
  rw [sturn_out]
  refine wpAny_bind (wpAny_standAt (wpAny_bind (wpAny_mono (turn n s hI) (fun r s1 h1 => ?_) fun _ _ z => z)))
  cases r with
  | none => exact wpAny_pure h1
  | some v =>
    refine wpAny_bind (wpAny_mono h1 (fun _ s1' h1' => ?_) fun _ _ z => z)
    refine wpAny_bind (wpAny_mono h1' (fun _ s2 h2 => wpAny_bind (wpAny_mono h2 (fun ok s3 h3 => ?_) fun _ _ z => z)) fun _ _ z => z)
    cases ok with
    | false => exact wpAny_pure ⟨rfl, h3⟩
    | true =>
      refine wpAny_bind (wpAny_mono h3 (fun x s4 h4 => ?_) fun _ _ z => z)
      refine wpAny_bind (wpAny_standAt (wpAny_bind (wpAny_of_eq (hs x) (wpAny_bind (wpAny_holding (wpAny_mono h4 (fun it1 s5 h5 => ?_) fun _ _ z => z))))))
      refine wpAny_bind (wpAny_runOwn ?_)
      rw [Around.mark_none]
      refine codeAny_mono h5 fun r s' hr => ?_
      cases r with
      | ok f =>
        first
          | exact wpAny_pure ⟨rfl, hr⟩
          | exact wpAny_bind (wpAny_pure (wpAny_pure ⟨rfl, hr⟩))
      | error e => exact hr.elim
/-- the second's -/
theorem sloop_in (J : Nat → Shared → Prop)
    (turn : ∀ n s, J n s → wpAny (model prog w) A (pyNext it) (fun r s1 => match r with
      | none => R (.ok .next) s1
      | some v => wpAny (model prog w) A (letOwnedTupleGo t1 it v) (fun _ s1' => wpAny (model prog w) A (assign t1 env v) (fun _ s2 =>
          wpAny (model prog w) A (forIn ifs1 true fun c r => if r = true then do let ok ← isTrue c env (eval c env); pure (ForInStep.yield ok) else pure (ForInStep.yield r)) (fun ok s3 =>
            if ok = true then wpAny (model prog w) A (eval elt env) (fun x s4 =>
              wpAny (model prog w) A (call (.builtin "set.add") [acc, x]) (fun _ s5 => ∃ m, m < n ∧ J m s5) (notedBy (model prog w) A env fun e s' => R (.error e) s') s4) (notedBy (model prog w) A env fun e s' => R (.error e) s') s3
            else ∃ m, m < n ∧ J m s3) (notedBy (model prog w) A env fun e s' => R (.error e) s') s2) (notedBy (model prog w) A env fun e s' => R (.error e) s') s1') (notedBy (model prog w) A env fun e s' => R (.error e) s') s1) (notedBy (model prog w) A env fun e s' => R (.error e) s') s)
    (n : Nat) (h : J n s) :
    codeAny (model prog w) A (.compLoop (.SetComp elt [⟨t0, i0, ifs0, 0⟩, ⟨t1, i1, ifs1, 0⟩] scope pos) 1 it acc env) R s := by
  refine codeAny_loop rfl J (fun n s hI => ?_) n h
  show wpAny _ A ((compTurn (.SetComp elt [⟨t0, i0, ifs0, 0⟩, ⟨t1, i1, ifs1, 0⟩] scope pos) 1 it acc env).onRaise (fun x => do noteFrame x env; theTreesLotGoes x)) _ _ s
  refine wpAny_noted ?_
  rw [sturn_in]
  refine wpAny_bind (wpAny_standAt (wpAny_bind (wpAny_mono (turn n s hI) (fun r s1 h1 => ?_) fun _ _ z => z)))
  cases r with
  | none => exact wpAny_pure h1
  | some v =>
    refine wpAny_bind (wpAny_mono h1 (fun _ s1' h1' => ?_) fun _ _ z => z)
    refine wpAny_bind (wpAny_mono h1' (fun _ s2 h2 => wpAny_bind (wpAny_mono h2 (fun ok s3 h3 => ?_) fun _ _ z => z)) fun _ _ z => z)
    cases ok with
    | false => exact wpAny_pure ⟨rfl, h3⟩
    | true =>
      exact wpAny_bind (wpAny_bind (wpAny_mono h3 (fun x s4 h4 => wpAny_bind (wpAny_standAt (wpAny_bind (wpAny_mono h4 (fun _ s5 h5 => wpAny_pure (wpAny_pure ⟨rfl, h5⟩)) fun _ _ z => z)))) fun _ _ z => z))
theorem sstart_in (h0 : codeAny (model prog w) A (.compLoop (.SetComp elt [⟨t0, i0, ifs0, 0⟩, ⟨t1, i1, ifs1, 0⟩] scope pos) 1 it acc env) R s)
    (h : wpAny (model prog w) A (pyIter it) (fun it' s' => codeAny (model prog w) A (.compLoop (.SetComp elt [⟨t0, i0, ifs0, 0⟩, ⟨t1, i1, ifs1, 0⟩] scope pos) 1 it' acc env) R s')
      (notedBy (model prog w) A env fun x s' => R (.error x) s') s) :
    codeAny (model prog w) A (.compStart (.SetComp elt [⟨t0, i0, ifs0, 0⟩, ⟨t1, i1, ifs1, 0⟩] scope pos) 1 it acc env) R s := by
  refine codeAny_of_tree ?_
  show wpAny _ _ ((compStart (.SetComp elt [⟨t0, i0, ifs0, 0⟩, ⟨t1, i1, ifs1, 0⟩] scope pos) 1 it acc env).onRaise (fun x => do noteFrame x env; standAt theWindowsPlace)) _ _ s
  refine wpAny_notedAt ?_
  unfold compStart
  show wpAny _ _ (ask >>= _) _ _ s
  refine wpAny_bind (wpAny_askSetting (wpAny_ite ?_))
  split
  · first
      | exact wpAny_bind (wpAny_pure (wpAny_pure (And.intro rfl h0)))
      | exact wpAny_pure (And.intro rfl h0)
  · first
      | exact wpAny_bind (wpAny_rule (wpAny_bind (wpAny_standAt (wpAny_bind (wpAny_mono h (fun it' s' z => wpAny_pure (And.intro rfl z)) fun _ _ x => x)))))
      | (refine wpAny_bind (wpAny_rule ?_); show wpAny _ _ (standAt i1.pos >>= _) _ _ s; exact wpAny_bind (wpAny_standAt (wpAny_bind (wpAny_mono h (fun it' s' z => wpAny_pure (And.intro rfl z)) fun _ _ x => x))))
end
section
variable {X : Cx} {pins : List (Addr × Obj)} {s : Shared} {σ : L2.St} {H : Hp} {Q : VK} {elt tg iter tg1 iter1 : Expr} {ifs ifs1 : List Expr} {scope : Scope} {own : List (Str × Nat)} {vs1 : List Nat} {pos pos' : Pos} {wi wi1 : TI} {g g1 : TG} {tt tt1 : TT} {te : TE}
/-- what is known as the block begins -/
structure Blk (X : Cx) (pins : List (Addr × Obj)) (σ : L2.St) (tg : Expr) (scope : Scope) (own : List (Str × Nat)) (J : It) (D it : Addr) (fp : List Addr) (tn : Nat → Heap → Prop) (H3 : Hp) (s3 s4 : Shared) (ce : Env) : Prop where
  i3 : Inv X pins σ H3 s3
  f3 : ∀ b ∈ fp, FpOk X pins H3 b ∧ b < s3.heap.objs.size
  t : Turn X.prog X.w X.K tg J fp it tn
  st4 : tn 0 s4.heap
  ec : ∃ cl, ce = compEnvC scope cl s3.heap.objs.size X.env
  i4 : Inv (X.blk s3 H3 scope ce fp) [] (wipe σ (own.map (·.2))) H3 s4
theorem Blk.stat {J : It} {D it : Addr} {fp : List Addr} {tn : Nat → Heap → Prop} {H3 : Hp} {s3 s4 : Shared} {ce : Env} (B : Blk X pins σ tg scope own J D it fp tn H3 s3 s4 ce) {σ' : L2.St} {H' : Hp} {s' : Shared} (I' : Inv (X.blk s3 H3 scope ce fp) [] σ' H' s') (hn : ∀ b ∈ fp, H' b = none) :
    ∀ b ∈ fp, FpOk (X.blk s3 H3 scope ce fp) [] H' b := fun b hb =>
  ⟨hn b hb, (I'.ok.exf b hb).1, I'.ok.exfs b hb, .inl hb, fun x c e => (I'.ok.exf b hb).2 x c e, fun p hp => absurd (show p ∈ ([] : List (Addr × Obj)) ++ [] from hp) (by simp)⟩
/-- back in the def's own frame -/
theorem Blk.back {J : It} {D it : Addr} {fp : List Addr} {tn : Nat → Heap → Prop} {H3 : Hp} {s3 s4 : Shared} {ce : Env} {Qf : Value → Shared → Prop} (B : Blk X pins σ tg scope own J D it fp tn H3 s3 s4 ce) {σ' : L2.St} {H' : Hp} {s' : Shared} (I' : Inv (X.blk s3 H3 scope ce fp) [] σ' H' s')
    (hRR : ∀ C s' m H', Inv X pins σ H' s' → s'.heap.Ns C m → FpOk X pins H' C → Q (.ref D) H' → compPost (model X.prog X.w) X.A X.xe none Qf (.ref D) C (.ok .next) s') (qq : Q (.ref D) H') :
    compPost (model X.prog X.w) X.A X.xe none Qf (.ref D) s3.heap.objs.size (.ok .next) s' := by
  obtain ⟨cl, ec⟩ := B.ec
  have cL : ce.locals = s3.heap.objs.size := by rw [ec]; rfl
  have I7 : Inv X pins σ H' s' := B.i3.call' (ch := fp) I'.os I'.base I'.hok I'.bare fun b hb => ⟨(B.f3 b hb).1.2.2.2.1, (B.f3 b hb).1.2.1, (B.f3 b hb).1.2.2.2.2.1, (B.f3 b hb).1.2.2.2.2.2⟩
  have nC : H' s3.heap.objs.size = none := by
    have z : H' ce.locals = none := I'.free
    rw [cL] at z
    exact z
  obtain ⟨m, hn, _⟩ := I'.loc
  have hn : s'.heap.Ns ce.locals m := hn
  rw [cL] at hn
  exact hRR s3.heap.objs.size s' m H' I7 hn (B.i3.fpOk (Nat.le_refl _) nC) qq
/-- up to the block -/
theorem sc_front (a : Acc X.prog X.w X.K) {rest : List Comprehension} {body : It → Addr → Hp → Prop} {Qf : Value → Shared → Prop}
    (hc : X.calm = true) (hN : X.N.Nodup) (I : Inv X pins σ H s) (hi : PI X tg iter wi) (ok : BlkOk X.N X.env.scope scope own) (hs : ∀ x, foldedSetIterable iter X.env x = pure x)
    (h : wi σ H fun J H1 => ∀ D, H1 D = none → body J D (upd H1 D (a.o D)))
    (k : ∀ J D it fp tn H3 s3 s4 ce, Blk X pins σ tg scope own J D it fp tn H3 s3 s4 ce → (∀ b ∈ fp, H3 b = none) → body J D H3 →
      codeAny (model X.prog X.w) X.A (.compStart (.SetComp elt (⟨tg, iter, ifs, 0⟩ :: rest) scope pos) 0 (.ref it) (.ref D) ce) (compPost (model X.prog X.w) X.A X.xe none Qf (.ref D) s3.heap.objs.size) s4) :
    wpAny (model X.prog X.w) X.A (comprehension (.SetComp elt (⟨tg, iter, ifs, 0⟩ :: rest) scope pos) scope X.env pos' (newSet (.type "set")) false (eval iter X.env)) Qf X.xe s := by
  have hfree : ∀ y ∈ scope.names, y.2 = .free → ∃ c, X.env.cells.lookup y.1 = some c := fun y hy e => by
    rcases ok.free y hy e with k | k
    · exact I.ok.has _ (.inl k)
    · exact I.ok.has _ (.inr k)
  refine wpAny_comprehension_free (use := none) rfl hs (closure_ok hfree) ok.kind (fun y hy e => by rw [ok.uniq y hy, e])
    (thn (hi.run pins s σ H _ I h) fun xv s1 hx => thn hx fun itv s2 h2 => ?_)
  obtain ⟨it, fp, tn, J, H2, e, I2, T, st2, f2, q⟩ := h2
  subst e
  refine PpSet.newSet_ok (newEnv_comp ?_)
  generalize hD : s2.heap.objs.size = D
  have hDn : H2 D = none := I2.hok.fresh (Nat.le_of_eq hD)
  have qb := q D hDn
  generalize hs3 : ({ s2 with heap := s2.heap.push { cls := .type "set", dict := none, data := .set #[] 0 (.fresh 0 0 (!X.w.params.followText "set-order")) } } : Shared) = s3
  have h3 : s3.heap = s2.heap.push { cls := .type "set", dict := none, data := .set #[] 0 (.fresh 0 0 (!X.w.params.followText "set-order")) } := by rw [← hs3]
  have I3 : Inv X pins σ (upd H2 D (a.o D)) s3 := by
    rw [← hs3]
    refine I2.laid (t' := s2.toks) (fun b o e => Heap.get?_push_of_some _ e) (Nat.le_of_eq hD) ?_
    refine a.new _ _ _ ?_
    rw [← hD]
    exact Heap.get?_push_size _ rfl
  have sz : ∀ b ∈ fp, b < s2.heap.objs.size := fun b hb => by
    obtain ⟨o, e, _⟩ := T.obj _ _ st2 b hb
    exact Heap.lt_size e
  have f3 : ∀ b ∈ fp, FpOk X pins (upd H2 D (a.o D)) b ∧ b < s3.heap.objs.size := fun b hb => by
    have hlt := sz b hb
    refine ⟨⟨?_, (f2 b hb).2⟩, by rw [h3, Heap.size_push]; exact Nat.lt_succ_of_lt hlt⟩
    rw [upd_ne (by rw [← hD]; exact Nat.ne_of_lt hlt)]
    exact (f2 b hb).1
  have st3 : tn 0 s3.heap := T.keep _ _ _ st2 fun b _ o e => by rw [h3]; exact Heap.get?_push_of_some _ e
  have I4 := block_start I3 ok hN f3
  have st4 : tn 0 (pushCells (s3.heap.push { cls := .type "dict", data := .dict #[] }) scope.names) := T.keep _ _ _ st3 fun b _ o e => pushCells_keeps _ _ _ _ (Heap.get?_push_of_some _ e)
  exact k J D it fp tn _ s3 _ _ ⟨I3, f3, T, st4, ⟨_, rfl⟩, I4⟩ (fun b hb => (f3 b hb).1.1) qb
def bodyA (a : Acc X.prog X.w X.K) (g : TG) (tt : TT) (te : TE) (vs : List Nat) (σ : L2.St) (Q : VK) (J : It) (D : Addr) (H0 : Hp) : Prop := ∃ W : Nat → Nat → Hp → Prop, (∃ m, W 0 m H0) ∧ ∀ i m H, W i m H →
  (J.stop i H ∧ Q (.ref D) H) ∨ (J.go i H ∧ ∃ Nx : Hp → Prop, (∀ H', Nx H' → ∃ m', m' < m ∧ W (i + 1) m' H') ∧ ∀ x H', J.yld i H x H' → g x (wipe σ vs) H' fun σ2 H2 => wipe σ2 vs = wipe σ vs ∧ tt σ2 H2 fun b H3 =>
    if b = true then te σ2 H3 fun y H4 => a.rd D y H4 Nx else Nx H3)
/-- {elt for tg in iter if ..} -/
def tScA (a : Acc X.prog X.w X.K) (wi : TI) (g : TG) (tt : TT) (te : TE) (vs : List Nat) : TE := fun σ H Q => wi σ H fun J H1 => ∀ D, H1 D = none → bodyA a g tt te vs σ Q J D (upd H1 D (a.o D))
theorem pe_scA (a : Acc X.prog X.w X.K) (hu : X.A.units + 64 < cLine) (hc : X.calm = true) (hN : X.N.Nodup) (hi : PI X tg iter wi) (ok : BlkOk X.N X.env.scope scope own)
    (hg : ∀ (s : Shared) (H : Hp) (C : Addr) (cl : List (Str × Addr)) (fp : List Addr), PG (X.blk s H scope (compEnvC scope cl C X.env) fp) tg g) (ht : ∀ (s : Shared) (H : Hp) (C : Addr) (cl : List (Str × Addr)) (fp : List Addr), PTs (X.blk s H scope (compEnvC scope cl C X.env) fp) ifs tt)
    (he : ∀ (s : Shared) (H : Hp) (C : Addr) (cl : List (Str × Addr)) (fp : List Addr), PE (X.blk s H scope (compEnvC scope cl C X.env) fp) elt te) (hs : ∀ x, foldedSetIterable iter X.env x = pure x := by intro _; rfl) :
    PE X (.SetComp elt [⟨tg, iter, ifs, 0⟩] scope pos) (tScA a wi g tt te (own.map (·.2))) := by
  refine ⟨fun pins s σ H Q I h => ?_⟩
  rw [PpSet.eval_SetComp]
  refine sc_front (body := bodyA a g tt te (List.map (fun p : Str × Nat => p.2) own) σ Q) a hc hN I hi ok hs h ?_
  rintro J D it fp tn H3 s3 s4 ce B nfp ⟨W, ⟨m0, w0⟩, turn⟩
  obtain ⟨cl, ec⟩ := B.ec
  have pg := hg s3 H3 s3.heap.objs.size cl fp
  have pt := ht s3 H3 s3.heap.objs.size cl fp
  have pe := he s3 H3 s3.heap.objs.size cl fp
  rw [← ec] at pg pt pe
  have loop : codeAny (model X.prog X.w) X.A (.compLoop (.SetComp elt [⟨tg, iter, ifs, 0⟩] scope pos) 0 (.ref it) (.ref D) ce) (compPost (model X.prog X.w) X.A X.xe none (EP X pins σ Q) (.ref D) s3.heap.objs.size) s4 := by
    refine PpSet.compLoopS_any (fun n s' => ∃ i H', Inv (X.blk s3 H3 scope ce fp) [] (wipe σ (own.map (·.2))) H' s' ∧ tn i s'.heap ∧ (∀ b ∈ fp, H' b = none) ∧ W i n H') ?_ m0 ⟨0, H3, B.i4, B.st4, nfp, w0⟩
    rintro n s5 ⟨i, H5, I5, st5, n5, w5⟩
    rcases turn i n H5 w5 with ⟨stop, qq⟩ | ⟨go, Nx, hNx, step⟩
    · refine thnF (B.t.done (X.blk s3 H3 scope ce fp) rfl rfl rfl hc i [] s5 _ H5 (fun _ _ => False) I5 (B.stat I5 n5) st5 stop) fun r s6 ⟨hr, I6⟩ => ?_
      subst hr
      refine B.back I6 (fun C s' m H' I' hn f q => ⟨m, hn, fun h'' sb => ?_⟩) qq
      obtain ⟨f0, f1, f2, f3, f4, f5⟩ := f
      exact ⟨.ref D, H', I'.turned (t' := s'.toks) (fun b o hb e => (sb.2 b hb).trans e) f0 f1 f3 f4 f5, rfl, q⟩
    · refine thnF (B.t.item (X.blk s3 H3 scope ce fp) rfl rfl rfl hc i [] s5 _ H5 (fun _ _ => False) I5 (B.stat I5 n5) st5 go) fun r s6 ⟨u, hr, h6⟩ => ?_
      subst hr
      refine thnF h6 fun _ s7 ⟨x, H7, I7, r7, y7, st7, n7⟩ => ?_
      have I7' := I7.pinned (B.stat I7 n7) (B.t.obj _ _ st7)
      refine thnF (pg.run _ s7 _ H7 x u _ I7' r7 (step x H7 y7)) fun _ s8 ⟨σ8, H8, I8, hw8, q8⟩ => ?_
      refine thnF (pt.run _ s8 σ8 H8 _ I8 q8) fun b s9 ⟨H9, I9, q9⟩ => ?_
      have fin : ∀ {s' : Shared} {H' : Hp}, Inv (X.blk s3 H3 scope ce fp) ([] ++ pinsAt fp s7.heap) σ8 H' s' → Nx H' → ∃ m, m < n ∧ ∃ i H', Inv (X.blk s3 H3 scope ce fp) [] (wipe σ (own.map (·.2))) H' s' ∧ tn i s'.heap ∧ (∀ b ∈ fp, H' b = none) ∧ W i m H' := fun {s' H'} I' nx => by
        obtain ⟨m', hm, w'⟩ := hNx H' nx
        have pin' : ∀ b ∈ fp, ∀ o, s7.heap.get? b = some o → s'.heap.get? b = some o ∧ H' b = none := fun b hb o e =>
          let z := I'.pin (b, o) (List.mem_append_right _ (List.mem_append_right _ (mem_pinsAt hb e)))
          ⟨z.1, z.2.1⟩
        have hl : (wipe σ (own.map (·.2))).length = σ8.length := by rw [← hw8, wipe_length]
        refine ⟨m', hm, i + 1, H', (I'.unpinned (pins := [])).weak hl (fun j v e => ?_), B.t.keep _ _ _ st7 fun b hb o e => (pin' b hb o e).1, fun b hb => ?_, w'⟩
        · rw [← hw8] at e
          exact (wipe_some e).1
        · obtain ⟨o, e, _⟩ := B.t.obj _ _ st7 b hb
          exact (pin' b hb o e).2
      cases b with
      | false =>
        simp only [Bool.false_eq_true, if_false] at q9 ⊢
        exact fin I9 q9
      | true =>
        simp only [if_true] at q9 ⊢
        refine thnF (pe.run _ s9 σ8 H9 _ I9 q9) fun z s10 ⟨yv, H10, I10, r10, q10⟩ => ?_
        exact wpAny_mono (a.add (X.blk s3 H3 scope ce fp) rfl rfl rfl hu _ s10 σ8 H10 (fun _ _ => False) D yv z Nx I10 r10 q10) (fun _ s11 ⟨H11, I11, n11⟩ => fin I11 n11) fun _ _ z => z.elim
  exact PpSet.codeAny_compStart_set loop (B.t.self X.A 0 _ _ _ B.st4 loop)
def bodyB (a : Acc X.prog X.w X.K) (g : TG) (tt : TT) (wi1 : TI) (g1 : TG) (tt1 : TT) (te : TE) (vs vs1 : List Nat) (σ : L2.St) (Q : VK) (J : It) (D : Addr) (H0 : Hp) : Prop := ∃ W : Nat → Nat → Hp → Prop, (∃ m, W 0 m H0) ∧ ∀ i m H, W i m H →
  (J.stop i H ∧ Q (.ref D) H) ∨ (J.go i H ∧ ∃ Nx : Hp → Prop, (∀ H', Nx H' → ∃ m', m' < m ∧ W (i + 1) m' H') ∧ ∀ x H', J.yld i H x H' → g x (wipe σ vs) H' fun σ2 H2 => wipe σ2 vs = wipe σ vs ∧ tt σ2 H2 fun b H3 =>
    if b = true then wi1 σ2 H3 fun J1 H4 => ∃ W1 : Nat → Nat → Hp → Prop, (∃ m, W1 0 m H4) ∧ ∀ j k H, W1 j k H →
      (J1.stop j H ∧ Nx H) ∨ (J1.go j H ∧ ∃ Nx1 : Hp → Prop, (∀ H', Nx1 H' → ∃ k', k' < k ∧ W1 (j + 1) k' H') ∧ ∀ x H', J1.yld j H x H' → g1 x (wipe σ2 vs1) H' fun σ3 H5 => wipe σ3 vs1 = wipe σ2 vs1 ∧ tt1 σ3 H5 fun b H6 =>
        if b = true then te σ3 H6 fun y H7 => a.rd D y H7 Nx1 else Nx1 H6)
    else Nx H3)
/-- {elt for tg in iter if .. for tg1 in iter1 if ..} -/
def tScB (a : Acc X.prog X.w X.K) (wi : TI) (g : TG) (tt : TT) (wi1 : TI) (g1 : TG) (tt1 : TT) (te : TE) (vs vs1 : List Nat) : TE := fun σ H Q => wi σ H fun J H1 => ∀ D, H1 D = none → bodyB a g tt wi1 g1 tt1 te vs vs1 σ Q J D (upd H1 D (a.o D))
theorem pe_scB (a : Acc X.prog X.w X.K) (hu : X.A.units + 64 < cLine) (hc : X.calm = true) (hN : X.N.Nodup) (hi : PI X tg iter wi) (ok : BlkOk X.N X.env.scope scope own) (hv : ∀ i ∈ vs1, i ∈ own.map (·.2))
    (hg : ∀ (s : Shared) (H : Hp) (C : Addr) (cl : List (Str × Addr)) (fp : List Addr), PG (X.blk s H scope (compEnvC scope cl C X.env) fp) tg g) (ht : ∀ (s : Shared) (H : Hp) (C : Addr) (cl : List (Str × Addr)) (fp : List Addr), PTs (X.blk s H scope (compEnvC scope cl C X.env) fp) ifs tt)
    (hi1 : ∀ (s : Shared) (H : Hp) (C : Addr) (cl : List (Str × Addr)) (fp : List Addr), PI (X.blk s H scope (compEnvC scope cl C X.env) fp) tg1 iter1 wi1)
    (hg1 : ∀ (s : Shared) (H : Hp) (C : Addr) (cl : List (Str × Addr)) (fp : List Addr), PG (X.blk s H scope (compEnvC scope cl C X.env) fp) tg1 g1) (ht1 : ∀ (s : Shared) (H : Hp) (C : Addr) (cl : List (Str × Addr)) (fp : List Addr), PTs (X.blk s H scope (compEnvC scope cl C X.env) fp) ifs1 tt1)
    (he : ∀ (s : Shared) (H : Hp) (C : Addr) (cl : List (Str × Addr)) (fp : List Addr), PE (X.blk s H scope (compEnvC scope cl C X.env) fp) elt te) (hs : ∀ x, foldedSetIterable iter X.env x = pure x := by intro _; rfl) (hs1 : ∀ env x, foldedSetIterable iter1 env x = pure x := by intro _ _; rfl) :
    PE X (.SetComp elt [⟨tg, iter, ifs, 0⟩, ⟨tg1, iter1, ifs1, 0⟩] scope pos) (tScB a wi g tt wi1 g1 tt1 te (own.map (·.2)) vs1) := by
  refine ⟨fun pins s σ H Q I h => ?_⟩
  rw [PpSet.eval_SetComp]
  refine sc_front (body := bodyB a g tt wi1 g1 tt1 te (List.map (fun p : Str × Nat => p.2) own) vs1 σ Q) a hc hN I hi ok hs h ?_
  rintro J D it fp tn H3 s3 s4 ce B nfp ⟨W, ⟨m0, w0⟩, turn⟩
  obtain ⟨cl, ec⟩ := B.ec
  have pg := hg s3 H3 s3.heap.objs.size cl fp
  have pt := ht s3 H3 s3.heap.objs.size cl fp
  have pe := he s3 H3 s3.heap.objs.size cl fp
  have pi1 := hi1 s3 H3 s3.heap.objs.size cl fp
  have pg1 := hg1 s3 H3 s3.heap.objs.size cl fp
  have pt1 := ht1 s3 H3 s3.heap.objs.size cl fp
  rw [← ec] at pg pt pe pi1 pg1 pt1
  have loop : codeAny (model X.prog X.w) X.A (.compLoop (.SetComp elt [⟨tg, iter, ifs, 0⟩, ⟨tg1, iter1, ifs1, 0⟩] scope pos) 0 (.ref it) (.ref D) ce) (compPost (model X.prog X.w) X.A X.xe none (EP X pins σ Q) (.ref D) s3.heap.objs.size) s4 := by
    refine sloop_out (hs1 ce) (fun n s' => ∃ i H', Inv (X.blk s3 H3 scope ce fp) [] (wipe σ (own.map (·.2))) H' s' ∧ tn i s'.heap ∧ (∀ b ∈ fp, H' b = none) ∧ W i n H') ?_ m0 ⟨0, H3, B.i4, B.st4, nfp, w0⟩
    rintro n s5 ⟨i, H5, I5, st5, n5, w5⟩
    rcases turn i n H5 w5 with ⟨stop, qq⟩ | ⟨go, Nx, hNx, step⟩
    · refine thnF (B.t.done (X.blk s3 H3 scope ce fp) rfl rfl rfl hc i [] s5 _ H5 (fun _ _ => False) I5 (B.stat I5 n5) st5 stop) fun r s6 ⟨hr, I6⟩ => ?_
      subst hr
      refine B.back I6 (fun C s' m H' I' hn f q => ⟨m, hn, fun h'' sb => ?_⟩) qq
      obtain ⟨f0, f1, f2, f3, f4, f5⟩ := f
      exact ⟨.ref D, H', I'.turned (t' := s'.toks) (fun b o hb e => (sb.2 b hb).trans e) f0 f1 f3 f4 f5, rfl, q⟩
    · refine thnF (B.t.item (X.blk s3 H3 scope ce fp) rfl rfl rfl hc i [] s5 _ H5 (fun _ _ => False) I5 (B.stat I5 n5) st5 go) fun r s6 ⟨u, hr, h6⟩ => ?_
      subst hr
      refine thnF h6 fun _ s7 ⟨x, H7, I7, r7, y7, st7, n7⟩ => ?_
      have I7' := I7.pinned (B.stat I7 n7) (B.t.obj _ _ st7)
      refine thnF (pg.run _ s7 _ H7 x u _ I7' r7 (step x H7 y7)) fun _ s8 ⟨σ8, H8, I8, hw8, q8⟩ => ?_
      refine thnF (pt.run _ s8 σ8 H8 _ I8 q8) fun b s9 ⟨H9, I9, q9⟩ => ?_
      have fin : ∀ {σ9 : L2.St} {s' : Shared} {H' : Hp}, Inv (X.blk s3 H3 scope ce fp) ([] ++ pinsAt fp s7.heap) σ9 H' s' → (wipe σ (own.map (·.2))).length = σ9.length → (∀ (j : Nat) v, (wipe σ (own.map (·.2)))[j]? = some (some v) → σ9[j]? = some (some v)) → Nx H' →
          ∃ m, m < n ∧ ∃ i H', Inv (X.blk s3 H3 scope ce fp) [] (wipe σ (own.map (·.2))) H' s' ∧ tn i s'.heap ∧ (∀ b ∈ fp, H' b = none) ∧ W i m H' := fun {σ9 s' H'} I' hl hk nx => by
        obtain ⟨m', hm, w'⟩ := hNx H' nx
        have pin' : ∀ b ∈ fp, ∀ o, s7.heap.get? b = some o → s'.heap.get? b = some o ∧ H' b = none := fun b hb o e =>
          let z := I'.pin (b, o) (List.mem_append_right _ (List.mem_append_right _ (mem_pinsAt hb e)))
          ⟨z.1, z.2.1⟩
        refine ⟨m', hm, i + 1, H', (I'.unpinned (pins := [])).weak hl hk, B.t.keep _ _ _ st7 fun b hb o e => (pin' b hb o e).1, fun b hb => ?_, w'⟩
        obtain ⟨o, e, _⟩ := B.t.obj _ _ st7 b hb
        exact (pin' b hb o e).2
      have hl8 : (wipe σ (own.map (·.2))).length = σ8.length := by rw [← hw8, wipe_length]
      have hk8 : ∀ (j : Nat) v, (wipe σ (own.map (·.2)))[j]? = some (some v) → σ8[j]? = some (some v) := fun j v e => by
        rw [← hw8] at e
        exact (wipe_some e).1
      have hk9 : ∀ (j : Nat) v, (wipe σ (own.map (·.2)))[j]? = some (some v) → (wipe σ8 vs1)[j]? = some (some v) := fun j v e => by
        rw [← hw8] at e
        obtain ⟨e1, e2⟩ := wipe_some e
        rw [wipe_out fun z => e2 (hv j z)]
        exact e1
      cases b with
      | false =>
        simp only [Bool.false_eq_true, if_false] at q9 ⊢
        exact fin I9 hl8 hk8 q9
      | true =>
        simp only [if_true] at q9 ⊢
        refine thnF (pi1.run _ s9 σ8 H9 _ I9 q9) fun xv s10 hx => thnF hx fun itv s11 h11 => ?_
        obtain ⟨it1, fp1, tn1, J1, H11, e1, I11, T1, st11, f11, W1, ⟨m1, w1⟩, turn1⟩ := h11
        subst e1
        have stat1 : ∀ {H' : Hp}, (∀ b ∈ fp1, H' b = none) → ∀ b ∈ fp1, FpOk (X.blk s3 H3 scope ce fp) ([] ++ pinsAt fp s7.heap) H' b := fun hn b hb => ⟨hn b hb, (f11 b hb).2⟩
        have loop1 : codeAny (model X.prog X.w) X.A (.compLoop (.SetComp elt [⟨tg, iter, ifs, 0⟩, ⟨tg1, iter1, ifs1, 0⟩] scope pos) 1 (.ref it1) (.ref D) ce)
            (fun r s' => match r with
              | .ok _ => ∃ m, m < n ∧ ∃ i H', Inv (X.blk s3 H3 scope ce fp) [] (wipe σ (own.map (·.2))) H' s' ∧ tn i s'.heap ∧ (∀ b ∈ fp, H' b = none) ∧ W i m H'
              | .error _ => False) s11 := by
          refine sloop_in (fun k s' => ∃ j H', Inv (X.blk s3 H3 scope ce fp) ([] ++ pinsAt fp s7.heap) (wipe σ8 vs1) H' s' ∧ tn1 j s'.heap ∧ (∀ b ∈ fp1, H' b = none) ∧ W1 j k H') ?_ m1 ⟨0, H11, I11.weak (wipe_length _ _) (fun j v e => (wipe_some e).1), st11, fun b hb => (f11 b hb).1, w1⟩
          rintro k s12 ⟨j, H12, I12, st12, n12, w12⟩
          rcases turn1 j k H12 w12 with ⟨stop1, nx1⟩ | ⟨go1, Nx1, hNx1, step1⟩
          · refine thnF (T1.done (X.blk s3 H3 scope ce fp) rfl rfl rfl hc j _ s12 (wipe σ8 vs1) H12 (fun _ _ => False) I12 (stat1 n12) st12 stop1) fun r s13 ⟨hr, I13⟩ => ?_
            subst hr
            exact fin I13 (hl8.trans (wipe_length σ8 vs1).symm) hk9 nx1
          · refine thnF (T1.item (X.blk s3 H3 scope ce fp) rfl rfl rfl hc j _ s12 (wipe σ8 vs1) H12 (fun _ _ => False) I12 (stat1 n12) st12 go1) fun r s13 ⟨u1, hr, h13⟩ => ?_
            subst hr
            refine thnF h13 fun _ s14 ⟨x1, H14, I14, r14, y14, st14, n14⟩ => ?_
            have I14' := I14.pinned (stat1 n14) (T1.obj _ _ st14)
            refine thnF (pg1.run _ s14 (wipe σ8 vs1) H14 x1 u1 _ I14' r14 (step1 x1 H14 y14)) fun _ s15 ⟨σ15, H15, I15, hw15, q15⟩ => ?_
            refine thnF (pt1.run _ s15 σ15 H15 _ I15 q15) fun b1 s16 ⟨H16, I16, q16⟩ => ?_
            have fin1 : ∀ {s' : Shared} {H' : Hp}, Inv (X.blk s3 H3 scope ce fp) (([] ++ pinsAt fp s7.heap) ++ pinsAt fp1 s14.heap) σ15 H' s' → Nx1 H' → ∃ m, m < k ∧ ∃ j H', Inv (X.blk s3 H3 scope ce fp) ([] ++ pinsAt fp s7.heap) (wipe σ8 vs1) H' s' ∧ tn1 j s'.heap ∧ (∀ b ∈ fp1, H' b = none) ∧ W1 j m H' := fun {s' H'} I' nx => by
              obtain ⟨m', hm, w'⟩ := hNx1 H' nx
              have pin' : ∀ b ∈ fp1, ∀ o, s14.heap.get? b = some o → s'.heap.get? b = some o ∧ H' b = none := fun b hb o e =>
                let z := I'.pin (b, o) (List.mem_append_right _ (List.mem_append_right _ (mem_pinsAt hb e)))
                ⟨z.1, z.2.1⟩
              refine ⟨m', hm, j + 1, H', I'.unpinned.weak (by rw [← hw15, wipe_length]) (fun j v e => by rw [← hw15] at e; exact (wipe_some e).1), T1.keep _ _ _ st14 fun b hb o e => (pin' b hb o e).1, fun b hb => ?_, w'⟩
              obtain ⟨o, e, _⟩ := T1.obj _ _ st14 b hb
              exact (pin' b hb o e).2
            cases b1 with
            | false =>
              simp only [Bool.false_eq_true, if_false] at q16 ⊢
              exact fin1 I16 q16
            | true =>
              simp only [if_true] at q16 ⊢
              refine thnF (pe.run _ s16 σ15 H16 _ I16 q16) fun z s17 ⟨yv, H17, I17, r17, q17⟩ => ?_
              exact wpAny_mono (a.add (X.blk s3 H3 scope ce fp) rfl rfl rfl hu _ s17 σ15 H17 (fun _ _ => False) D yv z Nx1 I17 r17 q17) (fun _ s18 ⟨H18, I18, n18⟩ => fin1 I18 n18) fun _ _ z => z.elim
        exact sstart_in loop1 (T1.self X.A 0 _ _ _ st11 loop1)
  exact PpSet.codeAny_compStart_set loop (B.t.self X.A 0 _ _ _ B.st4 loop)
end
end QT
set_option Elab.async false
set_option linter.all false
set_option maxRecDepth 100000
set_option maxHeartbeats 4000000
namespace QT
open PySem PySem.Spec PyProof.Rows L2
/-! set(xs) of a list, whatever its items are: by an invariant of the set that grows -/
section
variable {P : Program} {w : World} {A : Around} {E : Value → Shared → Prop} {s : Shared}
theorem grow_loop {I : Addr} {fp wr : List Addr} {G : Array GenState → Array GenState → Prop} {n : Nat} {Pv : Nat → Value → Prop} {St : Nat → Shared → Prop} {R : Result → Shared → Prop}
    (W : WalksS P w A.in1 I fp wr G n Pv St) (S : Addr) (hSf : S ∉ fp) (h0 : Heap) (hS0 : h0.get? S = none) (hw0 : ∀ b ∈ wr, h0.get? b = none) (Iv : Nat → Heap → Prop)
    (stab : ∀ i h h', Iv i h → (∀ o, h.get? S = some o → h'.get? S = some o) → (∀ b o, h0.get? b = some o → h'.get? b = some o) → Iv i h')
    (step : ∀ i v (s' : Shared) (E : Value → Shared → Prop) (Q : Bool → Shared → Prop), i < n → Pv i v → Iv i s'.heap → (∀ b o, h0.get? b = some o → s'.heap.get? b = some o) →
      (∀ b h' tk, s'.toks ≤ tk → Heap.SameBut S s'.heap h' → Iv (i + 1) h' → Q b { s' with heap := h', toks := tk }) → wpAny (model P w) A.in1 (setAdd S v) Q E s') :
    ∀ (k i : Nat) (s : Shared), n - i = k → i ≤ n → St i s → (∀ b o, h0.get? b = some o → s.heap.get? b = some o) → Iv i s.heap →
      (∀ s', Moved (S :: wr) G s s' → Iv n s'.heap → (∀ b o, h0.get? b = some o → s'.heap.get? b = some o) → R (.ok (.ret .none)) s') →
      codeAny (model P w) A (.builtin "set.update.loop" ⟨[.ref S, .ref I], []⟩) R s := by
  have hSw : S ∉ wr := fun h => hSf (W.sub _ h)
  have hsub : ∀ b ∈ wr, b ∈ S :: wr := fun b hb => List.mem_cons_of_mem _ hb
  have keepM : ∀ {s s' : Shared}, Moved wr G s s' → (∀ b o, h0.get? b = some o → s.heap.get? b = some o) → ∀ b o, h0.get? b = some o → s'.heap.get? b = some o := fun hm hkp b o e =>
    hm.heap b o (fun hb => by rw [hw0 b hb] at e; cases e) (hkp b o e)
  intro k
  induction k with
  | zero =>
    intro i s hk hi hst hkp hiv hR
    obtain rfl : i = n := by omega
    refine codeAny_builtin F.entry_set_update_loop ?_
    rw [Around.under_plainId F.plain_set_update_loop _]
    show wpAny _ A.in1 (pyNext (.ref I) >>= _) _ _ s
    refine wpAny_bind (W.done s _ _ hst fun s' hm => ?_)
    show wpAny _ A.in1 (ret Value.none) _ _ s'
    have hkp' := keepM hm hkp
    exact wpAny_pure (hR s' (hm.mono hsub) (stab _ _ _ hiv (fun o e => hm.heap S o hSw e) hkp') hkp')
  | succ k ih =>
    intro i s hk hi hst hkp hiv hR
    have hlt : i < n := by omega
    refine codeAny_builtin F.entry_set_update_loop ?_
    rw [Around.under_plainId F.plain_set_update_loop _]
    show wpAny _ A.in1 (pyNext (.ref I) >>= _) _ _ s
    refine wpAny_bind (W.item i s _ _ hlt hst fun v s' hP hst' hm => ?_)
    have hkp' := keepM hm hkp
    have hiv' : Iv i s'.heap := stab _ _ _ hiv (fun o e => hm.heap S o hSw e) hkp'
    show wpAny _ A.in1 (holding [v] (setAdd S v) >>= _) _ _ s'
    refine wpAny_bind (wpAny_holding (step i v s' _ _ hlt hP hiv' hkp' fun b h' tk htk hsb hiv2 => ?_))
    have hkp2 : ∀ b o, h0.get? b = some o → h'.get? b = some o := fun b o e => (hsb.2 b (fun z => by rw [z, hS0] at e; cases e)).trans (hkp' b o e)
    refine wpAny_pure ⟨plainId_quiet F.plain_set_update_loop _, ih (i + 1) _ (by omega) hlt (W.frame _ s' _ _ hst' htk fun b hb o e => ?_) hkp2 hiv2 fun s'' hm'' hiv'' hkp'' => ?_⟩
    · rw [hsb.2 b (fun h : b = S => hSf (by rw [← h]; exact hb))]
      exact e
    · refine hR s'' (Moved.trans W.gtrans ((hm.mono hsub).then_heap htk fun b o hb e => ?_) hm'') hiv'' hkp''
      rw [hsb.2 b (fun h : b = S => hb (by rw [h]; exact List.mem_cons_self))]
      exact e
abbrev freshSet (w : World) : Obj := { cls := .type "set", dict := none, data := .set #[] 0 (.fresh 0 0 (!w.params.followText "set-order")) }
set_option maxHeartbeats 6400000 in
theorem call_setL {l : Addr} {items : Array Value} {Q : Value → Shared → Prop} (hh : A.handled = none) (hl : s.heap.IsList l items) (Iv : Nat → Heap → Prop)
    (start : ∀ h, h.get? s.heap.objs.size = some (freshSet w) → (∀ b o, s.heap.get? b = some o → h.get? b = some o) → Iv 0 h)
    (stab : ∀ i h h', Iv i h → (∀ o, h.get? s.heap.objs.size = some o → h'.get? s.heap.objs.size = some o) → (∀ b o, s.heap.get? b = some o → h'.get? b = some o) → Iv i h')
    (step : ∀ i v (s' : Shared) (E : Value → Shared → Prop) (Q : Bool → Shared → Prop), items[i]? = some v → Iv i s'.heap → (∀ b o, s.heap.get? b = some o → s'.heap.get? b = some o) →
      (∀ b h' tk, s'.toks ≤ tk → Heap.SameBut s.heap.objs.size s'.heap h' → Iv (i + 1) h' → Q b { s' with heap := h', toks := tk }) → wpAny (model P w) A.in1.in1.in1 (setAdd s.heap.objs.size v) Q E s')
    (h : ∀ (h' : Heap) (tk : Nat), Iv items.size h' → (∀ b o, s.heap.get? b = some o → h'.get? b = some o) → Q (.ref s.heap.objs.size) { s with heap := h', toks := tk }) :
    wpAny (model P w) A (call (.type "set") [.ref l]) Q E s := by
  obtain ⟨c, tl, hmro⟩ := F.called_set.mro
  have hmade := F.called_set.made
  have hsub := F.called_set.sub
  refine wpAny_call (codeAny_of_tree ?_)
  show wpAny _ _ (callAny (.type "set") _) _ _ _
  refine wpAny_pure ⟨Code.quiet_builtin _ (by decide +kernel), codeAny_builtin F.entry_type_call ?_⟩
  rw [Around.under_plain (weight_type_call_type "set" [.ref l] []) rfl]
  have h1 := F.called_set.notType
  have h2 := F.called_set.canCreate
  have hct := F.typeCall_set_1 (.ref l)
  repeat (any_goals (first | assumption | wp_step))

  refine codeAny_mono (code_set_led1 (.ref l) (E := E) (Q₁ := fun obj s1 => obj = .ref s.heap.objs.size ∧ s1 = { s with heap := s.heap.push (freshSet w) }) ⟨rfl, rfl⟩) fun r s1 hr => ?_
  cases r with
  | error e => exact hr
  | ok fl =>
    cases fl with
    | ret obj =>
      obtain ⟨rfl, rfl⟩ := hr
      have hS : (s.heap.push (freshSet w)).get? s.heap.objs.size = some (freshSet w) := Heap.get?_push_size _ rfl
      have hT : Shared.TypeIs { s with heap := s.heap.push (freshSet w) } (.ref s.heap.objs.size) "set" := ⟨_, hS, rfl⟩
      have hli := F.called_set.init.lookup
      have hbi := F.called_set.init.bind (.ref s.heap.objs.size)
      repeat (any_goals (first | assumption | wp_step))

      refine codeAny_mono (codeAny_call_builtin (R := wants (fun r s2 => r = .none ∧ ∃ h' tk, s2 = { s with heap := h', toks := tk } ∧ Iv items.size h' ∧
          (∀ b o, s.heap.get? b = some o → h'.get? b = some o)) E) F.called_set.init.plain F.entry_set_init (check_set_init_1 hT ?_)) fun r2 s2 hr2 => ?_
      · obtain ⟨ol, hol, hcl, nl, hdl⟩ := hl
        obtain ⟨ocls, odict, odata, oslots⟩ := ol
        simp only at hcl hdl
        subst hcl
        subst hdl
        have hol' : (s.heap.push (freshSet w)).get? l = some { cls := .type "list", dict := odict, data := .seq items nl, slots := oslots } := Heap.get?_push_of_some _ hol
        have hsls := F.sub_list_set
        have hslf := F.sub_list_frozenset
        have hne : (Value.type "list" == Value.type "dict") = false := by decide
        have hl1 : (s.heap.push (freshSet w)).IsList l items := ⟨_, hol', rfl, nl, rfl⟩
        unfold Builtin.«set.__init__» noKeywords Builtin.Frozenset.updateFrom
        generalize hPI : pyIter = PI
        wp_walk
        subst hPI
        refine wpAny_pyIter_list hl1 ?_
        refine wpAny_bind (wpAny_runValue ?_)
        have hlS : l < s.heap.objs.size := Heap.lt_size hol
        have hh3 : A.in1.in1.in1.handled = none := by simp [hh]
        have hneI : l ≠ (s.heap.push (freshSet w)).objs.size := by
          rw [Heap.size_push]
          exact Nat.ne_of_lt (Nat.lt_succ_of_lt hlS)
        have hSf : s.heap.objs.size ∉ [(s.heap.push (freshSet w)).objs.size, l] := by
          rw [Heap.size_push]
          simp only [List.mem_cons, List.mem_singleton, List.not_mem_nil, or_false, not_or]
          exact ⟨Nat.ne_of_lt (Nat.lt_succ_self _), Nat.ne_of_gt hlS⟩
        have none_of : ∀ b, s.heap.objs.size ≤ b → s.heap.get? b = none := fun b hb => by
          cases q : s.heap.get? b with
          | none => rfl
          | some o => exact absurd (Nat.lt_of_lt_of_le (Heap.lt_size q) hb) (Nat.lt_irrefl _)
        refine grow_loop ((Walks.list hh3 _ l hneI items).toS) s.heap.objs.size hSf s.heap (none_of _ (Nat.le_refl _)) (fun b hb => none_of b (by
            rw [List.mem_singleton.mp hb, Heap.size_push]
            exact Nat.le_succ _)) Iv stab (fun i v s' E' Q' hi hP a b c => step i v s' E' Q' hP a b c) (items.size - 0) 0 _ (by omega) (Nat.zero_le _)
          ⟨⟨_, Heap.get?_push_size _ rfl, rfl, rfl⟩, (hl1.push _)⟩ (fun b o e => Heap.get?_push_of_some _ (Heap.get?_push_of_some _ e)) ?hS0 ?hR
        case hS0 => exact start _ (Heap.get?_push_of_some _ hS) fun b o e => Heap.get?_push_of_some _ (Heap.get?_push_of_some _ e)
        case hR =>
          intro s' hm hS' hkp
          obtain ⟨h', g2, d', tk', os'⟩ := s'
          have eg : g2 = s.gens := hm.gens
          have ed : d' = s.drawn := hm.drawn
          have eo : os' = s.os := hm.os
          subst eg
          subst ed
          subst eo
          show wpAny _ _ _ _ _ _
          refine wpAny_pure ?_
          show wpAny _ _ (ret Value.none) _ _ _
          exact wpAny_pure ⟨rfl, h', tk', rfl, hS', hkp⟩
      · cases r2 with
        | error e => exact hr2
        | ok fl2 =>
          cases fl2 with
          | ret r =>
            obtain ⟨rfl, h', tk, rfl, hS', hk'⟩ := hr2
            repeat (any_goals (first | assumption | wp_step))
            exact h _ _ hS' hk'
          | _ => exact hr2.elim
    | _ => exact hr.elim
end
section
variable {X : Cx}
/-- set(xs), ints -/
def rSetI (K : PySem.W.Frag) (w : World) : List V → Hp → VK → Prop := fun xs H Q => ∃ (l : Addr) (ns : List Int), xs = [V.ref l] ∧ SqL K H l (ns.map V.int) ∧ ns.length < 4000 ∧
  ∀ a S n, H a = none → (∀ k : Int, S k = true ↔ k ∈ ns) → n ≤ ns.length → Q (.ref a) (upd H a (SetO w a S n))
theorem cr_setI (hc : X.calm = true) : CallR X (.type "set") (rSetI X.K X.w) := by
  intro pins s σ H xs us Q I r hyp
  obtain ⟨l, ns, rfl, hl, hz, q⟩ := hyp
  rw [Vals.ref1 r]
  obtain ⟨its, rv, pl, _⟩ := I.list hl
  have hi := rv.ints
  have hlen : its.length = ns.length := hi.length
  have hn : H s.heap.objs.size = none := I.hok.fresh (Nat.le_refl _)
  refine call_setL (P := X.prog) (w := X.w) (I.ok.hd hc) pl.isList (fun i h => ∃ c, c ≤ i ∧ SetR X.w h s.heap.objs.size (fun j => decide (j ∈ ns.take i)) c) (fun h hf _ => ⟨0, Nat.le_refl 0, setR_new_at hf⟩)
    (fun i h h' ⟨c, hc, R⟩ ho _ => ⟨c, hc, R.at ho⟩) (fun i v s' E Q' hv ⟨c, hc, R⟩ hk hq => ?_) fun h' tk ⟨c, hc, R⟩ hk => ?_
  · have hi2 : i < ns.length := by
      have z := (Array.getElem?_eq_some_iff.mp hv).1
      rw [List.size_toArray] at z
      omega
    obtain ⟨t, e⟩ := PyProof.Rows.IntsAre.int_at hi i v (by simpa using hv)
    have ez : ns[i]? = some (ns.getD i 0) := by
      rw [List.getD_eq_getElem?_getD, List.getElem?_eq_getElem hi2] <;> rfl
    subst e
    unfold setAdd
    refine wpAny_holding ?_
    refine wpAny_bind ((intKind X.prog X.w).pyHash (k := ns.getD i 0) (intKind_is _ _ _ _) ?_)
    refine setR_add_hashed (s := { s' with toks := s'.toks + 1 }) R (by unfold scanBound; omega) fun h' hsb R2 => ?_
    refine hq _ h' (s'.toks + 1) (Nat.le_succ _) hsb ⟨_, ?_, R2.congr fun j => ?_⟩
    · split <;> omega
    · rw [List.take_add_one, ez]
      simp [List.mem_append]
  · have e : its.toArray.size = ns.length := by rw [List.size_toArray]; exact hlen
    rw [e, List.take_length] at R
    rw [e] at hc
    exact ⟨.ref s.heap.objs.size, upd H s.heap.objs.size (SetO X.w s.heap.objs.size (fun j => decide (j ∈ ns)) c), I.laid (t' := tk) hk (Nat.le_refl _) (setO_new R), rfl, q _ _ _ hn (fun k => by simp) hc⟩
/-- len of a set of ints -/
def rLenSetO (w : World) : List V → Hp → VK → Prop := fun xs H Q => ∃ (a : Addr) (S : Int → Bool) (n : Nat), xs = [V.ref a] ∧ H a = some (SetO w a S n) ∧ Q (.int n) H
theorem cr_lenSetO : CallR X (.builtin "len") (rLenSetO X.w) := by
  intro pins s σ H xs us Q I r hyp
  obtain ⟨a, S, n, rfl, ha, q⟩ := hyp
  rw [Vals.ref1 r]
  obtain ⟨o, es, ep, t, ho, hex, hd, _, _, _, hb, hf, hn, _⟩ := setO_get I ha
  exact call_len_set ho hex hd hf (by unfold scanBound at hb; omega) ⟨.int n, H, I.tok _, ⟨_, by rw [hn]⟩, q⟩
end
/-! the two kinds of set of the program's comprehensions -/
def accI (P : Program) (w : World) (K : PySem.W.Frag) : Acc P w K where
  o := fun D => SetO w D (fun _ => false) 0
  new := fun H h D ho => setO_new ((setR_new_at (ns := []) ho).congr fun k => by simp)
  rd := fun D y H N => ∃ (k : Int) (S : Int → Bool) (n : Nat), y = .int k ∧ H D = some (SetO w D S n) ∧ n + 1 < 4000 ∧ N (upd H D (SetO w D (fun j => S j || decide (j = k)) (if S k = true then n else n + 1)))
  add := by
    intro X hP hw hK hu pins s σ H E D y v N I r ⟨k, S, n, ey, hD, hn, q⟩
    subst hP hw hK ey
    obtain ⟨tk, rfl⟩ := r
    have R := setO_get I hD
    refine setR_add R (by unfold scanBound; omega) fun h' sb new => ?_
    have he : ∃ u, h'.get? D = some u := by
      have ⟨o, _, _, _, ho, _⟩ := new
      exact ⟨o, ho⟩
    exact ⟨_, I.write (e := D) (t' := s.toks + 1) (by rw [hD]; trivial) (.inl rfl) (fun b u hb hu => (sb.2 b hb).trans hu) he (setO_new new), q⟩
def accT (P : Program) (w : World) (K : PySem.W.Frag) : Acc P w K where
  o := fun D => SetTO P w D []
  new := fun H h D ho => setTO_new (setTR_fresh ho).t0
  rd := fun D y H N => ∃ (x : Addr) (k : List Int) (L : List (Addr × List Int)), y = .ref x ∧ SqT K H x (k.map V.int) ∧ H D = some (SetTO P w D L) ∧ (∀ p ∈ L, SqT K H p.1 (p.2.map V.int)) ∧ L.length + 1 < 64 ∧
    ∀ L', (k ∈ L.map (·.2) → L' = L) → (k ∉ L.map (·.2) → L'.Perm ((x, k) :: L)) → N (upd H D (SetTO P w D L'))
  add := by
    intro X hP hw hK hu pins s σ H E D y v N I r ⟨x, k, L, ey, hx, hD, hk, hn, q⟩
    subst hP hw hK ey
    cases r
    have R0 : SetT0 X.prog X.w s.heap D L := (I.hok D _ hD).1
    obtain ⟨es, ep, t, R⟩ := R0.full fun p hp => I.isT (hk p hp)
    obtain ⟨o, ho, hex, hd⟩ := id R.ob
    have hT : s.TypeIs (.ref D) "set" := ⟨o, ho, hex.1⟩
    have hxT := I.isT hx
    refine wpAny_call_entry F.slot_set_add hT F.entry_set_add ?_ (F.args_set_add_2 _ _)
    unfold Builtin.«set.add» Builtin.Frozenset.oneOther
    simp only [List.isEmpty_nil, bind_assoc]
    unfold Builtin.Frozenset.addrOf setAdd
    refine wpAny_bind (wpAny_pure ?_)
    try dsimp only
    refine wpAny_bind (wpAny_pure ?_)
    try dsimp only
    refine wpAny_bind ?_
    refine wpAny_holding ?_
    refine wpAny_bind (wpAny_pyHash_tuple (by show X.A.units + 1 < cLine; omega) hxT ?_)
    refine add_at (s := { s with toks := s.toks + (k.length + 1) }) R hxT (by show X.A.units + 1 < cLine; omega) hn fun b h' L' es' ep' t' hsb R' e1 e2 => ?_
    show wpAny _ _ (ret Value.none) _ _ _
    have he : ∃ u, h'.get? D = some u := by
      obtain ⟨o', ho', _⟩ := R'.ob
      exact ⟨o', ho'⟩
    exact wpAny_pure ⟨_, rfl, _, I.write (e := D) (t' := s.toks + (k.length + 1)) (by rw [hD]; trivial) (.inl rfl) (fun b u hb hu => (hsb.2 b hb).trans hu) he (setTO_new R'.t0), q L' e1 e2⟩
end QT
set_option Elab.async false
set_option linter.all false
set_option maxRecDepth 100000
set_option maxHeartbeats 4000000
namespace QT
open PySem PySem.Spec PyProof.Rows L2
/-! dicts whose keys are tuples of bools, or pairs of an int and a tuple of ints -/
def keyB (bs : List Bool) : NestedKey := .tup (bs.map fun b => .num (if b = true then 1 else 0))
def keyP (p : Int × List Int) : NestedKey := .tup [.num p.1, .tup (p.2.map .num)]
theorem num_inj : ∀ {xs ys : List Int}, xs.map NestedKey.num = ys.map NestedKey.num → xs = ys
  | [], [], _ => rfl
  | [], _ :: _, h => by cases h
  | _ :: _, [], h => by cases h
  | x :: xs, y :: ys, h => by
    rw [List.map_cons, List.map_cons] at h
    injection h with h1 h2
    injection h1 with h1
    rw [h1, num_inj h2]
theorem keyP_inj {p q : Int × List Int} (h : keyP p = keyP q) : p = q := by
  obtain ⟨i, ns⟩ := p
  obtain ⟨j, ms⟩ := q
  unfold keyP at h
  injection h with h
  injection h with h1 h2
  injection h2 with h2 _
  injection h1 with h1
  injection h2 with h2
  have h1 : i = j := h1
  have h2 : ns = ms := num_inj h2
  rw [h1, h2]
theorem keyB_inj : ∀ {bs cs : List Bool}, keyB bs = keyB cs → bs = cs
  | [], [], _ => rfl
  | [], _ :: _, h => by unfold keyB at h; injection h with h; cases h
  | _ :: _, [], h => by unfold keyB at h; injection h with h; cases h
  | b :: bs, c :: cs, h => by
    unfold keyB at h
    injection h with h
    rw [List.map_cons, List.map_cons] at h
    injection h with h1 h2
    have h3 : bs = cs := keyB_inj (by unfold keyB; rw [h2])
    injection h1 with h1
    rw [h3]
    cases b <;> cases c <;> first | rfl | (simp at h1)
def KeyN (K : PySem.W.Frag) (H : Hp) (k : NestedKey) (a : Addr) : Prop :=
  (∃ bs, k = keyB bs ∧ SqT K H a (bs.map V.bl)) ∨ ∃ p b, k = keyP p ∧ SqT K H a [.int p.1, .ref b] ∧ SqT K H b (p.2.map V.int)
theorem depth_nums : ∀ ns : List Int, NestedKey.depthAll (ns.map NestedKey.num) = 0
  | [] => rfl
  | n :: ns => by
    rw [List.map_cons, NestedKey.depthAll, depth_nums ns]
    rfl
theorem depth_bools (bs : List Bool) : NestedKey.depthAll (bs.map fun b => NestedKey.num (if b = true then 1 else 0)) = 0 := by
  have h := depth_nums (bs.map fun b => if b = true then (1 : Int) else 0)
  rw [List.map_map] at h
  exact h
theorem keyB_depth (bs : List Bool) : (keyB bs).depth = 1 := by
  unfold keyB
  rw [NestedKey.depth, depth_bools]
theorem keyP_depth (p : Int × List Int) : (keyP p).depth = 2 := by
  unfold keyP
  rw [NestedKey.depth, NestedKey.depthAll, NestedKey.depthAll, NestedKey.depthAll, NestedKey.depth, NestedKey.depth, depth_nums]
  rfl
theorem all_nums (h : Heap) : ∀ {ns : List Int} {its : List Value}, Vals (ns.map V.int) its → NestedAll h (ns.map NestedKey.num) its
  | [], _, r => by
    rw [List.map_nil] at r
    cases r
    exact .nil
  | n :: ns, _, r => by
    rw [List.map_cons] at r
    cases r with
    | cons r1 r2 =>
      obtain ⟨t, rfl⟩ := r1
      exact .cons (.int _ _) (all_nums h r2)
theorem all_bools (h : Heap) : ∀ {bs : List Bool} {its : List Value}, Vals (bs.map V.bl) its → NestedAll h (bs.map fun b => NestedKey.num (if b = true then 1 else 0)) its
  | [], _, r => by
    rw [List.map_nil] at r
    cases r
    exact .nil
  | n :: ns, _, r => by
    rw [List.map_cons] at r
    cases r with
    | cons r1 r2 =>
      cases r1
      exact .cons (.bool rfl) (all_bools h r2)
section
variable {X : Cx} {pins : List (Addr × Obj)} {σ : L2.St} {H : Hp} {s : Shared}
theorem key_is (I : Inv X pins σ H s) {k : NestedKey} {a : Addr} (h : KeyN X.K H k a) : (nestedKind X.prog X.w).is s.heap k a := by
  rcases h with ⟨bs, rfl, h⟩ | ⟨p, b, rfl, h, hb⟩
  · obtain ⟨its, r, ⟨o, ho, hc, n, hd⟩, _⟩ := I.tuple h
    exact ⟨.tup ho hc hd (all_bools _ r), by rw [keyB_depth]; decide⟩
  · obtain ⟨its, r, ⟨o, ho, hc, n, hd⟩, _⟩ := I.tuple h
    obtain ⟨its2, r2, ⟨o2, ho2, hc2, n2, hd2⟩, _⟩ := I.tuple hb
    cases r with
    | cons ra rb =>
      cases rb with
      | cons rc rd =>
        cases rd
        obtain ⟨t, rfl⟩ := ra
        cases rc
        exact ⟨.tup ho hc hd (.cons (.int _ _) (.cons (.tup ho2 hc2 hd2 (all_nums _ r2)) .nil)), by rw [keyP_depth]; decide⟩
end
theorem KeyN.keep {K : PySem.W.Frag} {H H' : Hp} {k : NestedKey} {a : Addr} (h : KeyN K H k a) (q : ∀ b xs, SqT K H b xs → SqT K H' b xs) : KeyN K H' k a := by
  rcases h with ⟨bs, e, h⟩ | ⟨p, b, e, h, hb⟩
  · exact .inl ⟨bs, e, q _ _ h⟩
  · exact .inr ⟨p, b, e, q _ _ h, q _ _ hb⟩
abbrev DRow := NestedKey × Addr × V
abbrev DRel : List DRow → List (NestedKey × Addr × Value) → Prop := Paired fun (p : DRow) (q : NestedKey × Addr × Value) => p.1 = q.1 ∧ p.2.1 = q.2.1 ∧ RelV p.2.2 q.2.2
def dnP (P : Program) (w : World) (d : Addr) (L : List DRow) (h : Heap) : Prop := L.length ≤ 100000 ∧ (d == sysModules) = false ∧ ∃ xs : List (NestedKey × Addr × Value), DRel L xs ∧
  ∃ o es ep, h.get? d = some o ∧ o.ExactDict ∧ o.data = .dict es ep ∧ es.toList = xs.map (entryOfKey (nestedKind P w)) ∧ (xs.map (·.1)).Nodup
def DN (P : Program) (w : World) (d : Addr) (L : List DRow) : HO := .ext (dnP P w d L)
theorem dn_new {P : Program} {w : World} {H : Hp} {h : Heap} {d : Addr} {L : List DRow} (x : dnP P w d L h) : ObjOk P w H h d (DN P w d L) := by
  refine ⟨x, ?_, fun h1 h2 q st => ?_⟩
  · obtain ⟨_, _, _, _, o, _, _, ho, _⟩ := x
    exact ⟨o, ho⟩
  · obtain ⟨z, a, xs, r, o, es, ep, ho, c⟩ := q
    exact ⟨z, a, xs, r, o, es, ep, st _ ho, c⟩
def lkN : List DRow → NestedKey → Option V
  | [], _ => none
  | r :: L, k => if r.1 = k then some r.2.2 else lkN L k
theorem lk_rel {k : NestedKey} : ∀ {L : List DRow} {xs : List (NestedKey × Addr × Value)}, DRel L xs → RelO (lkN L k) (valueAt (pairsH xs) k)
  | _, _, .nil => trivial
  | r :: L, x :: xs, .cons h t => by
    have ih := lk_rel (k := k) t
    rw [lkN]
    by_cases e : r.1 = k
    · have e2 : x.1 = k := h.1 ▸ e
      rw [if_pos e]
      have z : valueAt (pairsH (x :: xs)) k = some x.2.2 := by simp [pairsH, valueAt, e2]
      rw [z]
      exact h.2.2
    · have e2 : ¬ x.1 = k := h.1 ▸ e
      rw [if_neg e]
      have z : valueAt (pairsH (x :: xs)) k = valueAt (pairsH xs) k := by simp [pairsH, valueAt, e2]
      rw [z]
      exact ih
theorem rel_none {v : Option V} {u : Option Value} (h : RelO v u) : v.isSome = u.isSome := by
  cases v <;> cases u <;> first | rfl | exact h.elim
section
variable {X : Cx} {pins : List (Addr × Obj)} {σ : L2.St} {H : Hp} {s : Shared}
/-- the dict at d -/
structure DnAt (P : Program) (w : World) (K : PySem.W.Frag) (H : Hp) (d : Addr) (L : List DRow) : Prop where
  at_ : H d = some (DN P w d L)
  keys : ∀ r ∈ L, KeyN K H r.1 r.2.1
theorem dn_his {L : List DRow} {xs : List (NestedKey × Addr × Value)} (I : Inv X pins σ H s) (r : DRel L xs) (hk : ∀ r ∈ L, KeyN X.K H r.1 r.2.1) : ∀ x ∈ xs, (nestedKind X.prog X.w).is s.heap x.1 x.2.1 := by
  induction r with
  | nil => intro x hx; cases hx
  | @cons p q ps qs h t ih =>
    intro x hx
    rcases List.mem_cons.mp hx with z | z
    · subst z
      rw [← h.1, ← h.2.1]
      exact key_is I (hk p List.mem_cons_self)
    · exact ih (fun r hr => hk r (List.mem_cons_of_mem _ hr)) x z
theorem dn_of {d : Addr} {L : List DRow} (I : Inv X pins σ H s) (x : dnP X.prog X.w d L s.heap) (hk : ∀ r ∈ L, KeyN X.K H r.1 r.2.1) :
    L.length ≤ 100000 ∧ (d == sysModules) = false ∧ ∃ xs : List (NestedKey × Addr × Value), DRel L xs ∧ s.heap.DictOfH (nestedKind X.prog X.w) d xs := by
  obtain ⟨z, a, xs, r, o, es, ep, ho, hc, hd, he, hn⟩ := x
  exact ⟨z, a, xs, r, o, es, ep, ho, hc, hd, he, dn_his I r hk, hn⟩
theorem dn_get {d : Addr} {L : List DRow} (I : Inv X pins σ H s) (x : DnAt X.prog X.w X.K H d L) :
    L.length ≤ 100000 ∧ (d == sysModules) = false ∧ ∃ xs : List (NestedKey × Addr × Value), DRel L xs ∧ s.heap.DictOfH (nestedKind X.prog X.w) d xs := dn_of I (I.hok d _ x.at_).1 x.keys
def rNotInN (P : Program) (w : World) (K : PySem.W.Frag) : R2 := fun x y H Q => ∃ a d k L, x = .ref a ∧ y = .ref d ∧ DnAt P w K H d L ∧ KeyN K H k a ∧ Q (.bl (!(lkN L k).isSome)) H
theorem op_notInN (hu : X.A.units + 64 < cLine) : OpR X (compareOp .NotIn) (rNotInN X.prog X.w X.K) := by
  intro pins s σ H x y v u Q I rx ry h
  obtain ⟨a, d, k, L, rfl, rfl, hd, hk, q⟩ := h
  cases rx
  cases ry
  obtain ⟨_, hs, xs, r, hx⟩ := dn_get I hd
  refine notIn_keyed (knd := nestedKind X.prog X.w) (by show X.A.units + 1 + 8 < cLine; omega) (key_is I hk) hs ⟨xs, hx, rfl⟩ ?_
  rw [← rel_none (lk_rel r)]
  exact ⟨.bl _, H, I.tok _, rfl, q⟩
def rIxN (P : Program) (w : World) (K : PySem.W.Frag) : R2 := fun x y H Q => ∃ a d k L v, x = .ref d ∧ y = .ref a ∧ DnAt P w K H d L ∧ KeyN K H k a ∧ lkN L k = some v ∧ Q v H
theorem ix_dictN (hu : X.A.units + 64 < cLine) : IxR X (rIxN X.prog X.w X.K) := by
  intro value slice pins s σ H x y v u Q I rx ry h hs
  obtain ⟨a, d, k, L, z, rfl, rfl, hd, hk, hv, q⟩ := h
  cases rx
  cases ry
  obtain ⟨_, _, xs, r, hx⟩ := dn_get I hd
  have hr := lk_rel (k := k) r
  rw [hv] at hr
  cases e : valueAt (pairsH xs) k with
  | none =>
    rw [e] at hr
    exact hr.elim
  | some c =>
    rw [e] at hr
    exact subscriptTail_builtinR (x := c) hx.typeIs PySem.F.slot_dict_getitem.lookup
      (getItem_keyed (Q := fun r s' => r = c ∧ EP X pins σ Q r s') (knd := nestedKind X.prog X.w) (by show X.A.units + 1 + 8 < cLine; omega) (key_is I hk) ⟨xs, hx, rfl⟩ e ⟨rfl, z, H, I.tok _, hr, q⟩) hs
theorem lkN_mem {k : NestedKey} : ∀ {L : List DRow}, lkN L k = none → k ∉ L.map (·.1)
  | [], _, h => by cases h
  | r :: L, e, h => by
    rw [lkN] at e
    by_cases c : r.1 = k
    · rw [if_pos c] at e
      cases e
    · rw [if_neg c] at e
      rw [List.map_cons] at h
      rcases List.mem_cons.mp h with z | z
      · exact c z.symm
      · exact lkN_mem e z
theorem rel_len {L : List DRow} {xs : List (NestedKey × Addr × Value)} (r : DRel L xs) : L.length = xs.length := Paired.length r
theorem rel_snoc : ∀ {L : List DRow} {xs : List (NestedKey × Addr × Value)} {p : DRow} {q : NestedKey × Addr × Value}, DRel L xs → (p.1 = q.1 ∧ p.2.1 = q.2.1 ∧ RelV p.2.2 q.2.2) → DRel (L ++ [p]) (xs ++ [q])
  | _, _, _, _, .nil, h => .cons h .nil
  | _, _, _, _, .cons a t, h => .cons a (rel_snoc t h)
def rSetN (P : Program) (w : World) (K : PySem.W.Frag) : V → V → V → Hp → (Hp → Prop) → Prop := fun o i v H Q => ∃ d a k L, o = .ref d ∧ i = .ref a ∧ DnAt P w K H d L ∧ KeyN K H k a ∧ lkN L k = none ∧ L.length < 100000 ∧ Q (upd H d (DN P w d (L ++ [(k, a, v)])))
theorem none_atKey {k : NestedKey} : ∀ {L : List DRow} {xs : List (NestedKey × Addr × Value)}, DRel L xs → lkN L k = none → atKey xs k = none
  | _, _, .nil, _ => rfl
  | r :: L, x :: xs, .cons h t, e => by
    rw [lkN] at e
    by_cases c : r.1 = k
    · rw [if_pos c] at e
      cases e
    · rw [if_neg c] at e
      have ih := none_atKey t e
      have c2 : ¬ x.1 = k := h.1 ▸ c
      unfold atKey at ih ⊢
      rw [List.find?_cons, decide_eq_false c2]
      exact ih
theorem set_dictN (hu : X.A.units + 64 < cLine) : PSet X (rSetN X.prog X.w X.K) := by
  intro pins s σ H o i v ov iv u Q I ro ri rv h
  obtain ⟨d, a, k, L, rfl, rfl, hd, hk, hn, hl, q⟩ := h
  cases ro
  cases ri
  obtain ⟨_, hs, xs, r, hx⟩ := dn_get I hd
  have hz : xs.length ≤ sizeLine := by rw [← rel_len r]; exact small_line (by omega)
  refine wpAny_setItem_heap (hsz := hz) (knd := nestedKind X.prog X.w) (by show X.A.units + 1 + 8 < cLine; omega) (key_is I hk) hx fun h' hm' sb => ?_
  have e : storedH xs k a u = xs ++ [(k, a, u)] := by
    unfold storedH
    rw [none_atKey r hn] <;> rfl
  rw [e] at hm'
  obtain ⟨o, es, ep, ho, hc, hdd, he, _, hnd⟩ := hm'
  exact ⟨_, I.write (e := d) (t' := s.toks + (nestedKind X.prog X.w).draws k) (by rw [hd.at_]; trivial) (.inl rfl) (fun b u hb hu => (sb.2 b hb).trans hu) ⟨o, ho⟩
    (dn_new ⟨by rw [List.length_append, List.length_singleton]; omega, hs, _, rel_snoc r ⟨rfl, rfl, rv⟩, o, es, ep, ho, hc, hdd, he, hnd⟩), q⟩
def rGetN (P : Program) (w : World) (K : PySem.W.Frag) : V → List V → Hp → VK → Prop := fun x vs H Q => ∃ d a k L, x = .ref d ∧ vs = [.ref a] ∧ DnAt P w K H d L ∧ KeyN K H k a ∧ Q ((lkN L k).getD .non) H
theorem mt_getN (hu : X.A.units + 64 < cLine) : MtR X "dict.get" (rGetN X.prog X.w X.K) := by
  intro pins s σ H x vs v us Q I rx rv h
  obtain ⟨d, a, k, L, rfl, rfl, hd, hk, q⟩ := h
  cases rx
  obtain ⟨u, rfl, ru⟩ := rv.one
  cases ru
  obtain ⟨_, hs, xs, r, hx⟩ := dn_get I hd
  refine get_keyed (knd := nestedKind X.prog X.w) (by show X.A.units + 1 + 8 < cLine; omega) (key_is I hk) hs ⟨xs, hx, rfl⟩ ?_
  have hr := lk_rel (k := k) r
  refine ⟨_, H, I.tok _, ?_, q⟩
  cases e1 : lkN L k with
  | none =>
    cases e2 : valueAt (pairsH xs) k with
    | none => rfl
    | some c => rw [e1, e2] at hr; exact hr.elim
  | some b =>
    cases e2 : valueAt (pairsH xs) k with
    | none => rw [e1, e2] at hr; exact hr.elim
    | some c => rw [e1, e2] at hr; exact hr
/-- {k: v} -/
def tDisN (P : Program) (w : World) (K : PySem.W.Frag) (trs : List (TE × TE)) : TE := fun σ H Q => ∀ p, H p = none → tPairs trs σ (upd H p (DN P w p [])) fun ps H2 => H2 p = some (DN P w p []) ∧ ∃ k a v, ps = [(.ref a, v)] ∧ KeyN K H2 k a ∧ Q (.ref p) (upd H2 p (DN P w p [(k, a, v)]))
theorem pe_disN {pos : Pos} {keys : List (Option Expr)} {values : List Expr} {trs : List (TE × TE)} (hu : X.A.units + 64 < cLine) (h : PPs X pos keys values trs) (hall : keys.all (·.isSome) = true) (hl : keys.length = values.length) (h0 : keys ≠ [])
    (h15 : keys.length ≤ 15) : PE X (.Dict keys values pos) (tDisN X.prog X.w X.K trs) := by
  refine ⟨fun pins s σ H Q I q => ?_⟩
  have hn := I.hok.fresh (Nat.le_refl s.heap.objs.size)
  have hne : (s.heap.objs.size == sysModules) = false := beq_eq_false_iff_ne.mpr (Ne.symm (Nat.ne_of_lt I.big))
  have I1 := I.laid (a := s.heap.objs.size) (o := DN X.prog X.w s.heap.objs.size []) (h' := s.heap.push { cls := .type "dict", data := .dict #[] }) (t' := s.toks) (fun _ _ q => Heap.get?_push_of_some _ q) (Nat.le_refl _)
    (dn_new ⟨by decide, hne, [], .nil, _, #[], 0, Heap.get?_push_size _ rfl, ⟨rfl, rfl, rfl⟩, rfl, rfl, List.nodup_nil⟩)
  have hpl := pairTrees_length keys values X.env pos hall hl
  have hp0 : pairTrees keys values X.env pos ≠ [] := fun he => by
    rw [he] at hpl
    exact h0 (List.length_eq_zero_iff.mp hpl.symm)
  rw [arm_eval_Dict, zip_pairTrees keys values X.env pos hall hl, dictDisplay_pairs _ hp0 (by rw [hpl]; omega)]
  refine wpAny_bind (wpAny_standAt (wpAny_bind (wpAny_subDictH (knd := nestedKind X.prog X.w) (Q := fun d s' => wpAny (model X.prog X.w) X.A (pure (Value.ref d)) _ X.xe s') (by show X.A.units + 8 < cLine; omega) (by rw [hpl]; exact h15)
    (thn (h.run pins _ σ _ _ I1 (q _ hn)) fun ws s2 ⟨ps, H2, I2, rel, e, k, a, v, ep, hk, q2⟩ => ?_))))
  subst ep
  cases rel with
  | @cons _ b _ _ h1 h2 =>
    cases h2
    obtain ⟨b1, b2⟩ := b
    obtain ⟨h1, h3⟩ := h1
    cases h1
    obtain ⟨_, _, xs, r, hx⟩ := dn_of (L := []) I2 (I2.hok _ _ e).1 (fun r hr => by cases hr)
    cases r
    refine ⟨[(k, a, b2)], ⟨rfl, rfl, key_is I2 hk, trivial⟩, hx, fun h' tk dd sb => wpAny_pure ⟨.ref s.heap.objs.size, _, ?_, rfl, q2⟩⟩
    obtain ⟨o, es, epp, ho, hc, hdd, he, _, hnd⟩ := dd
    exact I2.write (e := s.heap.objs.size) (t' := tk) (by rw [e]; trivial) (.inl rfl) (fun b u hb hu => (sb.2 b hb).trans hu) ⟨o, ho⟩ (dn_new ⟨by show 1 ≤ 100000; decide, hne, _, .cons ⟨rfl, rfl, h3⟩ .nil, o, es, epp, ho, hc, hdd, he, hnd⟩)
/-! walks -/
theorem frzN {d : Addr} {o : Obj} {L : List DRow} (I : Inv X pins σ H s) (h : H d = some (.frz o (DN X.prog X.w d L))) :
    (d == sysModules) = false ∧ s.heap.get? d = some o ∧ o.ExactDict ∧ ∃ (es : Array DictEntry) (ep : Nat), o.data = .dict es ep ∧ es.size = L.length ∧
      ∀ (i : Nat) (r : DRow), L[i]? = some r → ∃ en : DictEntry, es[i]? = some en ∧ en.key = .ref r.2.1 ∧ RelV r.2.2 en.val := by
  obtain ⟨hd, ⟨z, hs, xs, pr, o', es, ep, ho, hx, hdt, he, _⟩, _⟩ := I.hok d _ h
  rw [hd] at ho
  cases ho
  refine ⟨hs, hd, hx, es, ep, hdt, ?_, fun i r e => ?_⟩
  · have l1 : es.size = xs.length := size_of_entries he
    have l2 := rel_len pr
    omega
  · obtain ⟨b, hb, e1, e2, e3⟩ := paired_get pr e
    have q := entry_at he i
    rw [hb] at q
    exact ⟨_, q, by rw [e2] <;> rfl, e3⟩
/-- the keys of the locked dict -/
def ItKN (P : Program) (w : World) (d : Addr) (o : Obj) (L : List DRow) : It :=
  ⟨fun i H => H d = some (.frz o (DN P w d L)) ∧ i < L.length, fun i H x H' => H' = H ∧ ∃ r, L[i]? = some r ∧ x = .ref r.2.1, fun i H => H d = some (.frz o (DN P w d L)) ∧ L.length ≤ i⟩
/-- its pairs, each a new tuple -/
def ItIN (P : Program) (w : World) (d : Addr) (o : Obj) (L : List DRow) : It :=
  ⟨fun i H => H d = some (.frz o (DN P w d L)) ∧ i < L.length, fun i H x H' => ∃ T r, L[i]? = some r ∧ x = .ref T ∧ H T = none ∧ H' = upd H T (.tup [.ref r.2.1, r.2.2]), fun i H => H d = some (.frz o (DN P w d L)) ∧ L.length ≤ i⟩
theorem turn_keysN {P : Program} {w : World} {K : PySem.W.Frag} {tg : Expr} {d : Addr} {o : Obj} {es : Array DictEntry} {ep : Nat} {L : List DRow} (it : Addr) (hod : o.data = .dict es ep) : Turn P w K tg (ItKN P w d o L) [it] it (fun i h => h.IsKeyIter it d i L.length ep) where
  mem := by simp
  obj := fun i h st b hb => by
    have e : b = it := by simpa using hb
    subst e
    obtain ⟨oi, e, c, dd⟩ := st
    exact ⟨oi, e, fun v z => by rw [dd] at z; cases z⟩
  keep := fun i h h' st k => st.at fun oi e => k it (by simp) oi e
  item := by
    intro X hP hw hK hc i pins s σ H E I hf st hg
    subst hP hw hK
    obtain ⟨hd, hi⟩ := hg
    obtain ⟨f0, f1, f2, f3, f4, f5⟩ := hf it (by simp)
    obtain ⟨hs, hgd, hx, es', ep', hdt, hsz, ent⟩ := frzN I hd
    obtain ⟨rfl, rfl⟩ := dict_ep hod hdt
    obtain ⟨r, hkv⟩ : ∃ p, L[i]? = some p := ⟨L[i], List.getElem?_eq_getElem hi⟩
    obtain ⟨en, hen, hkey, hv⟩ := ent i r hkv
    refine next_key_item st hgd hdt hsz hen fun h' st' sb => ?_
    have I1 : Inv X pins σ H { s with heap := h' } := I.turned (t' := s.toks) (fun b ob hb e => (sb.2 b hb).trans e) f0 f1 f3 f4 f5
    obtain ⟨oi, e, c, dd⟩ := id st'
    exact ⟨en.key, rfl, go_of (s := { s with heap := h' }) e c dd (by decide) ⟨.ref r.2.1, H, I1, hkey, ⟨rfl, r, hkv, rfl⟩, st', fun b hb => (hf b hb).1⟩⟩
  done := by
    intro X hP hw hK hc i pins s σ H E I hf st hg
    subst hP hw hK
    obtain ⟨hd, hi⟩ := hg
    obtain ⟨f0, f1, f2, f3, f4, f5⟩ := hf it (by simp)
    obtain ⟨hs, hgd, hx, es', ep', hdt, hsz, ent⟩ := frzN I hd
    obtain ⟨rfl, rfl⟩ := dict_ep hod hdt
    exact next_key_end (I.ok.hd hc) st hgd hdt hsz hi fun h' eb => ⟨rfl, I.turned (t' := s.toks) (fun b ob hb e => eb b ob hb e) f0 f1 f3 f4 f5⟩
  self := fun A i s Q E st h => by
    refine wpAny_pyIter_slot st.typeIs PySem.F.slot_dict_keyiterator_iter (wpAny_call_entry PySem.F.slot_dict_keyiterator_iter st.typeIs PySem.F.entry_dict_keyiterator_iter ?_ (PySem.F.args_dict_keyiterator_iter_1 _))
    show wpAny _ _ (ret (.ref it)) _ _ s
    exact wpAny_pure ⟨_, rfl, "dict_keyiterator", _, st.typeIs, PySem.F.slot_dict_keyiterator_next.lookup, h⟩
theorem turn_itemsN {P : Program} {w : World} {K : PySem.W.Frag} {d : Addr} {o : Obj} {es : Array DictEntry} {ep : Nat} {L : List DRow} {elts : List Expr} {kk : Nat} {tpos : Pos} (it : Addr) (hod : o.data = .dict es ep) :
    Turn P w K (.Tuple elts kk tpos) (ItIN P w d o L) [it] it (fun i h => ∃ ok ov, IsItemIter h it d i L.length ep ok ov) where
  mem := by simp
  obj := fun i h st b hb => by
    have e : b = it := by simpa using hb
    subst e
    obtain ⟨ok, ov, e⟩ := st
    exact ⟨_, e, fun v z => nomatch z⟩
  keep := fun i h h' st k => let ⟨ok, ov, e⟩ := st; ⟨ok, ov, k it (by simp) _ e⟩
  item := by
    intro X hP hw hK hc i pins s σ H E I hf st hg
    subst hP hw hK
    obtain ⟨hd, hi⟩ := hg
    obtain ⟨hs, hgd, hx, es', ep', hdt, hsz, ent⟩ := frzN I hd
    obtain ⟨rfl, rfl⟩ := dict_ep hod hdt
    obtain ⟨r, hkv⟩ : ∃ p, L[i]? = some p := ⟨L[i], List.getElem?_eq_getElem hi⟩
    obtain ⟨en, hen, hkey, hv⟩ := ent i r hkv
    obtain ⟨ok, ov, he⟩ := st
    have hlt : it < s.heap.objs.size := Heap.lt_size he
    have hlt' : i < es'.size := by omega
    have een : es'[i] = en := Option.some.inj ((Array.getElem?_eq_getElem hlt').symm.trans hen)
    rw [← hsz] at he
    refine wpAny_pyNext_items_item_raw he ⟨o, hgd, hx, hdt⟩ hlt' fun h' ho hT hz hk => ?_
    refine ⟨_, rfl, wpAny_letOwnedTupleGo_items (s := { s with heap := h' }) ho fun h'' he' sb => ?_⟩
    have hT2 : h''.get? s.heap.objs.size = some { cls := .type "tuple", data := .seq #[es'[i].key, es'[i].val] } := (sb.2 _ (Nat.ne_of_gt hlt)).trans hT
    rw [een, hkey] at hT2
    have new : ObjOk X.prog X.w (upd H s.heap.objs.size (.tup [.ref r.2.1, r.2.2])) h'' s.heap.objs.size (.tup [.ref r.2.1, r.2.2]) :=
      ⟨by show 2 ≤ sizeLine; decide, [.ref r.2.1, en.val], .cons rfl (.cons hv .nil), ⟨_, hT2, rfl, _, rfl⟩⟩
    have I1 : Inv X pins σ (upd H s.heap.objs.size (.tup [.ref r.2.1, r.2.2])) { s with heap := h'' } :=
      I.turnedNew (t' := s.toks) (ch := [it]) (fun b ob hb e => (sb.2 b (by simpa using hb)).trans (hk b ob (by simpa using hb) e)) hf (Nat.le_refl _) new
    refine ⟨.ref s.heap.objs.size, _, I1, rfl, ⟨_, r, hkv, rfl, I.hok.fresh (Nat.le_refl _), rfl⟩, ⟨es'[i].key, es'[i].val, ?_⟩, fun b hb => ?_⟩
    · rw [hsz] at he'; exact he'
    · have e : b = it := by simpa using hb
      rw [e, upd_ne (Nat.ne_of_lt hlt)]
      exact (hf it (by simp)).1
  done := by
    intro X hP hw hK hc i pins s σ H E I hf st hg
    subst hP hw hK
    obtain ⟨hd, hi⟩ := hg
    obtain ⟨f0, f1, f2, f3, f4, f5⟩ := hf it (by simp)
    obtain ⟨hs, hgd, hx, es', ep', hdt, hsz, ent⟩ := frzN I hd
    obtain ⟨rfl, rfl⟩ := dict_ep hod hdt
    obtain ⟨ok, ov, he⟩ := st
    rw [← hsz] at he
    exact wpAny_pyNext_items_end_raw (I.ok.hd hc) he ⟨o, hgd, hx, hdt⟩ (by omega) fun h' eb => ⟨rfl, I.turned (t' := s.toks) (fun b ob hb e => eb b ob hb e) f0 f1 f3 f4 f5⟩
  self := fun A i s Q E st h => let ⟨_, _, e⟩ := st; PySem.W.kcp_self e h
def iKeysN (P : Program) (w : World) (td : TE) : TI := fun σ H R => td σ H fun x H1 => ∃ d o L, x = .ref d ∧ H1 d = some (.frz o (DN P w d L)) ∧ R (ItKN P w d o L) H1
def iItemsN (P : Program) (w : World) (td : TE) : TI := fun σ H R => td σ H fun x H1 => ∃ d o L, x = .ref d ∧ H1 d = some (.frz o (DN P w d L)) ∧ R (ItIN P w d o L) H1
theorem pi_keysN {tg e : Expr} {td : TE} (he : PE X e td) : PI X tg e (iKeysN X.prog X.w td) := by
  refine ⟨fun pins s σ H R I h => ?_⟩
  refine thn (he.run pins s σ H _ I h) fun u s1 ⟨x, H1, I1, rx, d, o, L, ex, hd, q⟩ => ?_
  subst ex
  obtain rfl : u = Value.ref d := rx
  obtain ⟨hs, hgd, hx, es, ep, hdt, hsz, ent⟩ := frzN I1 hd
  refine iter_keys hs hgd hx hdt (pi_one (tk := s1.toks) I1 _ (turn_keysN _ hdt) ⟨_, Heap.get?_push_size _ rfl, rfl, ?_⟩ q)
  rw [hsz] <;> rfl
theorem pi_itemsN {e : Expr} {td : TE} {apos cpos : Pos} {elts : List Expr} {kk : Nat} {tpos : Pos} (he : PE X e td) (hbase : attributeBase e "items" X.env (eval e X.env) = eval e X.env := by rfl) (hline : (apos.endLine == cpos.line) = true := by rfl) :
    PI X (.Tuple elts kk tpos) (.Call (.Attribute e "items" apos) [] [] cpos) (iItemsN X.prog X.w td) := by
  refine ⟨fun pins s σ H R I h => ?_⟩
  refine wpAny_Call_method (T := "dict") (id := "dict.items") hbase rfl hline PySem.F.plainAttrs_dict PySem.F.slot_dict_items PySem.F.type_dict_items (thn (he.run pins s σ H _ I h) fun u s1 ⟨x, H1, I1, rx, d, o, L, ex, hd, q⟩ => ?_)
  subst ex
  obtain rfl : u = Value.ref d := rx
  obtain ⟨hs, hgd, hx, es, ep, hdt, hsz, ent⟩ := frzN I1 hd
  have hm : s1.heap.DictRaw d es ep := ⟨o, hgd, hx, hdt⟩
  refine ⟨hm.typeIs, fun b e => ?_, ?_⟩
  · injection e with e
    subst e
    exact ⟨o, hgd, hx.2.1⟩
  have I2 : Inv X pins σ H1 { s1 with heap := s1.heap.push { cls := .type "dict_items", data := .fields #[.ref d] } } := I1.kept (t' := s1.toks) fun b ob q => Heap.get?_push_of_some _ q
  have fin : wpAny (model X.prog X.w) X.A (pyIter (.ref s1.heap.objs.size)) (PIE X pins σ (.Tuple elts kk tpos) R) X.xe { s1 with heap := s1.heap.push { cls := .type "dict_items", data := .fields #[.ref d] } } := by
    refine wpAny_pyIter_items_raw (d := d) ⟨_, Heap.get?_push_size _ rfl, rfl, rfl⟩ (hm.at fun _ e => Heap.get?_push_of_some _ e) (pi_one (tk := s1.toks) I2 _ (turn_itemsN _ hdt) ⟨.none, .none, ?_⟩ q)
    rw [← hsz]
    exact Heap.get?_push_size _ rfl
  show wpAny _ _ (callWith cpos (.builtin "dict.items") [.ref d] [] []) _ X.xe s1
  exact method_meetsIn PySem.F.slot_dict_items PySem.F.entry_dict_items rfl (PySem.evalArgs_none ⟨rfl, hm.typeIs, PySem.F.args_dict_items_1 _, _, meets_dict_items_raw d hs, ⟨_, _, hm⟩, fin⟩)
end
end QT
set_option Elab.async false
set_option linter.all false
set_option maxRecDepth 100000
set_option maxHeartbeats 4000000
namespace QT
open PySem PySem.Spec PyProof.Rows L2
/-! set(rows): a list of tuples of bools whose hashes all differ -/
def hashB (bs : List Bool) : Int := reduceHash (Builtin.Tuple.tupleHashOf (bs.map fun b => hashInt (if b = true then 1 else 0)))
theorem hash_nums (w : World) : ∀ ns : List Int, NestedKey.hashes w (ns.map NestedKey.num) = ns.map hashInt
  | [] => rfl
  | n :: ns => by
    rw [List.map_cons, NestedKey.hashes, hash_nums w ns, NestedKey.hash] <;> rfl
theorem hash_keyB (w : World) (bs : List Bool) : (keyB bs).hash w = hashB bs := by
  have h := hash_nums w (bs.map fun b => if b = true then (1 : Int) else 0)
  rw [List.map_map, List.map_map] at h
  unfold keyB hashB
  rw [NestedKey.hash]
  exact congrArg (fun q => reduceHash (Builtin.Tuple.tupleHashOf q)) h
theorem hashBy_bool (n : Nat) (b : Bool) : hashByValue n (.bool b) = pure true := by
  cases n <;> rfl
section
variable {P : Program} {w : World} {A : Around} {E : Value → Shared → Prop} {s : Shared}
theorem bools_items : ∀ {bs : List Bool} {its : List Value}, Vals (bs.map V.bl) its → ∀ v ∈ its, ∃ b, v = Value.bool b
  | [], _, r => by
    rw [List.map_nil] at r
    cases r
    intro v hv
    cases hv
  | b :: bs, _, r => by
    rw [List.map_cons] at r
    cases r with
    | cons r1 r2 =>
      intro v hv
      rcases List.mem_cons.mp hv with e | hv
      · exact ⟨b, e.trans r1⟩
      · exact bools_items r2 v hv
theorem hashBy_bt {o : Obj} {items : Array Value} {n : Nat} {b : Addr} {Q : Bool → Shared → Prop} (ho : s.heap.get? b = some o) (hc : o.cls = .type "tuple") (hd : o.data = .seq items n) (hi : ∀ v ∈ items.toList, ∃ c, v = Value.bool c) (h : Q true s) :
    wpAny (model P w) A (hashByValue 8 (.ref b)) Q E s := by
  have hT : s.TypeIs (.ref b) "tuple" := ⟨o, ho, hc⟩
  unfold hashByValue
  refine wpAny_bind (wpAny_specialOf hT PySem.F.slot_tuple_hash.lookup ?_)
  show wpAny _ _ (seqItems? (.ref b) >>= _) _ _ s
  refine wpAny_bind (wpAny_seqItems ho hd ?_)
  refine wpAny_bind ?_
  show wpAny _ _ (forIn items _ _) _ _ s
  rw [← Array.forIn_toList]
  refine wpAny_forIn_list _ (fun rest r s' => r.1 = none ∧ s' = s ∧ ∀ v ∈ rest, ∃ c, v = Value.bool c) _ ?_ ?_ _ _ ⟨rfl, rfl, hi⟩
  · rintro v rest r s' ⟨hr, rfl, hall⟩
    obtain ⟨c, rfl⟩ := hall v List.mem_cons_self
    rw [hashBy_bool]
    refine wpAny_bind (wpAny_pure ?_)
    simp only [Bool.not_true, Bool.false_eq_true, if_false]
    exact wpAny_pure ⟨rfl, rfl, fun u hu' => hall u (List.mem_cons_of_mem _ hu')⟩
  · rintro ⟨r1, r2⟩ s' ⟨hr, rfl, _⟩
    simp only at hr
    subst hr
    exact wpAny_pure h
/-- the set at a, by its hashes in the table's order -/
structure SB (w : World) (h : Heap) (a : Addr) (hs : List Int) (es : Array (Int × Value)) (ep : Nat) (t : SetTable) : Prop where
  ob : ∃ o, h.get? a = some o ∧ o.ExactSet ∧ o.data = .set es ep t
  rows : es.toList.map (·.1) = hs
  tab : TabOk t hs
  plain : t.plain = true
  led : w.params.followText "set-order" = true ∨ t.led = true
  room : hs.length * 5 < t.mask * 3
  few : hs.length < 64
theorem SB.size {h : Heap} {a : Addr} {hs : List Int} {es : Array (Int × Value)} {ep : Nat} {t : SetTable} (R : SB w h a hs es ep t) : es.size = hs.length := by
  have h := congrArg List.length R.rows
  rw [List.length_map, Array.length_toList] at h
  exact h
theorem SB.fits {h : Heap} {a : Addr} {hs : List Int} {es : Array (Int × Value)} {ep : Nat} {t : SetTable} (R : SB w h a hs es ep t) : t.fits es.size = true := by
  have h1 := R.tab.sz
  have h2 := R.size
  have h3 := R.room
  unfold SetTable.fits SetTable.fill
  rw [R.tab.dm, Bool.and_eq_true, beq_iff_eq, decide_eq_true_eq]
  show t.place.size = es.size ∧ t.place.size + 0 ≤ t.mask
  omega
theorem SB.at {h h' : Heap} {a : Addr} {hs : List Int} {es : Array (Int × Value)} {ep : Nat} {t : SetTable} (R : SB w h a hs es ep t) (k : ∀ o, h.get? a = some o → h'.get? a = some o) : SB w h' a hs es ep t :=
  ⟨let ⟨o, ho, r⟩ := R.ob; ⟨o, k o ho, r⟩, R.rows, R.tab, R.plain, R.led, R.room, R.few⟩
theorem sb_fresh {h : Heap} {a : Addr} (ho : h.get? a = some (freshSet w)) : SB w h a [] #[] 0 (.fresh 0 0 (!w.params.followText "set-order")) where
  ob := ⟨_, ho, ⟨rfl, rfl, rfl⟩, rfl⟩
  rows := rfl
  tab := ⟨List.Pairwise.nil, rfl, rfl, .inl rfl, fun x hx => (by cases hx), fun i h j hi => (by simp at hi)⟩
  plain := rfl
  led := by
    show _ ∨ (!w.params.followText "set-order") = true
    cases w.params.followText "set-order"
    · exact .inr rfl
    · exact .inl rfl
  room := by
    show 0 * 5 < 7 * 3
    decide
  few := by
    show 0 < 64
    decide
theorem sb_search {a : Addr} {hs : List Int} {es : Array (Int × Value)} {ep : Nat} {t : SetTable} (R : SB w s.heap a hs es ep t) {x : Value} {h : Int} (hn : h ∉ hs) {Q : SetFound → Shared → Prop}
    (hout : ∀ K, way t.mask h K ∉ t.place.toList → (∀ c, c < K → way t.mask h c ∈ t.place.toList) → Q (.free (way t.mask h K) false) s) :
    wpAny (model P w) A (setSearch a x h true) Q E s := by
  have hroom := R.room
  obtain ⟨o, ho, hex, hd⟩ := R.ob
  obtain ⟨K, hKf, hK, hKb⟩ := R.tab.first (by omega) h
  unfold setSearch
  rw [show (100000 : Nat) = 99999 + 1 from rfl, setSearchFrom_succ]
  refine wpAny_bind (wpAny_setState_of ho hd R.fits ?_)
  dsimp only
  have gw : ¬ t.gaveWay = true := by
    unfold SetTable.gaveWay
    rw [mask_odd R.tab.mok]
    decide
  refine wp_if_neg gw ?_
  try refine wpAny_bind (wpAny_pure ?_)
  have hashAt : ∀ (i : Nat) (g : Int), hs[i]? = some g → (fun i => (es[i]?.map (·.1)).getD 0) i = g := fun i g hg => by
    have e : (es.toList.map (·.1))[i]? = some g := by rw [R.rows]; exact hg
    rw [List.getElem?_map, Array.getElem?_toList] at e
    show (es[i]?.map (·.1)).getD 0 = g
    rw [e] <;> rfl
  rcases go_spec t R.tab.ris R.tab.dm (fun i => (es[i]?.map (·.1)).getD 0) h (10 * SetTable.turns t.mask) K (runAt t.mask (SetTable.bits h % (t.mask + 1)) (SetTable.bits h)) rfl hKf (fun k hk => hKb k hk) hK with ⟨q, i, hq, hi, hh, _, _⟩ | ⟨hno, hpr⟩
  · exfalso
    have hil : i < hs.length := by
      have h1 : i < t.place.toList.length := (List.getElem?_eq_some_iff.mp hi).1
      have h2 := R.tab.sz
      rw [Array.length_toList] at h1
      omega
    have e := hashAt i hs[i] (List.getElem?_eq_getElem hil)
    have e2 : h = hs[i] := hh.symm.trans e
    exact hn (by rw [e2]; exact List.getElem_mem hil)
  · have hpr' : t.probe (fun i => (es[i]?.map (·.1)).getD 0) h ((none : Option SetTable.Probe).getD (t.probeStart h)) = some (.empty (way t.mask h K) none) := hpr
    rw [hpr']
    dsimp only
    exact wpAny_pure (hout K hK hKb)
theorem perm_put {α : Type} (L : List α) (p : Nat) (x : α) : (L.take p ++ x :: L.drop p).Perm (x :: L) := by
  have h : (L.take p ++ x :: L.drop p).Perm (x :: (L.take p ++ L.drop p)) := List.perm_middle
  rw [List.take_append_drop] at h
  exact h
theorem range_getD {α : Type} (d : α) : ∀ l : List α, (List.range l.length).map (fun i => l.getD i d) = l := by
  intro l
  refine List.ext_getElem? fun j => ?_
  rw [List.getElem?_map]
  by_cases hj : j < l.length
  · rw [List.getElem?_range hj, List.getElem?_eq_getElem hj]
    simp [List.getD_eq_getElem?_getD, hj]
  · rw [List.getElem?_eq_none (by simpa using hj), List.getElem?_eq_none (by omega)]
    rfl
theorem sb_relay {a : Addr} {o : Obj} {hs : List Int} {es : Array (Int × Value)} {ep : Nat} {t : SetTable} (ho : s.heap.get? a = some o) (hex : o.ExactSet) (hd : o.data = .set es ep t) (hrows : es.toList.map (·.1) = hs) (hsz : t.place.size = es.size) (hdm : t.dummies = #[]) (hfl : es.size ≤ t.mask)
    (pl : t.plain = true) (ld : w.params.followText "set-order" = true ∨ t.led = true) (few : hs.length < 64) {wanted M : Nat}
    (hw : SetTable.sizeAbove wanted - 1 = M) (hM : MaskOk M) (hw2 : SetTable.sizeAbove wanted ≤ 128) (hn : hs.length * 5 < M * 3) {Q : Unit → Shared → Prop}
    (hQ : ∀ h' hs' es' ep' t', Heap.SameBut a s.heap h' → SB w h' a hs' es' ep' t' → hs'.Perm hs → Q () { s with heap := h' }) : wpAny (model P w) A (setRelay a wanted) Q E s := by
  have hsl : es.size = hs.length := by
    have h := congrArg List.length hrows
    rw [List.length_map, Array.length_toList] at h
    exact h
  have hfits : t.fits es.size = true := by
    unfold SetTable.fits SetTable.fill
    rw [hdm, Bool.and_eq_true, beq_iff_eq, decide_eq_true_eq]
    show t.place.size = es.size ∧ t.place.size + 0 ≤ t.mask
    omega
  obtain ⟨t', order, e, hp, T, em, el, ep', ed⟩ := relaid_ok t (hs := es.map (·.1)) (wanted := wanted) hw hM (by rw [Array.size_map, hsl]; omega)
  rw [Array.size_map, hsl] at hp
  have hgd : ∀ i, (es.map (·.1)).getD i 0 = hs.getD i 0 := fun i => by
    rw [← hrows]
    simp [Array.getD_eq_getD_getElem?, List.getD_eq_getElem?_getD]
  have r1 : (order.filterMap (es[·]?)).toList.map (·.1) = order.toList.map fun i => (es.map (·.1)).getD i 0 := by
    have key : ∀ l : List Nat, (∀ i ∈ l, i < es.size) → (l.filterMap (fun i => es[i]?)).map (·.1) = l.map fun i => (es.map (·.1)).getD i 0 := by
      intro l
      induction l with
      | nil => intro _; rfl
      | cons i l ih =>
        intro hl
        have hi := hl i List.mem_cons_self
        rw [List.filterMap_cons_some (Array.getElem?_eq_getElem hi), List.map_cons, List.map_cons, ih fun j hj => hl j (List.mem_cons_of_mem _ hj)]
        congr 1
        simp [Array.getD_eq_getD_getElem?, hi]
    have z := key order.toList fun i hi => by rw [hsl]; exact List.mem_range.mp (hp.mem_iff.mp hi)
    rw [Array.toList_filterMap]
    exact z
  have pm : (order.toList.map fun i => (es.map (·.1)).getD i 0).Perm hs := by
    have z := hp.map fun i => hs.getD i 0
    rw [range_getD] at z
    rw [show (fun i => (es.map (·.1)).getD i 0) = fun i => hs.getD i 0 from funext hgd]
    exact z
  have hs2 : (order.filterMap (es[·]?)).size = es.size := by
    have h := congrArg List.length r1
    rw [List.length_map, Array.length_toList, pm.length_eq] at h
    rw [h, hsl]
  rw [setRelay_eq]
  refine wpAny_bind (wpAny_setState_of ho hd hfits ?_)
  dsimp only
  refine wp_if_neg (by rw [sizeLine_eq]; omega) ?_
  try refine wpAny_bind (wpAny_pure ?_)
  rw [e]
  dsimp only
  refine wpAny_bind ?_
  refine wp_if_neg (by rw [hs2]; simp) ?_
  try refine wpAny_bind (wpAny_pure ?_)
  refine wpAny_pure ?_
  dsimp only
  refine wpAny_storeSet_of ho hd ?_ (by rw [hs2, hsl, sizeLine_eq]; omega)
  have sb : Heap.SameBut a s.heap (s.heap.update a (Obj.putSet (order.filterMap (es[·]?)) t')) := Heap.SameBut.update ..
  exact hQ _ _ (order.filterMap (es[·]?)) (ep + 1) t' sb ⟨⟨_, store_at ho hd, ⟨hex.1, hex.2.1, hex.2.2⟩, rfl⟩, r1, T, by rw [ep']; exact pl, by rw [el]; exact ld, by rw [pm.length_eq, em]; exact hn, by rw [pm.length_eq]; exact few⟩ pm
theorem sb_add {a : Addr} {hs : List Int} {es : Array (Int × Value)} {ep : Nat} {t : SetTable} (R : SB w s.heap a hs es ep t) {x : Addr} {h : Int} {ob : Obj} {items : Array Value} {n : Nat} (hn : h ∉ hs) (hxo : s.heap.get? x = some ob) (hxc : ob.cls = .type "tuple") (hxd : ob.data = .seq items n) (hxi : ∀ v ∈ items.toList, ∃ c, v = Value.bool c)
    (hfew : hs.length + 1 < 64) {Q : Bool → Shared → Prop}
    (hQ : ∀ b h' hs' es' ep' t', Heap.SameBut a s.heap h' → SB w h' a hs' es' ep' t' → hs'.Perm (h :: hs) → Q b { s with heap := h' }) :
    wpAny (model P w) A (setAddHashed a (.ref x) h) Q E s := by
  obtain ⟨o, ho, hex, hd⟩ := R.ob
  have hsl := R.size
  have hroom := R.room
  unfold setAddHashed
  refine wpAny_holding ?_
  rw [show (100000 : Nat) = 99999 + 1 from rfl, setAddHashedIn_succ]
  refine wpAny_bind (wpAny_setState_of ho hd R.fits ?_)
  dsimp only
  refine wp_if_neg (by simp [byScan, Value.scannable]) ?_
  try refine wpAny_bind (wpAny_pure ?_)
  refine wpAny_bind (sb_search R hn fun K hK hb => ?_)
  dsimp only
  refine wpAny_bind (wpAny_setState_of ho hd R.fits ?_)
  dsimp only
  obtain ⟨q1, q2, q3, q4, q5, q6, q7, q8, q9⟩ := R.tab.put hK hb
  have hp1 : (t.put (way t.mask h K)).1.plain = true := by rw [q6]; exact R.plain
  generalize hpt : t.put (way t.mask h K) = pt at q1 q3 q4 q5 q6 q7 q8 q9 hp1 ⊢
  obtain ⟨t1, p⟩ := pt
  dsimp only at q1 q3 q4 q5 q6 q7 q8 q9 hp1 ⊢
  subst q1
  first
    | (refine wpAny_bind ?_; refine wp_if_pos hp1 ?_; refine hashBy_bt hxo hxc hxd hxi ?_)
    | refine wp_if_pos hp1 (wpAny_bind (hashBy_bt hxo hxc hxd hxi ?_))
  simp only [if_true]
  have hin : (SetTable.insertAt es (SetTable.below t.place (way t.mask h K)) (h, Value.ref x)).toList.map (·.1) = hs.take (SetTable.below t.place (way t.mask h K)) ++ h :: hs.drop (SetTable.below t.place (way t.mask h K)) := by
    rw [SetTable.toList_insertAt, List.map_append, List.map_cons, List.map_take, List.map_drop, R.rows]
  generalize hpp : SetTable.below t.place (way t.mask h K) = p at q2 q3 hin ⊢
  have pm := perm_put hs p h
  have hlen : (hs.take p ++ h :: hs.drop p).length = hs.length + 1 := pm.length_eq
  have hes : (SetTable.insertAt es p (h, Value.ref x)).size = hs.length + 1 := by
    have h := congrArg List.length hin
    rw [List.length_map, Array.length_toList, hlen] at h
    exact h
  generalize SetTable.insertAt es p (h, Value.ref x) = es1 at hin hes ⊢
  generalize hs.take p ++ h :: hs.drop p = L1 at pm hlen q3 hin
  refine wpAny_bind (wpAny_storeSet_of ho hd ?_ (by rw [hes, sizeLine_eq]; omega))
  have sb : Heap.SameBut a s.heap (s.heap.update a (Obj.putSet es1 t1)) := Heap.SameBut.update ..
  have ho1 := store_at (es' := es1) (t' := t1) ho hd
  generalize s.heap.update a (Obj.putSet es1 t1) = h1 at sb ho1 ⊢
  have ld1 : w.params.followText "set-order" = true ∨ t1.led = true := by rw [q5]; exact R.led
  by_cases hf : t1.tooFull = true
  · first
      | (refine wpAny_bind ?_; refine wp_if_pos (by simp [hf]) ?_)
      | (refine wp_if_pos (by simp [hf]) ?_; refine wpAny_bind ?_)
    have hfull : (hs.length + 1) * 5 ≥ t1.mask * 3 := by
      have h := hf
      unfold SetTable.tooFull at h
      rw [decide_eq_true_eq, q9] at h
      exact h
    rw [hsl]
    have hsz1 : t1.place.size = es1.size := by
      have h := q3.sz
      rw [hlen] at h
      rw [h, hes]
    have cases2 : (t.mask = 7 ∧ hs.length = 4) ∨ (t.mask = 31 ∧ hs.length = 18) := by
      rcases R.tab.mok with e | e | e
      · left; rw [q4, e] at hfull; rw [e] at hroom; exact ⟨e, by omega⟩
      · right; rw [q4, e] at hfull; rw [e] at hroom; exact ⟨e, by omega⟩
      · exfalso; rw [q4, e] at hfull; omega
    have go : ∀ M, SetTable.sizeAbove (SetTable.grown (hs.length + 1)) - 1 = M → MaskOk M → SetTable.sizeAbove (SetTable.grown (hs.length + 1)) ≤ 128 → (hs.length + 1) * 5 < M * 3 →
        wpAny (model P w) A (setRelay a (SetTable.grown (hs.length + 1))) (fun _ s' => wpAny (model P w) A (pure true) Q E s') E { s with heap := h1 } := fun M h1' h2' h3' h4' => by
      refine sb_relay (s := { s with heap := h1 }) ho1 ⟨hex.1, hex.2.1, hex.2.2⟩ rfl hin hsz1 q3.dm (by rw [hes, q4]; rcases cases2 with ⟨e, e2⟩ | ⟨e, e2⟩ <;> omega) hp1 ld1 (by rw [hlen]; exact hfew) h1' h2' h3' (by rw [hlen]; exact h4') ?_
      intro h2 L2 es2 ep2 t2 sb2 R2 pm2
      exact wpAny_pure (hQ true h2 L2 es2 ep2 t2 (sb.trans sb2) R2 (pm2.trans pm))
    rcases cases2 with ⟨_, e2⟩ | ⟨_, e2⟩
    · refine go 31 (by rw [e2, size_20]) (.inr (.inl rfl)) (by rw [e2, size_20]; decide) (by omega)
    · refine go 127 (by rw [e2, size_76]) (.inr (.inr rfl)) (by rw [e2, size_76]; decide) (by omega)
  · first
      | refine wp_if_neg (by simp [hf]) ?_
      | (refine wpAny_bind ?_; refine wp_if_neg (by simp [hf]) ?_; refine wpAny_pure ?_)
    refine wpAny_pure (hQ true h1 L1 es1 (ep + 1) t1 sb ⟨⟨_, ho1, ⟨hex.1, hex.2.1, hex.2.2⟩, rfl⟩, hin, q3, hp1, ld1, ?_, by rw [hlen]; exact hfew⟩ pm)
    have h := hf
    unfold SetTable.tooFull at h
    rw [decide_eq_true_eq, q9] at h
    rw [hlen]
    omega
end
/-- a set of n things -/
def SetNO (w : World) (a : Addr) (n : Nat) : HO := .ext fun h => ∃ hs es ep t, SB w h a hs es ep t ∧ hs.length = n
section
variable {X : Cx}
def rSetB (K : PySem.W.Frag) (w : World) : List V → Hp → VK → Prop := fun xs H Q => ∃ (l : Addr) (rows : List (Addr × List Bool)), xs = [V.ref l] ∧ SqL K H l (rows.map fun p => V.ref p.1) ∧ (∀ p ∈ rows, SqT K H p.1 (p.2.map V.bl)) ∧ rows.length < 64 ∧ (rows.map fun p : Addr × List Bool => hashB p.2).Nodup ∧
  ∀ a, H a = none → Q (.ref a) (upd H a (SetNO w a rows.length))
theorem refs_of : ∀ {rows : List (Addr × List Bool)} {us : List Value}, Vals (rows.map fun p => V.ref p.1) us → us = rows.map fun p => Value.ref p.1
  | [], _, r => by
    rw [List.map_nil] at r
    cases r
    rfl
  | p :: rows, _, r => by
    rw [List.map_cons] at r
    cases r with
    | cons r1 r2 =>
      rw [List.map_cons, refs_of r2]
      cases r1
      rfl
theorem cr_setB (hc : X.calm = true) (hu : X.A.units + 64 < cLine) : CallR X (.type "set") (rSetB X.K X.w) := by
  intro pins s σ H xs us Q I r hyp
  obtain ⟨l, rows, rfl, hl, hk, hz, hnd, q⟩ := hyp
  rw [Vals.ref1 r]
  obtain ⟨its, rv, pl, _⟩ := I.list hl
  have hi := refs_of rv
  have hlen : its.length = rows.length := by rw [hi, List.length_map]
  have hn : H s.heap.objs.size = none := I.hok.fresh (Nat.le_refl _)
  have esz : its.toArray.size = rows.length := by rw [List.size_toArray]; exact hlen
  refine call_setL (P := X.prog) (w := X.w) (I.ok.hd hc) pl.isList (fun i h => ∃ hs es ep t, SB X.w h s.heap.objs.size hs es ep t ∧ hs.Perm ((rows.take i).map fun p : Addr × List Bool => hashB p.2)) (fun h hf _ => ⟨_, _, _, _, sb_fresh hf, List.Perm.refl _⟩)
    (fun i h h' ⟨hs, es, ep, t, R, pm⟩ ho _ => ⟨hs, es, ep, t, R.at ho, pm⟩) (fun i v s' E Q' hv ⟨hs, es, ep, t, R, pm⟩ hk' hq => ?_) fun h' tk ⟨hs, es, ep, t, R, pm⟩ hk' => ?_
  · have hi2 : i < rows.length := by
      have z := (Array.getElem?_eq_some_iff.mp hv).1
      rw [List.size_toArray] at z
      omega
    have hp : rows[i]? = some rows[i] := List.getElem?_eq_getElem hi2
    generalize hpe : rows[i] = p at hp
    have ev : v = .ref p.1 := by
      rw [hi] at hv
      have z : (rows.map fun p => Value.ref p.1)[i]? = some v := by simpa using hv
      rw [List.getElem?_map, hp] at z
      exact (Option.some.inj z).symm
    subst ev
    obtain ⟨itp, rp, ⟨op, hop, hcp, np, hdp⟩, _⟩ := I.tuple (hk p (List.mem_of_getElem? hp))
    have hop' := hk' _ _ hop
    have hit : ∀ v ∈ itp.toArray.toList, ∃ c, v = Value.bool c := fun v hv => bools_items rp v (by simpa using hv)
    have hnot : hashB p.2 ∉ hs := fun hm => by
      have h1 := pm.mem_iff.mp hm
      obtain ⟨q1, hq1, e1⟩ := List.mem_map.mp h1
      obtain ⟨j, hj, ej⟩ := List.getElem_of_mem hq1
      rw [List.length_take] at hj
      have hj2 : j < rows.length := by omega
      have e2 : (rows.map fun p : Addr × List Bool => hashB p.2)[j]? = (rows.map fun p : Addr × List Bool => hashB p.2)[i]? := by
        rw [List.getElem?_map, List.getElem?_map, hp, List.getElem?_eq_getElem hj2]
        show some (hashB rows[j].2) = some (hashB p.2)
        rw [← e1, ← ej, List.getElem_take]
      have e3 := (List.getElem?_inj (by rw [List.length_map]; exact hj2) hnd).mp e2
      omega
    unfold setAdd
    refine wpAny_holding ?_
    refine wpAny_bind (pyHash_key (keyB p.2) _ _ _ _ (.tup hop' hcp hdp (all_bools _ rp)) (by rw [keyB_depth]; show X.A.units + 1 + 1 + 1 + 1 < cLine; omega) ?_)
    rw [hash_keyB]
    have hzl : hs.length ≤ rows.length := by
      rw [pm.length_eq, List.length_map, List.length_take]
      omega
    refine sb_add (s := { s' with toks := s'.toks + (keyB p.2).draws }) R hnot hop' hcp hdp hit ?_ fun b h' hs' es' ep' t' hsb R2 pm2 => ?_
    · have : hs.length = i := by rw [pm.length_eq, List.length_map, List.length_take]; omega
      omega
    · refine hq _ h' (s'.toks + (keyB p.2).draws) (Nat.le_add_right _ _) hsb ⟨hs', es', ep', t', R2, pm2.trans ?_⟩
      rw [List.take_add_one, hp, List.map_append]
      exact ((pm.cons (hashB p.2))).trans (List.perm_append_singleton _ _).symm
  · rw [esz, List.take_length] at pm
    have hz2 : hs.length = rows.length := by rw [pm.length_eq, List.length_map]
    refine ⟨.ref s.heap.objs.size, upd H s.heap.objs.size (SetNO X.w s.heap.objs.size rows.length), I.laid (t' := tk) hk' (Nat.le_refl _) ?_, rfl, q _ hn⟩
    refine ⟨⟨hs, es, ep, t, R, hz2⟩, let ⟨o, ho, _⟩ := R.ob; ⟨o, ho⟩, fun h1 h2 ⟨hs, es, ep, t, R, e⟩ st => ⟨hs, es, ep, t, R.at fun o ho => st o ho, e⟩⟩
def rLenSetN (w : World) : List V → Hp → VK → Prop := fun xs H Q => ∃ (a : Addr) (n : Nat), xs = [V.ref a] ∧ H a = some (SetNO w a n) ∧ n < 64 ∧ Q (.int n) H
theorem cr_lenSetN : CallR X (.builtin "len") (rLenSetN X.w) := by
  intro pins s σ H xs us Q I r hyp
  obtain ⟨a, n, rfl, ha, hz, q⟩ := hyp
  rw [Vals.ref1 r]
  obtain ⟨⟨hs, es, ep, t, R, e⟩, _⟩ := I.hok a _ ha
  obtain ⟨o, ho, hex, hd⟩ := R.ob
  exact call_len_set ho hex hd R.fits (by rw [R.size, e]; omega) ⟨.int n, H, I.tok _, ⟨_, by rw [R.size, e]⟩, q⟩
end
end QT
set_option Elab.async false
set_option linter.all false
set_option maxRecDepth 100000
set_option maxHeartbeats 4000000
namespace QT
open HT
/-! the mirror: what each def computes, over lists of ints -/
def ins (x : Int) : List Int → List Int
  | [] => [x]
  | y :: ys => if x ≤ y then x :: y :: ys else y :: ins x ys
def srt : List Int → List Int
  | [] => []
  | x :: xs => ins x (srt xs)
def insU (x : Int) : List Int → List Int
  | [] => [x]
  | y :: ys => if x < y then x :: y :: ys else if x = y then y :: ys else y :: insU x ys
/-- sorted(set(l)), ints -/
def isort : List Int → List Int
  | [] => []
  | x :: xs => insU x (isort xs)
def insL (x : List Int) : List (List Int) → List (List Int)
  | [] => [x]
  | y :: ys => if lexLt x y = true then x :: y :: ys else if lexLt y x = true then y :: insL x ys else y :: ys
/-- sorted(set(l)), tuples of ints -/
def lsort : List (List Int) → List (List Int)
  | [] => []
  | x :: xs => insL x (lsort xs)
/-- heap_options: what one digit gives -/
def optD (size : Int) (i : Nat) (digit : Int) : List (List Int) :=
  (if size - i - 1 = 0 ∧ digit % 2 = 1 then [[]] else []) ++ (if size - i - 1 > 0 ∧ digit / 2 % 2 = 1 then [[size - i - 1]] else []) ++
    (if digit ≥ 4 then (List.range ((size - i - 1) / 2).toNat).map fun j : Nat => [(j : Int) + 1, size - i - 1 - ((j : Int) + 1)] else [])
def optK (size : Int) : Nat → List Int → List (List Int)
  | _, [] => []
  | i, d :: ds => optD size i d ++ optK size (i + 1) ds
def optsM (rule : List Int) (size : Int) : List (List Int) := lsort (optK size 0 rule)
def movesM (rule : List Int) (most : Nat) : List (List (List Int)) := (List.range (most + 1)).map fun s : Nat => optsM rule (s : Int)
structure Cf where
  most : Nat
  mv : List (List (List Int))
  table : List (List Int)
  lost : List Int
  images : List Int
def tb (t : List (List Int)) (a b : Int) : Int := (t.getD a.toNat []).getD b.toNat 0
def img (t : List (List Int)) (im : List Int) (h : List Int) : Int := h.foldl (fun f s => tb t f (im.getD (s - 1).toNat 0)) 0
def sizes (m : Nat) : List Int := (List.range m).map fun i : Nat => (i : Int) + 1
def vOk (m : Nat) (h : List Int) : Bool := h.all (fun x => decide (1 ≤ x) && decide (x ≤ (m : Int))) && decide (h.sum ≤ 28)
def opt (mv : List (List (List Int))) (h : List Int) (i : Nat) : List (List Int) := (mv.getD (h.getD i 0).toNat []).map fun rest => srt (h.take i ++ h.drop (i + 1) ++ rest)
def opts (mv : List (List (List Int))) (h : List Int) : Nat → List (List Int)
  | 0 => []
  | i + 1 => opts mv h i ++ opt mv h i
def sgn (L : List Int → Bool) (tests : List (List Int)) (h : List Int) : List Bool := tests.map fun t => L (srt (h ++ t))
def sgOk (m : Nat) (tests : List (List Int)) (h : List Int) : Bool := tests.all fun t => vOk m (h ++ t)
abbrev Pl := List (List Bool × Int)
def lkP : Pl → List Bool → Option Int
  | [], _ => none
  | p :: ps, k => if p.1 = k then some p.2 else lkP ps k
def spIn (L : List Int → Bool) (m : Nat) (tests : List (List Int)) : List (List Int) → List (List Int) → Pl → List (List Int) → Option (List (List Int) × Pl × List (List Int))
  | [], reps, pl, layer => some (reps, pl, layer)
  | h :: later, reps, pl, layer => if sgOk m tests h = true ∧ reps.length < 50 then
      (match lkP pl (sgn L tests h) with
      | some _ => spIn L m tests later reps pl layer
      | none => spIn L m tests later (reps ++ [h]) (pl ++ [(sgn L tests h, (reps.length : Int))]) (layer ++ [h]))
    else none
def nextL (m : Nat) (layer : List (List Int)) : List (List Int) := lsort (layer.flatMap fun h => (sizes m).map fun s => srt (h ++ [s]))
def spreadM (L : List Int → Bool) (m : Nat) (tests : List (List Int)) : Nat → List (List Int) → Pl → List (List Int) → Option (List (List Int) × Pl)
  | 0, _, _, _ => none
  | f + 1, reps, pl, layer => if layer.isEmpty = true then some (reps, pl) else if layer.length < 20 then
      (match spIn L m tests (nextL m layer) reps pl [] with
      | some (reps2, pl2, layer2) => spreadM L m tests f reps2 pl2 layer2
      | none => none)
    else none
def placeM (L : List Int → Bool) (m : Nat) (tests : List (List Int)) (pl : Pl) (h : List Int) : Option Int := if sgOk m tests h = true then lkP pl (sgn L tests h) else none
def mapM' {α β : Type} (f : α → Option β) : List α → Option (List β)
  | [] => some []
  | x :: xs => match f x with
    | none => none
    | some y => match mapM' f xs with
      | none => none
      | some ys => some (y :: ys)
def tableM (L : List Int → Bool) (m : Nat) (tests reps : List (List Int)) (pl : Pl) : Option (List (List Int)) := mapM' (fun one => mapM' (fun other => placeM L m tests pl (srt (one ++ other))) reps) reps
/-- is_table, where it says yes -/
def tabOk (t : List (List Int)) : Bool :=
  decide (1 ≤ t.length) && decide (t.length ≤ 20) && t.all (fun r => decide (r.length = t.length) && r.all fun x => decide (0 ≤ x) && decide (x < (t.length : Int))) &&
    decide (t.getD 0 [] = (List.range t.length).map fun i : Nat => (i : Int)) &&
    (List.range t.length).all fun a => (List.range t.length).all fun b => decide (tb t a b = tb t b a) && (List.range t.length).all fun c => decide (tb t (tb t a b) c = tb t a (tb t b c))
def shOk (m : Nat) (t : List (List Int)) (lost images : List Int) : Bool :=
  tabOk t && decide (images.length = m) && decide (lost.length ≤ 20) && lost.all (fun x => decide (0 ≤ x) && decide (x < (t.length : Int))) && images.all (fun x => decide (0 ≤ x) && decide (x < (t.length : Int))) &&
    (List.range (lost.length - 1)).all fun i => decide (lost.getD i 0 < lost.getD (i + 1) 0)
abbrev Ent := (Int × List Int) × List Int
def lkE : List Ent → Int × List Int → Option (List Int)
  | [], _ => none
  | e :: es, k => if e.1 = k then some e.2 else lkE es k
def stepsM (mv : List (List (List Int))) (t : List (List Int)) (im : List Int) (m : Nat) : List (Int × List Int) := (sizes m).map fun s => (im.getD (s - 1).toNat 0, isort ((mv.getD s.toNat []).map (img t im)))
def pairOf (t : List (List Int)) (image : Int) (behind : List Int) (st : Int × List Int) : Int × List Int := (tb t image st.1, isort (behind.map (fun one => tb t one st.1) ++ st.2.map fun one => tb t image one))
def pIn (t : List (List Int)) (image : Int) (behind hs : List Int) : Nat → List (Int × List Int) → List Ent → List Ent
  | _, [], es => es
  | i, st :: sts, es => match lkE es (pairOf t image behind st) with
    | some _ => pIn t image behind hs (i + 1) sts es
    | none => pIn t image behind hs (i + 1) sts (es ++ [(pairOf t image behind st, srt (hs ++ [(i : Int) + 1]))])
def pairsM (t : List (List Int)) (sts : List (Int × List Int)) : Nat → Nat → List Ent → Option (List Ent)
  | 0, _, _ => none
  | f + 1, i, es => if es.length < 50 then (match es[i]? with
      | none => some es
      | some e => pairsM t sts f (i + 1) (pIn t e.1.1 e.1.2 e.2 0 sts es))
    else none
def bad (lost : List Int) (e : Ent) : Bool := lost.contains e.1.1 != (!e.1.2.isEmpty && !e.1.2.any fun one => lost.contains one)
def faultM (lost : List Int) : List Ent → Option (List Int)
  | [] => none
  | e :: es => if bad lost e = true then some e.2 else faultM lost es
def partsM : List (List Int) → List Int → List (List Int)
  | found, [] => found
  | found, s :: h => partsM (lsort (found ++ found.map fun p => srt (p ++ [s]))) h
def partsOk : List (List Int) → List Int → Bool
  | _, [] => true
  | found, s :: h => decide (found.length < 20) && partsOk (lsort (found ++ found.map fun p => srt (p ++ [s]))) h
def widenM : List (List Int) → List (List Int) → List (List Int)
  | tests, [] => tests
  | tests, h :: more => if tests.contains h = true then widenM tests more else widenM (tests ++ [h]) more
abbrev Tr := List (List Int) × List Int × List Int
def lostAt (L : List Int → Bool) : Nat → List (List Int) → List Int
  | _, [] => []
  | i, h :: hs => if L h = true then (i : Int) :: lostAt L (i + 1) hs else lostAt L (i + 1) hs
def lostM (L : List Int → Bool) (reps : List (List Int)) : List Int := lostAt L 0 reps
def triedM (mv : List (List (List Int))) (L : List Int → Bool) (m : Nat) (tests reps : List (List Int)) (pl : Pl) : Option (Tr ⊕ List Int) :=
  match tableM L m tests reps pl with
  | none => none
  | some t => match mapM' (fun s => placeM L m tests pl [s]) (sizes m) with
    | none => none
    | some im => if tabOk t = true ∧ reps.all (vOk m) = true ∧ shOk m t [] im = true then
        (match pairsM t (stepsM mv t im m) 50 0 [((0, []), [])] with
        | none => none
        | some es => match faultM (lostM L reps) es with
          | none => some (.inl (t, lostM L reps, im))
          | some w => some (.inr w))
      else none
def quotM (mv : List (List (List Int))) (L : List Int → Bool) (m : Nat) : Nat → List (List Int) → Option Tr
  | 0, _ => none
  | f + 1, tests => match spreadM L m tests 30 [[]] [(sgn L tests [], 0)] [[]] with
    | none => none
    | some (reps, pl) => if sgOk m tests [] = true then (match triedM mv L m tests reps pl with
      | none => none
      | some (.inl r) => some r
      | some (.inr w) => if partsOk [[]] w = true ∧ tests.length < (widenM tests (partsM [[]] w)).length ∧ (widenM tests (partsM [[]] w)).length < 30 then quotM mv L m f (widenM tests (partsM [[]] w)) else none)
      else none
/-- the law's own lists -/
def longM (most : Nat) (told : List Int) : List (List Int) := (List.range (most + 1 - (told.getLast?.getD 1).toNat)).map fun i : Nat => told ++ [(told.getLast?.getD 1) + (i : Int)]
def listsM (most : Nat) : Nat → List (List Int) → List (List Int) → List (List Int)
  | 0, found, _ => found
  | f + 1, found, layer => listsM most f (found ++ layer.flatMap (longM most)) (layer.flatMap (longM most))
def seenM (t : List (List Int)) (im : List Int) : List (List Int) → Int → Option Int
  | [], k => some k
  | h :: hs, k => if 0 ≤ img t im h ∧ img t im h < k then seenM t im hs k else if img t im h = k then seenM t im hs (k + 1) else none
def rowB (lost : List Int) (r : List Int) : List Bool := r.map fun x => lost.contains x
def lawOk (c : Cf) : Bool := (match seenM c.table c.images (listsM c.most 6 [[]] [[]]) 0 with
    | none => false
    | some k => decide ((c.table.length : Int) ≤ k)) && decide ((c.table.map fun r => hashB (rowB c.lost r)).Nodup)
def clOk (t : List (List Int)) (lost : List Int) (sts : List (Int × List Int)) (es : List Ent) : Bool :=
  es.all fun e => sts.all (fun st => (lkE es (pairOf t e.1.1 e.1.2 st)).isSome) && !bad lost e
def Lo (c : Cf) (h : List Int) : Bool := c.lost.contains (img c.table c.images h)
def mvOk (c : Cf) : Bool := decide (c.mv.length = c.most + 1) && decide (c.most ≤ 3) && decide (1 ≤ c.most) && (c.mv.getD 0 []).isEmpty && (List.range (c.most + 1)).all (fun s => decide ((c.mv.getD s []).length ≤ 20)) &&
  (List.range (c.most + 1)).all fun s => (c.mv.getD s []).all fun rest => vOk c.most rest && decide (rest.sum < (s : Int)) && decide (rest.length ≤ 2)
def cfOk (c : Cf) : Bool := mvOk c && shOk c.most c.table c.lost c.images && lawOk c &&
  (match pairsM c.table (stepsM c.mv c.table c.images c.most) 50 0 [((0, []), [])] with
    | none => false
    | some es => clOk c.table c.lost (stepsM c.mv c.table c.images c.most) es && decide (c.table.length ≤ (isort (es.map fun e => e.1.1)).length) && (match faultM c.lost es with | none => true | some _ => false)) &&
  decide (quotM c.mv (Lo c) c.most 4 [[]] = some (c.table, c.lost, c.images))
def cfgs : List Cf := [
  ⟨1, [[], []], [[0]], [], [0]⟩,
  ⟨1, [[], [[]]], [[0, 1], [1, 0]], [1], [1]⟩,
  ⟨2, [[], [], []], [[0]], [], [0, 0]⟩,
  ⟨2, [[], [], [[]]], [[0, 1], [1, 0]], [1], [0, 1]⟩,
  ⟨2, [[], [], [[], [1]]], [[0, 1], [1, 0]], [1], [0, 1]⟩,
  ⟨2, [[], [], [[1]]], [[0, 1], [1, 0]], [1], [0, 1]⟩,
  ⟨2, [[], [[]], []], [[0, 1], [1, 0]], [1], [1, 0]⟩,
  ⟨2, [[], [[]], [[]]], [[0, 1], [1, 0]], [1], [1, 1]⟩,
  ⟨2, [[], [[]], [[], [1]]], [[0, 1, 2, 3, 4, 5], [1, 0, 3, 2, 5, 4], [2, 3, 4, 5, 2, 3], [3, 2, 5, 4, 3, 2], [4, 5, 2, 3, 4, 5], [5, 4, 3, 2, 5, 4]], [1, 4], [1, 2]⟩,
  ⟨2, [[], [[]], [[1]]], [[0, 1], [1, 0]], [1], [1, 0]⟩,
  ⟨3, [[], [], [], []], [[0]], [], [0, 0, 0]⟩,
  ⟨3, [[], [], [], [[]]], [[0, 1], [1, 0]], [1], [0, 0, 1]⟩,
  ⟨3, [[], [], [], [[], [1]]], [[0, 1], [1, 0]], [1], [0, 0, 1]⟩,
  ⟨3, [[], [], [], [[], [1], [1, 1]]], [[0, 1], [1, 0]], [1], [0, 0, 1]⟩,
  ⟨3, [[], [], [], [[], [1, 1]]], [[0, 1], [1, 0]], [1], [0, 0, 1]⟩,
  ⟨3, [[], [], [], [[1]]], [[0, 1], [1, 0]], [1], [0, 0, 1]⟩,
  ⟨3, [[], [], [], [[1], [1, 1]]], [[0, 1], [1, 0]], [1], [0, 0, 1]⟩,
  ⟨3, [[], [], [], [[1, 1]]], [[0, 1], [1, 0]], [1], [0, 0, 1]⟩,
  ⟨3, [[], [], [[]], []], [[0, 1], [1, 0]], [1], [0, 1, 0]⟩,
  ⟨3, [[], [], [[]], [[]]], [[0, 1], [1, 0]], [1], [0, 1, 1]⟩,
  ⟨3, [[], [], [[]], [[], [1]]], [[0, 1], [1, 0]], [1], [0, 1, 1]⟩,
  ⟨3, [[], [], [[]], [[], [1], [1, 1]]], [[0, 1], [1, 0]], [1], [0, 1, 1]⟩,
  ⟨3, [[], [], [[]], [[], [1, 1]]], [[0, 1], [1, 0]], [1], [0, 1, 1]⟩,
  ⟨3, [[], [], [[]], [[1]]], [[0, 1], [1, 0]], [1], [0, 1, 1]⟩,
  ⟨3, [[], [], [[]], [[1], [1, 1]]], [[0, 1], [1, 0]], [1], [0, 1, 1]⟩,
  ⟨3, [[], [], [[]], [[1, 1]]], [[0, 1], [1, 0]], [1], [0, 1, 1]⟩,
  ⟨3, [[], [], [[], [1]], [[], [1], [1, 1], [2]]], [[0, 1, 2, 3, 4, 5], [1, 0, 3, 2, 5, 4], [2, 3, 4, 5, 2, 3], [3, 2, 5, 4, 3, 2], [4, 5, 2, 3, 4, 5], [5, 4, 3, 2, 5, 4]], [1, 4], [0, 1, 2]⟩,
  ⟨3, [[], [], [[], [1]], [[], [1], [2]]], [[0, 1, 2, 3, 4, 5], [1, 0, 3, 2, 5, 4], [2, 3, 4, 5, 2, 3], [3, 2, 5, 4, 3, 2], [4, 5, 2, 3, 4, 5], [5, 4, 3, 2, 5, 4]], [1, 4], [0, 1, 2]⟩,
  ⟨3, [[], [], [[], [1]], [[], [1, 1], [2]]], [[0, 1, 2, 3, 4, 5], [1, 0, 3, 2, 5, 4], [2, 3, 4, 5, 2, 3], [3, 2, 5, 4, 3, 2], [4, 5, 2, 3, 4, 5], [5, 4, 3, 2, 5, 4]], [1, 4], [0, 1, 2]⟩,
  ⟨3, [[], [], [[], [1]], [[], [2]]], [[0, 1, 2, 3, 4, 5], [1, 0, 3, 2, 5, 4], [2, 3, 4, 5, 2, 3], [3, 2, 5, 4, 3, 2], [4, 5, 2, 3, 4, 5], [5, 4, 3, 2, 5, 4]], [1, 4], [0, 1, 2]⟩,
  ⟨3, [[], [], [[], [1]], [[1], [1, 1], [2]]], [[0, 1, 2, 3, 4, 5], [1, 0, 3, 2, 5, 4], [2, 3, 4, 5, 2, 3], [3, 2, 5, 4, 3, 2], [4, 5, 2, 3, 4, 5], [5, 4, 3, 2, 5, 4]], [1, 4], [0, 1, 2]⟩,
  ⟨3, [[], [], [[], [1]], [[1], [2]]], [[0, 1, 2, 3, 4, 5], [1, 0, 3, 2, 5, 4], [2, 3, 4, 5, 2, 3], [3, 2, 5, 4, 3, 2], [4, 5, 2, 3, 4, 5], [5, 4, 3, 2, 5, 4]], [1, 4], [0, 1, 2]⟩,
  ⟨3, [[], [], [[], [1]], [[1, 1], [2]]], [[0, 1, 2, 3, 4, 5], [1, 0, 3, 2, 5, 4], [2, 3, 4, 5, 2, 3], [3, 2, 5, 4, 3, 2], [4, 5, 2, 3, 4, 5], [5, 4, 3, 2, 5, 4]], [1, 4], [0, 1, 2]⟩,
  ⟨3, [[], [], [[], [1]], [[2]]], [[0, 1], [1, 0]], [1], [0, 1, 0]⟩,
  ⟨3, [[], [], [[1]], [[], [1], [1, 1], [2]]], [[0, 1, 2, 3, 4, 5], [1, 0, 3, 2, 5, 4], [2, 3, 4, 5, 2, 3], [3, 2, 5, 4, 3, 2], [4, 5, 2, 3, 4, 5], [5, 4, 3, 2, 5, 4]], [1, 4], [0, 1, 2]⟩,
  ⟨3, [[], [], [[1]], [[], [1], [2]]], [[0, 1, 2, 3, 4, 5], [1, 0, 3, 2, 5, 4], [2, 3, 4, 5, 2, 3], [3, 2, 5, 4, 3, 2], [4, 5, 2, 3, 4, 5], [5, 4, 3, 2, 5, 4]], [1, 4], [0, 1, 2]⟩,
  ⟨3, [[], [], [[1]], [[], [1, 1], [2]]], [[0, 1, 2, 3, 4, 5], [1, 0, 3, 2, 5, 4], [2, 3, 4, 5, 2, 3], [3, 2, 5, 4, 3, 2], [4, 5, 2, 3, 4, 5], [5, 4, 3, 2, 5, 4]], [1, 4], [0, 1, 2]⟩,
  ⟨3, [[], [], [[1]], [[], [2]]], [[0, 1, 2, 3, 4, 5], [1, 0, 3, 2, 5, 4], [2, 3, 4, 5, 2, 3], [3, 2, 5, 4, 3, 2], [4, 5, 2, 3, 4, 5], [5, 4, 3, 2, 5, 4]], [1, 4], [0, 1, 2]⟩,
  ⟨3, [[], [], [[1]], [[1], [1, 1], [2]]], [[0, 1, 2, 3, 4, 5], [1, 0, 3, 2, 5, 4], [2, 3, 4, 5, 2, 3], [3, 2, 5, 4, 3, 2], [4, 5, 2, 3, 4, 5], [5, 4, 3, 2, 5, 4]], [1, 4], [0, 1, 2]⟩,
  ⟨3, [[], [], [[1]], [[1], [2]]], [[0, 1, 2, 3, 4, 5], [1, 0, 3, 2, 5, 4], [2, 3, 4, 5, 2, 3], [3, 2, 5, 4, 3, 2], [4, 5, 2, 3, 4, 5], [5, 4, 3, 2, 5, 4]], [1, 4], [0, 1, 2]⟩,
  ⟨3, [[], [], [[1]], [[1, 1], [2]]], [[0, 1, 2, 3, 4, 5], [1, 0, 3, 2, 5, 4], [2, 3, 4, 5, 2, 3], [3, 2, 5, 4, 3, 2], [4, 5, 2, 3, 4, 5], [5, 4, 3, 2, 5, 4]], [1, 4], [0, 1, 2]⟩,
  ⟨3, [[], [], [[1]], [[2]]], [[0, 1], [1, 0]], [1], [0, 1, 0]⟩,
  ⟨3, [[], [[]], [], []], [[0, 1], [1, 0]], [1], [1, 0, 0]⟩,
  ⟨3, [[], [[]], [], [[]]], [[0, 1], [1, 0]], [1], [1, 0, 1]⟩,
  ⟨3, [[], [[]], [], [[], [1]]], [[0, 1, 2, 3, 4, 5], [1, 0, 3, 2, 5, 4], [2, 3, 4, 5, 2, 3], [3, 2, 5, 4, 3, 2], [4, 5, 2, 3, 4, 5], [5, 4, 3, 2, 5, 4]], [1, 4], [1, 0, 2]⟩,
  ⟨3, [[], [[]], [], [[], [1], [1, 1]]], [[0, 1, 2, 3, 4, 5], [1, 0, 3, 2, 5, 4], [2, 3, 4, 5, 2, 3], [3, 2, 5, 4, 3, 2], [4, 5, 2, 3, 4, 5], [5, 4, 3, 2, 5, 4]], [1, 4], [1, 0, 2]⟩,
  ⟨3, [[], [[]], [], [[], [1, 1]]], [[0, 1], [1, 0]], [1], [1, 0, 1]⟩,
  ⟨3, [[], [[]], [], [[1]]], [[0, 1], [1, 0]], [1], [1, 0, 0]⟩,
  ⟨3, [[], [[]], [], [[1], [1, 1]]], [[0, 1, 2, 3, 4, 5], [1, 0, 3, 2, 5, 4], [2, 3, 4, 5, 2, 3], [3, 2, 5, 4, 3, 2], [4, 5, 2, 3, 4, 5], [5, 4, 3, 2, 5, 4]], [1, 4], [1, 0, 2]⟩,
  ⟨3, [[], [[]], [], [[1, 1]]], [[0, 1], [1, 0]], [1], [1, 0, 1]⟩,
  ⟨3, [[], [[]], [[]], []], [[0, 1], [1, 0]], [1], [1, 1, 0]⟩,
  ⟨3, [[], [[]], [[]], [[]]], [[0, 1], [1, 0]], [1], [1, 1, 1]⟩,
  ⟨3, [[], [[]], [[]], [[], [1]]], [[0, 1, 2, 3, 4, 5], [1, 0, 3, 2, 5, 4], [2, 3, 4, 5, 2, 3], [3, 2, 5, 4, 3, 2], [4, 5, 2, 3, 4, 5], [5, 4, 3, 2, 5, 4]], [1, 4], [1, 1, 2]⟩,
  ⟨3, [[], [[]], [[]], [[], [1], [1, 1]]], [[0, 1, 2, 3, 4, 5], [1, 0, 3, 2, 5, 4], [2, 3, 4, 5, 2, 3], [3, 2, 5, 4, 3, 2], [4, 5, 2, 3, 4, 5], [5, 4, 3, 2, 5, 4]], [1, 4], [1, 1, 2]⟩,
  ⟨3, [[], [[]], [[]], [[], [1, 1]]], [[0, 1], [1, 0]], [1], [1, 1, 1]⟩,
  ⟨3, [[], [[]], [[]], [[1]]], [[0, 1], [1, 0]], [1], [1, 1, 0]⟩,
  ⟨3, [[], [[]], [[]], [[1], [1, 1]]], [[0, 1, 2, 3, 4, 5], [1, 0, 3, 2, 5, 4], [2, 3, 4, 5, 2, 3], [3, 2, 5, 4, 3, 2], [4, 5, 2, 3, 4, 5], [5, 4, 3, 2, 5, 4]], [1, 4], [1, 1, 2]⟩,
  ⟨3, [[], [[]], [[]], [[1, 1]]], [[0, 1], [1, 0]], [1], [1, 1, 1]⟩,
  ⟨3, [[], [[]], [[], [1]], [[], [1], [1, 1], [2]]], [[0, 1, 2, 3, 4, 5], [1, 0, 3, 2, 5, 4], [2, 3, 4, 5, 2, 3], [3, 2, 5, 4, 3, 2], [4, 5, 2, 3, 4, 5], [5, 4, 3, 2, 5, 4]], [1, 4], [1, 2, 3]⟩,
  ⟨3, [[], [[]], [[], [1]], [[], [1], [2]]], [[0, 1, 2, 3, 4, 5], [1, 0, 3, 2, 5, 4], [2, 3, 4, 5, 2, 3], [3, 2, 5, 4, 3, 2], [4, 5, 2, 3, 4, 5], [5, 4, 3, 2, 5, 4]], [1, 4], [1, 2, 3]⟩,
  ⟨3, [[], [[]], [[], [1]], [[], [1, 1], [2]]], [[0, 1, 2, 3, 4, 5], [1, 0, 3, 2, 5, 4], [2, 3, 4, 5, 2, 3], [3, 2, 5, 4, 3, 2], [4, 5, 2, 3, 4, 5], [5, 4, 3, 2, 5, 4]], [1, 4], [1, 2, 1]⟩,
  ⟨3, [[], [[]], [[], [1]], [[], [2]]], [[0, 1, 2, 3, 4, 5], [1, 0, 3, 2, 5, 4], [2, 3, 4, 5, 2, 3], [3, 2, 5, 4, 3, 2], [4, 5, 2, 3, 4, 5], [5, 4, 3, 2, 5, 4]], [1, 4], [1, 2, 1]⟩,
  ⟨3, [[], [[]], [[], [1]], [[1], [1, 1], [2]]], [[0, 1, 2, 3, 4, 5], [1, 0, 3, 2, 5, 4], [2, 3, 4, 5, 2, 3], [3, 2, 5, 4, 3, 2], [4, 5, 2, 3, 4, 5], [5, 4, 3, 2, 5, 4]], [1, 4], [1, 2, 3]⟩,
  ⟨3, [[], [[]], [[], [1]], [[1], [2]]], [[0, 1, 2, 3, 4, 5], [1, 0, 3, 2, 5, 4], [2, 3, 4, 5, 2, 3], [3, 2, 5, 4, 3, 2], [4, 5, 2, 3, 4, 5], [5, 4, 3, 2, 5, 4]], [1, 4], [1, 2, 0]⟩,
  ⟨3, [[], [[]], [[], [1]], [[1, 1], [2]]], [[0, 1, 2, 3, 4, 5], [1, 0, 3, 2, 5, 4], [2, 3, 4, 5, 2, 3], [3, 2, 5, 4, 3, 2], [4, 5, 2, 3, 4, 5], [5, 4, 3, 2, 5, 4]], [1, 4], [1, 2, 1]⟩,
  ⟨3, [[], [[]], [[], [1]], [[2]]], [[0, 1, 2, 3, 4, 5], [1, 0, 4, 5, 2, 3], [2, 4, 3, 2, 5, 4], [3, 5, 2, 3, 4, 5], [4, 2, 5, 4, 3, 2], [5, 3, 4, 5, 2, 3]], [1, 3], [1, 2, 3]⟩,
  ⟨3, [[], [[]], [[1]], [[], [1], [1, 1], [2]]], [[0, 1, 2, 3, 4, 5], [1, 0, 3, 2, 5, 4], [2, 3, 4, 5, 2, 3], [3, 2, 5, 4, 3, 2], [4, 5, 2, 3, 4, 5], [5, 4, 3, 2, 5, 4]], [1, 4], [1, 0, 2]⟩,
  ⟨3, [[], [[]], [[1]], [[], [1], [2]]], [[0, 1, 2, 3, 4, 5], [1, 0, 3, 2, 5, 4], [2, 3, 4, 5, 2, 3], [3, 2, 5, 4, 3, 2], [4, 5, 2, 3, 4, 5], [5, 4, 3, 2, 5, 4]], [1, 4], [1, 0, 2]⟩,
  ⟨3, [[], [[]], [[1]], [[], [1, 1], [2]]], [[0, 1], [1, 0]], [1], [1, 0, 1]⟩,
  ⟨3, [[], [[]], [[1]], [[], [2]]], [[0, 1], [1, 0]], [1], [1, 0, 1]⟩,
  ⟨3, [[], [[]], [[1]], [[1], [1, 1], [2]]], [[0, 1, 2, 3, 4, 5], [1, 0, 3, 2, 5, 4], [2, 3, 4, 5, 2, 3], [3, 2, 5, 4, 3, 2], [4, 5, 2, 3, 4, 5], [5, 4, 3, 2, 5, 4]], [1, 4], [1, 0, 2]⟩,
  ⟨3, [[], [[]], [[1]], [[1], [2]]], [[0, 1, 2, 3, 4, 5], [1, 0, 3, 2, 5, 4], [2, 3, 4, 5, 2, 3], [3, 2, 5, 4, 3, 2], [4, 5, 2, 3, 4, 5], [5, 4, 3, 2, 5, 4]], [1, 4], [1, 0, 2]⟩,
  ⟨3, [[], [[]], [[1]], [[1, 1], [2]]], [[0, 1], [1, 0]], [1], [1, 0, 1]⟩,
  ⟨3, [[], [[]], [[1]], [[2]]], [[0, 1], [1, 0]], [1], [1, 0, 1]⟩]
theorem cfgs_ok : (cfgs.all cfOk) = true := by decide +kernel
def rules : List (List Int) :=
  let d : List Int := [0, 1, 2, 3, 4, 5, 6, 7]
  let e : List Int := [1, 2, 3, 4, 5, 6, 7]
  e.map (fun z => [z]) ++ d.flatMap (fun x => e.map fun z => [x, z]) ++ d.flatMap (fun x => d.flatMap fun y => e.map fun z => [x, y, z])
theorem rules_ok : (rules.all fun r => [1, 2, 3].all fun m => cfgs.any fun c => decide (c.most = m) && decide (c.mv = movesM r m)) = true := by decide +kernel
end QT
set_option Elab.async false
set_option linter.all false
set_option maxRecDepth 100000
set_option maxHeartbeats 4000000
namespace QT
open HT
/-! sorting -/
theorem ins_perm (x : Int) : ∀ l, (ins x l).Perm (x :: l)
  | [] => List.Perm.refl _
  | y :: ys => by
    rw [ins]
    split
    · exact List.Perm.refl _
    · exact ((ins_perm x ys).cons y).trans (List.Perm.swap x y ys)
theorem ins_mem {x z : Int} {l : List Int} : z ∈ ins x l ↔ z = x ∨ z ∈ l := by
  rw [(ins_perm x l).mem_iff, List.mem_cons]
theorem ins_sorted {x : Int} : ∀ {l : List Int}, l.Pairwise (· ≤ ·) → (ins x l).Pairwise (· ≤ ·)
  | [], _ => by
    rw [ins]
    exact List.pairwise_singleton _ _
  | y :: ys, h => by
    have h1 := List.pairwise_cons.mp h
    rw [ins]
    split
    · rename_i c
      refine List.pairwise_cons.mpr ⟨fun z hz => ?_, h⟩
      rcases List.mem_cons.mp hz with e | e
      · rw [e]; exact c
      · have := h1.1 z e
        omega
    · rename_i c
      refine List.pairwise_cons.mpr ⟨fun z hz => ?_, ins_sorted h1.2⟩
      rcases ins_mem.mp hz with e | e
      · omega
      · exact h1.1 z e
theorem srt_perm : ∀ l, (srt l).Perm l
  | [] => List.Perm.refl _
  | x :: xs => (ins_perm x (srt xs)).trans ((srt_perm xs).cons x)
theorem srt_sorted : ∀ l, (srt l).Pairwise (· ≤ ·)
  | [] => List.Pairwise.nil
  | x :: xs => ins_sorted (srt_sorted xs)
theorem srt_uniq {l ns : List Int} (hp : l.Perm ns) (hs : l.Pairwise (· ≤ ·)) : l = srt ns :=
  List.Perm.eq_of_pairwise (fun a b _ _ h1 h2 => by omega) hs (srt_sorted ns) (hp.trans (srt_perm ns).symm)
theorem srt_congr {a b : List Int} (h : a.Perm b) : srt a = srt b := srt_uniq ((srt_perm a).trans h) (srt_sorted a)
theorem srt_of_sorted {a : List Int} (h : a.Pairwise (· ≤ ·)) : srt a = a := (srt_uniq (List.Perm.refl a) h).symm
theorem insU_mem {x z : Int} : ∀ {l : List Int}, z ∈ insU x l ↔ z = x ∨ z ∈ l
  | [] => by rw [insU]; simp
  | y :: ys => by
    rw [insU]
    split
    · simp
    · split
      · rename_i e
        subst e
        simp
      · rw [List.mem_cons, insU_mem, List.mem_cons]
        constructor
        · rintro (h | h | h)
          · exact .inr (.inl h)
          · exact .inl h
          · exact .inr (.inr h)
        · rintro (h | h | h)
          · exact .inr (.inl h)
          · exact .inl h
          · exact .inr (.inr h)
theorem insU_sorted {x : Int} : ∀ {l : List Int}, l.Pairwise (· < ·) → (insU x l).Pairwise (· < ·)
  | [], _ => by
    rw [insU]
    exact List.pairwise_singleton _ _
  | y :: ys, h => by
    have h1 := List.pairwise_cons.mp h
    rw [insU]
    split
    · rename_i c
      refine List.pairwise_cons.mpr ⟨fun z hz => ?_, h⟩
      rcases List.mem_cons.mp hz with e | e
      · rw [e]; exact c
      · have := h1.1 z e
        omega
    · split
      · exact h
      · refine List.pairwise_cons.mpr ⟨fun z hz => ?_, insU_sorted h1.2⟩
        rcases insU_mem.mp hz with e | e
        · omega
        · exact h1.1 z e
theorem isort_mem {z : Int} : ∀ {l : List Int}, z ∈ isort l ↔ z ∈ l
  | [] => Iff.rfl
  | x :: xs => by
    rw [isort, insU_mem, List.mem_cons, isort_mem]
theorem isort_sorted : ∀ l, (isort l).Pairwise (· < ·)
  | [] => List.Pairwise.nil
  | x :: xs => insU_sorted (isort_sorted xs)
theorem nodup_lt {l : List Int} (h : l.Pairwise (· < ·)) : l.Nodup := h.imp fun h => by omega
theorem isort_uniq {l ns : List Int} (hs : l.Pairwise (· < ·)) (hm : ∀ z, z ∈ l ↔ z ∈ ns) : l = isort ns :=
  List.Perm.eq_of_pairwise (le := (· < ·)) (fun a b _ _ h1 h2 => by omega) hs (isort_sorted ns)
    ((List.perm_ext_iff_of_nodup (nodup_lt hs) (nodup_lt (isort_sorted ns))).mpr fun z => (hm z).trans isort_mem.symm)
theorem lex_irr : ∀ a : List Int, lexLt a a = false
  | [] => rfl
  | x :: xs => by rw [lexLt_cons, if_pos rfl, lex_irr xs]
theorem lex_tri : ∀ {a b : List Int}, lexLt a b = false → lexLt b a = false → a = b
  | [], [], _, _ => rfl
  | [], _ :: _, h, _ => by cases h
  | _ :: _, [], _, h => by cases h
  | x :: xs, y :: ys, h1, h2 => by
    rw [lexLt_cons] at h1 h2
    by_cases e : x = y
    · subst e
      rw [if_pos rfl] at h1 h2
      rw [lex_tri h1 h2]
    · rw [if_neg e] at h1
      rw [if_neg fun z => e z.symm] at h2
      have h3 := of_decide_eq_false h1
      have h4 := of_decide_eq_false h2
      exfalso
      omega
theorem lex_trans : ∀ {a b c : List Int}, lexLt a b = true → lexLt b c = true → lexLt a c = true
  | [], [], _, h, _ => by cases h
  | [], _ :: _, [], _, h => by cases h
  | [], _ :: _, _ :: _, _, _ => rfl
  | _ :: _, [], _, h, _ => by cases h
  | _ :: _, _ :: _, [], _, h => by cases h
  | x :: xs, y :: ys, z :: zs, h1, h2 => by
    rw [lexLt_cons] at h1 h2 ⊢
    by_cases e : x = y
    · subst e
      rw [if_pos rfl] at h1
      by_cases e2 : x = z
      · subst e2
        rw [if_pos rfl] at h2 ⊢
        exact lex_trans h1 h2
      · rw [if_neg e2] at h2 ⊢
        exact h2
    · rw [if_neg e] at h1
      have h3 := of_decide_eq_true h1
      by_cases e2 : y = z
      · subst e2
        rw [if_neg e]
        exact h1
      · rw [if_neg e2] at h2
        have h4 := of_decide_eq_true h2
        rw [if_neg (by omega)]
        exact decide_eq_true (by omega)
theorem lex_asym {a b : List Int} (h : lexLt a b = true) : lexLt b a = false := by
  cases e : lexLt b a with
  | false => rfl
  | true => rw [← lex_irr a, ← lex_trans h e]
theorem insL_mem {x z : List Int} : ∀ {l : List (List Int)}, z ∈ insL x l ↔ z = x ∨ z ∈ l
  | [] => by rw [insL]; simp
  | y :: ys => by
    rw [insL]
    split
    · simp
    · split
      · rw [List.mem_cons, insL_mem, List.mem_cons]
        constructor
        · rintro (h | h | h)
          · exact .inr (.inl h)
          · exact .inl h
          · exact .inr (.inr h)
        · rintro (h | h | h)
          · exact .inr (.inl h)
          · exact .inl h
          · exact .inr (.inr h)
      · rename_i h1 h2
        have e : x = y := lex_tri (by simpa using h1) (by simpa using h2)
        subst e
        simp
theorem insL_sorted {x : List Int} : ∀ {l : List (List Int)}, l.Pairwise (fun q r => lexLt q r = true) → (insL x l).Pairwise (fun q r => lexLt q r = true)
  | [], _ => by
    rw [insL]
    exact List.pairwise_singleton _ _
  | y :: ys, h => by
    have h1 := List.pairwise_cons.mp h
    rw [insL]
    split
    · rename_i c
      refine List.pairwise_cons.mpr ⟨fun z hz => ?_, h⟩
      rcases List.mem_cons.mp hz with e | e
      · rw [e]; exact c
      · exact lex_trans c (h1.1 z e)
    · split
      · rename_i c
        refine List.pairwise_cons.mpr ⟨fun z hz => ?_, insL_sorted h1.2⟩
        rcases insL_mem.mp hz with e | e
        · rw [e]; exact c
        · exact h1.1 z e
      · exact h
theorem lsort_mem {z : List Int} : ∀ {l : List (List Int)}, z ∈ lsort l ↔ z ∈ l
  | [] => Iff.rfl
  | x :: xs => by
    rw [lsort, insL_mem, List.mem_cons, lsort_mem]
theorem lsort_sorted : ∀ l, (lsort l).Pairwise (fun q r => lexLt q r = true)
  | [] => List.Pairwise.nil
  | x :: xs => insL_sorted (lsort_sorted xs)
theorem nodup_lex {l : List (List Int)} (h : l.Pairwise (fun q r => lexLt q r = true)) : l.Nodup := h.imp fun {a b} h e => by
  subst e
  rw [lex_irr] at h
  cases h
theorem lsort_nodup (l : List (List Int)) : (lsort l).Nodup := nodup_lex (lsort_sorted l)
theorem lsort_uniq {l ns : List (List Int)} (hs : l.Pairwise (fun q r => lexLt r q = false)) (hn : l.Nodup) (hm : ∀ z, z ∈ l ↔ z ∈ ns) : l = lsort ns :=
  List.Perm.eq_of_pairwise (le := fun q r => lexLt r q = false) (fun a b _ _ h1 h2 => lex_tri h2 h1) hs ((lsort_sorted ns).imp fun h => lex_asym h)
    ((List.perm_ext_iff_of_nodup hn (lsort_nodup ns)).mpr fun z => (hm z).trans lsort_mem.symm)
/-- where the rows stand beside: rows whose second parts are sorted -/
theorem lsort_rows {α : Type} {L : List (α × List Int)} {ns : List (List Int)} (hs : L.Pairwise (fun q r => lexLt r.2 q.2 = false)) (hn : (L.map (·.2)).Nodup) (hm : ∀ z, z ∈ L.map (·.2) ↔ z ∈ ns) : L.map (·.2) = lsort ns :=
  lsort_uniq (List.pairwise_map.mpr hs) hn hm
end QT
set_option Elab.async false
set_option linter.all false
set_option maxRecDepth 100000
set_option maxHeartbeats 4000000
namespace QT
open HT
/-! who loses: the table's word keeps the game's own recursion -/
structure Mon (t : List (List Int)) : Prop where
  pos : 1 ≤ t.length
  few : t.length ≤ 20
  row : ∀ r ∈ t, r.length = t.length ∧ ∀ x ∈ r, 0 ≤ x ∧ x < (t.length : Int)
  first : t.getD 0 [] = (List.range t.length).map fun i : Nat => (i : Int)
  comm : ∀ a b : Int, 0 ≤ a → a < t.length → 0 ≤ b → b < t.length → tb t a b = tb t b a
  assoc : ∀ a b c : Int, 0 ≤ a → a < t.length → 0 ≤ b → b < t.length → 0 ≤ c → c < t.length → tb t (tb t a b) c = tb t a (tb t b c)
theorem mon_of {t : List (List Int)} (h : tabOk t = true) : Mon t := by
  unfold tabOk at h
  simp only [Bool.and_eq_true, decide_eq_true_eq, List.all_eq_true, List.mem_range] at h
  obtain ⟨⟨⟨⟨h1, h2⟩, h3⟩, h4⟩, h5⟩ := h
  refine ⟨h1, h2, fun r hr => ⟨(h3 r hr).1, fun x hx => (h3 r hr).2 x hx⟩, h4, fun a b ha ha' hb hb' => ?_, fun a b c ha ha' hb hb' hc hc' => ?_⟩
  · have z := (h5 a.toNat (by omega) b.toNat (by omega)).1
    rw [Int.toNat_of_nonneg ha, Int.toNat_of_nonneg hb] at z
    exact z
  · have z := (h5 a.toNat (by omega) b.toNat (by omega)).2 c.toNat (by omega)
    rw [Int.toNat_of_nonneg ha, Int.toNat_of_nonneg hb, Int.toNat_of_nonneg hc] at z
    exact z
namespace Mon
variable {t : List (List Int)}
theorem at_ (M : Mon t) {a : Int} (ha : 0 ≤ a) (ha' : a < t.length) : ∃ r, t[a.toNat]? = some r ∧ t.getD a.toNat [] = r ∧ r.length = t.length ∧ ∀ x ∈ r, 0 ≤ x ∧ x < (t.length : Int) := by
  have hi : a.toNat < t.length := by omega
  refine ⟨t[a.toNat], List.getElem?_eq_getElem hi, ?_, M.row _ (List.getElem_mem hi)⟩
  rw [List.getD_eq_getElem?_getD, List.getElem?_eq_getElem hi] <;> rfl
theorem at2 (M : Mon t) {a b : Int} (ha : 0 ≤ a) (ha' : a < t.length) (hb : 0 ≤ b) (hb' : b < t.length) : ∃ r, t[a.toNat]? = some r ∧ r.length = t.length ∧ r[b.toNat]? = some (tb t a b) ∧ 0 ≤ tb t a b ∧ tb t a b < t.length := by
  obtain ⟨r, h1, h2, h3, h4⟩ := M.at_ ha ha'
  have hi : b.toNat < r.length := by omega
  have e : tb t a b = r[b.toNat] := by
    unfold tb
    rw [h2, List.getD_eq_getElem?_getD, List.getElem?_eq_getElem hi] <;> rfl
  rw [e]
  exact ⟨r, h1, h3, List.getElem?_eq_getElem hi, h4 _ (List.getElem_mem hi)⟩
theorem rng (M : Mon t) {a b : Int} (ha : 0 ≤ a) (ha' : a < t.length) (hb : 0 ≤ b) (hb' : b < t.length) : 0 ≤ tb t a b ∧ tb t a b < t.length :=
  let ⟨_, _, _, _, h⟩ := M.at2 ha ha' hb hb'
  h
theorem one (M : Mon t) {b : Int} (hb : 0 ≤ b) (hb' : b < t.length) : tb t 0 b = b := by
  unfold tb
  rw [show (0 : Int).toNat = 0 from rfl, M.first, List.getD_eq_getElem?_getD, List.getElem?_map, List.getElem?_range (by omega)]
  show ((b.toNat : Nat) : Int) = b
  omega
end Mon
/-- the images' range -/
def ImOk (m : Nat) (t : List (List Int)) (im : List Int) : Prop := im.length = m ∧ ∀ x ∈ im, 0 ≤ x ∧ x < (t.length : Int)
def InM (m : Nat) (h : List Int) : Prop := ∀ x ∈ h, 1 ≤ x ∧ x ≤ (m : Int)
section
variable {t : List (List Int)} {im : List Int} {m : Nat}
theorem im_at (I : ImOk m t im) {s : Int} (h1 : 1 ≤ s) (h2 : s ≤ m) : ∃ z, im[(s - 1).toNat]? = some z ∧ im.getD (s - 1).toNat 0 = z ∧ 0 ≤ z ∧ z < t.length := by
  have hi : (s - 1).toNat < im.length := by rw [I.1]; omega
  refine ⟨im[(s - 1).toNat], List.getElem?_eq_getElem hi, ?_, I.2 _ (List.getElem_mem hi)⟩
  rw [List.getD_eq_getElem?_getD, List.getElem?_eq_getElem hi] <;> rfl
theorem fold_rng (M : Mon t) (I : ImOk m t im) : ∀ (h : List Int) (f : Int), InM m h → 0 ≤ f → f < t.length → 0 ≤ h.foldl (fun f s => tb t f (im.getD (s - 1).toNat 0)) f ∧ h.foldl (fun f s => tb t f (im.getD (s - 1).toNat 0)) f < t.length
  | [], f, _, h1, h2 => ⟨h1, h2⟩
  | s :: h, f, hi, h1, h2 => by
    obtain ⟨z, _, e, z1, z2⟩ := im_at I (hi s List.mem_cons_self).1 (hi s List.mem_cons_self).2
    rw [List.foldl_cons, e]
    have r := M.rng h1 h2 z1 z2
    exact fold_rng M I h _ (fun x hx => hi x (List.mem_cons_of_mem _ hx)) r.1 r.2
theorem img_rng (M : Mon t) (I : ImOk m t im) {h : List Int} (hi : InM m h) : 0 ≤ img t im h ∧ img t im h < t.length := fold_rng M I h 0 hi (Int.le_refl _) (by have := M.pos; omega)
theorem fold_mul (M : Mon t) (I : ImOk m t im) : ∀ (h : List Int) (a f : Int), InM m h → 0 ≤ f → f < t.length → 0 ≤ a → a < t.length →
    h.foldl (fun f s => tb t f (im.getD (s - 1).toNat 0)) (tb t a f) = tb t a (h.foldl (fun f s => tb t f (im.getD (s - 1).toNat 0)) f)
  | [], a, f, _, _, _, _, _ => rfl
  | s :: h, a, f, hi, h1, h2, h3, h4 => by
    obtain ⟨z, _, e, z1, z2⟩ := im_at I (hi s List.mem_cons_self).1 (hi s List.mem_cons_self).2
    rw [List.foldl_cons, List.foldl_cons, e]
    have r := M.rng h1 h2 z1 z2
    rw [M.assoc a f z h3 h4 h1 h2 z1 z2]
    exact fold_mul M I h a _ (fun x hx => hi x (List.mem_cons_of_mem _ hx)) r.1 r.2 h3 h4
theorem img_append (M : Mon t) (I : ImOk m t im) {g h : List Int} (hg : InM m g) (hh : InM m h) : img t im (g ++ h) = tb t (img t im g) (img t im h) := by
  have r := img_rng M I hg
  have p := M.pos
  have e : img t im g = tb t (img t im g) 0 := by
    rw [M.comm _ _ r.1 r.2 (Int.le_refl _) (by omega), M.one r.1 r.2]
  show (g ++ h).foldl _ 0 = _
  rw [List.foldl_append]
  show h.foldl _ (img t im g) = _
  refine (congrArg (fun z => h.foldl (fun f s => tb t f (im.getD (s - 1).toNat 0)) z) e).trans ?_
  exact fold_mul M I h _ 0 hh (Int.le_refl _) (by omega) r.1 r.2
theorem img_one (M : Mon t) (I : ImOk m t im) {s : Int} (h1 : 1 ≤ s) (h2 : s ≤ m) : img t im [s] = im.getD (s - 1).toNat 0 := by
  obtain ⟨z, _, e, z1, z2⟩ := im_at I h1 h2
  show tb t 0 (im.getD (s - 1).toNat 0) = _
  rw [e, M.one z1 z2]
theorem img_perm (M : Mon t) (I : ImOk m t im) {g h : List Int} (p : g.Perm h) (hg : InM m g) : img t im g = img t im h := by
  induction p with
  | nil => rfl
  | @cons x l₁ l₂ p ih =>
    have e : ∀ l, (x :: l) = [x] ++ l := fun _ => rfl
    have h1 : InM m [x] := fun y hy => by
      rw [List.mem_singleton.mp hy]
      exact hg x List.mem_cons_self
    have h2 : InM m l₁ := fun y hy => hg y (List.mem_cons_of_mem _ hy)
    rw [e l₁, e l₂, img_append M I h1 h2, img_append M I h1 (fun y hy => h2 y (p.mem_iff.mpr hy)), ih h2]
  | @swap x y l =>
    have hx := hg x (List.mem_cons_of_mem _ List.mem_cons_self)
    have hy := hg y List.mem_cons_self
    obtain ⟨a, _, ea, a1, a2⟩ := im_at I hx.1 hx.2
    obtain ⟨b, _, eb, b1, b2⟩ := im_at I hy.1 hy.2
    show l.foldl _ (tb t (tb t 0 _) _) = l.foldl _ (tb t (tb t 0 _) _)
    rw [ea, eb, M.one a1 a2, M.one b1 b2, M.comm a b a1 a2 b1 b2]
  | trans p1 p2 ih1 ih2 => rw [ih1 hg, ih2 fun y hy => hg y (p1.mem_iff.mpr hy)]
theorem inM_srt {h : List Int} : InM m (srt h) ↔ InM m h := by
  constructor
  · intro q x hx
    exact q x ((srt_perm h).mem_iff.mpr hx)
  · intro q x hx
    exact q x ((srt_perm h).mem_iff.mp hx)
theorem img_srt (M : Mon t) (I : ImOk m t im) {h : List Int} (hi : InM m h) : img t im (srt h) = img t im h := img_perm M I (srt_perm h) (inM_srt.mpr hi)
end
/-- the moves' own range -/
structure MvOk (m : Nat) (mv : List (List (List Int))) : Prop where
  len : mv.length = m + 1
  most : m ≤ 3
  least : 1 ≤ m
  zero : mv.getD 0 [] = []
  few : ∀ s : Nat, s ≤ m → (mv.getD s []).length ≤ 20
  inm : ∀ s : Nat, s ≤ m → ∀ rest ∈ mv.getD s [], InM m rest ∧ rest.sum < (s : Int) ∧ rest.length ≤ 2 ∧ rest.sum ≤ 28
theorem vOk_of {m : Nat} {h : List Int} (v : vOk m h = true) : InM m h ∧ h.sum ≤ 28 := by
  unfold vOk at v
  simp only [Bool.and_eq_true, decide_eq_true_eq, List.all_eq_true] at v
  exact ⟨v.1, v.2⟩
theorem vOk_mk {m : Nat} {h : List Int} (h1 : InM m h) (h2 : h.sum ≤ 28) : vOk m h = true := by
  unfold vOk
  simp only [Bool.and_eq_true, decide_eq_true_eq, List.all_eq_true]
  exact ⟨h1, h2⟩
theorem mvOk_of {c : Cf} (h : mvOk c = true) : MvOk c.most c.mv := by
  unfold mvOk at h
  simp only [Bool.and_eq_true, decide_eq_true_eq, List.all_eq_true, List.mem_range] at h
  obtain ⟨⟨⟨⟨⟨h1, h2⟩, h3⟩, h4⟩, h6⟩, h5⟩ := h
  refine ⟨h1, h2, h3, List.isEmpty_iff.mp h4, fun s hs => h6 s (by omega), fun s hs rest hr => ?_⟩
  obtain ⟨⟨a, b⟩, d⟩ := h5 s (by omega) rest hr
  obtain ⟨v1, v2⟩ := vOk_of a
  exact ⟨v1, b, d, v2⟩
theorem opts_mem {mv : List (List (List Int))} {h : List Int} {o : List Int} : ∀ {n : Nat}, o ∈ opts mv h n ↔ ∃ i, i < n ∧ o ∈ opt mv h i
  | 0 => by simp [opts]
  | n + 1 => by
    rw [opts, List.mem_append, opts_mem]
    constructor
    · rintro (⟨i, hi, q⟩ | q)
      · exact ⟨i, by omega, q⟩
      · exact ⟨n, by omega, q⟩
    · rintro ⟨i, hi, q⟩
      by_cases e : i = n
      · subst e; exact .inr q
      · exact .inl ⟨i, by omega, q⟩
theorem opt_mem {mv : List (List (List Int))} {h : List Int} {o : List Int} {i : Nat} : o ∈ opt mv h i ↔ ∃ rest ∈ mv.getD (h.getD i 0).toNat [], o = srt (h.take i ++ h.drop (i + 1) ++ rest) := by
  unfold opt
  rw [List.mem_map]
  exact ⟨fun ⟨r, h1, h2⟩ => ⟨r, h1, h2.symm⟩, fun ⟨r, h1, h2⟩ => ⟨r, h1, h2.symm⟩⟩
/-- the position's place in the closure -/
def Told (t : List (List Int)) (im : List Int) (mv : List (List (List Int))) (es : List Ent) (h : List Int) : Prop := ∃ e ∈ es, e.1.1 = img t im h ∧ ∀ x, x ∈ e.1.2 ↔ ∃ o ∈ opts mv h h.length, img t im o = x
theorem lkE_some : ∀ {es : List Ent} {k : Int × List Int}, (lkE es k).isSome = true → ∃ e ∈ es, e.1 = k
  | [], _, h => by cases h
  | e :: es, k, h => by
    rw [lkE] at h
    by_cases c : e.1 = k
    · exact ⟨e, List.mem_cons_self, c⟩
    · rw [if_neg c] at h
      obtain ⟨e2, h1, h2⟩ := lkE_some h
      exact ⟨e2, List.mem_cons_of_mem _ h1, h2⟩
theorem getD_snoc_lt {h : List Int} {s : Int} {i : Nat} (hi : i < h.length) : (h ++ [s]).getD i 0 = h.getD i 0 := by
  rw [List.getD_eq_getElem?_getD, List.getD_eq_getElem?_getD, List.getElem?_append_left hi]
theorem getD_snoc_eq {h : List Int} {s : Int} : (h ++ [s]).getD h.length 0 = s := by
  rw [List.getD_eq_getElem?_getD, List.getElem?_append_right (Nat.le_refl _), Nat.sub_self] <;> rfl
theorem mem_sizes {m : Nat} {s : Int} (h1 : 1 ≤ s) (h2 : s ≤ m) : s ∈ sizes m := by
  unfold sizes
  exact List.mem_map.mpr ⟨(s - 1).toNat, List.mem_range.mpr (by omega), by omega⟩
theorem sizes_mem {m : Nat} {s : Int} (h : s ∈ sizes m) : 1 ≤ s ∧ s ≤ m := by
  unfold sizes at h
  obtain ⟨i, hi, e⟩ := List.mem_map.mp h
  have := List.mem_range.mp hi
  omega
section
variable {t : List (List Int)} {im : List Int} {m : Nat} {mv : List (List (List Int))} {es : List Ent}
theorem rest_in (V : MvOk m mv) {h : List Int} (hi : InM m h) {i : Nat} {rest : List Int} (hr : rest ∈ mv.getD (h.getD i 0).toNat []) : i < h.length ∧ InM m rest ∧ rest.sum < h.getD i 0 := by
  by_cases c : i < h.length
  · have e : h.getD i 0 = h[i] := by rw [List.getD_eq_getElem?_getD, List.getElem?_eq_getElem c] <;> rfl
    have q := hi h[i] (List.getElem_mem c)
    rw [← e] at q
    have z := V.inm (h.getD i 0).toNat (by omega) rest hr
    exact ⟨c, z.1, by omega⟩
  · have e : h.getD i 0 = 0 := by rw [List.getD_eq_getElem?_getD, List.getElem?_eq_none (by omega)] <;> rfl
    rw [e, show (0 : Int).toNat = 0 from rfl, V.zero] at hr
    cases hr
theorem told_snoc (M : Mon t) (I : ImOk m t im) (V : MvOk m mv) (cl : ∀ e ∈ es, ∀ st ∈ stepsM mv t im m, (lkE es (pairOf t e.1.1 e.1.2 st)).isSome = true) {h : List Int} {s : Int} (hi : InM m h) (h1 : 1 ≤ s) (h2 : s ≤ m)
    (q : Told t im mv es h) : Told t im mv es (h ++ [s]) := by
  obtain ⟨e, he, e1, e2⟩ := q
  have hst : (im.getD (s - 1).toNat 0, isort ((mv.getD s.toNat []).map (img t im))) ∈ stepsM mv t im m := List.mem_map.mpr ⟨s, mem_sizes h1 h2, rfl⟩
  obtain ⟨e', he', ek⟩ := lkE_some (cl e he _ hst)
  have hs1 : InM m [s] := fun y hy => by
    rw [List.mem_singleton.mp hy]
    exact ⟨h1, h2⟩
  have hsn : InM m (h ++ [s]) := fun y hy => by
    rcases List.mem_append.mp hy with z | z
    · exact hi y z
    · exact hs1 y z
  refine ⟨e', he', ?_, fun x => ?_⟩
  · rw [ek, img_append M I hi hs1, img_one M I h1 h2]
    show tb t e.1.1 _ = _
    rw [e1]
  · rw [ek]
    show x ∈ isort _ ↔ _
    rw [isort_mem, List.mem_append, List.mem_map, List.mem_map]
    have sub : ∀ {i : Nat} {rest : List Int}, i < h.length → rest ∈ mv.getD (h.getD i 0).toNat [] → InM m (h.take i ++ h.drop (i + 1) ++ rest) := fun {i rest} hil hr => fun y hy => by
      rcases List.mem_append.mp hy with z | z
      · rcases List.mem_append.mp z with z | z
        · exact hi y (List.mem_of_mem_take z)
        · exact hi y (List.mem_of_mem_drop z)
      · exact (rest_in V hi hr).2.1 y z
    constructor
    · rintro (⟨one, ho, rfl⟩ | ⟨one, ho, rfl⟩)
      · obtain ⟨o, ho2, rfl⟩ := (e2 one).mp ho
        obtain ⟨i, hil, ho3⟩ := opts_mem.mp ho2
        obtain ⟨rest, hr, rfl⟩ := opt_mem.mp ho3
        have a := sub hil hr
        refine ⟨srt ((h ++ [s]).take i ++ (h ++ [s]).drop (i + 1) ++ rest), opts_mem.mpr ⟨i, by rw [List.length_append]; simp; omega, opt_mem.mpr ⟨rest, by rw [getD_snoc_lt hil]; exact hr, rfl⟩⟩, ?_⟩
        have p : ((h ++ [s]).take i ++ (h ++ [s]).drop (i + 1) ++ rest).Perm (h.take i ++ h.drop (i + 1) ++ rest ++ [s]) := by
          rw [List.take_append_of_le_length (by omega), List.drop_append_of_le_length (by omega)]
          have p1 : ([s] ++ rest).Perm (rest ++ [s]) := List.perm_append_comm
          have p2 := p1.append_left (h.take i ++ h.drop (i + 1))
          simpa [List.append_assoc] using p2
        have b : InM m (h.take i ++ h.drop (i + 1) ++ rest ++ [s]) := fun y hy => by
          rcases List.mem_append.mp hy with z | z
          · exact a y z
          · exact hs1 y z
        rw [img_srt M I (fun y hy => b y (p.mem_iff.mp hy)), img_perm M I p (fun y hy => b y (p.mem_iff.mp hy)), img_append M I a hs1, img_one M I h1 h2, img_srt M I a]
      · obtain ⟨rest, hr, rfl⟩ := List.mem_map.mp (isort_mem.mp ho)
        have hr' : rest ∈ mv.getD ((h ++ [s]).getD h.length 0).toNat [] := by rw [getD_snoc_eq]; exact hr
        have hri := (rest_in V hsn hr').2.1
        refine ⟨srt ((h ++ [s]).take h.length ++ (h ++ [s]).drop (h.length + 1) ++ rest), opts_mem.mpr ⟨h.length, by simp, opt_mem.mpr ⟨rest, hr', rfl⟩⟩, ?_⟩
        have e4 : (h ++ [s]).take h.length ++ (h ++ [s]).drop (h.length + 1) ++ rest = h ++ rest := by simp
        have b : InM m (h ++ rest) := fun y hy => by
          rcases List.mem_append.mp hy with z | z
          · exact hi y z
          · exact hri y z
        rw [e4, img_srt M I b, img_append M I hi hri, e1]
    · rintro ⟨o, ho, rfl⟩
      obtain ⟨i, hil, ho3⟩ := opts_mem.mp ho
      obtain ⟨rest, hr, rfl⟩ := opt_mem.mp ho3
      have hri := (rest_in V hsn hr).2.1
      rw [List.length_append] at hil
      by_cases c : i < h.length
      · left
        rw [getD_snoc_lt c] at hr
        have a := sub c hr
        refine ⟨img t im (srt (h.take i ++ h.drop (i + 1) ++ rest)), (e2 _).mpr ⟨_, opts_mem.mpr ⟨i, c, opt_mem.mpr ⟨rest, hr, rfl⟩⟩, rfl⟩, ?_⟩
        have p : ((h ++ [s]).take i ++ (h ++ [s]).drop (i + 1) ++ rest).Perm (h.take i ++ h.drop (i + 1) ++ rest ++ [s]) := by
          rw [List.take_append_of_le_length (by omega), List.drop_append_of_le_length (by omega)]
          have p1 : ([s] ++ rest).Perm (rest ++ [s]) := List.perm_append_comm
          have p2 := p1.append_left (h.take i ++ h.drop (i + 1))
          simpa [List.append_assoc] using p2
        have b : InM m (h.take i ++ h.drop (i + 1) ++ rest ++ [s]) := fun y hy => by
          rcases List.mem_append.mp hy with z | z
          · exact a y z
          · exact hs1 y z
        rw [img_srt M I (fun y hy => b y (p.mem_iff.mp hy)), img_perm M I p (fun y hy => b y (p.mem_iff.mp hy)), img_append M I a hs1, img_one M I h1 h2, img_srt M I a]
      · right
        have e5 : i = h.length := by simp at hil; omega
        subst e5
        rw [getD_snoc_eq] at hr
        refine ⟨img t im rest, isort_mem.mpr (List.mem_map.mpr ⟨rest, hr, rfl⟩), ?_⟩
        have e4 : (h ++ [s]).take h.length ++ (h ++ [s]).drop (h.length + 1) ++ rest = h ++ rest := by simp
        have b : InM m (h ++ rest) := fun y hy => by
          rcases List.mem_append.mp hy with z | z
          · exact hi y z
          · exact hri y z
        rw [e4, img_srt M I b, img_append M I hi hri, e1]
theorem told_all (M : Mon t) (I : ImOk m t im) (V : MvOk m mv) (cl : ∀ e ∈ es, ∀ st ∈ stepsM mv t im m, (lkE es (pairOf t e.1.1 e.1.2 st)).isSome = true) (h0 : (lkE es (0, [])).isSome = true) :
    ∀ (n : Nat) (h : List Int), h.length = n → InM m h → Told t im mv es h
  | 0, h, hn, _ => by
    have e := List.length_eq_zero_iff.mp hn
    subst e
    obtain ⟨e, he, ek⟩ := lkE_some h0
    refine ⟨e, he, by rw [ek] <;> rfl, fun x => ?_⟩
    rw [ek]
    simp [opts]
  | n + 1, h, hn, hi => by
    have hne : h ≠ [] := fun e => by rw [e] at hn; cases hn
    have e := List.dropLast_concat_getLast hne
    generalize h.dropLast = g at e
    generalize h.getLast hne = s at e
    subst e
    have hg : InM m g := fun y hy => hi y (List.mem_append_left _ hy)
    have hs := hi s (List.mem_append_right _ (List.mem_singleton.mpr rfl))
    exact told_snoc M I V cl hg hs.1 hs.2 (told_all M I V cl h0 n g (by simp at hn; omega) hg)
theorem rec_of {lost : List Int} (M : Mon t) (I : ImOk m t im) (V : MvOk m mv) (cl : ∀ e ∈ es, ∀ st ∈ stepsM mv t im m, (lkE es (pairOf t e.1.1 e.1.2 st)).isSome = true) (h0 : (lkE es (0, [])).isSome = true)
    (hb : ∀ e ∈ es, bad lost e = false) {h : List Int} (hi : InM m h) :
    lost.contains (img t im h) = (!(opts mv h h.length).isEmpty && (opts mv h h.length).all fun o => !lost.contains (img t im o)) := by
  obtain ⟨e, he, e1, e2⟩ := told_all M I V cl h0 _ h rfl hi
  have q := hb e he
  unfold bad at q
  rw [bne_eq_false_iff_eq, e1] at q
  rw [q]
  have a : e.1.2.isEmpty = (opts mv h h.length).isEmpty := by
    rw [Bool.eq_iff_iff, List.isEmpty_iff, List.isEmpty_iff]
    constructor
    · intro z
      refine List.eq_nil_iff_forall_not_mem.mpr fun o ho => ?_
      have := (e2 _).mpr ⟨o, ho, rfl⟩
      rw [z] at this
      cases this
    · intro z
      refine List.eq_nil_iff_forall_not_mem.mpr fun x hx => ?_
      obtain ⟨o, ho, _⟩ := (e2 x).mp hx
      rw [z] at ho
      cases ho
  have b : (!e.1.2.any fun one => lost.contains one) = (opts mv h h.length).all fun o => !lost.contains (img t im o) := by
    rw [Bool.eq_iff_iff, List.all_eq_true, Bool.not_eq_true', List.any_eq_false]
    constructor
    · intro z o ho
      have := z _ ((e2 _).mpr ⟨o, ho, rfl⟩)
      simpa using this
    · intro z x hx
      obtain ⟨o, ho, rfl⟩ := (e2 x).mp hx
      have := z o ho
      simpa using this
  rw [a, b]
end
end QT
set_option Elab.async false
set_option linter.all false
set_option maxRecDepth 100000
set_option maxHeartbeats 4000000
namespace QT
open PySem PySem.Spec PyProof.Rows L2
/-! what the top leaves: names -/
structure Tx (mg : Str → Option Value) : Prop where
  isinstance : mg "isinstance" = none
  int : mg "int" = none
  bool : mg "bool" = none
  tuple : mg "tuple" = none
  len : mg "len" = none
  all : mg "all" = none
  any : mg "any" = none
  enumerate : mg "enumerate" = none
  range : mg "range" = none
  sorted : mg "sorted" = none
  set : mg "set" = none
  digits : ∃ t, mg "MOST_DIGITS" = some (.int 6 t)
  options : ∃ t, mg "MOST_OPTIONS" = some (.int 60 t)
  most : ∃ t, mg "MOST_MOST" = some (.int 6 t)
  elements : ∃ t, mg "MOST_ELEMENTS" = some (.int 60 t)
  pairs : ∃ t, mg "MOST_PAIRS" = some (.int 20000 t)
abbrev FnP (K : PySem.W.Frag) (x : Str) (st : Stmt) (f : Addr) (fd : FuncData) : Prop := FunD K x x (defArgs st) (defBody st) (defScope st) [] [] f fd
abbrev FnM (K : PySem.W.Frag) (x q : Str) (st : Stmt) (f : Addr) (fd : FuncData) : Prop := FunD K x q (defArgs st) (defBody st) (defScope st) [] [] f fd
/-- a def of the module, ready to be called -/
structure Cal (P : Program) (w : World) (K : PySem.W.Frag) (mg : Str → Option Value) (base : Heap) (k : Nat) (x : Str) (ps : List Str) (sp : Sp) (f : Addr) (fd : FuncData) : Prop where
  ok : FnOk P w K mg base CX0 k f fd ps sp
  g : mg x = some (.ref f)
  kp : PySem.W.keepIn K (.ref f) = true
  b : Binds K fd ps []
/-- a method of the class at C -/
structure CalM (P : Program) (w : World) (K : PySem.W.Frag) (mg : Str → Option Value) (base : Heap) (k : Nat) (C : Addr) (m : Str) (ps : List Str) (sp : Sp) (f : Addr) (fd : FuncData) : Prop where
  ok : FnOk P w K mg base CX0 k f fd ps sp
  m : Meth K C m f
  b : Binds K fd ps []
section
variable {P : Program} {w : World} {K : PySem.W.Frag} {mg : Str → Option Value} {base : Heap} {f f1 f2 f3 : Addr} {fd fd1 fd2 fd3 : FuncData}
theorem Cal.mono {j k : Nat} {x : Str} {ps : List Str} {sp : Sp} (c : Cal P w K mg base j x ps sp f fd) (h : j ≤ k) : Cal P w K mg base k x ps sp f fd := ⟨c.ok.mono h, c.g, c.kp, c.b⟩
theorem CalM.mono {j k : Nat} {C : Addr} {x : Str} {ps : List Str} {sp : Sp} (c : CalM P w K mg base j C x ps sp f fd) (h : j ≤ k) : CalM P w K mg base k C x ps sp f fd := ⟨c.ok.mono h, c.m, c.b⟩
/-- a def that is never called -/
theorem ok_never {k : Nat} {ps : List Str} : FnOk P w K mg base CX0 k f fd ps (fun _ _ _ _ => False) := ⟨fun _ _ _ _ h => h.elim, fun _ _ _ _ _ _ _ _ _ _ _ _ _ h => h.elim⟩
/-! is_int -/
abbrev sIsInt : Stmt := top 6
def spIsInt : Sp := fun vs H Q _ => ∃ n : Int, vs = [.int n] ∧ Q (.bl true) H
theorem scIsInt : FnScope ["value"] ["value"] (defScope sIsInt) := ⟨rfl, rfl, rfl, by decide +kernel, rfl, by decide +kernel, by decide +kernel⟩
theorem ok_isInt (F : FnP K "is_int" sIsInt f fd) (T : Tx mg) : FnOk P w K mg base CX0 1 f fd ["value"] spIsInt := by
  refine F.ok scIsInt (fun vs H Q E h => ?_) (fun cdv A outer s H vs Q E hr h => ⟨_, PSs.nox (pss_one (ps_ret (pe_and (pe_callB call_isi rfl T.isinstance (by decide +kernel) (pa_cons (pv 0) (pa_cons (pe_bltn (v := .ty "int") rfl T.int (by decide +kernel) rfl) pa_nil)))
    (pe_one (pe_not (pe_callB call_isi rfl T.isinstance (by decide +kernel) (pa_cons (pv 0) (pa_cons (pe_bltn (v := .ty "bool") rfl T.bool (by decide +kernel) rfl) pa_nil)))))))), ?_⟩)
  · obtain ⟨n, rfl, _⟩ := h
    rfl
  · obtain ⟨n, rfl, q⟩ := h
    refine ⟨_, rfl, _, _, _, _, true, rfl, .ty "int", .base (.int n), kit_ty (by decide +kernel), true, rfl, ?_⟩
    refine iteT ?_
    exact ⟨_, rfl, _, _, _, _, false, rfl, .ty "bool", .base (.int n), kit_ty (by decide +kernel), false, rfl, q⟩
/-! is_in -/
abbrev sIsIn : Stmt := top 7
def spIsIn : Sp := fun vs H Q _ => ∃ n a b : Int, vs = [.int n, .int a, .int b] ∧ a ≤ n ∧ n ≤ b ∧ Q (.bl true) H
theorem scIsIn : FnScope ["value", "least", "most"] ["value", "least", "most"] (defScope sIsIn) := ⟨rfl, rfl, rfl, by decide +kernel, rfl, by decide +kernel, by decide +kernel⟩
theorem ok_isIn (F : FnP K "is_in" sIsIn f fd) (T : Tx mg) (c1 : Cal P w K mg base 1 "is_int" ["value"] spIsInt f1 fd1) : FnOk P w K mg base CX0 2 f fd ["value", "least", "most"] spIsIn := by
  refine F.ok scIsIn (fun vs H Q E h => ?_) (fun cdv A outer s H vs Q E hr h => ⟨_, PSs.nox (pss_one (ps_ret (pe_and (pe_call c1.ok hr rfl c1.g c1.kp c1.b .nil pass0 (pa_cons (pv 0) pa_nil))
    (pe_one (pe_chain op_le op_le (pv 1) (pv 0) (pv 2)))))), ?_⟩)
  · obtain ⟨n, a, b, rfl, _⟩ := h
    rfl
  · obtain ⟨n, a, b, rfl, h1, h2, q⟩ := h
    refine ⟨_, rfl, n, rfl, true, rfl, iteT ?_⟩
    refine ⟨_, rfl, _, rfl, _, _, rfl, rfl, _, rfl, ?_⟩
    rw [decide_eq_true h1]
    refine iteT ⟨_, rfl, _, _, rfl, rfl, ?_⟩
    show Q (.bl (decide (n ≤ b))) H
    rw [decide_eq_true h2]
    exact q
/-! heaps -/
theorem same_new {H H' : Hp} {a : Addr} {o : HO} (s : Same H H') (hn : H a = none) : Same H (upd H' a o) := fun b q e => by
  rw [upd_ne (ne_of_none e hn)]
  exact s b q e
theorem same_upd {H : Hp} {a : Addr} {o : HO} (hn : H a = none) : Same H (upd H a o) := same_new (Same.refl H) hn
theorem sqT_same {H H' : Hp} {a : Addr} {xs : List V} (e : Same H H') (h : SqT K H a xs) : SqT K H' a xs := by
  rcases h with (h | ⟨o, h⟩) | h
  · exact .inl (.inl (e _ _ h))
  · exact .inl (.inr ⟨o, e _ _ h⟩)
  · exact .inr h
theorem ty_tup {H : Hp} {a : Addr} {xs : List V} (h : SqT K H a xs) : TyX K H (.ref a) (.type "tuple") := by
  rcases h with (h | ⟨o, h⟩) | ⟨o, its, n, h1, h2, _⟩
  · exact .base (.tup h)
  · exact .fTuple h
  · exact .kTuple h1 h2
/-! need_number -/
abbrev sNeedNumber : Stmt := top 8
def spNeedNumber : Sp := fun vs H Q _ => ∃ n a b : Int, vs = [.int n, .int a, .int b] ∧ a ≤ n ∧ n ≤ b ∧ Q .non H
theorem scNeedNumber : FnScope ["value", "least", "most"] ["value", "least", "most"] (defScope sNeedNumber) := ⟨rfl, rfl, rfl, by decide +kernel, rfl, by decide +kernel, by decide +kernel⟩
theorem ok_needNumber (F : FnP K "need_number" sNeedNumber f fd) (c1 : Cal P w K mg base 2 "is_in" ["value", "least", "most"] spIsIn f1 fd1) : FnOk P w K mg base CX0 3 f fd ["value", "least", "most"] spNeedNumber := by
  refine F.ok scNeedNumber (fun vs H Q E h => ?_) (fun cdv A outer s H vs Q E hr h => ⟨_, PSs.nox (pss_one (ps_if (pt_not (pt_val (pe_call c1.ok hr rfl c1.g c1.kp c1.b .nil pass0 (pa_cons (pv 0) (pa_cons (pv 1) (pa_cons (pv 2) pa_nil))))))
    (pss_one ps_never) pss_nil)), ?_⟩)
  · obtain ⟨n, a, b, rfl, _⟩ := h
    rfl
  · obtain ⟨n, a, b, rfl, h1, h2, q⟩ := h
    exact ⟨_, rfl, _, rfl, _, rfl, n, a, b, rfl, h1, h2, true, rfl, iteF q⟩
/-! need_rule -/
abbrev sNeedRule : Stmt := top 12
def RuleOk (ds : List Int) : Prop := 1 ≤ ds.length ∧ ds.length ≤ 3 ∧ (∀ d ∈ ds, 0 ≤ d ∧ d ≤ 7) ∧ ∃ z, ds.getLast? = some z ∧ z ≠ 0
def spNeedRule (K : PySem.W.Frag) : Sp := fun vs H Q _ => ∃ a ds, vs = [.ref a] ∧ SqT K H a (ds.map V.int) ∧ RuleOk ds ∧ ∀ H', Same H H' → Q .non H'
theorem scNeedRule : FnScope ["value", "digit"] ["value"] (defScope sNeedRule) := ⟨rfl, rfl, rfl, by decide +kernel, rfl, by decide +kernel, by decide +kernel⟩
theorem ok_needRule (F : FnP K "need_rule" sNeedRule f fd) (T : Tx mg) (c1 : Cal P w K mg base 2 "is_in" ["value", "least", "most"] spIsIn f1 fd1) : FnOk P w K mg base CX0 3 f fd ["value"] (spNeedRule K) := by
  obtain ⟨tk, hk⟩ := T.digits
  refine F.ok scNeedRule (fun vs H Q E h => ?_) (fun cdv A outer s H vs Q E hr h => ⟨_, PSs.nox (pss_cons (ps_if (PW.pt (pw_or (pt_not (pt_val (pe_callB call_isi rfl T.isinstance (by decide +kernel) (pa_cons (pv 0) (pa_cons (pe_bltn (v := .ty "tuple") rfl T.tuple (by decide +kernel) rfl) pa_nil)))))
      (pw_or1 (pt_not (pt_chain op_le op_le pe_int (pe_callB call_len_seq rfl T.len boot_len (pa_cons (pv 0) pa_nil)) (pe_glob (v := .int 6) rfl hk ⟨_, rfl⟩))))))
    (pss_one ps_never) pss_nil)
    (pss_one (ps_if (PW.pt (pw_or (pt_not (pt_val (pe_callB (cr_all rfl) rfl T.all (by decide +kernel) (pa_cons (pe_lc (own := [("digit", 1)]) (g := gName 1) (tt := tYes) rfl scNeedRule.nd (pi_tup (pv 0)) (blkOk_by (N := ["value", "digit"]) (sc := defScope sNeedRule) (by decide +kernel)) (fun _ _ _ _ _ => pg_name (i := 1) scNeedRule.nd rfl (Or.inl rfl)) (fun _ _ _ _ _ => pts_nil)
        (fun _ _ _ _ _ => pe_call c1.ok hr rfl c1.g c1.kp c1.b .nil pass0 (pa_cons (pv 1) (pa_cons pe_int (pa_cons pe_int pa_nil))))) pa_nil))))
      (pw_or1 (pt_cmpR op_eq (pe_ix ix_tup (pv 0) (pe_un un_neg pe_int) (fun _ _ => rfl)) pe_int (nomark _)))))
    (pss_one ps_never) pss_nil))), ?_⟩)
  · obtain ⟨a, ds, rfl, _⟩ := h
    rfl
  · obtain ⟨a, ds, rfl, hs, ⟨h1, h2, h3, z, h4, h5⟩, q⟩ := h
    refine ⟨_, rfl, _, _, _, _, true, rfl, .ty "tuple", ty_tup hs, kit_ty (by decide +kernel), true, rfl, iteF ?_⟩
    refine ⟨_, rfl, a, _, rfl, .inr hs, _, _, rfl, rfl, _, rfl, ?_⟩
    rw [List.length_map, decide_eq_true (by omega : (1 : Int) ≤ (ds.length : Int))]
    refine iteT ⟨_, _, rfl, rfl, _, rfl, ?_⟩
    rw [decide_eq_true (by omega : (ds.length : Int) ≤ 6)]
    refine iteF ?_
    refine ⟨_, rfl, a, rfl, ⟨_, hs⟩, fun D hD => lc_tup (K := K) (a := a) (xs := ds.map V.int) (fun i H' => H' D = some (.lst ((List.replicate i true).map V.bl)) ∧ Same H H') ⟨upd_same, same_upd hD⟩ (fun i H' _ h => sqT_same h.2 hs) (fun i x H' hx ⟨hl, hsm⟩ => ?_) (fun H' ⟨hl, hsm⟩ => ?_)⟩
    · rw [List.getElem?_map] at hx
      cases e : ds[i]? with
      | none => rw [e] at hx; cases hx
      | some d =>
        rw [e] at hx
        cases hx
        have hd := h3 d (List.mem_of_getElem? e)
        have hi := (List.getElem?_eq_some_iff.mp e).1
        refine ⟨rfl, _, rfl, d, 0, 7, rfl, hd.1, hd.2, _, hl, by rw [List.length_map, List.length_replicate]; exact small_line' (by omega), ?_, same_new hsm hD⟩
        rw [upd_same, List.replicate_succ', List.map_append] <;> rfl
    · rw [List.length_map] at hl
      refine ⟨D, List.replicate ds.length true, rfl, SqL.of hl, ?_⟩
      rw [List.all_replicate]
      have e0 : ds ≠ [] := fun e => by rw [e] at h1; exact absurd h1 (by decide)
      obtain ⟨g, rfl⟩ : ∃ g, ds = g ++ [z] := by
        refine ⟨ds.dropLast, ?_⟩
        rw [List.getLast?_eq_some_getLast e0] at h4
        have z2 := List.dropLast_concat_getLast e0
        rw [Option.some.inj h4] at z2
        exact z2.symm
      refine ⟨true, by simp, iteF ?_⟩
      refine ⟨_, rfl, _, rfl, a, _, _, .int z, rfl, rfl, sqT_same hsm hs, by rw [List.map_append]; exact atI_last _ _, rfl, _, rfl, ?_⟩
      have e1 : decide (V.int z = V.int 0) = false := decide_eq_false fun e => h5 (by injection e)
      rw [e1]
      exact iteF (q H' hsm)
end
end QT
set_option Elab.async false
set_option linter.all false
set_option maxRecDepth 100000
set_option maxHeartbeats 4000000
namespace QT
open PySem PySem.Spec PyProof.Rows L2
abbrev PosAt (H : Hp) (a : Addr) (h : List Int) : Prop := H a = some (.tup (h.map V.int))
theorem kI_inj {a b : List Int} (h : kI a = kI b) : a = b := by
  unfold kI at h
  induction a generalizing b with
  | nil => cases b with
    | nil => rfl
    | cons _ _ => cases h
  | cons x a ih => cases b with
    | nil => cases h
    | cons y b =>
      rw [List.map_cons, List.map_cons] at h
      injection h with h1 h2
      injection h1 with h1
      rw [h1, ih h2]
theorem keys_put {kvs : List (List L2.Key × V)} {ks : List (List Int)} (h : kvs.map (·.1) = ks.map kI) (k : List Int) (v : V) :
    (putK kvs (kI k) v).map (·.1) = (if k ∈ ks then ks else ks ++ [k]).map kI := by
  have e : (kvs.any fun kv => decide (kv.1 = kI k)) = decide (k ∈ ks) := by
    rw [Bool.eq_iff_iff, List.any_eq_true, decide_eq_true_eq]
    constructor
    · rintro ⟨p, hp, c⟩
      have c := of_decide_eq_true c
      have : kI k ∈ kvs.map (·.1) := List.mem_map.mpr ⟨p, hp, c⟩
      rw [h] at this
      obtain ⟨z, hz, ez⟩ := List.mem_map.mp this
      rw [← kI_inj ez]
      exact hz
    · intro hk
      have : kI k ∈ kvs.map (·.1) := by rw [h]; exact List.mem_map.mpr ⟨k, hk, rfl⟩
      obtain ⟨p, hp, c⟩ := List.mem_map.mp this
      exact ⟨p, hp, decide_eq_true c⟩
  unfold putK
  rw [e]
  by_cases hk : k ∈ ks
  · rw [if_pos (decide_eq_true hk), if_pos hk, List.map_map, ← h]
    refine List.map_congr_left fun p _ => ?_
    show (if p.1 = kI k then (p.1, v) else p).1 = p.1
    split <;> rfl
  · rw [if_neg (by simp [hk]), if_neg hk, List.map_append, List.map_append, h] <;> rfl
/-- the dict of what was found so far -/
def Fnd (H : Hp) (d : Addr) (S : List (List Int)) : Prop := ∃ (kvs : List (List L2.Key × V)) (ks : List (List Int)), H d = some (.dT kvs) ∧ kvs.map (·.1) = ks.map kI ∧ ks.Nodup ∧ ks.length ≤ S.length ∧ ∀ z, z ∈ ks ↔ z ∈ S
theorem Fnd.put {H : Hp} {d : Addr} {S : List (List Int)} (F : Fnd H d S) {b : Addr} {k : List Int} {v : V} (hb : PosAt H b k) (hS : S.length < 1000) : ∃ H', DPut H d (.ref b) v H' ∧ Fnd H' d (S ++ [k]) ∧ ∀ c, c ≠ d → H' c = H c := by
  obtain ⟨kvs, ks, h1, h2, h3, h4, h5⟩ := F
  have hl : kvs.length = ks.length := by
    have := congrArg List.length h2
    rw [List.length_map, List.length_map] at this
    exact this
  refine ⟨_, DPut.t (k := kI k) h1 (by rw [kI_V]; exact hb) (by rw [hl]; exact small_line' (by omega)), ⟨_, if k ∈ ks then ks else ks ++ [k], upd_same, keys_put h2 k v, ?_, ?_, fun z => ?_⟩, fun c hc => upd_ne hc⟩
  · split
    · exact h3
    · rename_i hk
      exact List.nodup_append.mpr ⟨h3, by simp, fun a ha b hb => by
        rw [List.mem_singleton.mp hb]
        exact fun e => hk (e ▸ ha)⟩
  · rw [List.length_append, List.length_singleton]
    split
    · omega
    · rw [List.length_append, List.length_singleton]
      omega
  · rw [List.mem_append, List.mem_singleton, ← h5]
    split
    · rename_i hk
      constructor
      · exact .inl
      · rintro (h | h)
        · exact h
        · rw [h]; exact hk
    · rw [List.mem_append, List.mem_singleton]
theorem optK_snoc (size : Int) : ∀ (a : List Int) (i : Nat) (d : Int), optK size i (a ++ [d]) = optK size i a ++ optD size (i + a.length) d
  | [], i, d => by
    show optD size i d ++ [] = [] ++ optD size (i + 0) d
    simp
  | x :: a, i, d => by
    show optD size i x ++ optK size (i + 1) (a ++ [d]) = optD size i x ++ optK size (i + 1) a ++ _
    rw [optK_snoc size a (i + 1) d, List.append_assoc, List.length_cons, show i + 1 + a.length = i + (a.length + 1) by omega]
theorem optD_len {size : Int} (h : size ≤ 3) (i : Nat) (d : Int) : (optD size i d).length ≤ 4 := by
  unfold optD
  rw [List.length_append, List.length_append]
  have a : (if size - i - 1 = 0 ∧ d % 2 = 1 then [([] : List Int)] else []).length ≤ 1 := by split <;> simp
  have b : (if size - i - 1 > 0 ∧ d / 2 % 2 = 1 then [[size - i - 1]] else []).length ≤ 1 := by split <;> simp
  have c : (if d ≥ 4 then (List.range ((size - i - 1) / 2).toNat).map fun j : Nat => [(j : Int) + 1, size - i - 1 - ((j : Int) + 1)] else []).length ≤ 2 := by
    split
    · rw [List.length_map, List.length_range]
      omega
    · simp
  omega
theorem optK_len {size : Int} (h : size ≤ 3) : ∀ (ds : List Int) (i : Nat), (optK size i ds).length ≤ 4 * ds.length
  | [], _ => by simp [optK]
  | d :: ds, i => by
    rw [optK, List.length_append, List.length_cons]
    have := optK_len h ds (i + 1)
    have := optD_len h i d
    omega
theorem walk_enumT {K : PySem.W.Frag} {a : Addr} {xs : List V} : Walk (ItE K a) xs.length (fun H => SqT K H a xs) (YPair (fun i => some (.int (i : Nat))) (fun i => xs[i]?)) := by
  refine ⟨fun i _ hi q => ⟨xs, xs[i], q, by simp [hi]⟩, fun _ q => ⟨xs, q, Nat.le_refl _⟩, fun i H v H' _ q y => ?_⟩
  obtain ⟨T, x, h1, h2, h3, h4⟩ := y
  exact ⟨T, .int (i : Nat), x, h1, h2, h3, rfl, h4 xs q⟩
theorem take_succ {α : Type} {l : List α} {i : Nat} {x : α} (h : l[i]? = some x) : l.take (i + 1) = l.take i ++ [x] := by
  rw [List.take_add_one, h] <;> rfl
theorem map_get {α β : Type} {g : α → β} {xs : List α} {i : Nat} {y : β} (h : (xs.map g)[i]? = some y) : ∃ x, xs[i]? = some x ∧ y = g x := by
  rw [List.getElem?_map] at h
  cases e : xs[i]? with
  | none => rw [e] at h; cases h
  | some x =>
    rw [e] at h
    exact ⟨x, rfl, (Option.some.inj h).symm⟩
/-- a statement, then the rest: what holds between -/
theorem seq_mid {t r : TS} {D : Ends} {σ : L2.St} {H : Hp} (M : L2.St → Hp → Prop) (ht : ∀ nx : L2.St → Hp → Prop, (∀ σ' H', M σ' H' → nx σ' H') → t { D with nx := nx } σ H) (hr : ∀ σ' H', M σ' H' → r D σ' H') : tSeq t r D σ H := ht (r D) hr
theorem decI (a b : Int) : decide (V.int a = V.int b) = decide (a = b) := by
  by_cases h : a = b
  · rw [h, decide_eq_true rfl, decide_eq_true rfl]
  · rw [decide_eq_false h, decide_eq_false fun e => h (by injection e)]
section
variable {P : Program} {w : World} {K : PySem.W.Frag} {mg : Str → Option Value} {base : Heap} {f f1 f2 f3 : Addr} {fd fd1 fd2 fd3 : FuncData}
abbrev sOptions : Stmt := top 13
def spOptions (K : PySem.W.Frag) : Sp := fun vs H Q _ => ∃ a ds size, vs = [.ref a, .int size] ∧ SqT K H a (ds.map V.int) ∧ RuleOk ds ∧ 0 ≤ size ∧ size ≤ 3 ∧
  ∀ H' p as, Same H H' → H p = none → H' p = some (.lst (as.map V.ref)) → Paired (PosAt H') as (optsM ds size) → Q (.ref p) H'
abbrev nOptions : List Str := ["rule", "size", "found", "at", "digit", "rest", "part"]
theorem scOptions : FnScope nOptions ["rule", "size"] (defScope sOptions) := ⟨rfl, rfl, rfl, by decide +kernel, rfl, by decide +kernel, by decide +kernel⟩
theorem ok_options (F : FnP K "heap_options" sOptions f fd) (T : Tx mg) (c1 : Cal P w K mg base 3 "need_rule" ["value"] (spNeedRule K) f1 fd1) (c2 : Cal P w K mg base 3 "need_number" ["value", "least", "most"] spNeedNumber f2 fd2) :
    FnOk P w K mg base CX0 4 f fd ["rule", "size"] (spOptions K) := by
  obtain ⟨tk, hk⟩ := T.options
  refine F.ok scOptions (fun vs H Q E h => ?_) (fun cdv A outer s H vs Q E hr h => ⟨_, PSs.nox
    (pss_cons (ps_expr (pe_call c1.ok hr rfl c1.g c1.kp c1.b .nil pass0 (pa_cons (pv 0) pa_nil)))
    (pss_cons (ps_expr (pe_call c2.ok hr rfl c2.g c2.kp c2.b .nil pass0 (pa_cons (pv 1) (pa_cons pe_int (pa_cons (pe_glob (v := .int 60) rfl hk ⟨_, rfl⟩) pa_nil)))))
    (pss_cons (ps_set (i := 2) scOptions.nd rfl (Or.inl rfl) pe_dnewT)
    (pss_cons (ps_for PassesOwn.never rfl (pi_enumT rfl T.enumerate (pa_cons (pv 0) pa_nil)) (pg_tup rfl (pgs_cons (pg_name (i := 3) scOptions.nd rfl (.inl rfl)) (pgs_cons (pg_name (i := 4) scOptions.nd rfl (.inl rfl)) pgs_nil)))
      (pss_cons (ps_set (i := 5) scOptions.nd rfl (Or.inl rfl) (pe_op op_sub (pe_op op_sub (pv 1) (pv 3)) pe_int))
      (pss_cons (ps_if (PW.pt (pw_and (pt_cmpR op_eq (pv 5) pe_int (nomark _)) (pw_and1 (pt_cmpR op_eq (pe_op op_mod (pv 4) pe_int) pe_int (nomark _)))))
        (pss_one (ps_dput (hu_of hr) (pv 2) (pe_tup pa_nil) pe_bl rfl)) pss_nil)
      (pss_cons (ps_if (PW.pt (pw_and (pt_cmpR op_gt (pv 5) pe_int (nomark _)) (pw_and1 (pt_cmpR op_eq (pe_op op_mod (pe_op op_fdiv (pv 4) pe_int) pe_int) pe_int (nomark _)))))
        (pss_one (ps_dput (hu_of hr) (pv 2) (pe_tup (pa_cons (pv 5) pa_nil)) pe_bl rfl)) pss_nil)
      (pss_one (ps_if (pt_cmpR op_ge (pv 4) pe_int (nomark _))
        (pss_one (ps_for PassesOwn.never rfl (pi_range2 rfl T.range (pa_cons pe_int (pa_cons (pe_op op_add (pe_op op_fdiv (pv 5) pe_int) pe_int) pa_nil))) (pg_name (i := 6) scOptions.nd rfl (.inl rfl))
          (pss_one (ps_dput (hu_of hr) (pv 2) (pe_tup (pa_cons (pv 6) (pa_cons (pe_op op_sub (pv 5) (pv 6)) pa_nil))) pe_bl rfl)))) pss_nil))))))
    (pss_one (ps_ret (pe_callB (cr_sortDT rfl hr.units) rfl T.sorted (by decide +kernel) (pa_cons (pv 2) pa_nil)))))))), ?_⟩)
  · obtain ⟨a, ds, size, rfl, _⟩ := h
    rfl
  · obtain ⟨a, ds, size, rfl, hs, hrule, h0, h3, q⟩ := h
    refine ⟨_, rfl, a, ds, rfl, hs, hrule, fun H1 hs1 => ?_⟩
    refine ⟨_, rfl, size, 0, 60, rfl, h0, by omega, fun d hd => ?_⟩
    have hdH : H d = none := hs1.free hd
    refine ⟨_, rfl, a, _, rfl, sqT_same (same_new hs1 hdH) hs, for_it (walk_enumT (K := K) (xs := ds.map V.int)) (fun i σ H' => ∃ v3 v4 v5 v6, σ = [some (.ref a), some (.int size), some (.ref d), v3, v4, v5, v6] ∧ Fnd H' d (optK size 0 (ds.take i)) ∧ Same H H')
      ⟨none, none, none, none, rfl, ⟨[], [], upd_same, rfl, List.nodup_nil, Nat.zero_le _, fun z => Iff.rfl⟩, same_new hs1 hdH⟩ (fun i σ H' _ ⟨_, _, _, _, _, _, e⟩ => sqT_same e hs) ?_ ?_⟩
    · rintro i v σ H' H2 hi ⟨v3, v4, v5, v6, rfl, hF, hsm⟩ ⟨T, x, y, rfl, hT, rfl, ex, ey⟩
      cases ex
      obtain ⟨dg, e, rfl⟩ := map_get (show (ds.map V.int)[i]? = some y from ey)
      have hil := (List.getElem?_eq_some_iff.mp e).1
      have hlen : (ds.take i).length = i := by
        rw [List.length_take]
        omega
      have hi3 : i < 3 := by
        have := hrule.2.1
        omega
      have hTH : H T = none := hsm.free hT
      have hSl : (optK size 0 (ds.take i)).length ≤ 12 := by
        have := optK_len h3 (ds.take i) 0
        omega
      refine ⟨T, _, rfl, SqT.of upd_same, rfl, _, _, rfl, _, _, rfl, rfl, ?_⟩
      refine ⟨_, rfl, _, rfl, _, _, rfl, rfl, _, _, rfl, rfl, ?_⟩
      have hF2 : Fnd (upd H' T (.tup [.int (i : Nat), .int dg])) d (optK size 0 (ds.take i)) := by
        obtain ⟨kvs, ks, q1, q2⟩ := hF
        exact ⟨kvs, ks, by rw [upd_ne (ne_of_none q1 hT)]; exact q1, q2⟩
      have hs2 : Same H (upd H' T (.tup [.int (i : Nat), .int dg])) := same_new hsm hTH
      have eK : optK size 0 (ds.take (i + 1)) = optK size 0 (ds.take i) ++ optD size i dg := by
        rw [take_succ e, optK_snoc, hlen, Nat.zero_add]
      unfold optD at eK
      generalize upd H' T (.tup [.int (i : Nat), .int dg]) = H2 at hF2 hs2
      have hrb : -4 ≤ size - (i : Int) - 1 ∧ size - (i : Int) - 1 ≤ 2 := by omega
      -- a new key
      have put : ∀ {S : List (List Int)} {H3 : Hp} {k : List Int}, Fnd H3 d S → S.length < 1000 → Same H H3 → ∀ t, H3 t = none → ∃ H4, DPut (upd H3 t (.tup (k.map V.int))) d (.ref t) (.bl true) H4 ∧ Fnd H4 d (S ++ [k]) ∧ Same H H4 := by
        intro S H3 k f3 hS s3 t ht
        have f4 : Fnd (upd H3 t (.tup (k.map V.int))) d S := by
          obtain ⟨kvs, ks, q1, q2⟩ := f3
          exact ⟨kvs, ks, by rw [upd_ne (ne_of_none q1 ht)]; exact q1, q2⟩
        obtain ⟨H4, p1, p2, p3⟩ := f4.put (b := t) (k := k) (v := .bl true) upd_same hS
        refine ⟨H4, p1, p2, fun b o hb => ?_⟩
        have hbd : b ≠ d := ne_of_none hb hdH
        rw [p3 b hbd]
        exact same_new s3 (s3.free ht) b o hb
      dsimp only [gName]
      generalize hrest : size - (i : Int) - 1 = rest at eK hrb ⊢
      refine seq_mid (fun σ' H' => σ' = [some (.ref a), some (.int size), some (.ref d), some (.int (i : Nat)), some (.int dg), some (.int rest), v6] ∧ Fnd H' d (optK size 0 (ds.take i) ++ (if rest = 0 ∧ dg % 2 = 1 then [[]] else [])) ∧ Same H H') (fun nx hnx => ?_) ?_
      · refine ⟨_, rfl, rfl, _, rfl, ?_⟩
        rw [decI]
        by_cases c1 : rest = 0
        · rw [decide_eq_true c1]
          refine iteT ⟨_, rfl, _, _, rfl, rfl, by show (0 : Int) < 2; decide, rfl, _, rfl, ?_⟩
          rw [decI]
          by_cases c2 : dg % 2 = 1
          · rw [decide_eq_true c2]
            refine ⟨_, rfl, by show 0 ≤ sizeLine; decide, fun t ht => ?_⟩
            obtain ⟨H4, p1, p2, p3⟩ := put (k := []) hF2 (by omega) hs2 t ht
            refine ⟨d, H4, rfl, p1, hnx _ _ ⟨rfl, ?_, p3⟩⟩
            rw [if_pos ⟨c1, c2⟩]
            exact p2
          · rw [decide_eq_false c2]
            refine hnx _ _ ⟨rfl, ?_, hs2⟩
            rw [if_neg fun z => c2 z.2, List.append_nil]
            exact hF2
        · rw [decide_eq_false c1]
          refine hnx _ _ ⟨rfl, ?_, hs2⟩
          rw [if_neg fun z => c1 z.1, List.append_nil]
          exact hF2
      · rintro _ H3 ⟨rfl, hF3, hs3⟩
        have l1 : (optK size 0 (ds.take i) ++ (if rest = 0 ∧ dg % 2 = 1 then [([] : List Int)] else [])).length ≤ 13 := by
          rw [List.length_append]
          have : (if rest = 0 ∧ dg % 2 = 1 then [([] : List Int)] else []).length ≤ 1 := by split <;> simp
          omega
        rw [List.append_assoc, ← List.append_assoc] at eK
        generalize optK size 0 (ds.take i) ++ (if rest = 0 ∧ dg % 2 = 1 then [([] : List Int)] else []) = S1 at hF3 l1 eK
        refine seq_mid (fun σ' H' => σ' = [some (.ref a), some (.int size), some (.ref d), some (.int (i : Nat)), some (.int dg), some (.int rest), v6] ∧ Fnd H' d (S1 ++ (if rest > 0 ∧ dg / 2 % 2 = 1 then [[rest]] else [])) ∧ Same H H') (fun nx hnx => ?_) ?_
        · refine ⟨_, rfl, _, _, rfl, rfl, _, rfl, ?_⟩
          by_cases c1 : 0 < rest
          · rw [decide_eq_true c1]
            refine iteT ⟨_, rfl, _, _, rfl, rfl, ⟨by decide, by decide⟩, _, _, rfl, rfl, by show (0 : Int) < 2; decide, rfl, _, rfl, ?_⟩
            rw [decI]
            by_cases c2 : dg / 2 % 2 = 1
            · rw [decide_eq_true c2]
              refine ⟨_, rfl, _, rfl, by show 1 ≤ sizeLine; decide, fun t ht => ?_⟩
              obtain ⟨H4, p1, p2, p3⟩ := put (k := [rest]) hF3 (by omega) hs3 t ht
              refine ⟨d, H4, rfl, p1, hnx _ _ ⟨rfl, ?_, p3⟩⟩
              rw [if_pos ⟨c1, c2⟩]
              exact p2
            · rw [decide_eq_false c2]
              refine hnx _ _ ⟨rfl, ?_, hs3⟩
              rw [if_neg fun z => c2 z.2, List.append_nil]
              exact hF3
          · rw [decide_eq_false c1]
            refine hnx _ _ ⟨rfl, ?_, hs3⟩
            rw [if_neg fun z => c1 z.1, List.append_nil]
            exact hF3
        · rintro _ H4 ⟨rfl, hF4, hs4⟩
          have l2 : (S1 ++ (if rest > 0 ∧ dg / 2 % 2 = 1 then [[rest]] else [])).length ≤ 14 := by
            rw [List.length_append]
            have : (if rest > 0 ∧ dg / 2 % 2 = 1 then [[rest]] else []).length ≤ 1 := by split <;> simp
            omega
          rw [← List.append_assoc] at eK
          generalize S1 ++ (if rest > 0 ∧ dg / 2 % 2 = 1 then [[rest]] else []) = S2 at hF4 l2 eK
          refine ⟨_, rfl, _, _, rfl, rfl, _, rfl, ?_⟩
          by_cases c1 : 4 ≤ dg
          · rw [if_pos (show dg ≥ 4 from c1)] at eK
            rw [decide_eq_true c1]
            refine ⟨_, rfl, _, _, rfl, rfl, ⟨by decide, by decide⟩, _, _, rfl, rfl, 1, rest / 2 + 1, rfl, ⟨by decide, by decide, by omega, by omega⟩, for_range (lo := 1) (n := (rest / 2 + 1 - 1).toNat)
              (fun j σ' H' => ∃ v6, σ' = [some (.ref a), some (.int size), some (.ref d), some (.int (i : Nat)), some (.int dg), some (.int rest), v6] ∧ Fnd H' d (S2 ++ (List.range j).map fun j : Nat => [(j : Int) + 1, rest - ((j : Int) + 1)]) ∧ Same H H')
              ⟨v6, rfl, by rw [List.range_zero, List.map_nil, List.append_nil]; exact hF4, hs4⟩ ?_ ?_⟩
            · rintro j _ H5 hj ⟨v6, rfl, hF5, hs5⟩
              refine ⟨_, rfl, _, rfl, _, rfl, _, rfl, _, _, rfl, rfl, by show 2 ≤ sizeLine; decide, fun t ht => ?_⟩
              have l3 : (S2 ++ (List.range j).map fun j : Nat => [(j : Int) + 1, rest - ((j : Int) + 1)]).length < 1000 := by
                rw [List.length_append, List.length_map, List.length_range]
                omega
              obtain ⟨H6, p1, p2, p3⟩ := put (k := [1 + (j : Int), rest - (1 + (j : Int))]) hF5 l3 hs5 t ht
              refine ⟨d, H6, rfl, p1, _, rfl, ?_, p3⟩
              rw [List.range_succ, List.map_append, ← List.append_assoc]
              show Fnd H6 d (_ ++ [[(j : Int) + 1, rest - ((j : Int) + 1)]])
              rw [Int.add_comm (j : Int) 1]
              exact p2
            · rintro _ H5 ⟨v6, rfl, hF5, hs5⟩
              refine ⟨_, _, _, _, rfl, ?_, hs5⟩
              rw [eK]
              rw [show (rest / 2 + 1 - 1).toNat = (rest / 2).toNat by congr 1; omega] at hF5
              exact hF5
          · rw [if_neg (show ¬ dg ≥ 4 from c1), List.append_nil] at eK
            rw [decide_eq_false c1]
            refine ⟨_, _, _, _, rfl, ?_, hs4⟩
            rw [eK]
            exact hF4
    · rintro σ H' ⟨v3, v4, v5, v6, rfl, ⟨kvs, ks, f1, f2, f3, f4, f5⟩, hsm⟩
      rw [List.length_map, List.take_length] at f5
      refine ⟨_, rfl, d, kvs, ks, rfl, f1, f2, fun L' p hperm hat hsort hp => ?_⟩
      have e : L'.map (·.2) = optsM ds size := lsort_rows hsort (hperm.nodup_iff.mpr f3) fun z => by rw [hperm.mem_iff]; exact f5 z
      refine q _ p (L'.map (·.1)) (same_new hsm (hsm.free hp)) (hsm.free hp) (by rw [upd_same, List.map_map]; rfl) ?_
      rw [← e]
      have : ∀ L : List (Addr × List Int), (∀ q ∈ L, H' q.1 = some (.tup (q.2.map V.int))) → Paired (PosAt (upd H' p (.lst (L'.map fun q => V.ref q.1)))) (L.map (·.1)) (L.map (·.2)) := by
        intro L
        induction L with
        | nil => intro _; exact .nil
        | cons x L ih =>
          intro hL
          refine .cons ?_ (ih fun q hq => hL q (List.mem_cons_of_mem _ hq))
          have h1 := hL x List.mem_cons_self
          show upd H' p _ x.1 = _
          rw [upd_ne (ne_of_none h1 hp)]
          exact h1
      exact this L' hat
end
end QT
set_option Elab.async false
set_option linter.all false
set_option maxRecDepth 100000
set_option maxHeartbeats 4000000
namespace QT
open PySem PySem.Spec PyProof.Rows L2
/-! positions: sums, the memo's size -/
theorem sumA : ∀ a b : List Int, (a ++ b).sum = a.sum + b.sum
  | [], b => by simp
  | x :: a, b => by
    rw [List.cons_append, List.sum_cons, List.sum_cons, sumA a b]
    omega
theorem sum_perm {a b : List Int} (h : a.Perm b) : a.sum = b.sum := by
  induction h with
  | nil => rfl
  | cons x _ ih => rw [List.sum_cons, List.sum_cons, ih]
  | swap x y l =>
    rw [List.sum_cons, List.sum_cons, List.sum_cons, List.sum_cons]
    omega
  | trans _ _ ih1 ih2 => exact ih1.trans ih2
theorem srt_sum (h : List Int) : (srt h).sum = h.sum := sum_perm (srt_perm h)
theorem len_sum {m : Nat} : ∀ {h : List Int}, InM m h → (h.length : Int) ≤ h.sum
  | [], _ => by simp
  | x :: h, hi => by
    have a := (hi x List.mem_cons_self).1
    have b := len_sum (h := h) fun y hy => hi y (List.mem_cons_of_mem _ hy)
    rw [List.sum_cons, List.length_cons]
    omega
theorem vOk_srt {m : Nat} {h : List Int} (v : vOk m h = true) : vOk m (srt h) = true := by
  obtain ⟨a, b⟩ := vOk_of v
  exact vOk_mk (inM_srt.mpr a) (by rw [srt_sum]; exact b)
def codeP (h : List Int) : Nat := h.count 1 + 29 * h.count 2 + 841 * h.count 3
theorem count_le {m : Nat} {h : List Int} (v : vOk m h = true) (x : Int) : h.count x ≤ 28 := by
  obtain ⟨a, b⟩ := vOk_of v
  have h1 := len_sum a
  have h2 := List.count_le_length (a := x) (l := h)
  omega
theorem codeP_inj {m : Nat} (hm : m ≤ 3) {g h : List Int} (vg : vOk m g = true) (vh : vOk m h = true) (sg : g.Pairwise (· ≤ ·)) (sh : h.Pairwise (· ≤ ·)) (e : codeP g = codeP h) : g = h := by
  have g1 := count_le vg 1
  have g2 := count_le vg 2
  have g3 := count_le vg 3
  have h1 := count_le vh 1
  have h2 := count_le vh 2
  have h3 := count_le vh 3
  unfold codeP at e
  refine List.Perm.eq_of_pairwise (le := (· ≤ ·)) (fun a b _ _ h1 h2 => by omega) sg sh (List.perm_iff_count.mpr fun x => ?_)
  by_cases c : x = 1 ∨ x = 2 ∨ x = 3
  · rcases c with rfl | rfl | rfl <;> omega
  · have a : x ∉ g := fun hx => by
      have := (vOk_of vg).1 x hx
      omega
    have b : x ∉ h := fun hx => by
      have := (vOk_of vh).1 x hx
      omega
    rw [List.count_eq_zero.mpr a, List.count_eq_zero.mpr b]
theorem memo_few {m : Nat} (hm : m ≤ 3) {hs : List (List Int)} (nd : hs.Nodup) (ok : ∀ h ∈ hs, vOk m h = true ∧ h.Pairwise (· ≤ ·)) : hs.length ≤ 24389 := by
  have nd2 : (hs.map codeP).Nodup := by
    refine List.nodup_iff_pairwise_ne.mpr (List.pairwise_map.mpr ?_)
    refine List.Pairwise.imp_of_mem (R := fun a b => a ≠ b) (fun {a b} ha hb hne e => ?_) nd
    exact hne (codeP_inj hm (ok a ha).1 (ok b hb).1 (ok a ha).2 (ok b hb).2 e)
  have z := nat_nodup_len (hs.map codeP) (List.range 24389) nd2 fun x hx => by
    obtain ⟨h, hh, rfl⟩ := List.mem_map.mp hx
    have h1 := count_le (ok h hh).1 1
    have h2 := count_le (ok h hh).1 2
    have h3 := count_le (ok h hh).1 3
    refine List.mem_range.mpr ?_
    unfold codeP
    omega
  rw [List.length_map, List.length_range] at z
  exact z
/-- what the game's word must be -/
structure Cfg (m : Nat) (mv : List (List (List Int))) (L : List Int → Bool) : Prop where
  ok : MvOk m mv
  rec_ : ∀ h, InM m h → L h = (!(opts mv h h.length).isEmpty && (opts mv h h.length).all fun o => !L o)
/-- an option: still in range, and smaller -/
theorem opt_ok {m : Nat} {mv : List (List (List Int))} (V : MvOk m mv) {h rest : List Int} {i : Nat} (v : vOk m h = true) (hr : rest ∈ mv.getD (h.getD i 0).toNat []) :
    vOk m (h.take i ++ h.drop (i + 1) ++ rest) = true ∧ (h.take i ++ h.drop (i + 1) ++ rest).sum < h.sum := by
  obtain ⟨a, b⟩ := vOk_of v
  obtain ⟨c1, c2, c3⟩ := rest_in V a hr
  have e : h = h.take i ++ ([h[i]] ++ h.drop (i + 1)) := by
    rw [List.singleton_append, List.getElem_cons_drop, List.take_append_drop]
  have e2 : h.getD i 0 = h[i] := by rw [List.getD_eq_getElem?_getD, List.getElem?_eq_getElem c1] <;> rfl
  have s1 := congrArg List.sum e
  rw [sumA, sumA] at s1
  have s2 : [h[i]].sum = h[i] := by simp
  have s3 : (h.take i ++ h.drop (i + 1) ++ rest).sum < h.sum := by
    rw [sumA, sumA]
    omega
  refine ⟨vOk_mk (fun y hy => ?_) (by omega), s3⟩
  rcases List.mem_append.mp hy with z | z
  · rcases List.mem_append.mp z with z | z
    · exact a y (List.mem_of_mem_take z)
    · exact a y (List.mem_of_mem_drop z)
  · exact c2 y z
/-! the heap -/
def Memo (L : List Int → Bool) (m : Nat) (kd : Addr) (H : Hp) : Prop := ∃ hs : List (List Int), H kd = some (.dT (hs.map fun h => (kI h, V.bl (L h)))) ∧ hs.Nodup ∧ ∀ h ∈ hs, vOk m h = true ∧ h.Pairwise (· ≤ ·)
abbrev Gs := List (Addr × HO)
def Stat (G : Gs) (H : Hp) : Prop := ∀ p ∈ G, H p.1 = some p.2
def RowIn (G : Gs) (r : Addr) (os : List (List Int)) : Prop := ∃ as : List Addr, (r, HO.lst (as.map V.ref)) ∈ G ∧ Paired (fun a h => (a, HO.tup (h.map V.int)) ∈ G) as os
def MovesIn (G : Gs) (ml : Addr) (mv : List (List (List Int))) : Prop := ∃ rows : List Addr, (ml, HO.lst (rows.map V.ref)) ∈ G ∧ Paired (RowIn G) rows mv
/-- the instance at a: its moves mv stand for good; known stands at kd -/
def LateIn (C : Addr) (G : Gs) (mv : List (List (List Int))) (a kd : Addr) : Prop := ∃ ml dx, (a, HO.ins C dx [("moves", .ref ml), ("known", .ref kd)]) ∈ G ∧ MovesIn G ml mv ∧ ∀ p ∈ G, p.1 ≠ kd
theorem Stat.keep {G : Gs} {H H' : Hp} (s : Stat G H) (k : ∀ p ∈ G, ∀ o, H p.1 = some o → H' p.1 = some o) : Stat G H' := fun p hp => k p hp _ (s p hp)
/-- all but kd stands -/
def Kb (kd : Addr) (H H' : Hp) : Prop := ∀ b o, H b = some o → b ≠ kd → H' b = some o
theorem Kb.refl (kd : Addr) (H : Hp) : Kb kd H H := fun _ _ h _ => h
theorem Kb.trans {kd : Addr} {H H1 H2 : Hp} (a : Kb kd H H1) (b : Kb kd H1 H2) : Kb kd H H2 := fun c o h n => b c o (a c o h n) n
theorem Kb.of {kd : Addr} {H H' : Hp} (s : Same H H') : Kb kd H H' := fun b o h _ => s b o h
theorem Kb.new {kd : Addr} {H H' : Hp} {a : Addr} {o : HO} (s : Kb kd H H') (hn : H a = none) : Kb kd H (upd H' a o) := fun b q e n => by
  rw [upd_ne (ne_of_none e hn)]
  exact s b q e n
theorem Kb.free {kd : Addr} {H H' : Hp} (s : Kb kd H H') (hk : ∃ o, H kd = some o) (hk' : ∃ o, H' kd = some o) {a : Addr} (h : H' a = none) : H a = none := by
  cases q : H a with
  | none => rfl
  | some o =>
    by_cases e : a = kd
    · obtain ⟨o', hk'⟩ := hk'
      rw [e, hk'] at h
      cases h
    · rw [s a o q e] at h
      cases h
theorem Memo.at {L : List Int → Bool} {m : Nat} {kd : Addr} {H : Hp} (M : Memo L m kd H) : ∃ o, H kd = some o := let ⟨_, h, _⟩ := M; ⟨_, h⟩
theorem Memo.new {L : List Int → Bool} {m : Nat} {kd : Addr} {H : Hp} {a : Addr} {o : HO} (M : Memo L m kd H) (hn : H a = none) : Memo L m kd (upd H a o) := by
  obtain ⟨hs, h1, h2⟩ := M
  exact ⟨hs, by rw [upd_ne (ne_of_none h1 hn)]; exact h1, h2⟩
theorem memo_get {L : List Int → Bool} (k : List Int) : ∀ hs : List (List Int), valV (hs.map fun h => (kI h, V.bl (L h))) (kI k) = if k ∈ hs then some (.bl (L k)) else none
  | [] => by simp [valV_nil]
  | h :: hs => by
    rw [List.map_cons]
    by_cases e : h = k
    · subst e
      rw [valV_pos rfl, if_pos List.mem_cons_self]
    · rw [valV_neg (fun z => e (kI_inj z)), memo_get k hs]
      by_cases c : k ∈ hs
      · rw [if_pos c, if_pos (List.mem_cons_of_mem _ c)]
      · rw [if_neg c, if_neg fun z => (List.mem_cons.mp z).elim (fun q => e q.symm) c]
theorem Kb.pos {kd : Addr} {H H' : Hp} {L : List Int → Bool} {m : Nat} (s : Kb kd H H') (M : Memo L m kd H) {a : Addr} {h : List Int} (p : PosAt H a h) : PosAt H' a h := by
  obtain ⟨hs, h1, _⟩ := M
  exact s a _ p (ne_of p h1 (fun z => nomatch z))
theorem Kb.stat {C a kd : Addr} {G : Gs} {mv : List (List (List Int))} {H H' : Hp} (s : Kb kd H H') (l : LateIn C G mv a kd) (st : Stat G H) : Stat G H' := by
  obtain ⟨ml, dx, _, _, off⟩ := l
  exact fun p hp => s _ _ (st p hp) (off p hp)
theorem paired_get' {α β : Type} {R : α → β → Prop} : ∀ {as : List α} {bs : List β} {i : Nat} {a : α}, Paired R as bs → as[i]? = some a → ∃ b, bs[i]? = some b ∧ R a b
  | _, _, _, _, .nil, h => by simp at h
  | _, _, 0, _, .cons r _, h => by
    simp at h
    subst h
    exact ⟨_, rfl, r⟩
  | _, _, i + 1, a, .cons _ t, h => by
    obtain ⟨b, h1, h2⟩ := paired_get' (i := i) t (by simpa using h)
    exact ⟨b, by simpa using h1, h2⟩
theorem paired_get2 {α β : Type} {R : α → β → Prop} : ∀ {as : List α} {bs : List β} {i : Nat} {b : β}, Paired R as bs → bs[i]? = some b → ∃ a, as[i]? = some a ∧ R a b
  | _, _, _, _, .nil, h => by simp at h
  | _, _, 0, _, .cons r _, h => by
    simp at h
    subst h
    exact ⟨_, rfl, r⟩
  | _, _, i + 1, a, .cons _ t, h => by
    obtain ⟨b, h1, h2⟩ := paired_get2 (i := i) t (by simpa using h)
    exact ⟨b, by simpa using h1, h2⟩
/-- the names of the class and what they are -/
structure TL (K : PySem.W.Frag) (C : Addr) : Prop where
  cl : Cls K C
  mo : NoAttr K C "moves"
  kn : NoAttr K C "known"
theorem cut_take {h : List Int} {i : Nat} (hi : i ≤ h.length) : cutV (h.map V.int) none (some (i : Int)) = (h.take i).map V.int := by
  unfold cutV
  rw [HT.sIx_none, HT.sIx_nat, List.length_map, Nat.min_eq_left hi, List.drop_zero, Nat.sub_zero, List.map_take]
theorem cut_drop {h : List Int} {i : Nat} (hi : i ≤ h.length) : cutV (h.map V.int) (some (i : Int)) none = (h.drop i).map V.int := by
  unfold cutV
  rw [HT.sIx_none, HT.sIx_nat, List.length_map, Nat.min_eq_left hi, List.map_drop, List.take_of_length_le]
  rw [List.length_drop, List.length_map]
  exact Nat.le_refl _
theorem lk2 {x y : V} : ([("moves", x), ("known", y)] : List (Str × V)).lookup ("known" : Str) = some y := rfl
theorem lk1 {x y : V} : ([("moves", x), ("known", y)] : List (Str × V)).lookup ("moves" : Str) = some x := rfl
theorem lk0 {x y : V} : ([("moves", x), ("known", y)] : List (Str × V)).lookup ("loses" : Str) = none := rfl
end QT
set_option Elab.async false
set_option linter.all false
set_option maxRecDepth 100000
set_option maxHeartbeats 4000000
namespace QT
open PySem PySem.Spec PyProof.Rows L2
theorem memo_put {L : List Int → Bool} (k : List Int) (hs : List (List Int)) : putK (hs.map fun h => (kI h, V.bl (L h))) (kI k) (.bl (L k)) = (if k ∈ hs then hs else hs ++ [k]).map fun h => (kI h, V.bl (L h)) := by
  by_cases c : k ∈ hs
  · rw [if_pos c]
    have e : ((hs.map fun h => (kI h, V.bl (L h))).any fun kv => decide (kv.1 = kI k)) = true := by
      rw [List.any_eq_true]
      exact ⟨_, List.mem_map.mpr ⟨k, c, rfl⟩, decide_eq_true rfl⟩
    unfold putK
    rw [if_pos e, List.map_map]
    refine List.map_congr_left fun h _ => ?_
    show (if kI h = kI k then (kI h, V.bl (L k)) else (kI h, V.bl (L h))) = _
    by_cases q : kI h = kI k
    · rw [if_pos q, kI_inj q]
    · rw [if_neg q]
  · rw [if_neg c, putK_new _ (by rw [memo_get, if_neg c]), List.map_append] <;> rfl
theorem Memo.put {L : List Int → Bool} {m : Nat} {kd : Addr} {H : Hp} (M : Memo L m kd H) (hm : m ≤ 3) {b : Addr} {h : List Int} (hb : PosAt H b h) (v : vOk m h = true) (so : h.Pairwise (· ≤ ·)) :
    ∃ H', DPut H kd (.ref b) (.bl (L h)) H' ∧ Memo L m kd H' ∧ (∀ c, c ≠ kd → H' c = H c) ∧ DGet H' kd (.ref b) (some (.bl (L h))) := by
  obtain ⟨hs, h1, nd, ok⟩ := M
  have hz := memo_few hm nd ok
  have hne : b ≠ kd := ne_of hb h1 (fun z => nomatch z)
  refine ⟨_, DPut.t (k := kI h) h1 (by rw [kI_V]; exact hb) (by rw [List.length_map]; exact small_line' (by omega)), ⟨if h ∈ hs then hs else hs ++ [h], by rw [upd_same, memo_put], ?_, fun g hg => ?_⟩, fun c hc => upd_ne hc, ?_⟩
  · split
    · exact nd
    · rename_i c
      exact List.nodup_append.mpr ⟨nd, by simp, fun a ha b hb => by
        rw [List.mem_singleton.mp hb]
        exact fun e => c (e ▸ ha)⟩
  · split at hg
    · exact ok g hg
    · rcases List.mem_append.mp hg with z | z
      · exact ok g z
      · rw [List.mem_singleton.mp z]
        exact ⟨v, so⟩
  · have g := DGet.t (H := upd H kd (.dT (putK (hs.map fun h => (kI h, V.bl (L h))) (kI h) (.bl (L h))))) (a := kd) (b := b) (k := kI h) upd_same (by rw [kI_V, upd_ne hne]; exact hb)
    rw [memo_put, memo_get] at g
    have e : h ∈ (if h ∈ hs then hs else hs ++ [h]) := by
      split
      · assumption
      · exact List.mem_append_right _ (List.mem_singleton.mpr rfl)
    rw [if_pos e] at g
    rw [memo_put]
    exact g
theorem all_snoc {α : Type} (l : List α) (x : α) (g : α → Bool) : (l ++ [x]).all g = (l.all g && g x) := by
  rw [List.all_append]
  simp
theorem isEmpty_snoc {α : Type} (l : List α) (x : α) : (l ++ [x]).isEmpty = false := by
  cases l <;> rfl
def spLoses (n : Nat) (C : Addr) (G : Gs) (mv : List (List (List Int))) (L : List Int → Bool) (m : Nat) (a kd : Addr) : Sp := fun vs H Q _ => ∃ p h, vs = [.ref a, .ref p] ∧ PosAt H p h ∧ vOk m h = true ∧ h.Pairwise (· ≤ ·) ∧ h.sum < n ∧ Stat G H ∧ Memo L m kd H ∧
  ∀ H', Kb kd H H' → Memo L m kd H' → Q (.bl (L h)) H'
abbrev sLoses : Stmt := inClass (top 18) 1
abbrev nLoses : List Str := ["self", "heaps", "found", "moved", "at", "size", "rest"]
theorem scLoses : FnScope nLoses ["self", "heaps"] (defScope sLoses) := ⟨rfl, rfl, rfl, by decide +kernel, rfl, by decide +kernel, by decide +kernel⟩
section
variable {P : Program} {w : World} {K : PySem.W.Frag} {mg : Str → Option Value} {base : Heap} {f f1 f2 f3 C a kd : Addr} {fd fd1 fd2 fd3 : FuncData} {G : Gs} {mv : List (List (List Int))} {L : List Int → Bool} {m : Nat}
theorem step_loses (F : FnM K "loses" "Late.loses" sLoses f fd) (T : Tx mg) (TC : TL K C) (M : Meth K C "loses" f) (b : Binds K fd ["self", "heaps"] []) (LI : LateIn C G mv a kd) (CF : Cfg m mv L) {n : Nat}
    (IH : FnOk P w K mg base CX0 n f fd ["self", "heaps"] (spLoses n C G mv L m a kd)) : FnOk P w K mg base CX0 (n + 1) f fd ["self", "heaps"] (spLoses (n + 1) C G mv L m a kd) := by
  refine F.ok scLoses (fun vs H Q E h => ?_) (fun cdv A outer s H vs Q E hr h => ⟨_, PSs.nox
    (pss_cons (ps_if (pt_cmp (pc_dnotin (hu_of hr) (pv 1) (pe_fld (pv 0) rfl)))
      (pss_cons (ps_asg (pe_tup (pa_cons pe_bl (pa_cons pe_bl pa_nil))) (pg_tup rfl (pgs_cons (pg_name (i := 2) scLoses.nd rfl (.inl rfl)) (pgs_cons (pg_name (i := 3) scLoses.nd rfl (.inl rfl)) pgs_nil))))
      (pss_cons (ps_for PassesOwn.never rfl (pi_enumT rfl T.enumerate (pa_cons (pv 1) pa_nil)) (pg_tup rfl (pgs_cons (pg_name (i := 4) scLoses.nd rfl (.inl rfl)) (pgs_cons (pg_name (i := 5) scLoses.nd rfl (.inl rfl)) pgs_nil)))
        (pss_one (ps_for PassesOwn.never rfl (pi_list (pe_ix ix_list (pe_fld (pv 0) rfl) (pv 5) (fun _ _ => rfl))) (pg_name (i := 6) scLoses.nd rfl (.inl rfl))
          (pss_cons (ps_set (i := 3) scLoses.nd rfl (Or.inl rfl) pe_bl)
          (pss_one (ps_if (PW.pt (pw_and (pt_val (pv 2)) (pw_and1 (pt_val (pe_meth (pv 0) TC.cl M IH hr b .nil pass0 (pa_cons (pe_callTy call_tuple_of rfl T.tuple (by decide +kernel) (pa_cons (pe_callB cr_sortTI rfl T.sorted (by decide +kernel)
              (pa_cons (pe_tup (StX.pa_star (pe_slice sl_tup (pv 1) po_none (po_some (pv 4))) (StX.pa_star (pe_slice sl_tup (pv 1) (po_some (pe_op op_add (pv 4) pe_int)) po_none) (StX.pa_star (pv 6) pa_nil)))) pa_nil)) pa_nil)) pa_nil))))))
            (pss_one (ps_set (i := 2) scLoses.nd rfl (Or.inl rfl) pe_bl)) pss_nil))))))
      (pss_one (ps_dput (hu_of hr) (pe_fld (pv 0) rfl) (pv 1) (pe_and (pv 2) (pe_one (pv 3))) rfl)))) pss_nil)
    (pss_one (ps_ret (pe_dget (hu_of hr) (pe_fld (pv 0) rfl) (pv 1) (fun _ _ => rfl))))), ?_⟩)
  · obtain ⟨p, h, rfl, _⟩ := h
    rfl
  · obtain ⟨p, h, rfl, hp, hv, hso, hsum, hst, hM, q⟩ := h
    have hm := CF.ok.most
    obtain ⟨ml, dx, hins, ⟨rows, hrows, hpr⟩, hoff⟩ := id LI
    have insAt : ∀ {H' : Hp}, Stat G H' → H' a = some (.ins C dx [("moves", .ref ml), ("known", .ref kd)]) := fun st => st _ hins
    refine seq_mid (fun σ' H' => ∃ v2 v3 v4 v5 v6, σ' = [some (.ref a), some (.ref p), v2, v3, v4, v5, v6] ∧ Kb kd H H' ∧ Memo L m kd H' ∧ DGet H' kd (.ref p) (some (.bl (L h)))) (fun nx hnx => ?_) ?_
    · obtain ⟨hs, hk, nd, ok⟩ := id hM
      have g := DGet.t (H := H) (a := kd) (b := p) (k := kI h) hk (by rw [kI_V]; exact hp)
      rw [memo_get] at g
      refine ⟨_, rfl, _, rfl, a, C, dx, _, _, rfl, insAt hst, TC.cl, TC.kn, lk2, kd, _, rfl, g, _, rfl, ?_⟩
      by_cases c : h ∈ hs
      · rw [if_pos c] at g ⊢
        exact iteF (hnx _ _ ⟨_, _, _, _, _, rfl, Kb.refl _ _, hM, g⟩)
      · rw [if_neg c]
        refine iteT ?_
        refine ⟨by show 2 ≤ sizeLine; decide, fun t0 ht0 => ⟨t0, _, rfl, SqT.of upd_same, rfl, _, _, rfl, _, _, rfl, rfl, ?_⟩⟩
        have p0 : PosAt (upd H t0 (.tup [.bl true, .bl false])) p h := by
          show upd H t0 _ p = _
          rw [upd_ne (ne_of_none hp ht0)]
          exact hp
        have k0 : Kb kd H (upd H t0 (.tup [.bl true, .bl false])) := (Kb.refl kd H).new ht0
        have m0 : Memo L m kd (upd H t0 (.tup [.bl true, .bl false])) := hM.new ht0
        generalize upd H t0 (.tup [.bl true, .bl false]) = H0 at p0 k0 m0 ⊢
        dsimp only [gName]
        refine seq_mid (fun σ' H' => ∃ v4 v5 v6, σ' = [some (.ref a), some (.ref p), some (.bl ((opts mv h h.length).all fun o => !L o)), some (.bl (!(opts mv h h.length).isEmpty)), v4, v5, v6] ∧ Kb kd H H' ∧ Memo L m kd H') (fun nx2 hnx2 => ?_) ?_
        · refine ⟨_, rfl, p, _, rfl, SqT.of p0, for_it (walk_enumT (K := K) (xs := h.map V.int)) (fun i σ' H' => ∃ v4 v5 v6, σ' = [some (.ref a), some (.ref p), some (.bl ((opts mv h i).all fun o => !L o)), some (.bl (!(opts mv h i).isEmpty)), v4, v5, v6] ∧ Kb kd H H' ∧ Memo L m kd H')
            ⟨none, none, none, rfl, k0, m0⟩ (fun i σ' H' _ ⟨_, _, _, _, k, _⟩ => SqT.of (k.pos hM hp)) ?_ ?_⟩
          · rintro i v σ' H1 H2 hi ⟨v4, v5, v6, rfl, k1, m1⟩ ⟨T1, x, y, rfl, hT, rfl, ex, ey⟩
            cases ex
            obtain ⟨sz, e, rfl⟩ := map_get (show (h.map V.int)[i]? = some y from ey)
            have hil := (List.getElem?_eq_some_iff.mp e).1
            have egd : h.getD i 0 = sz := by rw [List.getD_eq_getElem?_getD, e] <;> rfl
            have hsz := (vOk_of hv).1 sz (List.mem_of_getElem? e)
            have hTH : H T1 = none := k1.free hM.at m1.at hT
            refine ⟨T1, _, rfl, SqT.of upd_same, rfl, _, _, rfl, _, _, rfl, rfl, ?_⟩
            have k2 : Kb kd H (upd H1 T1 (.tup [.int (i : Nat), .int sz])) := k1.new hTH
            have m2 : Memo L m kd (upd H1 T1 (.tup [.int (i : Nat), .int sz])) := m1.new hT
            generalize upd H1 T1 (.tup [.int (i : Nat), .int sz]) = H2 at k2 m2 ⊢
            dsimp only [gName]
            have hlt : sz.toNat < mv.length := by rw [CF.ok.len]; omega
            obtain ⟨row, hrow, as, has, hpa⟩ := paired_get2 hpr (List.getElem?_eq_getElem hlt)
            have emv : mv.getD sz.toNat [] = mv[sz.toNat] := by rw [List.getD_eq_getElem?_getD, List.getElem?_eq_getElem hlt] <;> rfl
            have erow : (rows.map V.ref)[sz.toNat]? = some (.ref row) := by rw [List.getElem?_map, hrow] <;> rfl
            have eopt : opt mv h i = mv[sz.toNat].map fun rest => srt (h.take i ++ h.drop (i + 1) ++ rest) := by
              unfold opt
              rw [egd, emv]
            refine ⟨_, rfl, a, C, dx, _, _, rfl, insAt (k2.stat LI hst), TC.cl, TC.mo, lk1, _, rfl, ml, _, sz, .ref row, rfl, rfl, SqL.of (k2.stat LI hst _ hrows), ?_, row, rfl, ⟨_, SqL.of (k2.stat LI hst _ has)⟩, ?_⟩
            · have := atI_nat erow
              rw [Int.toNat_of_nonneg (by omega)] at this
              exact this
            · refine for_list (K := K) (a := row) (xs := as.map V.ref) (fun j σ' H' => ∃ v6, σ' = [some (.ref a), some (.ref p), some (.bl ((opts mv h i ++ (opt mv h i).take j).all fun o => !L o)), some (.bl (!(opts mv h i ++ (opt mv h i).take j).isEmpty)), some (.int (i : Nat)), some (.int sz), v6] ∧ Kb kd H H' ∧ Memo L m kd H')
                ⟨v6, by rw [List.take_zero, List.append_nil]; rfl, k2, m2⟩ (fun j σ' H' _ ⟨_, _, k, _⟩ => SqL.of (k.stat LI hst _ has)) ?_ ?_
              · rintro j x σ' H3 hj ⟨v6, rfl, k3, m3⟩
                obtain ⟨ra, hra, rfl⟩ := map_get hj
                obtain ⟨rest, hrest, hrin⟩ := paired_get' hpa hra
                have hrm : rest ∈ mv.getD (h.getD i 0).toNat [] := by
                  rw [egd, emv]
                  exact List.mem_of_getElem? hrest
                obtain ⟨ov, os⟩ := opt_ok CF.ok hv hrm
                have eo : (opt mv h i)[j]? = some (srt (h.take i ++ h.drop (i + 1) ++ rest)) := by
                  rw [eopt, List.getElem?_map, hrest] <;> rfl
                have et := take_succ eo
                have nx3 : ∀ (b : Bool) (H' : Hp), b = ((opts mv h i ++ (opt mv h i).take (j + 1)).all fun o => !L o) → Kb kd H H' → Memo L m kd H' →
                    ∃ v6, ([some (.ref a), some (.ref p), some (.bl b), some (.bl true), some (.int (i : Nat)), some (.int sz), some (.ref ra)] : L2.St) = [some (.ref a), some (.ref p), some (.bl ((opts mv h i ++ (opt mv h i).take (j + 1)).all fun o => !L o)), some (.bl (!(opts mv h i ++ (opt mv h i).take (j + 1)).isEmpty)), some (.int (i : Nat)), some (.int sz), v6] ∧ Kb kd H H' ∧ Memo L m kd H' := by
                  rintro b H' rfl k m
                  refine ⟨some (.ref ra), ?_, k, m⟩
                  rw [et, ← List.append_assoc, isEmpty_snoc] <;> rfl
                refine ⟨_, rfl, _, rfl, ?_⟩
                have eall : ((opts mv h i ++ (opt mv h i).take (j + 1)).all fun o => !L o) = (((opts mv h i ++ (opt mv h i).take j).all fun o => !L o) && !L (srt (h.take i ++ h.drop (i + 1) ++ rest))) := by
                  rw [et, ← List.append_assoc, all_snoc]
                cases e1 : (opts mv h i ++ (opt mv h i).take j).all fun o => !L o with
                | false =>
                  exact iteF (nx3 _ _ (by rw [eall, e1, Bool.false_and]) k3 m3)
                | true =>
                  refine iteT ⟨_, rfl, a, dx, _, rfl, insAt (k3.stat LI hst), lk0, _, rfl, _, rfl, _, rfl, p, _, rfl, SqT.of (k3.pos hM hp), ?_, fun q1 hq1 => ?_⟩
                  · rw [HT.sIx_none, HT.sIx_nat, List.length_map]
                    omega
                  have f1 := k3.free hM.at m3.at hq1
                  have k4 := k3.new (o := .tup (cutV (h.map V.int) none (some (i : Int)))) f1
                  have m4 := m3.new (o := .tup (cutV (h.map V.int) none (some (i : Int)))) hq1
                  have e4 : upd H3 q1 (.tup (cutV (h.map V.int) none (some (i : Int)))) q1 = some (.tup ((h.take i).map V.int)) := by rw [upd_same, cut_take (by omega)]
                  rw [cut_take (show i ≤ h.length by omega)] at k4 m4 e4 ⊢
                  generalize upd H3 q1 (.tup ((h.take i).map V.int)) = H4 at k4 m4 e4 ⊢
                  refine ⟨q1, _, rfl, .inl (SqT.of e4), _, rfl, _, rfl, _, _, rfl, rfl, _, rfl, p, _, rfl, SqT.of (k4.pos hM hp), ?_, fun q2 hq2 => ?_⟩
                  · rw [HT.sIx_none, show ((i : Nat) : Int) + 1 = ((i + 1 : Nat) : Int) from rfl, HT.sIx_nat, List.length_map]
                    omega
                  have f2 := k4.free hM.at m4.at hq2
                  have k5 := k4.new (o := .tup (cutV (h.map V.int) (some ((i + 1 : Nat) : Int)) none)) f2
                  have m5 := m4.new (o := .tup (cutV (h.map V.int) (some ((i + 1 : Nat) : Int)) none)) hq2
                  have e5 : upd H4 q2 (.tup (cutV (h.map V.int) (some ((i + 1 : Nat) : Int)) none)) q2 = some (.tup ((h.drop (i + 1)).map V.int)) := by rw [upd_same, cut_drop (by omega)]
                  rw [cut_drop (show i + 1 ≤ h.length by omega)] at k5 m5 e5
                  rw [show (some (((i : Nat) : Int) + 1) : Option Int) = some ((i + 1 : Nat) : Int) from rfl, cut_drop (show i + 1 ≤ h.length by omega)]
                  generalize upd H4 q2 (.tup ((h.drop (i + 1)).map V.int)) = H5 at k5 m5 e5 ⊢
                  refine ⟨q2, _, rfl, .inl (SqT.of e5), _, rfl, ra, _, rfl, .inl (SqT.of (k5.stat LI hst _ hrin)), ?_⟩
                  have hol : (h.take i ++ h.drop (i + 1) ++ rest).length ≤ 28 := by
                    have := len_sum (vOk_of ov).1
                    have := (vOk_of ov).2
                    omega
                  have elist : (h.take i).map V.int ++ ((h.drop (i + 1)).map V.int ++ (rest.map V.int ++ [])) = (h.take i ++ h.drop (i + 1) ++ rest).map V.int := by
                    rw [List.append_nil, List.map_append, List.map_append, List.append_assoc]
                  refine ⟨?_, fun q3 hq3 => ?_⟩
                  · rw [elist, List.length_map]
                    exact small_line (by omega)
                  rw [elist]
                  generalize h.take i ++ h.drop (i + 1) ++ rest = o at ov os hol eall eo et nx3
                  have k6 := k5.new (o := .tup (o.map V.int)) (k5.free hM.at m5.at hq3)
                  have m6 := m5.new (o := .tup (o.map V.int)) hq3
                  have e6 : PosAt (upd H5 q3 (.tup (o.map V.int))) q3 o := upd_same
                  generalize upd H5 q3 (.tup (o.map V.int)) = H6 at k6 m6 e6 ⊢
                  refine ⟨q3, o, rfl, SqT.of e6, fun ns' q4 hperm hsorted hq4 => ?_⟩
                  obtain rfl := srt_uniq hperm hsorted
                  have k7 := k6.new (o := .lst ((srt o).map V.int)) (k6.free hM.at m6.at hq4)
                  have m7 := m6.new (o := .lst ((srt o).map V.int)) hq4
                  have e7 : upd H6 q4 (.lst ((srt o).map V.int)) q4 = some (.lst ((srt o).map V.int)) := upd_same
                  generalize upd H6 q4 (.lst ((srt o).map V.int)) = H7 at k7 m7 e7 ⊢
                  refine ⟨q4, _, rfl, .inl ⟨SqL.of e7, fun q5 hq5 => ?_⟩⟩
                  have k8 := k7.new (o := .tup ((srt o).map V.int)) (k7.free hM.at m7.at hq5)
                  have m8 := m7.new (o := .tup ((srt o).map V.int)) hq5
                  refine ⟨q5, srt o, rfl, upd_same, vOk_srt ov, srt_sorted o, by rw [srt_sum]; omega, k8.stat LI hst, m8, fun H9 k9 m9 => ?_⟩
                  have k10 := k8.trans k9
                  refine ⟨_, rfl, ?_⟩
                  cases e2 : L (srt o) with
                  | true =>
                    refine iteT ?_
                    exact nx3 false H9 (by rw [eall, e2, Bool.not_true, Bool.and_false]) k10 m9
                  | false =>
                    refine iteF ?_
                    exact nx3 true H9 (by rw [eall, e1, e2] <;> rfl) k10 m9
              · rintro σ' H3 ⟨v6, rfl, k3, m3⟩
                refine ⟨some (.int (i : Nat)), some (.int sz), v6, ?_, k3, m3⟩
                have el : (as.map V.ref).length = (opt mv h i).length := by
                  rw [List.length_map, eopt, List.length_map]
                  exact Paired.length hpa
                rw [el, List.take_length]
                rfl
          · rintro σ' H1 ⟨v4, v5, v6, rfl, k1, m1⟩
            rw [List.length_map] at *
            exact hnx2 _ _ ⟨_, _, _, rfl, k1, m1⟩
        · rintro _ H1 ⟨v4, v5, v6, rfl, k1, m1⟩
          have eL := CF.rec_ h (vOk_of hv).1
          obtain ⟨H3, d1, d2, d3, d4⟩ := m1.put hm (k1.pos hM hp) hv hso
          have fin : ∀ z, z = L h → tFld K (tVar 0) ("known" : Str) [some (.ref a), some (.ref p), some (.bl ((opts mv h h.length).all fun o => !L o)), some (.bl (!(opts mv h h.length).isEmpty)), v4, v5, v6] H1 fun x H2 => tVar 1 [some (.ref a), some (.ref p), some (.bl ((opts mv h h.length).all fun o => !L o)), some (.bl (!(opts mv h h.length).isEmpty)), v4, v5, v6] H2 fun y H3 => ∃ a' H4, x = .ref a' ∧ DPut H3 a' y (.bl z) H4 ∧ nx [some (.ref a), some (.ref p), some (.bl ((opts mv h h.length).all fun o => !L o)), some (.bl (!(opts mv h h.length).isEmpty)), v4, v5, v6] H4 := by
            rintro z rfl
            refine ⟨_, rfl, a, C, dx, _, _, rfl, insAt (k1.stat LI hst), TC.cl, TC.kn, lk2, _, rfl, kd, H3, rfl, d1, hnx _ _ ⟨_, _, _, _, _, rfl, fun c o hc hn => ?_, d2, d4⟩⟩
            rw [d3 c hn]
            exact k1 c o hc hn
          refine ⟨_, rfl, _, rfl, ?_⟩
          cases e1 : (opts mv h h.length).all fun o => !L o with
          | true =>
            refine iteT ⟨_, rfl, ?_⟩
            rw [e1] at fin eL
            exact fin _ (by rw [eL, Bool.and_true])
          | false =>
            rw [e1] at fin eL
            exact iteF (fin _ (by rw [eL, Bool.and_false]))
    · rintro _ H' ⟨v2, v3, v4, v5, v6, rfl, k1, m1, g1⟩
      exact ⟨_, rfl, a, C, dx, _, _, rfl, insAt (k1.stat LI hst), TC.cl, TC.kn, lk2, _, rfl, kd, _, rfl, g1, q _ k1 m1⟩
theorem ok_loses (F : FnM K "loses" "Late.loses" sLoses f fd) (T : Tx mg) (TC : TL K C) (M : Meth K C "loses" f) (b : Binds K fd ["self", "heaps"] []) (LI : LateIn C G mv a kd) (CF : Cfg m mv L) :
    ∀ n : Nat, FnOk P w K mg base CX0 n f fd ["self", "heaps"] (spLoses n C G mv L m a kd)
  | 0 => by
    have no : ∀ vs H Q E, ¬ spLoses 0 C G mv L m a kd vs H Q E := by
      rintro vs H Q E ⟨p, h, _, _, hv, _, hs, _⟩
      have := len_sum (vOk_of hv).1
      omega
    exact ⟨fun vs H Q E h => (no _ _ _ _ h).elim, fun _ _ _ _ _ _ _ _ _ _ _ _ _ h => (no _ _ _ _ h).elim⟩
  | n + 1 => step_loses F T TC M b LI CF (ok_loses F T TC M b LI CF n)
end
end QT
set_option Elab.async false
set_option linter.all false
set_option maxRecDepth 100000
set_option maxHeartbeats 4000000
namespace QT
open PySem PySem.Spec PyProof.Rows L2
theorem paired_mono {α β : Type} {R S : α → β → Prop} (f : ∀ a b, R a b → S a b) : ∀ {as : List α} {bs : List β}, Paired R as bs → Paired S as bs
  | _, _, .nil => .nil
  | _, _, .cons r t => .cons (f _ _ r) (paired_mono f t)
theorem paired_snoc {α β : Type} {R : α → β → Prop} : ∀ {as : List α} {bs : List β} {a : α} {b : β}, Paired R as bs → R a b → Paired R (as ++ [a]) (bs ++ [b])
  | _, _, _, _, .nil, h => .cons h .nil
  | _, _, _, _, .cons r t, h => .cons r (paired_snoc t h)
theorem RowIn.mono {G G' : Gs} {r : Addr} {os : List (List Int)} (h : ∀ p ∈ G, p ∈ G') (x : RowIn G r os) : RowIn G' r os := by
  obtain ⟨as, h1, h2⟩ := x
  exact ⟨as, h _ h1, paired_mono (fun a o q => h _ q) h2⟩
def tups : List Addr → List (List Int) → Gs
  | a :: as, h :: hs => (a, .tup (h.map V.int)) :: tups as hs
  | _, _ => []
theorem tups_in {R : Addr → List Int → Prop} : ∀ {as : List Addr} {hs : List (List Int)}, Paired R as hs → Paired (fun a h => (a, HO.tup (h.map V.int)) ∈ tups as hs) as hs
  | _, _, .nil => .nil
  | _, _, .cons r t => .cons List.mem_cons_self (paired_mono (fun a b q => List.mem_cons_of_mem _ q) (tups_in t))
theorem tups_of {R : Addr → List Int → Prop} : ∀ {as : List Addr} {hs : List (List Int)}, Paired R as hs → ∀ p ∈ tups as hs, ∃ h, p.2 = .tup (h.map V.int) ∧ R p.1 h
  | _, _, .nil, p, hp => by cases hp
  | _, _, .cons r t, p, hp => by
    rcases List.mem_cons.mp hp with e | e
    · subst e
      exact ⟨_, rfl, r⟩
    · exact tups_of t p e
abbrev sLateInit : Stmt := inClass (top 18) 0
abbrev nLateInit : List Str := ["self", "rule", "most", "size"]
theorem scLateInit : FnScope nLateInit ["self", "rule", "most"] (defScope sLateInit) := ⟨rfl, rfl, rfl, by decide +kernel, rfl, by decide +kernel, by decide +kernel⟩
def spLateInit (K : PySem.W.Frag) (C : Addr) : Sp := fun vs H Q _ => ∃ x dx r ds m, vs = [.ref x, .ref r, .int ((m : Nat) : Int)] ∧ H x = some (.ins C dx []) ∧ SqT K H r (ds.map V.int) ∧ RuleOk ds ∧ m ≤ 3 ∧
  ∀ H' G kd, (∀ b o, H b = some o → b ≠ x → H' b = some o) → LateIn C G (movesM ds m) x kd → Stat G H' → H' kd = some (.dT []) → H kd = none → (∀ p ∈ G, p.1 = x ∨ (∃ xs, p.2 = .lst xs) ∨ ∃ xs, p.2 = .tup xs) → Q .non H'
section
variable {P : Program} {w : World} {K : PySem.W.Frag} {mg : Str → Option Value} {base : Heap} {f f1 f2 f3 C a kd : Addr} {fd fd1 fd2 fd3 : FuncData} {G : Gs} {mv : List (List (List Int))} {L : List Int → Bool} {m : Nat}
theorem ok_lateInit (F : FnM K "__init__" "Late.__init__" sLateInit f fd) (T : Tx mg) (TC : TL K C) (c1 : Cal P w K mg base 4 "heap_options" ["rule", "size"] (spOptions K) f1 fd1) :
    FnOk P w K mg base CX0 5 f fd ["self", "rule", "most"] (spLateInit K C) := by
  refine F.ok scLateInit (fun vs H Q E h => ?_) (fun cdv A outer s H vs Q E hr h => ⟨_, PSs.nox
    (pss_cons (ps_fld (pv 0) (pe_lc (own := [("size", 3)]) (g := gName 3) (tt := tYes) rfl scLateInit.nd (pi_range1 rfl T.range (pa_cons (pe_op op_add (pv 2) pe_int) pa_nil)) (blkOk_by (N := nLateInit) (sc := defScope sLateInit) (by decide +kernel)) (fun _ _ _ _ _ => pg_name (i := 3) scLateInit.nd rfl (Or.inl rfl)) (fun _ _ _ _ _ => pts_nil)
        (fun _ _ _ _ _ => pe_call c1.ok hr rfl c1.g c1.kp c1.b .nil pass0 (pa_cons (pv 1) (pa_cons (pv 3) pa_nil)))) rfl)
    (pss_one (ps_fld (pv 0) pe_dnewT rfl))), ?_⟩)
  · obtain ⟨x, dx, r, ds, m, rfl, _⟩ := h
    rfl
  · obtain ⟨x, dx, r, ds, m, rfl, hx, hr1, hrule, hm, q⟩ := h
    refine ⟨_, rfl, _, _, rfl, rfl, _, rfl, by omega, by omega, fun D hD => ?_⟩
    refine lc_range (lo := 0) (n := ((m : Int) + 1).toNat) (fun i H' => ∃ (rows : List Addr) (G : Gs), H' D = some (.lst (rows.map V.ref)) ∧ rows.length = i ∧ Paired (RowIn G) rows ((List.range i).map fun s : Nat => optsM ds (s : Int)) ∧ Stat G H' ∧ Same H H' ∧ (∀ p ∈ G, p.1 ≠ D ∧ ((∃ xs, p.2 = .lst xs) ∨ ∃ xs, p.2 = .tup xs)))
      ⟨[], [], upd_same, rfl, .nil, fun p hp => (nomatch hp), same_upd hD, fun p hp => (nomatch hp)⟩ ?_ ?_
    · rintro i H1 hi ⟨rows, G, h1, h2, h3, h4, h5, h6⟩
      refine ⟨rfl, _, rfl, _, rfl, r, ds, (0 + (i : Int)), rfl, sqT_same h5 hr1, hrule, by omega, by omega, fun H2 p as s2 hp hp2 hpa => ?_⟩
      have hpD : p ≠ D := fun e => by rw [e, h1] at hp; cases hp
      have hD2 : H2 D = some (.lst (rows.map V.ref)) := s2 _ _ h1
      have htu := tups_of hpa
      have hin := tups_in hpa
      have e0 : (0 : Int) + (i : Int) = (i : Int) := Int.zero_add _
      rw [e0] at hin htu
      have htD : ∀ q ∈ tups as (optsM ds (i : Int)), q.1 ≠ D := fun q hq e => by
        obtain ⟨o, _, ho⟩ := htu q hq
        have ho : H2 q.1 = _ := ho
        rw [e, hD2] at ho
        cases ho
      have hal : ∀ q ∈ G ++ (p, HO.lst (as.map V.ref)) :: tups as (optsM ds (i : Int)), H2 q.1 = some q.2 ∧ q.1 ≠ D ∧ ((∃ xs, q.2 = .lst xs) ∨ ∃ xs, q.2 = .tup xs) := fun q hq => by
        rcases List.mem_append.mp hq with z | z
        · exact ⟨s2 _ _ (h4 q z), h6 q z⟩
        · rcases List.mem_cons.mp z with z | z
          · subst z
            exact ⟨hp2, hpD, .inl ⟨_, rfl⟩⟩
          · obtain ⟨o, e1, e2⟩ := htu q z
            exact ⟨by rw [e1]; exact e2, htD q z, .inr ⟨_, e1⟩⟩
      refine ⟨_, hD2, by rw [List.length_map]; exact small_line' (by omega), rows ++ [p], G ++ (p, .lst (as.map V.ref)) :: tups as (optsM ds (i : Int)), by rw [upd_same, List.map_append] <;> rfl, by rw [List.length_append, h2] <;> rfl, ?_, ?_, same_new (fun b o e => s2 _ _ (h5 b o e)) hD, fun q hq => (hal q hq).2⟩
      · rw [List.range_succ, List.map_append]
        exact paired_snoc (paired_mono (fun a b q => q.mono fun p hp => List.mem_append_left _ hp) h3) ⟨as, List.mem_append_right _ List.mem_cons_self, paired_mono (fun a b q => List.mem_append_right _ (List.mem_cons_of_mem _ q)) hin⟩
      · intro q hq
        rw [upd_ne (hal q hq).2.1]
        exact (hal q hq).1
    · rintro H1 ⟨rows, G, h1, h2, h3, h4, h5, h6⟩
      have hx1 := h5 _ _ hx
      refine ⟨_, rfl, x, C, dx, _, rfl, hx1, TC.cl, TC.mo, by show 0 < 1000; decide, fun kd hkd => ?_⟩
      have hkd2 : kd ≠ x := fun e => by rw [e, upd_same] at hkd; cases hkd
      have hkd1 : H1 kd = none := by rw [upd_ne hkd2] at hkd; exact hkd
      refine ⟨_, rfl, x, C, dx, _, rfl, by rw [upd_ne (Ne.symm hkd2), upd_same], TC.cl, TC.kn, by show 1 < 1000; decide, ?_⟩
      refine q _ ((x, .ins C dx [("moves", .ref D), ("known", .ref kd)]) :: (D, .lst (rows.map V.ref)) :: G) kd (fun b o e hne => ?_) ⟨D, dx, List.mem_cons_self, ⟨rows, List.mem_cons_of_mem _ List.mem_cons_self, ?_⟩, ?_⟩ ?_ ?_ ?_ ?_
      · have hb : b ≠ kd := ne_of_none (h5 _ _ e) hkd1
        rw [upd_ne hne, upd_ne hb, upd_ne hne]
        exact h5 _ _ e
      · have en : ((m : Int) + 1).toNat = m + 1 := by omega
        rw [en] at h3
        exact paired_mono (fun a b q => q.mono fun p hp => List.mem_cons_of_mem _ (List.mem_cons_of_mem _ hp)) h3
      · intro p hp
        rcases List.mem_cons.mp hp with z | z
        · subst z; exact Ne.symm hkd2
        · rcases List.mem_cons.mp z with z | z
          · subst z; exact ne_of_none h1 hkd1
          · exact ne_of_none (h4 p z) hkd1
      · have hDx : D ≠ x := fun e => by rw [e, hx1] at h1; cases h1
        intro p hp
        rcases List.mem_cons.mp hp with z | z
        · subst z
          rw [upd_same] <;> rfl
        · rcases List.mem_cons.mp z with z | z
          · subst z
            show upd _ x _ D = _
            rw [upd_ne hDx, upd_ne (ne_of_none h1 hkd1), upd_ne hDx]
            exact h1
          · have hpx : p.1 ≠ x := fun e => by
              have := h4 p z
              rw [e, hx1] at this
              have this := Option.some.inj this
              rcases (h6 p z).2 with ⟨xs, q⟩ | ⟨xs, q⟩ <;> rw [q] at this <;> cases this
            rw [upd_ne hpx, upd_ne (ne_of_none (h4 p z) hkd1), upd_ne hpx]
            exact h4 p z
      · rw [upd_ne hkd2, upd_same]
      · exact h5.free hkd1
      · intro p hp
        rcases List.mem_cons.mp hp with z | z
        · subst z; exact .inl rfl
        · rcases List.mem_cons.mp z with z | z
          · subst z; exact .inr (.inl ⟨_, rfl⟩)
          · exact .inr (h6 p z).2
end
end QT
set_option Elab.async false
set_option linter.all false
set_option maxRecDepth 100000
set_option maxHeartbeats 4000000
namespace QT
open PySem PySem.Spec PyProof.Rows L2
/-- tuples stand -/
def Tk (H H' : Hp) : Prop := ∀ b xs, H b = some (.tup xs) → H' b = some (.tup xs)
theorem Tk.of {H H' : Hp} (s : Same H H') : Tk H H' := fun b xs h => s b _ h
theorem Tk.refl (H : Hp) : Tk H H := fun _ _ h => h
theorem Tk.trans {H H1 H2 : Hp} (a : Tk H H1) (b : Tk H1 H2) : Tk H H2 := fun c xs h => b c xs (a c xs h)
theorem Tk.kb {kd : Addr} {H H' : Hp} {L : List Int → Bool} {m : Nat} (s : Kb kd H H') (M : Memo L m kd H) : Tk H H' := fun b xs h => by
  obtain ⟨hs, h1, _⟩ := M
  exact s b _ h (ne_of h h1 (fun z => nomatch z))
/-- a table: a tuple of tuples of ints -/
def TabAt (H : Hp) (a : Addr) (t : List (List Int)) : Prop := ∃ rs : List Addr, H a = some (.tup (rs.map V.ref)) ∧ Paired (PosAt H) rs t
theorem TabAt.keep {H H' : Hp} {a : Addr} {t : List (List Int)} (x : TabAt H a t) (k : Tk H H') : TabAt H' a t := by
  obtain ⟨rs, h1, h2⟩ := x
  exact ⟨rs, k _ _ h1, paired_mono (fun r row q => k _ _ q) h2⟩
theorem atI_int {α : Type} {xs : List α} {i : Int} {v : α} (h0 : 0 ≤ i) (h : xs[i.toNat]? = some v) : atI xs i = some v := by
  have := atI_nat h
  rw [Int.toNat_of_nonneg h0] at this
  exact this
theorem map_at {α β : Type} {g : α → β} {xs : List α} {i : Nat} {x : α} (h : xs[i]? = some x) : (xs.map g)[i]? = some (g x) := by
  rw [List.getElem?_map, h] <;> rfl
/-- t[a][b] -/
theorem tab_at {H : Hp} {p : Addr} {t : List (List Int)} (x : TabAt H p t) (M : Mon t) {a b : Int} (ha : 0 ≤ a) (ha' : a < t.length) (hb : 0 ≤ b) (hb' : b < t.length) :
    ∃ (rs : List Addr) (r : Addr) (row : List Int), H p = some (.tup (rs.map V.ref)) ∧ atI (rs.map V.ref) a = some (.ref r) ∧ PosAt H r row ∧ atI (row.map V.int) b = some (.int (tb t a b)) := by
  obtain ⟨rs, h1, h2⟩ := x
  obtain ⟨row, q1, q2, q3, _⟩ := M.at2 ha ha' hb hb'
  obtain ⟨r, r1, r2⟩ := paired_get2 h2 q1
  exact ⟨rs, r, row, h1, atI_int ha (map_at r1), r2, atI_int hb (map_at q3)⟩
theorem img_snoc {t : List (List Int)} {im : List Int} (h : List Int) (s : Int) : img t im (h ++ [s]) = tb t (img t im h) (im.getD (s - 1).toNat 0) := by
  unfold img
  rw [List.foldl_append] <;> rfl
theorem inM_take {m : Nat} {h : List Int} (i : InM m h) (n : Nat) : InM m (h.take n) := fun x hx => i x (List.mem_of_mem_take hx)
def spImage : Sp := fun vs H Q _ => ∃ t im p tab ims h m, vs = [.ref t, .ref im, .ref p] ∧ TabAt H t tab ∧ PosAt H im ims ∧ PosAt H p h ∧ Mon tab ∧ ImOk m tab ims ∧ InM m h ∧ Q (.int (img tab ims h)) H
abbrev sImage : Stmt := top 19
abbrev nImage : List Str := ["table", "images", "heaps", "found", "size"]
theorem scImage : FnScope nImage ["table", "images", "heaps"] (defScope sImage) := ⟨rfl, rfl, rfl, by decide +kernel, rfl, by decide +kernel, by decide +kernel⟩
def spLawImage : Sp := fun vs H Q _ => ∃ q t l im p tab ims h m, vs = [.ref q, .ref p] ∧ H q = some (.tup [.ref t, .ref l, .ref im]) ∧ TabAt H t tab ∧ PosAt H im ims ∧ PosAt H p h ∧ Mon tab ∧ ImOk m tab ims ∧ InM m h ∧ Q (.int (img tab ims h)) H
abbrev sLawImage : Stmt := top 34
abbrev nLawImage : List Str := ["_law_value", "_law_heaps", "_law_found", "_law_size"]
theorem scLawImage : FnScope nLawImage ["_law_value", "_law_heaps"] (defScope sLawImage) := ⟨rfl, rfl, rfl, by decide +kernel, rfl, by decide +kernel, by decide +kernel⟩
section
variable {P : Program} {w : World} {K : PySem.W.Frag} {mg : Str → Option Value} {base : Heap} {f f1 f2 f3 C a kd : Addr} {fd fd1 fd2 fd3 : FuncData}
theorem ok_image (F : FnP K "image_of" sImage f fd) : FnOk P w K mg base CX0 1 f fd ["table", "images", "heaps"] spImage := by
  refine F.ok scImage (fun vs H Q E h => ?_) (fun cdv A outer s H vs Q E hr h => ⟨_, PSs.nox
    (pss_cons (ps_set (i := 3) scImage.nd rfl (Or.inl rfl) pe_int)
    (pss_cons (ps_for PassesOwn.never rfl (pi_tup (pv 2)) (pg_name (i := 4) scImage.nd rfl (.inl rfl))
      (pss_one (ps_set (i := 3) scImage.nd rfl (Or.inl rfl) (pe_ix ix_tup (pe_ix ix_tup (pv 0) (pv 3) (fun _ _ => rfl)) (pe_ix ix_tup (pv 1) (pe_op op_sub (pv 4) pe_int) (fun _ _ => rfl)) (fun _ _ => rfl)))))
    (pss_one (ps_ret (pv 3))))), ?_⟩)
  · obtain ⟨t, im, p, tab, ims, h, m, rfl, _⟩ := h
    rfl
  · obtain ⟨t, im, p, tab, ims, h, m, rfl, ht, hi, hp, M, I, hin, q⟩ := h
    refine ⟨_, rfl, p, rfl, ⟨_, SqT.of hp⟩, for_tup (K := K) (a := p) (xs := h.map V.int) (fun i σ H' => ∃ v4, σ = [some (.ref t), some (.ref im), some (.ref p), some (.int (img tab ims (h.take i))), v4] ∧ H' = H) ⟨none, rfl, rfl⟩ (fun i σ H' _ ⟨_, _, e⟩ => by subst e; exact SqT.of hp) ?_ ?_⟩
    · rintro i x σ H' hx ⟨v4, rfl, rfl⟩
      obtain ⟨sz, e, rfl⟩ := map_get hx
      have hsz := hin sz (List.mem_of_getElem? e)
      have hr := img_rng M I (inM_take hin i)
      obtain ⟨z, z1, z2, z3, z4⟩ := im_at I hsz.1 hsz.2
      obtain ⟨rs, r, row, h1, h2, h3, h4⟩ := tab_at ht M hr.1 hr.2 z3 z4
      refine ⟨_, rfl, _, rfl, t, _, _, _, rfl, rfl, SqT.of h1, h2, _, rfl, _, rfl, _, _, rfl, rfl, im, _, _, _, rfl, rfl, SqT.of hi, atI_int (by omega) (map_at z1), r, _, _, _, rfl, rfl, SqT.of h3, h4, some (.int sz), ?_, rfl⟩
      rw [take_succ e, img_snoc, z2]
      rfl
    · rintro σ H' ⟨v4, rfl, rfl⟩
      rw [List.length_map, List.take_length]
      exact ⟨_, rfl, q⟩
theorem ok_lawImage (F : FnP K "_law_image" sLawImage f fd) : FnOk P w K mg base CX0 1 f fd ["_law_value", "_law_heaps"] spLawImage := by
  refine F.ok scLawImage (fun vs H Q E h => ?_) (fun cdv A outer s H vs Q E hr h => ⟨_, PSs.nox
    (pss_cons (ps_set (i := 2) scLawImage.nd rfl (Or.inl rfl) pe_int)
    (pss_cons (ps_for PassesOwn.never rfl (pi_tup (pv 1)) (pg_name (i := 3) scLawImage.nd rfl (.inl rfl))
      (pss_one (ps_set (i := 2) scLawImage.nd rfl (Or.inl rfl) (pe_ix ix_tup (pe_ix ix_tup (pe_ix ix_tup (pv 0) pe_int (fun _ _ => rfl)) (pv 2) (fun _ _ => rfl)) (pe_ix ix_tup (pe_ix ix_tup (pv 0) pe_int (fun _ _ => rfl)) (pe_op op_sub (pv 3) pe_int) (fun _ _ => rfl)) (fun _ _ => rfl)))))
    (pss_one (ps_ret (pv 2))))), ?_⟩)
  · obtain ⟨q, t, l, im, p, tab, ims, h, m, rfl, _⟩ := h
    rfl
  · obtain ⟨vq, t, l, im, p, tab, ims, h, m, rfl, hq, ht, hi, hp, M, I, hin, q⟩ := h
    refine ⟨_, rfl, p, rfl, ⟨_, SqT.of hp⟩, for_tup (K := K) (a := p) (xs := h.map V.int) (fun i σ H' => ∃ v4, σ = [some (.ref vq), some (.ref p), some (.int (img tab ims (h.take i))), v4] ∧ H' = H) ⟨none, rfl, rfl⟩ (fun i σ H' _ ⟨_, _, e⟩ => by subst e; exact SqT.of hp) ?_ ?_⟩
    · rintro i x σ H' hx ⟨v4, rfl, rfl⟩
      obtain ⟨sz, e, rfl⟩ := map_get hx
      have hsz := hin sz (List.mem_of_getElem? e)
      have hr := img_rng M I (inM_take hin i)
      obtain ⟨z, z1, z2, z3, z4⟩ := im_at I hsz.1 hsz.2
      obtain ⟨rs, r, row, h1, h2, h3, h4⟩ := tab_at ht M hr.1 hr.2 z3 z4
      refine ⟨_, rfl, vq, _, _, .ref t, rfl, rfl, SqT.of hq, atI_int (by decide) rfl, _, rfl, t, _, _, _, rfl, rfl, SqT.of h1, h2, _, rfl, vq, _, _, .ref im, rfl, rfl, SqT.of hq, atI_int (by decide) rfl, _, rfl, _, _, rfl, rfl, im, _, _, _, rfl, rfl, SqT.of hi, atI_int (by omega) (map_at z1), r, _, _, _, rfl, rfl, SqT.of h3, h4, some (.int sz), ?_, rfl⟩
      rw [take_succ e, img_snoc, z2]
      rfl
    · rintro σ H' ⟨v4, rfl, rfl⟩
      rw [List.length_map, List.take_length]
      exact ⟨_, rfl, q⟩
end
end QT
set_option Elab.async false
set_option linter.all false
set_option maxRecDepth 100000
set_option maxHeartbeats 4000000
namespace QT
open PySem PySem.Spec PyProof.Rows L2
/-- an entry: where its key stands in the dict, where in the order, where its heaps -/
abbrev TE4 := Addr × Addr × Addr × Ent
def rowT (t : TE4) : DRow := (keyP t.2.2.2.1, t.1, .ref t.2.2.1)
def PairAt (H : Hp) (a : Addr) (k : Int × List Int) : Prop := ∃ b, H a = some (.tup [.int k.1, .ref b]) ∧ PosAt H b k.2
structure EntAt (H : Hp) (t : TE4) : Prop where
  k : PairAt H t.1 t.2.2.2.1
  o : PairAt H t.2.1 t.2.2.2.1
  c : PosAt H t.2.2.1 t.2.2.2.2
theorem PairAt.keep {H H' : Hp} {a : Addr} {k : Int × List Int} (x : PairAt H a k) (s : Tk H H') : PairAt H' a k := by
  obtain ⟨b, h1, h2⟩ := x
  exact ⟨b, s _ _ h1, s _ _ h2⟩
theorem EntAt.keep {H H' : Hp} {t : TE4} (x : EntAt H t) (s : Tk H H') : EntAt H' t := ⟨x.k.keep s, x.o.keep s, s _ _ x.c⟩
theorem PairAt.key {K : PySem.W.Frag} {H : Hp} {a : Addr} {k : Int × List Int} (x : PairAt H a k) : KeyN K H (keyP k) a := by
  obtain ⟨b, h1, h2⟩ := x
  exact .inr ⟨k, b, rfl, SqT.of h1, SqT.of h2⟩
theorem ix_tK {X : Cx} {K : PySem.W.Frag} (h : X.K = K) : IxR X (rIxT K) := h ▸ ix_tup
theorem ix_lK {X : Cx} {K : PySem.W.Frag} (h : X.K = K) : IxR X (rIxL K) := h ▸ ix_list
/-- a set comprehension over a walk -/
theorem sc_it {P : Program} {w : World} {K : PySem.W.Frag} {J : It} {n : Nat} {Gd : Hp → Prop} {Y : Nat → Hp → V → Hp → Prop} (wk : Walk J n Gd Y) {X : Cx} {ac : Acc X.prog X.w X.K} {g : TG} {tt : TT} {te : TE} {vs : List Nat} {σ : L2.St} {D : Addr} {H0 : Hp} {Q : VK}
    (Pv : Nat → Hp → Prop) (h0 : Pv 0 H0) (hG : ∀ i H, i ≤ n → Pv i H → Gd H)
    (hs : ∀ i x H H', i < n → Pv i H → Y i H x H' → g x (wipe σ vs) H' fun σ2 H2 => wipe σ2 vs = wipe σ vs ∧ tt σ2 H2 fun b H3 => if b = true then te σ2 H3 fun y H4 => ac.rd D y H4 (Pv (i + 1)) else Pv (i + 1) H3)
    (hd : ∀ H, Pv n H → Q (.ref D) H) : bodyA ac g tt te vs σ Q J D H0 := by
  refine ⟨fun i m H => m = n - i ∧ i ≤ n ∧ Pv i H, ⟨n, by simp, Nat.zero_le _, h0⟩, ?_⟩
  rintro i m H ⟨rfl, hi, p⟩
  have q := hG i H hi p
  by_cases hlt : i < n
  · exact .inr ⟨wk.goes i H hlt q, Pv (i + 1), fun H' p' => ⟨n - (i + 1), by omega, rfl, hlt, p'⟩, fun x H' y => hs i x H H' hlt p (wk.yields i H x H' hlt q y)⟩
  · have e : i = n := by omega
    subst e
    exact .inl ⟨wk.stops H q, hd H p⟩
def gSt (mv : List (List (List Int))) (t : List (List Int)) (im : List Int) (s : Int) : Int × List Int := (im.getD (s - 1).toNat 0, isort ((mv.getD s.toNat []).map (img t im)))
/-- a step: its image, the list of what is behind -/
def StepAt (H : Hp) (sl a : Addr) (st : Int × List Int) : Prop := ∃ l, H a = some (.tup [.int st.1, .ref l]) ∧ H l = some (.lst (st.2.map V.int)) ∧ l ≠ sl
/-- all but sl stands -/
theorem StepAt.keep {H H' : Hp} {sl a : Addr} {st : Int × List Int} {xs : List V} (x : StepAt H sl a st) (hsl : H sl = some (.lst xs)) (k : Kb sl H H') : StepAt H' sl a st := by
  obtain ⟨l, h1, h2, h3⟩ := x
  exact ⟨l, k _ _ h1 (ne_of h1 hsl (fun z => nomatch z)), k _ _ h2 h3, h3⟩
theorem stat_same {G : Gs} {H H' : Hp} (s : Same H H') (st : Stat G H) : Stat G H' := fun p hp => s _ _ (st p hp)
theorem range_len {n : Nat} {l : List Int} (nd : l.Nodup) (h : ∀ x ∈ l, 0 ≤ x ∧ x < (n : Int)) : l.length ≤ n := by
  have := List.Nodup.length_le_of_subset (l₂ := (List.range n).map fun i : Nat => (i : Int)) nd fun x hx => List.mem_map.mpr ⟨x.toNat, List.mem_range.mpr (by have := h x hx; omega), by have := h x hx; omega⟩
  rw [List.length_map, List.length_range] at this
  exact this
theorem pe_disP {X : Cx} {P : Program} {w : World} {K : PySem.W.Frag} (h1 : X.prog = P) (h2 : X.w = w) (h3 : X.K = K) {pos : Pos} {keys : List (Option Expr)} {values : List Expr} {trs : List (TE × TE)} (hu : X.A.units + 64 < cLine) (h : PPs X pos keys values trs) (hall : keys.all (·.isSome) = true) (hl : keys.length = values.length) (h0 : keys ≠ [])
    (h15 : keys.length ≤ 15) : PE X (.Dict keys values pos) (tDisN P w K trs) := by
  subst h1 h2 h3
  exact pe_disN hu h hall hl h0 h15
def pStep (t : List (List Int)) (image : Int) (behind hs : List Int) (i : Nat) (st : Int × List Int) (es : List Ent) : List Ent := match lkE es (pairOf t image behind st) with
  | some _ => es
  | none => es ++ [(pairOf t image behind st, srt (hs ++ [(i : Int) + 1]))]
theorem pIn_snoc (t : List (List Int)) (image : Int) (behind hs : List Int) : ∀ (l : List (Int × List Int)) (i : Nat) (st : Int × List Int) (es : List Ent), pIn t image behind hs i (l ++ [st]) es = pStep t image behind hs (i + l.length) st (pIn t image behind hs i l es)
  | [], i, st, es => by
    show pIn t image behind hs i [st] es = pStep t image behind hs i st es
    rw [pIn, pStep]
    cases lkE es (pairOf t image behind st) <;> rfl
  | s :: l, i, st, es => by
    show pIn t image behind hs i (s :: (l ++ [st])) es = pStep t image behind hs (i + (l.length + 1)) st (pIn t image behind hs i (s :: l) es)
    rw [pIn, pIn]
    cases e : lkE es (pairOf t image behind s) with
    | none =>
      show pIn t image behind hs (i + 1) (l ++ [st]) _ = pStep t image behind hs (i + (l.length + 1)) st (pIn t image behind hs (i + 1) l _)
      rw [pIn_snoc t image behind hs l (i + 1) st, show i + 1 + l.length = i + (l.length + 1) by omega]
    | some v =>
      show pIn t image behind hs (i + 1) (l ++ [st]) _ = pStep t image behind hs (i + (l.length + 1)) st (pIn t image behind hs (i + 1) l _)
      rw [pIn_snoc t image behind hs l (i + 1) st, show i + 1 + l.length = i + (l.length + 1) by omega]
/-- entries: their keys differ, in range -/
structure EsOk (n : Nat) (es : List Ent) : Prop where
  nd : (es.map (·.1)).Nodup
  ok : ∀ e ∈ es, (0 ≤ e.1.1 ∧ e.1.1 < (n : Int)) ∧ (∀ x ∈ e.1.2, 0 ≤ x ∧ x < (n : Int)) ∧ e.1.2.Nodup ∧ e.2.length ≤ es.length
theorem lkE_none {k : Int × List Int} : ∀ {es : List Ent}, lkE es k = none → k ∉ es.map (·.1)
  | [], _, h => by cases h
  | e :: es, q, h => by
    rw [lkE] at q
    by_cases c : e.1 = k
    · rw [if_pos c] at q; cases q
    · rw [if_neg c] at q
      rw [List.map_cons] at h
      rcases List.mem_cons.mp h with z | z
      · exact c z.symm
      · exact lkE_none q z
theorem lk_rows (k : Int × List Int) : ∀ ts : List TE4, (lkN (ts.map rowT) (keyP k)).isSome = (lkE (ts.map fun t => t.2.2.2) k).isSome
  | [] => rfl
  | t :: ts => by
    rw [List.map_cons, List.map_cons, lkN, lkE]
    by_cases c : t.2.2.2.1 = k
    · rw [if_pos c, if_pos (show (rowT t).1 = keyP k by unfold rowT; rw [c])] <;> rfl
    · rw [if_neg c, if_neg (show ¬ (rowT t).1 = keyP k from fun e => c (keyP_inj e))]
      exact lk_rows k ts
theorem lk_at : ∀ {ts : List TE4} {t : TE4}, t ∈ ts → (ts.map fun t => t.2.2.2.1).Nodup → lkN (ts.map rowT) (keyP t.2.2.2.1) = some (.ref t.2.2.1)
  | [], _, h, _ => by cases h
  | u :: ts, t, h, nd => by
    rw [List.map_cons] at nd
    have nd := List.nodup_cons.mp nd
    rw [List.map_cons, lkN]
    by_cases c : u.2.2.2.1 = t.2.2.2.1
    · rcases List.mem_cons.mp h with e | e
      · subst e
        rw [if_pos (show (rowT t).1 = keyP t.2.2.2.1 from rfl)] <;> rfl
      · exact absurd (List.mem_map.mpr ⟨t, e, c.symm⟩) nd.1
    · rw [if_neg (show ¬ (rowT u).1 = keyP t.2.2.2.1 from fun e => c (keyP_inj e))]
      rcases List.mem_cons.mp h with e | e
      · subst e; exact absurd rfl c
      · exact lk_at e nd.2
theorem EsOk.step {t : List (List Int)} (M : Mon t) {image : Int} {behind hs : List Int} {i : Nat} {st : Int × List Int} {es : List Ent} (E : EsOk t.length es) (h1 : 0 ≤ image ∧ image < (t.length : Int)) (h2 : ∀ x ∈ behind, 0 ≤ x ∧ x < (t.length : Int)) (h3 : hs.length ≤ es.length)
    (h4 : 0 ≤ st.1 ∧ st.1 < (t.length : Int)) (h5 : ∀ x ∈ st.2, 0 ≤ x ∧ x < (t.length : Int)) (hn : lkE es (pairOf t image behind st) = none) : EsOk t.length (es ++ [(pairOf t image behind st, srt (hs ++ [(i : Int) + 1]))]) := by
  refine ⟨?_, fun e he => ?_⟩
  · rw [List.map_append]
    exact List.nodup_append.mpr ⟨E.nd, by simp, fun a ha b hb => by
      rw [List.map_cons, List.map_nil] at hb
      rw [List.mem_singleton.mp hb]
      exact fun q => by
        have q : a = pairOf t image behind st := q
        rw [q] at ha
        exact lkE_none hn ha⟩
  · rw [List.length_append, List.length_singleton]
    rcases List.mem_append.mp he with z | z
    · obtain ⟨a, b, c, d⟩ := E.ok e z
      exact ⟨a, b, c, by omega⟩
    · rw [List.mem_singleton.mp z]
      refine ⟨M.rng h1.1 h1.2 h4.1 h4.2, fun x hx => ?_, nodup_lt (isort_sorted _), ?_⟩
      · have hx : x ∈ isort _ := hx
        rcases List.mem_append.mp (isort_mem.mp hx) with y | y
        · obtain ⟨o, ho, rfl⟩ := List.mem_map.mp y
          exact M.rng (h2 o ho).1 (h2 o ho).2 h4.1 h4.2
        · obtain ⟨o, ho, rfl⟩ := List.mem_map.mp y
          exact M.rng h1.1 h1.2 (h5 o ho).1 (h5 o ho).2
      · rw [(srt_perm _).length_eq, List.length_append, List.length_singleton]
        omega
theorem cr_setIw {X : Cx} {w : World} (h : X.w = w) (hc : X.calm = true) : CallR X (.type "set") (rSetI X.K w) := by
  subst h
  exact cr_setI hc
abbrev sPairs : Stmt := top 20
abbrev nPairs : List Str := ["late", "most", "table", "images", "steps", "size", "behind", "found", "order", "at", "image", "more", "later", "told", "pair", "heaps", "one"]
theorem scPairs : FnScope nPairs ["late", "most", "table", "images"] (defScope sPairs) := ⟨rfl, rfl, rfl, by decide +kernel, rfl, by decide +kernel, by decide +kernel⟩
def spPairs (P : Program) (w : World) (C : Addr) (G : Gs) (mv : List (List (List Int))) (a kd : Addr) : Sp := fun vs H Q _ => ∃ t im tab ims m es, vs = [.ref a, .int ((m : Nat) : Int), .ref t, .ref im] ∧ TabAt H t tab ∧ PosAt H im ims ∧ Mon tab ∧ ImOk m tab ims ∧ MvOk m mv ∧ Stat G H ∧
  pairsM tab (stepsM mv tab ims m) 50 0 [((0, []), [])] = some es ∧ ∀ H' d (ts : List TE4), Same H H' → H d = none → H' d = some (DN P w d (ts.map rowT)) → es = ts.map (fun t => t.2.2.2) → (∀ t ∈ ts, EntAt H' t) → EsOk tab.length es → Q (.ref d) H'
section
variable {P : Program} {w : World} {K : PySem.W.Frag} {mg : Str → Option Value} {base : Heap} {f f1 f2 f3 C a kd : Addr} {fd fd1 fd2 fd3 : FuncData} {G : Gs} {mv : List (List (List Int))}
theorem ok_pairs (F : FnP K "pairs_of" sPairs f fd) (T : Tx mg) (TC : TL K C) (LI : LateIn C G mv a kd) (c1 : Cal P w K mg base 1 "image_of" ["table", "images", "heaps"] spImage f1 fd1) :
    FnOk P w K mg base CX0 2 f fd ["late", "most", "table", "images"] (spPairs P w C G mv a kd) := by
  obtain ⟨tk, hk⟩ := T.pairs
  refine F.ok scPairs (fun vs H Q E h => ?_) (fun cdv A outer s H vs Q E hr h => ⟨_, PSs.nox
    (pss_cons (ps_set (i := 4) scPairs.nd rfl (Or.inl rfl) (pe_lst pa_nil))
    (pss_cons (ps_for PassesOwn.never rfl (pi_range2 rfl T.range (pa_cons pe_int (pa_cons (pe_op op_add (pv 1) pe_int) pa_nil))) (pg_name (i := 5) scPairs.nd rfl (.inl rfl))
      (pss_cons (ps_set (i := 6) scPairs.nd rfl (Or.inl rfl) (pe_callB (cr_sortedSet rfl) rfl T.sorted (by decide +kernel) (pa_cons
        (pe_scA (accI P w K) (own := [("heaps", 15)]) (g := gName 15) (tt := tYes) hr.units rfl scPairs.nd (pi_list (pe_ix ix_list (pe_fld (pv 0) rfl) (pv 5) (fun _ _ => rfl))) (blkOk_by (N := nPairs) (sc := defScope sPairs) (by decide +kernel)) (fun _ _ _ _ _ => pg_name (i := 15) scPairs.nd rfl (Or.inl rfl)) (fun _ _ _ _ _ => pts_nil)
          (fun _ _ _ _ _ => pe_call c1.ok hr rfl c1.g c1.kp c1.b .nil pass0 (pa_cons (pv 2) (pa_cons (pv 3) (pa_cons (pv 15) pa_nil))))) pa_nil)))
      (pss_one (ps_expr (pe_bm PySem.F.plainAttrs_list PySem.F.slot_list_append PySem.F.type_list_append mt_append (pv 4) (pa_cons (pe_tup (pa_cons (pe_ix ix_tup (pv 3) (pe_op op_sub (pv 5) pe_int) (fun _ _ => rfl)) (pa_cons (pv 6) pa_nil))) pa_nil))))))
    (pss_cons (ps_par3 (i := 7) (j := 8) (l := 9) rfl scPairs.nd rfl rfl rfl (by decide) (by decide) (by decide) rfl rfl rfl
        (pa_cons (pe_disP (P := P) (w := w) (K := K) rfl rfl rfl hr.units (pps_cons (pe_tup (pa_cons pe_int (pa_cons (pe_tup pa_nil) pa_nil))) (pe_tup pa_nil) pps_nil) (by rfl) (by rfl) (fun z => by cases z) (by decide)) (pa_cons (pe_lst (pa_cons (pe_tup (pa_cons pe_int (pa_cons (pe_tup pa_nil) pa_nil))) pa_nil)) (pa_cons pe_int pa_nil))) (by rfl))
    (pss_cons (ps_while PassesOwn.never (pt_cmpR op_lt (pv 9) (pe_callB call_len_seq rfl T.len boot_len (pa_cons (pv 8) pa_nil)) (nomark _))
      (pss_cons (ps_asg (pe_ix ix_list (pv 8) (pv 9) (fun _ _ => rfl)) (pg_tup rfl (pgs_cons (pg_name (i := 10) scPairs.nd rfl (.inr rfl)) (pgs_cons (pg_name (i := 6) scPairs.nd rfl (.inl rfl)) pgs_nil))))
      (pss_cons (ps_for PassesOwn.never rfl (pi_enum rfl T.enumerate (pa_cons (pv 4) pa_nil)) (pg_tup rfl (pgs_cons (pg_name (i := 5) scPairs.nd rfl (.inl rfl)) (pgs_cons (pg_tup rfl (pgs_cons (pg_name (i := 11) scPairs.nd rfl (.inr rfl)) (pgs_cons (pg_name (i := 12) scPairs.nd rfl (.inl rfl)) pgs_nil))) pgs_nil)))
        (pss_cons (ps_set (i := 13) scPairs.nd rfl (Or.inl rfl) (pe_op op_cat
            (pe_lc (own := [("one", 16)]) (g := gName 16) (tt := tYes) rfl scPairs.nd (pi_tup (pv 6)) (blkOk_by (N := nPairs) (sc := defScope sPairs) (by decide +kernel)) (fun _ _ _ _ _ => pg_name (i := 16) scPairs.nd rfl (Or.inl rfl)) (fun _ _ _ _ _ => pts_nil) (fun _ _ _ _ _ => pe_ix (ix_tK (K := K) rfl) (pe_ix (ix_tK (K := K) rfl) (pv 2) (pv 16) (fun _ _ => rfl)) (pv 11) (fun _ _ => rfl)))
            (pe_lc (own := [("one", 16)]) (g := gName 16) (tt := tYes) rfl scPairs.nd (pi_list (pv 12)) (blkOk_by (N := nPairs) (sc := defScope sPairs) (by decide +kernel)) (fun _ _ _ _ _ => pg_name (i := 16) scPairs.nd rfl (Or.inl rfl)) (fun _ _ _ _ _ => pts_nil) (fun _ _ _ _ _ => pe_ix (ix_tK (K := K) rfl) (pe_ix (ix_tK (K := K) rfl) (pv 2) (pv 10) (fun _ _ => rfl)) (pv 16) (fun _ _ => rfl)))))
        (pss_cons (ps_set (i := 14) scPairs.nd rfl (Or.inl rfl) (pe_tup (pa_cons (pe_ix ix_tup (pe_ix ix_tup (pv 2) (pv 10) (fun _ _ => rfl)) (pv 11) (fun _ _ => rfl)) (pa_cons (pe_callTy call_tuple_of rfl T.tuple (by decide +kernel) (pa_cons (pe_callB (cr_sortedSet rfl) rfl T.sorted (by decide +kernel) (pa_cons (pe_callTy (cr_setIw (w := w) rfl rfl) rfl T.set (by decide +kernel) (pa_cons (pv 13) pa_nil)) pa_nil)) pa_nil)) pa_nil))))
        (pss_one (ps_if (pt_cmpR (op_notInN hr.units) (pv 14) (pv 7) (by rfl))
          (pss_cons (ps_if (pt_cmpR op_eq (pe_callB call_len_seq rfl T.len boot_len (pa_cons (pv 8) pa_nil)) (pe_glob (v := .int 20000) rfl hk ⟨_, rfl⟩) (nomark _)) (pss_one ps_never) pss_nil)
          (pss_cons (ps_asg (pe_callTy call_tuple_of rfl T.tuple (by decide +kernel) (pa_cons (pe_callB cr_sortTI rfl T.sorted (by decide +kernel) (pa_cons (pe_tup (StX.pa_star (pe_ix (ix_dictN hr.units) (pv 7) (pe_ix ix_list (pv 8) (pv 9) (fun _ _ => rfl)) (fun _ _ => rfl)) (pa_cons (pe_op op_add (pv 5) pe_int) pa_nil))) pa_nil)) pa_nil)) (pg_sub (pv 7) (pv 14) (set_dictN hr.units)))
          (pss_one (ps_expr (pe_bm PySem.F.plainAttrs_list PySem.F.slot_list_append PySem.F.type_list_append mt_append (pv 8) (pa_cons (pv 14) pa_nil)))))) pss_nil)))))
      (pss_one (ps_aug (i := 9) scPairs.nd rfl (.inl rfl) pe_int ip_add)))))
    (pss_one (ps_ret (pv 7))))))), ?_⟩)
  · obtain ⟨t, im, tab, ims, m, es, rfl, _⟩ := h
    rfl
  · obtain ⟨t, im, tab, ims, m, es, rfl, ht, him, M, I, V0, hst, hes, q⟩ := h
    obtain ⟨ml, dx, hins, ⟨rows, hrows, hpr⟩, hoff⟩ := id LI
    refine ⟨by show 0 ≤ sizeLine; decide, fun sl hsl => ?_⟩
    have s0 : Same H (upd H sl (.lst [])) := same_upd hsl
    have e0 : upd H sl (.lst []) sl = some (.lst []) := upd_same
    generalize upd H sl (.lst []) = H0 at s0 e0 ⊢
    dsimp only [gName]
    refine seq_mid (fun σ' H' => ∃ v5 v6 ss, σ' = [some (.ref a), some (.int (m : Nat)), some (.ref t), some (.ref im), some (.ref sl), v5, v6, none, none, none, none, none, none, none, none, none, none] ∧ Same H H' ∧ H' sl = some (.lst (ss.map V.ref)) ∧ Paired (StepAt H' sl) ss (stepsM mv tab ims m)) (fun nx hnx => ?_) ?_
    · refine ⟨_, rfl, _, _, rfl, rfl, 1, (m : Int) + 1, rfl, ⟨by decide, by decide, by omega, by have := V0.most; omega⟩, for_range (lo := 1) (n := ((m : Int) + 1 - 1).toNat) (fun i σ' H' => ∃ v5 v6 ss, σ' = [some (.ref a), some (.int (m : Nat)), some (.ref t), some (.ref im), some (.ref sl), v5, v6, none, none, none, none, none, none, none, none, none, none] ∧ Same H H' ∧ H' sl = some (.lst (ss.map V.ref)) ∧ Paired (StepAt H' sl) ss ((List.range i).map fun j : Nat => gSt mv tab ims ((j : Int) + 1)))
        ⟨none, none, [], rfl, s0, e0, .nil⟩ ?_ ?_⟩
      · rintro i σ' H1 hi ⟨v5, v6, ss, rfl, s1, h1, h2⟩
        have him1 : i < m := by omega
        have esz : ((1 : Int) + (i : Int)).toNat = i + 1 := by omega
        have hlt : i + 1 < mv.length := by rw [V0.len]; omega
        obtain ⟨row, hrow, as, has, hpa⟩ := paired_get2 hpr (List.getElem?_eq_getElem hlt)
        have emv : mv.getD (i + 1) [] = mv[i + 1] := by rw [List.getD_eq_getElem?_getD, List.getElem?_eq_getElem hlt] <;> rfl
        have erow : (rows.map V.ref)[i + 1]? = some (.ref row) := map_at hrow
        have st1 := stat_same s1 hst
        refine ⟨_, rfl, a, C, dx, _, _, rfl, st1 _ hins, TC.cl, TC.mo, lk1, _, rfl, ml, _, 1 + (i : Int), .ref row, rfl, rfl, SqL.of (st1 _ hrows), atI_int (by omega) (by rw [esz]; exact erow), row, rfl, ⟨_, SqL.of (st1 _ has)⟩, fun D hD => ?_⟩
        refine sc_it (P := P) (w := w) (K := K) (walk_list (K := K) (xs := as.map V.ref)) (fun j H' => ∃ S n, H' D = some (SetO w D S n) ∧ n ≤ j ∧ (∀ k, S k = true ↔ k ∈ (mv[i + 1].take j).map (img tab ims)) ∧ Same H1 H')
          ⟨_, 0, upd_same, Nat.le_refl _, fun k => by simp, same_upd hD⟩ (fun j H' _ ⟨_, _, _, _, _, e⟩ => SqL.of (stat_same e st1 _ has)) ?_ ?_
        · rintro j x H2 H3 hj ⟨S, n, d1, d2, d3, d4⟩ ⟨rfl, hx⟩
          obtain ⟨ra, hra, rfl⟩ := map_get hx
          obtain ⟨rest, hrest, hrin⟩ := paired_get' hpa hra
          have hri : InM m rest := (V0.inm (i + 1) (by omega) rest (by rw [emv]; exact List.mem_of_getElem? hrest)).1
          have st3 := stat_same d4 st1
          have tk3 : Tk H H3 := Tk.of (fun b o e => d4 _ _ (s1 b o e))
          have hjl := (List.getElem?_eq_some_iff.mp hrest).1
          have hsm : mv[i + 1].length ≤ 20 := by rw [← emv]; exact V0.few _ (by omega)
          refine ⟨rfl, _, rfl, _, rfl, _, rfl, t, im, ra, tab, ims, rest, m, rfl, ht.keep tk3, tk3 _ _ him, st3 _ hrin, M, I, hri, ?_⟩
          refine ⟨img tab ims rest, S, n, rfl, d1, by omega, _, _, upd_same, ?_, fun k => ?_, same_new d4 hD⟩
          · split <;> omega
          · rw [take_succ hrest, List.map_append, List.mem_append, ← d3]
            simp
        · rintro H2 ⟨S, n, d1, d2, d3, d4⟩
          have hal : (as.map V.ref).length = mv[i + 1].length := by rw [List.length_map]; exact Paired.length hpa
          have hsm : mv[i + 1].length ≤ 20 := by rw [← emv]; exact V0.few _ (by omega)
          rw [hal] at d2 d3
          rw [List.take_length] at d3
          refine ⟨D, S, n, rfl, d1, by omega, fun ns p nso nmem nlen hp => ?_⟩
          have ens : ns = isort (mv[i + 1].map (img tab ims)) := isort_uniq nso fun z => (nmem z).trans (d3 z)
          have s2 : Same H1 (upd H2 p (.lst (ns.map V.int))) := same_new d4 (d4.free hp)
          have e2 : upd H2 p (.lst (ns.map V.int)) p = some (.lst (ns.map V.int)) := upd_same
          have hpsl : p ≠ sl := fun e => by
            have := d4.free hp
            rw [e, h1] at this
            cases this
          generalize upd H2 p (.lst (ns.map V.int)) = H3 at s2 e2 ⊢
          have s3 : Same H H3 := s1.trans s2
          obtain ⟨z, z1, z2, z3, z4⟩ := im_at I (show (1 : Int) ≤ 1 + (i : Int) by omega) (by omega)
          refine ⟨_, rfl, .inl ⟨rfl, _, SqL.of (s2 _ _ h1)⟩, _, rfl, _, rfl, _, _, rfl, rfl, im, _, _, _, rfl, rfl, SqT.of (s3 _ _ him), atI_int (by omega) (map_at z1), _, rfl, by show 2 ≤ sizeLine; decide, fun tt htt => ?_⟩
          have s4 : Same H1 (upd H3 tt (.tup [.int z, .ref p])) := same_new s2 (s2.free htt)
          have e4 : upd H3 tt (.tup [.int z, .ref p]) p = some (.lst (ns.map V.int)) := by rw [upd_ne (ne_of_none e2 htt)]; exact e2
          have e5 : upd H3 tt (.tup [.int z, .ref p]) tt = some (.tup [.int z, .ref p]) := upd_same
          generalize upd H3 tt (.tup [.int z, .ref p]) = H4 at s4 e4 e5 ⊢
          have hss : ss.length = i := by
            have := Paired.length h2
            rw [this, List.length_map, List.length_range]
          have hk : Kb sl H1 (upd H4 sl (.lst (ss.map V.ref ++ [.ref tt]))) := fun b o hb hn => by
            rw [upd_ne hn]
            exact s4 _ _ hb
          have htsl : tt ≠ sl := fun e => by
            rw [e, s4 _ _ h1] at e5
            cases e5
          refine ⟨sl, _, _, rfl, rfl, s4 _ _ h1, by rw [List.length_map, hss]; exact small_line' (by have := V0.most; omega), _, _, ss ++ [tt], rfl, same_new (s1.trans s4) hsl, ?_, ?_⟩
          · rw [upd_same, List.map_append] <;> rfl
          · rw [List.range_succ, List.map_append]
            refine paired_snoc (paired_mono (fun x st q => q.keep h1 hk) h2) ⟨p, ?_, ?_, hpsl⟩
            · rw [upd_ne htsl, e5]
              show some (HO.tup [.int z, .ref p]) = some (.tup [.int (ims.getD (((i : Nat) : Int) + 1 - 1).toNat 0), .ref p])
              rw [show ((i : Nat) : Int) + 1 - 1 = (1 + (i : Int)) - 1 by omega, z2]
            · rw [upd_ne hpsl, e4, ens]
              show _ = some (HO.lst ((isort ((mv.getD (((i : Nat) : Int) + 1).toNat []).map (img tab ims))).map V.int))
              rw [show (((i : Nat) : Int) + 1).toNat = i + 1 by omega, emv]
      · rintro σ' H1 ⟨v5, v6, ss, rfl, s1, h1, h2⟩
        refine hnx _ _ ⟨v5, v6, ss, rfl, s1, h1, ?_⟩
        have en : ((m : Int) + 1 - 1).toNat = m := by omega
        rw [en] at h2
        unfold stepsM sizes
        rw [List.map_map]
        exact h2
    · rintro σ' H1 ⟨v5, v6, ss, rfl, s1, h1, h2⟩
      refine fun d hd => ⟨by show 0 ≤ sizeLine; decide, fun b1 hb1 => ⟨by show 2 ≤ sizeLine; decide, fun ka hka => ⟨by show 0 ≤ sizeLine; decide, fun cc hcc => ?_⟩⟩⟩
      have a0 : Same H1 (upd H1 d (DN P w d [])) := same_upd hd
      have a1 : Same H1 (upd (upd H1 d (DN P w d [])) b1 (.tup [])) := same_new a0 (a0.free hb1)
      have a2 := same_new (o := .tup [.int 0, .ref b1]) a1 (a1.free hka)
      have a3 := same_new (o := .tup []) a2 (a2.free hcc)
      have dd : upd (upd (upd (upd H1 d (DN P w d [])) b1 (.tup [])) ka (.tup [.int 0, .ref b1])) cc (.tup []) d = some (DN P w d []) := by
        have n1 : d ≠ b1 := fun e => by rw [← e, upd_same] at hb1; cases hb1
        have n2 : d ≠ ka := fun e => by rw [← e, upd_ne n1, upd_same] at hka; cases hka
        have n3 : d ≠ cc := fun e => by rw [← e, upd_ne n2, upd_ne n1, upd_same] at hcc; cases hcc
        rw [upd_ne n3, upd_ne n2, upd_ne n1, upd_same]
      have dk : PairAt (upd (upd (upd (upd H1 d (DN P w d [])) b1 (.tup [])) ka (.tup [.int 0, .ref b1])) cc (.tup [])) ka (0, []) := by
        have n2 : b1 ≠ ka := fun e => by rw [← e, upd_same] at hka; cases hka
        have n3 : b1 ≠ cc := fun e => by rw [← e, upd_ne n2, upd_same] at hcc; cases hcc
        have n4 : ka ≠ cc := fun e => by rw [← e, upd_same] at hcc; cases hcc
        exact ⟨b1, by rw [upd_ne n4, upd_same], by show upd _ cc _ b1 = _; rw [upd_ne n3, upd_ne n2, upd_same]; rfl⟩
      have dc : upd (upd (upd (upd H1 d (DN P w d [])) b1 (.tup [])) ka (.tup [.int 0, .ref b1])) cc (.tup []) cc = some (.tup []) := upd_same
      generalize upd (upd (upd (upd H1 d (DN P w d [])) b1 (.tup [])) ka (.tup [.int 0, .ref b1])) cc (.tup []) = H2 at a3 dd dk dc ⊢
      refine ⟨dd, keyP (0, []), ka, .ref cc, rfl, dk.key, by show 0 ≤ sizeLine; decide, fun b2 hb2 => ⟨by show 2 ≤ sizeLine; decide, fun oa hoa => ⟨by show 1 ≤ sizeLine; decide, fun ol hol => ⟨_, _, _, rfl, ?_⟩⟩⟩⟩
      have d1 : upd H2 d (DN P w d [(keyP (0, []), ka, .ref cc)]) d = some (DN P w d [(keyP (0, []), ka, .ref cc)]) := upd_same
      have t1 : Tk H2 (upd H2 d (DN P w d [(keyP (0, []), ka, .ref cc)])) := fun b xs hb => by
        rw [upd_ne (ne_of hb dd (fun z => nomatch z))]
        exact hb
      have a4 : Same H1 (upd H2 d (DN P w d [(keyP (0, []), ka, .ref cc)])) := fun b o hb => by
        rw [upd_ne (ne_of_none hb hd)]
        exact a3 _ _ hb
      have dk2 := dk.keep t1
      have dc2 := t1 _ _ dc
      generalize upd H2 d (DN P w d [(keyP (0, []), ka, .ref cc)]) = H3 at d1 t1 a4 dk2 dc2 hb2 hoa hol ⊢
      have s4 : Same H3 (upd (upd (upd H3 b2 (.tup [])) oa (.tup [.int 0, .ref b2])) ol (.lst [.ref oa])) := by
        have u1 : Same H3 (upd H3 b2 (.tup [])) := same_upd hb2
        have u2 := same_new (o := .tup [.int 0, .ref b2]) u1 (u1.free hoa)
        exact same_new u2 (u2.free hol)
      have do1 : PairAt (upd (upd (upd H3 b2 (.tup [])) oa (.tup [.int 0, .ref b2])) ol (.lst [.ref oa])) oa (0, []) := by
        have n2 : b2 ≠ oa := fun e => by rw [← e, upd_same] at hoa; cases hoa
        have n3 : b2 ≠ ol := fun e => by rw [← e, upd_ne n2, upd_same] at hol; cases hol
        have n4 : oa ≠ ol := fun e => by rw [← e, upd_same] at hol; cases hol
        exact ⟨b2, by rw [upd_ne n4, upd_same], by show upd _ ol _ b2 = _; rw [upd_ne n3, upd_ne n2, upd_same]; rfl⟩
      have dol : upd (upd (upd H3 b2 (.tup [])) oa (.tup [.int 0, .ref b2])) ol (.lst [.ref oa]) ol = some (.lst [.ref oa]) := upd_same
      have hol1 : H1 ol = none := by
        have u1 : Same H3 (upd H3 b2 (.tup [])) := same_upd hb2
        have u2 := same_new (o := .tup [.int 0, .ref b2]) u1 (u1.free hoa)
        exact a4.free (u2.free hol)
      generalize upd (upd (upd H3 b2 (.tup [])) oa (.tup [.int 0, .ref b2])) ol (.lst [.ref oa]) = H4 at s4 do1 dol ⊢
      have s5 : Same H1 H4 := a4.trans s4
      have e5 : EntAt H4 (ka, oa, cc, ((0, []), [])) := ⟨dk2.keep (Tk.of s4), do1, s4 _ _ dc2⟩
      have d5 := s4 _ _ d1
      dsimp only [List.set]
      clear dd dk dc t1 dk2 dc2 s4 do1 a4 d1 hoa hol hb2 a3 a2 a1 a0 hb1 hka hcc
      have hpos := M.pos
      have hsts : ∀ st ∈ stepsM mv tab ims m, (0 ≤ st.1 ∧ st.1 < (tab.length : Int)) ∧ (∀ x ∈ st.2, 0 ≤ x ∧ x < (tab.length : Int)) ∧ st.2.Nodup := by
        intro st hst2
        unfold stepsM at hst2
        obtain ⟨sz, hsz, rfl⟩ := List.mem_map.mp hst2
        obtain ⟨q1, q2⟩ := sizes_mem hsz
        obtain ⟨z, _, z2, z3, z4⟩ := im_at I q1 q2
        refine ⟨by show 0 ≤ ims.getD _ 0 ∧ _; rw [z2]; exact ⟨z3, z4⟩, fun x hx => ?_, nodup_lt (isort_sorted _)⟩
        obtain ⟨rest, hr2, rfl⟩ := List.mem_map.mp (isort_mem.mp hx)
        exact img_rng M I (V0.inm sz.toNat (by omega) rest hr2).1
      have hss : ss.length = m := by
        rw [Paired.length h2]
        unfold stepsM sizes
        rw [List.length_map, List.length_map, List.length_range]
      have hm3 := V0.most
      generalize stepsM mv tab ims m = sts at h2 hes hsts
      show tSeq (tWhile _ _) _ _ _ _
      refine ⟨fun fuel σ' H' => ∃ (i : Nat) (ts : List TE4) (v5 v6 v10 v11 v12 v13 v14 : Option V), σ' = [some (.ref a), some (.int (m : Nat)), some (.ref t), some (.ref im), some (.ref sl), v5, v6, some (.ref d), some (.ref ol), some (.int (i : Nat)), v10, v11, v12, v13, v14, none, none] ∧ Same H1 H' ∧
          H' d = some (DN P w d (ts.map rowT)) ∧ H' ol = some (.lst (ts.map fun t => .ref t.2.1)) ∧ (∀ t ∈ ts, EntAt H' t) ∧ EsOk tab.length (ts.map fun t => t.2.2.2) ∧ pairsM tab sts fuel i (ts.map fun t => t.2.2.2) = some es,
        ⟨50, 0, [(ka, oa, cc, ((0, []), []))], v5, v6, none, none, none, none, none, rfl, s5, d5, dol, fun t ht => by rw [List.mem_singleton.mp ht]; exact e5, ⟨by simp, fun e he => by
          rw [List.map_cons, List.map_nil] at he
          rw [List.mem_singleton.mp he]
          exact ⟨⟨Int.le_refl _, by show (0 : Int) < _; omega⟩, fun x hx => (nomatch hx), List.nodup_nil, Nat.zero_le _⟩⟩, hes⟩, ?_⟩
      rintro fuel σ' H' ⟨i, ts, v5, v6, v10, v11, v12, v13, v14, rfl, s6, g1, g2, g3, g4, g5⟩
      refine ⟨_, rfl, _, rfl, ol, _, rfl, .inl (SqL.of g2), _, _, rfl, rfl, _, rfl, ?_⟩
      rw [List.length_map]
      cases fuel with
      | zero => rw [pairsM] at g5; cases g5
      | succ fuel =>
      rw [pairsM] at g5
      by_cases hfew : (ts.map fun t => t.2.2.2).length < 50
      case neg => rw [if_neg hfew] at g5; cases g5
      rw [if_pos hfew] at g5
      rw [List.length_map] at hfew
      by_cases hi : i < ts.length
      · rw [decide_eq_true (show ((i : Nat) : Int) < ((ts.length : Nat) : Int) by omega)]
        have hti : ts[i]? = some ts[i] := List.getElem?_eq_getElem hi
        generalize ts[i] = tt at hti
        have hte : (ts.map fun t => t.2.2.2)[i]? = some tt.2.2.2 := map_at hti
        rw [hte] at g5
        have g5 : pairsM tab sts fuel (i + 1) (pIn tab tt.2.2.2.1.1 tt.2.2.2.1.2 tt.2.2.2.2 0 sts (ts.map fun t => t.2.2.2)) = some es := g5
        refine iteT ⟨fun σ' H' => ∃ (i : Nat) (ts : List TE4) (v5 v6 v10 v11 v12 v13 v14 : Option V), σ' = [some (.ref a), some (.int (m : Nat)), some (.ref t), some (.ref im), some (.ref sl), v5, v6, some (.ref d), some (.ref ol), some (.int (i : Nat)), v10, v11, v12, v13, v14, none, none] ∧ Same H1 H' ∧
          H' d = some (DN P w d (ts.map rowT)) ∧ H' ol = some (.lst (ts.map fun t => .ref t.2.1)) ∧ (∀ t ∈ ts, EntAt H' t) ∧ EsOk tab.length (ts.map fun t => t.2.2.2) ∧ pairsM tab sts fuel i (ts.map fun t => t.2.2.2) = some es, fun σ' H' h => ⟨fuel, Nat.lt_succ_self _, h⟩, ?_⟩
        have htm := List.mem_of_getElem? hti
        obtain ⟨bb, hb1, hb2⟩ := (g3 tt htm).o
        refine ⟨_, rfl, _, rfl, ol, _, _, .ref tt.2.1, rfl, rfl, SqL.of g2, atI_nat (map_at hti), tt.2.1, _, rfl, SqT.of hb1, rfl, _, _, rfl, _, _, rfl, rfl, ?_⟩
        dsimp only [gName, List.set]
        refine seq_mid (fun σ' H'' => ∃ (ts' : List TE4) (v5 v11 v12 v13 v14 : Option V), σ' = [some (.ref a), some (.int (m : Nat)), some (.ref t), some (.ref im), some (.ref sl), v5, some (.ref bb), some (.ref d), some (.ref ol), some (.int (i : Nat)), some (.int tt.2.2.2.1.1), v11, v12, v13, v14, none, none] ∧ Same H1 H'' ∧
          H'' d = some (DN P w d (ts'.map rowT)) ∧ H'' ol = some (.lst (ts'.map fun t => .ref t.2.1)) ∧ (∀ t ∈ ts', EntAt H'' t) ∧ EsOk tab.length (ts'.map fun t => t.2.2.2) ∧ (ts'.map fun t => t.2.2.2) = pIn tab tt.2.2.2.1.1 tt.2.2.2.1.2 tt.2.2.2.2 0 sts (ts.map fun t => t.2.2.2)) (fun nx2 hnx2 => ?_) ?_
        · refine ⟨_, rfl, sl, _, rfl, SqL.of (s6 _ _ h1), for_it (walk_enum (K := K) (xs := ss.map V.ref)) (fun j σ' H'' => ∃ (ts' : List TE4) (v5 v11 v12 v13 v14 : Option V), σ' = [some (.ref a), some (.int (m : Nat)), some (.ref t), some (.ref im), some (.ref sl), v5, some (.ref bb), some (.ref d), some (.ref ol), some (.int (i : Nat)), some (.int tt.2.2.2.1.1), v11, v12, v13, v14, none, none] ∧ Same H1 H'' ∧
            H'' d = some (DN P w d (ts'.map rowT)) ∧ H'' ol = some (.lst (ts'.map fun t => .ref t.2.1)) ∧ (∀ t ∈ ts', EntAt H'' t) ∧ EsOk tab.length (ts'.map fun t => t.2.2.2) ∧ (ts'.map fun t => t.2.2.2) = pIn tab tt.2.2.2.1.1 tt.2.2.2.1.2 tt.2.2.2.2 0 (sts.take j) (ts.map fun t => t.2.2.2) ∧ ts'[i]? = some tt ∧ ts'.length ≤ 50 + j ∧ PosAt H'' bb tt.2.2.2.1.2)
            ⟨ts, v5, v11, v12, v13, v14, rfl, s6, g1, g2, g3, g4, rfl, hti, by omega, hb2⟩ (fun j σ' H'' _ ⟨_, _, _, _, _, _, _, e, _⟩ => SqL.of (e _ _ h1)) ?_ ?_⟩
          · rintro j v σ' H5 H6 hj ⟨ts', v5, v11, v12, v13, v14, rfl, s7, f1, f2, f3, f4, f5, f6, f7, f8⟩ ⟨TT, x, y, rfl, hTT, rfl, ex, ey⟩
            cases ex
            obtain ⟨sa, hsa, rfl⟩ := map_get (show (ss.map V.ref)[j]? = some y from ey)
            obtain ⟨st, hstj, lst, k1, k2, k3⟩ := paired_get' h2 hsa
            obtain ⟨hst1, hst2, hst3⟩ := hsts st (List.mem_of_getElem? hstj)
            have s8 : Same H5 (upd H5 TT (.tup [.int (j : Nat), .ref sa])) := same_upd hTT
            have eTT : upd H5 TT (.tup [.int (j : Nat), .ref sa]) TT = some (.tup [.int (j : Nat), .ref sa]) := upd_same
            generalize upd H5 TT (.tup [.int (j : Nat), .ref sa]) = H6 at s8 eTT ⊢
            have f1 := s8 _ _ f1
            have f2 := s8 _ _ f2
            have f3 := fun t ht => (f3 t ht).keep (Tk.of s8)
            have f8 := s8 _ _ f8
            have s9 := s7.trans s8
            refine ⟨TT, _, rfl, SqT.of eTT, rfl, _, _, rfl, _, _, rfl, ⟨sa, _, rfl, SqT.of (s9 _ _ k1), rfl, _, _, rfl, _, _, rfl, rfl, rfl, ?_⟩⟩
            dsimp only [gName, List.set]
            clear s8 eTT hTT s7 s6 g1 g2 g3 hb1 hb2
            have htm' := List.mem_of_getElem? f6
            obtain ⟨⟨r1, r2⟩, r3, r4, r5⟩ := f4.ok tt.2.2.2 (List.mem_map.mpr ⟨tt, htm', rfl⟩)
            generalize hbeh : tt.2.2.2.1.2 = behind at f5 f8 r3 r4
            generalize himg : tt.2.2.2.1.1 = image at f5 r1 r2 ⊢
            have hbl := range_len r4 r3
            have hll := range_len hst3 hst2
            have tabK : ∀ {H' : Hp}, Same H1 H' → TabAt H' t tab := fun s => ht.keep (Tk.of fun b o hb => s _ _ (s1 b o hb))
            refine ⟨_, rfl, bb, rfl, ⟨_, SqT.of f8⟩, fun D1 hD1 => ?_⟩
            refine lc_tup (K := K) (a := bb) (xs := behind.map V.int) (fun k H' => H' D1 = some (.lst (((behind.take k).map fun one => tb tab one st.1).map V.int)) ∧ Same H6 H') ⟨upd_same, same_upd hD1⟩ (fun k H' _ h => SqT.of (h.2 _ _ f8)) ?_ ?_
            · rintro k x H' hx ⟨p1, p2⟩
              obtain ⟨one, ho, rfl⟩ := map_get hx
              have hr1 := r3 one (List.mem_of_getElem? ho)
              obtain ⟨rs, r, row, y1, y2, y3, y4⟩ := tab_at (tabK (s9.trans p2)) M hr1.1 hr1.2 hst1.1 hst1.2
              have hkl : k < behind.length := (List.getElem?_eq_some_iff.mp ho).1
              refine ⟨rfl, _, rfl, _, rfl, t, _, _, _, rfl, rfl, SqT.of y1, y2, _, rfl, r, _, _, _, rfl, rfl, SqT.of y3, y4, _, p1, ?_, ?_, same_new p2 hD1⟩
              · rw [List.length_map, List.length_map, List.length_take]
                exact small_line' (by have := M.few; omega)
              · rw [upd_same, take_succ ho, List.map_append, List.map_append] <;> rfl
            · rintro H7 ⟨p1, p2⟩
              rw [List.length_map, List.take_length] at p1
              have s10 := s9.trans p2
              refine ⟨_, rfl, lst, rfl, ⟨_, SqL.of (s10 _ _ k2)⟩, fun D2 hD2 => ?_⟩
              refine lc_list (K := K) (a := lst) (xs := st.2.map V.int) (fun k H' => H' D2 = some (.lst (((st.2.take k).map fun one => tb tab image one).map V.int)) ∧ Same H7 H') ⟨upd_same, same_upd hD2⟩ (fun k H' _ h => SqL.of (h.2 _ _ (s10 _ _ k2))) ?_ ?_
              · rintro k x H' hx ⟨p3, p4⟩
                obtain ⟨one, ho, rfl⟩ := map_get hx
                have hr1 := hst2 one (List.mem_of_getElem? ho)
                obtain ⟨rs, r, row, y1, y2, y3, y4⟩ := tab_at (tabK (s10.trans p4)) M r1 r2 hr1.1 hr1.2
                have hkl : k < st.2.length := (List.getElem?_eq_some_iff.mp ho).1
                refine ⟨rfl, _, rfl, _, rfl, t, _, _, _, rfl, rfl, SqT.of y1, y2, _, rfl, r, _, _, _, rfl, rfl, SqT.of y3, y4, _, p3, ?_, ?_, same_new p4 hD2⟩
                · rw [List.length_map, List.length_map, List.length_take]
                  exact small_line' (by have := M.few; omega)
                · rw [upd_same, take_succ ho, List.map_append, List.map_append] <;> rfl
              · rintro H8 ⟨p3, p4⟩
                rw [List.length_map, List.take_length] at p3
                have s11 := s10.trans p4
                have hfew20 := M.few
                have ecat : ((behind.map fun one => tb tab one st.1).map V.int) ++ ((st.2.map fun one => tb tab image one).map V.int) = (behind.map (fun one => tb tab one st.1) ++ st.2.map fun one => tb tab image one).map V.int := List.map_append.symm
                refine ⟨D1, D2, _, _, rfl, rfl, p4 _ _ p1, p3, ?_, fun tl htl => ?_⟩
                · simp only [List.length_map]
                  exact small_line (by omega)
                rw [ecat]
                have hpair : pairOf tab image behind st = (tb tab image st.1, isort (behind.map (fun one => tb tab one st.1) ++ st.2.map fun one => tb tab image one)) := rfl
                have htoldl : (behind.map (fun one => tb tab one st.1) ++ st.2.map fun one => tb tab image one).length ≤ 40 := by
                  rw [List.length_append, List.length_map, List.length_map]
                  omega
                generalize behind.map (fun one => tb tab one st.1) ++ (st.2.map fun one => tb tab image one) = told at hpair htoldl ⊢
                have u1 : Same H6 (upd H8 tl (.lst (told.map V.int))) := same_new (p2.trans p4) ((p2.trans p4).free htl)
                have e1 : upd H8 tl (.lst (told.map V.int)) tl = some (.lst (told.map V.int)) := upd_same
                generalize upd H8 tl (.lst (told.map V.int)) = H9 at u1 e1 ⊢
                dsimp only [gName, List.set]
                obtain ⟨rs, r, row, y1, y2, y3, y4⟩ := tab_at (tabK (s9.trans u1)) M r1 r2 hst1.1 hst1.2
                refine ⟨_, rfl, _, rfl, t, _, _, _, rfl, rfl, SqT.of y1, y2, _, rfl, r, _, _, _, rfl, rfl, SqT.of y3, y4, _, rfl, tl, told, rfl, SqL.of e1, by omega, fun sa2 S n hsa2 hS hn => ?_⟩
                have u2 := same_new (o := SetO w sa2 S n) u1 (u1.free hsa2)
                have e2 : upd H9 sa2 (SetO w sa2 S n) sa2 = some (SetO w sa2 S n) := upd_same
                generalize upd H9 sa2 (SetO w sa2 S n) = H10 at u2 e2 ⊢
                refine ⟨sa2, S, n, rfl, e2, by omega, fun ns p nso nmem nlen hp => ?_⟩
                obtain rfl : ns = isort told := isort_uniq nso fun z => (nmem z).trans (hS z)
                have u3 := same_new (o := .lst ((isort told).map V.int)) u2 (u2.free hp)
                have e3 : upd H10 p (.lst ((isort told).map V.int)) p = some (.lst ((isort told).map V.int)) := upd_same
                generalize upd H10 p (.lst ((isort told).map V.int)) = H11 at u3 e3 ⊢
                refine ⟨p, _, rfl, .inl ⟨SqL.of e3, fun bq hbq => ⟨by show 2 ≤ sizeLine; decide, fun pr hpr => ?_⟩⟩⟩
                have u4 := same_new (o := .tup ((isort told).map V.int)) u3 (u3.free hbq)
                have e4 : upd H11 bq (.tup ((isort told).map V.int)) bq = some (.tup ((isort told).map V.int)) := upd_same
                generalize upd H11 bq (.tup ((isort told).map V.int)) = H12 at u4 e4 hpr ⊢
                have u5 := same_new (o := .tup [.int (tb tab image st.1), .ref bq]) u4 (u4.free hpr)
                have e5 : upd H12 pr (.tup [.int (tb tab image st.1), .ref bq]) pr = some (.tup [.int (tb tab image st.1), .ref bq]) := upd_same
                have e6 : upd H12 pr (.tup [.int (tb tab image st.1), .ref bq]) bq = some (.tup ((isort told).map V.int)) := by rw [upd_ne (ne_of_none e4 hpr)]; exact e4
                generalize upd H12 pr (.tup [.int (tb tab image st.1), .ref bq]) = H13 at u5 e5 e6 ⊢
                clear u1 u2 u3 u4 e1 e2 e3 e4 p1 p2 p3 p4 nmem nlen nso hS hn s10 s11 y1 y2 y3 y4 hsa2 hp hbq hpr
                have hk13 : PairAt H13 pr (pairOf tab image behind st) := ⟨bq, by rw [hpair]; exact e5, by rw [hpair]; exact e6⟩
                dsimp only [gName, List.set]
                have f1 := u5 _ _ f1
                have f2 := u5 _ _ f2
                have f3 := fun t ht => (f3 t ht).keep (Tk.of u5)
                have f8 := u5 _ _ f8
                have s12 := s9.trans u5
                have hjl := (List.getElem?_eq_some_iff.mp hstj).1
                have hj3 : j < 3 := by have := Paired.length h2; omega
                have et := take_succ hstj
                have htl : (sts.take j).length = j := by rw [List.length_take]; omega
                have epi : pIn tab image behind tt.2.2.2.2 0 (sts.take (j + 1)) (ts.map fun t => t.2.2.2) = pStep tab image behind tt.2.2.2.2 j st (ts'.map fun t => t.2.2.2) := by
                  rw [et, pIn_snoc, htl, Nat.zero_add, f5]
                refine ⟨_, rfl, _, rfl, pr, d, keyP (pairOf tab image behind st), ts'.map rowT, rfl, rfl, ⟨f1, fun r hr => ?_⟩, hk13.key, _, rfl, ?_⟩
                · obtain ⟨t', ht', rfl⟩ := List.mem_map.mp hr
                  exact (f3 t' ht').k.key
                rw [lk_rows]
                cases elk : lkE (ts'.map fun t => t.2.2.2) (pairOf tab image behind st) with
                | some v =>
                  refine iteF ⟨ts', _, _, _, _, _, rfl, s12, f1, f2, f3, f4, ?_, f6, by omega, ?_⟩
                  · rw [epi]
                    unfold pStep
                    rw [elk]
                  · exact f8
                | none =>
                  refine iteT ⟨_, rfl, ol, _, rfl, .inl (SqL.of f2), rfl, _, rfl, ?_⟩
                  rw [decI, List.length_map, decide_eq_false (by omega)]
                  refine iteF ?_
                  have hlook := lk_at htm' (by have := f4.nd; rw [List.map_map] at this; exact this)
                  have dn13 : DnAt P w K H13 d (ts'.map rowT) := ⟨f1, fun r hr => by
                    obtain ⟨t', ht', rfl⟩ := List.mem_map.mp hr
                    exact (f3 t' ht').k.key⟩
                  have hoi : (ts'.map fun t => V.ref t.2.1)[i]? = some (.ref tt.2.1) := map_at f6
                  refine ⟨_, rfl, _, rfl, _, rfl, ol, _, _, .ref tt.2.1, rfl, rfl, SqL.of f2, atI_nat hoi, tt.2.1, d, keyP tt.2.2.2.1, ts'.map rowT, .ref tt.2.2.1, rfl, rfl, dn13, (f3 tt htm').o.key, hlook, tt.2.2.1, _, rfl, .inl (SqT.of (f3 tt htm').c), _, rfl, _, _, rfl, rfl, ?_⟩
                  have ehs : tt.2.2.2.2.map V.int ++ [V.int (((j : Nat) : Int) + 1)] = (tt.2.2.2.2 ++ [((j : Nat) : Int) + 1]).map V.int := by rw [List.map_append] <;> rfl
                  dsimp only [tNil]
                  rw [ehs]
                  refine ⟨?_, fun w1 hw1 => ?_⟩
                  · rw [List.length_map, List.length_append, List.length_singleton]
                    rw [List.length_map] at r5
                    exact small_line (by omega)
                  have v1 := same_upd (o := .tup ((tt.2.2.2.2 ++ [((j : Nat) : Int) + 1]).map V.int)) hw1
                  have v2 : upd H13 w1 (.tup ((tt.2.2.2.2 ++ [((j : Nat) : Int) + 1]).map V.int)) w1 = some (.tup ((tt.2.2.2.2 ++ [((j : Nat) : Int) + 1]).map V.int)) := upd_same
                  generalize upd H13 w1 (.tup ((tt.2.2.2.2 ++ [((j : Nat) : Int) + 1]).map V.int)) = H14 at v1 v2 ⊢
                  refine ⟨w1, _, rfl, SqT.of v2, fun ns w2 hperm hsorted hw2 => ?_⟩
                  obtain rfl := srt_uniq hperm hsorted
                  have x1 := same_new (o := .lst ((srt (tt.2.2.2.2 ++ [((j : Nat) : Int) + 1])).map V.int)) v1 (v1.free hw2)
                  have x2 : upd H14 w2 (.lst ((srt (tt.2.2.2.2 ++ [((j : Nat) : Int) + 1])).map V.int)) w2 = some (.lst ((srt (tt.2.2.2.2 ++ [((j : Nat) : Int) + 1])).map V.int)) := upd_same
                  generalize upd H14 w2 (.lst ((srt (tt.2.2.2.2 ++ [((j : Nat) : Int) + 1])).map V.int)) = H15 at x1 x2 ⊢
                  refine ⟨w2, _, rfl, .inl ⟨SqL.of x2, fun w3 hw3 => ?_⟩⟩
                  have z1 := same_new (o := .tup ((srt (tt.2.2.2.2 ++ [((j : Nat) : Int) + 1])).map V.int)) x1 (x1.free hw3)
                  have z2 : upd H15 w3 (.tup ((srt (tt.2.2.2.2 ++ [((j : Nat) : Int) + 1])).map V.int)) w3 = some (.tup ((srt (tt.2.2.2.2 ++ [((j : Nat) : Int) + 1])).map V.int)) := upd_same
                  generalize upd H15 w3 (.tup ((srt (tt.2.2.2.2 ++ [((j : Nat) : Int) + 1])).map V.int)) = H16 at z1 z2 ⊢
                  have f1 := z1 _ _ f1
                  have f2 := z1 _ _ f2
                  have f3 := fun t ht => (f3 t ht).keep (Tk.of z1)
                  have f8 := z1 _ _ f8
                  have s13 := s12.trans z1
                  have hk16 := hk13.keep (Tk.of z1)
                  have hlno : lkN (ts'.map rowT) (keyP (pairOf tab image behind st)) = none := by
                    have := lk_rows (pairOf tab image behind st) ts'
                    rw [elk] at this
                    cases e : lkN (ts'.map rowT) (keyP (pairOf tab image behind st)) with
                    | none => rfl
                    | some v => rw [e] at this; cases this
                  refine ⟨_, rfl, _, rfl, d, pr, keyP (pairOf tab image behind st), ts'.map rowT, rfl, rfl, ⟨f1, fun r hr => ?_⟩, hk16.key, hlno, by rw [List.length_map]; omega, ?_⟩
                  · obtain ⟨t', ht', rfl⟩ := List.mem_map.mp hr
                    exact (f3 t' ht').k.key
                  have hdol : ol ≠ d := ne_of f2 f1 (fun z => nomatch z)
                  have hdpr : pr ≠ d := by
                    obtain ⟨b, h1, _⟩ := hk16
                    exact ne_of h1 f1 (fun z => nomatch z)
                  have tkd : Tk H16 (upd H16 d (DN P w d (ts'.map rowT ++ [(keyP (pairOf tab image behind st), pr, .ref w3)]))) := fun b xs hb => by
                    rw [upd_ne (ne_of hb f1 (fun z => nomatch z))]
                    exact hb
                  have g1 : upd H16 d (DN P w d (ts'.map rowT ++ [(keyP (pairOf tab image behind st), pr, .ref w3)])) d = some (DN P w d (ts'.map rowT ++ [(keyP (pairOf tab image behind st), pr, .ref w3)])) := upd_same
                  have g2 : upd H16 d (DN P w d (ts'.map rowT ++ [(keyP (pairOf tab image behind st), pr, .ref w3)])) ol = some (.lst (ts'.map fun t => .ref t.2.1)) := by rw [upd_ne hdol]; exact f2
                  have g3 := fun t ht => (f3 t ht).keep tkd
                  have g8 := tkd _ _ f8
                  have gk := hk16.keep tkd
                  have gz := tkd _ _ z2
                  have s14 : Same H1 (upd H16 d (DN P w d (ts'.map rowT ++ [(keyP (pairOf tab image behind st), pr, .ref w3)]))) := fun b o hb => by
                    rw [upd_ne (ne_of_none hb hd)]
                    exact s13 _ _ hb
                  refine ⟨_, rfl, .inl ⟨rfl, _, SqL.of g2⟩, _, rfl, ol, _, _, rfl, rfl, g2, by rw [List.length_map]; exact small_line' (by omega), ?_⟩
                  have tko : Tk (upd H16 d (DN P w d (ts'.map rowT ++ [(keyP (pairOf tab image behind st), pr, .ref w3)]))) (upd (upd H16 d (DN P w d (ts'.map rowT ++ [(keyP (pairOf tab image behind st), pr, .ref w3)]))) ol (.lst ((ts'.map fun t => V.ref t.2.1) ++ [.ref pr]))) := fun b xs hb => by
                    rw [upd_ne (ne_of hb g2 (fun z => nomatch z))]
                    exact hb
                  refine ⟨ts' ++ [(pr, pr, w3, (pairOf tab image behind st, srt (tt.2.2.2.2 ++ [((j : Nat) : Int) + 1])))], _, _, _, _, _, rfl, fun b o hb => ?_, ?_, ?_, fun t' ht' => ?_, ?_, ?_, ?_, ?_, tko _ _ g8⟩
                  · rw [upd_ne (ne_of_none hb hol1)]
                    exact s14 _ _ hb
                  · rw [upd_ne (Ne.symm hdol), List.map_append]
                    exact g1
                  · rw [upd_same, List.map_append] <;> rfl
                  · rcases List.mem_append.mp ht' with y | y
                    · exact (g3 t' y).keep tko
                    · rw [List.mem_singleton.mp y]
                      exact ⟨gk.keep tko, gk.keep tko, tko _ _ gz⟩
                  · rw [List.map_append]
                    exact f4.step M ⟨r1, r2⟩ r3 (by rw [List.length_map] at r5 ⊢; exact r5) hst1 hst2 elk
                  · rw [epi, List.map_append]
                    unfold pStep
                    rw [elk] <;> rfl
                  · rw [List.getElem?_append_left (List.getElem?_eq_some_iff.mp f6).1]
                    exact f6
                  · rw [List.length_append, List.length_singleton]
                    omega
          · rintro σ' H5 ⟨ts', v5, v11, v12, v13, v14, rfl, s7, f1, f2, f3, f4, f5, f6, f7, f8⟩
            have en : (ss.map V.ref).length = sts.length := by rw [List.length_map]; exact Paired.length h2
            rw [en, List.take_length] at f5
            exact hnx2 _ _ ⟨ts', v5, v11, v12, v13, v14, rfl, s7, f1, f2, f3, f4, f5⟩
        · rintro σ' H5 ⟨ts', v5, v11, v12, v13, v14, rfl, s7, f1, f2, f3, f4, f5⟩
          refine ⟨_, rfl, _, _, rfl, rfl, i + 1, ts', v5, _, _, v11, v12, v13, v14, rfl, s7, f1, f2, f3, f4, ?_⟩
          rw [f5]
          exact g5
      · rw [decide_eq_false (show ¬ ((i : Nat) : Int) < ((ts.length : Nat) : Int) by omega)]
        have hte : (ts.map fun t => t.2.2.2)[i]? = none := List.getElem?_eq_none (by rw [List.length_map]; omega)
        rw [hte] at g5
        have g5 := Option.some.inj g5
        refine iteF ?_
        exact ⟨_, rfl, q _ d ts (fun b o hb => s6 _ _ (s1 _ _ hb)) (s1.free hd) g1 g5.symm g3 (g5 ▸ g4)⟩
end
end QT
set_option Elab.async false
set_option linter.all false
set_option maxRecDepth 100000
set_option maxHeartbeats 4000000
namespace QT
open PySem PySem.Spec PyProof.Rows L2
theorem inV_ints (x : Int) : ∀ xs : List Int, inV (.int x) (xs.map V.int) = xs.contains x
  | [] => rfl
  | y :: xs => by
    have ih := inV_ints x xs
    unfold inV at ih ⊢
    rw [List.map_cons, List.any_cons, ih, List.contains_cons]
    show (y == x || _) = (x == y || _)
    rw [show (y == x) = (x == y) from BEq.comm]
theorem flat_ints (xs : List Int) : (xs.map V.int).all flatV = true := by
  rw [List.all_eq_true]
  intro v hv
  obtain ⟨x, _, rfl⟩ := List.mem_map.mp hv
  rfl
def dInts (ns : List Int) : PyData := .tuple (ns.map PyData.int)
theorem dpAll_ints (K : PySem.W.Frag) (H : Hp) : ∀ ns : List Int, DpAll K H (ns.map V.int) (ns.map PyData.int)
  | [] => .nil
  | n :: ns => .cons (.int n) (dpAll_ints K H ns)
theorem dp_ints {K : PySem.W.Frag} {H : Hp} {a : Addr} {ns : List Int} (h : SqT K H a (ns.map V.int)) : Dp K H (.ref a) (dInts ns) := .tup h (dpAll_ints K H ns)
theorem can_ints : ∀ ns : List Int, PyData.canLayAll0 (ns.map PyData.int) = true
  | [] => rfl
  | n :: ns => by
    rw [List.map_cons, PyData.canLayAll0, can_ints ns] <;> rfl
theorem depth_ints : ∀ ns : List Int, PyData.depthAll (ns.map PyData.int) = 0
  | [] => rfl
  | n :: ns => by
    rw [List.map_cons, PyData.depthAll, depth_ints ns] <;> rfl
theorem shaped_ints (ns : List Int) : SeqAt.shaped (dInts ns) = true := by
  unfold SeqAt.shaped dInts
  rw [PyData.canLay0, can_ints, PyData.depth, depth_ints] <;> rfl
theorem eqv_intsA : ∀ a b : List Int, PyData.eqvAll (a.map PyData.int) (b.map PyData.int) = decide (a = b)
  | [], [] => rfl
  | [], _ :: _ => rfl
  | _ :: _, [] => rfl
  | x :: a, y :: b => by
    rw [List.map_cons, List.map_cons, PyData.eqvAll, eqv_intsA a b, PyData.eqv]
    by_cases h1 : x = y
    · by_cases h2 : a = b
      · rw [decide_eq_true h2, h1, h2]; simp
      · rw [decide_eq_false h2]; simp [h2]
    · simp [h1]
theorem eqv_ints (a b : List Int) : PyData.eqv (dInts a) (dInts b) = decide (a = b) := by
  unfold dInts
  rw [PyData.eqv]
  exact eqv_intsA a b
theorem walk_itemsN {P : Program} {w : World} {d : Addr} {o : Obj} {Ls : List DRow} : Walk (ItIN P w d o Ls) Ls.length (fun H => H d = some (.frz o (DN P w d Ls))) (fun i H x H' => ∃ T r, Ls[i]? = some r ∧ x = .ref T ∧ H T = none ∧ H' = upd H T (.tup [.ref r.2.1, r.2.2])) :=
  ⟨fun _ _ hi q => ⟨q, hi⟩, fun _ q => ⟨q, Nat.le_refl _⟩, fun _ _ _ _ _ _ y => y⟩
theorem walk_keysN {P : Program} {w : World} {d : Addr} {o : Obj} {Ls : List DRow} : Walk (ItKN P w d o Ls) Ls.length (fun H => H d = some (.frz o (DN P w d Ls))) (fun i H x H' => H' = H ∧ ∃ r, Ls[i]? = some r ∧ x = .ref r.2.1) :=
  ⟨fun _ _ hi q => ⟨q, hi⟩, fun _ q => ⟨q, Nat.le_refl _⟩, fun _ _ _ _ _ _ y => y⟩
theorem pi_itemsP {X : Cx} {P : Program} {w : World} (h1 : X.prog = P) (h2 : X.w = w) {e : Expr} {td : TE} {apos cpos : Pos} {elts : List Expr} {kk : Nat} {tpos : Pos} (he : PE X e td) (hbase : attributeBase e "items" X.env (eval e X.env) = eval e X.env := by rfl) (hline : (apos.endLine == cpos.line) = true := by rfl) :
    PI X (.Tuple elts kk tpos) (.Call (.Attribute e "items" apos) [] [] cpos) (iItemsN P w td) := by
  subst h1 h2
  exact pi_itemsN he hbase hline
theorem pi_keysP {X : Cx} {P : Program} {w : World} (h1 : X.prog = P) (h2 : X.w = w) {tg e : Expr} {td : TE} (he : PE X e td) : PI X tg e (iKeysN P w td) := by
  subst h1 h2
  exact pi_keysN he
theorem op_inK {X : Cx} {K : PySem.W.Frag} (h : X.K = K) : OpR X (compareOp .In) (rIn K false) := h ▸ op_in_seq
theorem ifNe (x y : Bool) {A B : Prop} (h1 : (x != y) = true → A) (h2 : (x != y) = false → B) : if (!decide (V.bl x = V.bl y)) = true then A else B := by
  cases x <;> cases y
  · exact iteF (h2 rfl)
  · exact iteT (h1 rfl)
  · exact iteT (h1 rfl)
  · exact iteF (h2 rfl)
theorem flat_bl (x : Bool) : flatV (.bl x) = true := rfl
abbrev sFault : Stmt := top 21
abbrev nFault : List Str := ["found", "lost", "image", "behind", "heaps", "one"]
theorem scFault : FnScope nFault ["found", "lost"] (defScope sFault) := ⟨rfl, rfl, rfl, by decide +kernel, rfl, by decide +kernel, by decide +kernel⟩
def spFault (P : Program) (w : World) : Sp := fun vs H Q _ => ∃ (d l : Addr) (ts : List TE4) (lost : List Int), vs = [.ref d, .ref l] ∧ H d = some (DN P w d (ts.map rowT)) ∧ (∀ t ∈ ts, EntAt H t ∧ t.2.2.2.1.2.length ≤ 1000) ∧ PosAt H l lost ∧
  ∀ H', Same H H' → (faultM lost (ts.map fun t => t.2.2.2) = none → Q .non H') ∧ (∀ hp, faultM lost (ts.map fun t => t.2.2.2) = some hp → ∀ c, PosAt H' c hp → Q (.ref c) H')
section
variable {P : Program} {w : World} {K : PySem.W.Frag} {mg : Str → Option Value} {base : Heap} {f f1 f2 f3 C a kd : Addr} {fd fd1 fd2 fd3 : FuncData}
theorem ok_fault (F : FnP K "first_fault" sFault f fd) (T : Tx mg) : FnOk P w K mg base CX0 1 f fd ["found", "lost"] (spFault P w) := by
  refine F.ok scFault (fun vs H Q E h => ?_) (fun cdv A outer s H vs Q E hr h => ⟨_, PSs.nox
    (pss_cons (ps_lock (ps_for PassesOwn.never rfl (pi_itemsP (P := P) (w := w) rfl rfl (pv 0)) (pg_tup rfl (pgs_cons (pg_tup rfl (pgs_cons (pg_name (i := 2) scFault.nd rfl (.inl rfl)) (pgs_cons (pg_name (i := 3) scFault.nd rfl (.inl rfl)) pgs_nil))) (pgs_cons (pg_name (i := 4) scFault.nd rfl (.inl rfl)) pgs_nil)))
      (pss_one (ps_if (pt_cmpR op_ne (pe_cmpR op_in_seq (pv 2) (pv 1) (by rfl)) (pe_and (pe_cmpR (op_neD hr.units) (pv 3) (pe_tup pa_nil) (nomark _)) (pe_one (pe_not (pe_callB (cr_any rfl) rfl T.any (by decide +kernel) (pa_cons
          (pe_lc (own := [("one", 5)]) (g := gName 5) (tt := tYes) rfl scFault.nd (pi_tup (pv 3)) (blkOk_by (N := nFault) (sc := defScope sFault) (by decide +kernel)) (fun _ _ _ _ _ => pg_name (i := 5) scFault.nd rfl (Or.inl rfl)) (fun _ _ _ _ _ => pts_nil) (fun _ _ _ _ _ => pe_cmpR (op_inK (K := K) rfl) (pv 5) (pv 1) (by rfl))) pa_nil))))) (nomark _))
        (pss_one (ps_ret (pv 4))) pss_nil))))
    (pss_one (ps_ret pe_non))), ?_⟩)
  · obtain ⟨d, l, ts, lost, rfl, _⟩ := h
    rfl
  · obtain ⟨d, l, ts, lost, rfl, hd, hts, hl, q⟩ := h
    have tkOf : ∀ {H' : Hp}, Kb d H H' → Tk H H' := fun k b xs hb => k b _ hb (ne_of hb hd (fun z => nomatch z))
    have sameOf : ∀ {H' : Hp}, Kb d H H' → Same H (upd H' d (DN P w d (ts.map rowT))) := fun k b o hb => by
      by_cases e : b = d
      · rw [e, upd_same, ← hd, ← e]
        exact hb
      · rw [upd_ne e]
        exact k b o hb e
    refine ⟨d, _, hd, trivial, fun od => ?_⟩
    refine ⟨_, rfl, d, od, _, rfl, upd_same, for_it (walk_itemsN (P := P) (w := w)) (fun i σ H' => ∃ v2 v3 v4, σ = [some (.ref d), some (.ref l), v2, v3, v4, none] ∧ H' d = some (.frz od (DN P w d (ts.map rowT))) ∧ Kb d H H' ∧ faultM lost (ts.map fun t => t.2.2.2) = faultM lost ((ts.map fun t => t.2.2.2).drop i))
      ⟨none, none, none, rfl, upd_same, fun b o hb hn => by rw [upd_ne hn]; exact hb, rfl⟩ (fun i σ H' _ ⟨_, _, _, _, e, _⟩ => e) ?_ ?_⟩
    · rintro i v σ H1 H2 hi ⟨v2, v3, v4, rfl, h1, h2, h3⟩ ⟨T1, r, hr1, rfl, hT, rfl⟩
      obtain ⟨t, htt, rfl⟩ := map_get hr1
      obtain ⟨hE, hlen⟩ := hts t (List.mem_of_getElem? htt)
      have hTd : T1 ≠ d := fun e => by rw [e, h1] at hT; cases hT
      have hTH : H T1 = none := by
        cases e : H T1 with
        | none => rfl
        | some o => rw [h2 _ _ e hTd] at hT; cases hT
      have k2 : Kb d H (upd H1 T1 (.tup [.ref t.1, .ref t.2.2.1])) := h2.new hTH
      have d2 : upd H1 T1 (.tup [.ref t.1, .ref t.2.2.1]) d = some (.frz od (DN P w d (ts.map rowT))) := by rw [upd_ne (Ne.symm hTd)]; exact h1
      have e2 : upd H1 T1 (.tup [.ref t.1, .ref t.2.2.1]) T1 = some (.tup [.ref t.1, .ref t.2.2.1]) := upd_same
      have hn : ∀ {H' : Hp} {x : Addr}, Kb d H H' → H' d = some (.frz od (DN P w d (ts.map rowT))) → H' x = none → H x = none ∧ x ≠ d := fun {H' x} k hd' hx => by
        have hxd : x ≠ d := fun e => by rw [e, hd'] at hx; cases hx
        refine ⟨?_, hxd⟩
        cases e : H x with
        | none => rfl
        | some o => rw [k _ _ e hxd] at hx; cases hx
      show gTup K 2 _ _ _ (upd H1 T1 (.tup [.ref t.1, .ref t.2.2.1])) _
      generalize upd H1 T1 (.tup [.ref t.1, .ref t.2.2.1]) = H2 at k2 d2 e2 ⊢
      obtain ⟨bb, b1, b2⟩ := (hE.keep (tkOf k2)).k
      have hc2 := (hE.keep (tkOf k2)).c
      refine ⟨T1, _, rfl, SqT.of e2, rfl, _, _, rfl, t.1, _, rfl, SqT.of b1, rfl, _, _, rfl, _, _, rfl, rfl, _, _, rfl, rfl, ?_⟩
      dsimp only [gName, List.set]
      refine ⟨_, rfl, _, rfl, l, _, rfl, .inr (SqT.of (tkOf k2 _ _ hl)), rfl, flat_ints _, ?_⟩
      refine ⟨_, rfl, by show 0 ≤ sizeLine; decide, fun et het => ?_⟩
      obtain ⟨hetH, hetd⟩ := hn k2 d2 het
      have k3 := k2.new (o := .tup []) hetH
      have d3 : upd H2 et (.tup []) d = some (.frz od (DN P w d (ts.map rowT))) := by rw [upd_ne (Ne.symm hetd)]; exact d2
      have e3 : upd H2 et (.tup []) et = some (.tup (([] : List Int).map V.int)) := upd_same
      have b3 : PosAt (upd H2 et (.tup [])) bb t.2.2.2.1.2 := by
        show upd H2 et _ bb = _
        rw [upd_ne (ne_of_none b2 het)]
        exact b2
      have c3 : PosAt (upd H2 et (.tup [])) t.2.2.1 t.2.2.2.2 := by
        show upd H2 et _ _ = _
        rw [upd_ne (ne_of_none hc2 het)]
        exact hc2
      generalize upd H2 et (.tup []) = H3 at k3 d3 e3 b3 c3 ⊢
      refine ⟨_, _, dp_ints (SqT.of b3), dp_ints (SqT.of e3), shaped_ints _, shaped_ints _, _, rfl, ?_⟩
      rw [eqv_ints]
      -- the end of a turn
      have hdrop : (ts.map fun t => t.2.2.2).drop i = t.2.2.2 :: (ts.map fun t => t.2.2.2).drop (i + 1) := by
        have e := map_at (g := fun t : TE4 => t.2.2.2) htt
        have hil := (List.getElem?_eq_some_iff.mp e).1
        rw [List.drop_eq_getElem_cons hil]
        congr 1
        exact (List.getElem?_eq_some_iff.mp e).2
      rw [hdrop, faultM] at h3
      have hbad : ∀ b : Bool, b = (!t.2.2.2.1.2.isEmpty && !t.2.2.2.1.2.any fun one => lost.contains one) → (inV (.int t.2.2.2.1.1) (lost.map V.int) != b) = bad lost t.2.2.2 := fun b e => by
        rw [inV_ints, e] <;> rfl
      have yes : ∀ (b : Bool) (H4 : Hp), Kb d H H4 → PosAt H4 t.2.2.1 t.2.2.2.2 → b = (!t.2.2.2.1.2.isEmpty && !t.2.2.2.1.2.any fun one => lost.contains one) → (inV (.int t.2.2.2.1.1) (lost.map V.int) != b) = true → Q (.ref t.2.2.1) (upd H4 d (DN P w d (ts.map rowT))) := by
        intro b H4 k4 c4 e e2
        rw [hbad b e] at e2
        rw [if_pos e2] at h3
        refine (q _ (sameOf k4)).2 _ h3 _ ?_
        show upd H4 d _ t.2.2.1 = _
        by_cases ed : t.2.2.1 = d
        · have := hE.c
          rw [ed] at this
          have := hd.symm.trans this
          cases this
        · rw [upd_ne ed]
          exact c4
      have no : ∀ (b : Bool), b = (!t.2.2.2.1.2.isEmpty && !t.2.2.2.1.2.any fun one => lost.contains one) → (inV (.int t.2.2.2.1.1) (lost.map V.int) != b) = false → faultM lost (ts.map fun t => t.2.2.2) = faultM lost ((ts.map fun t => t.2.2.2).drop (i + 1)) := by
        intro b e e2
        rw [hbad b e] at e2
        rw [h3, if_neg (by rw [e2]; exact Bool.false_ne_true)]
      by_cases hbe : t.2.2.2.1.2 = []
      · rw [decide_eq_true hbe]
        have eb : false = (!t.2.2.2.1.2.isEmpty && !t.2.2.2.1.2.any fun one => lost.contains one) := by rw [hbe] <;> rfl
        refine iteF ⟨rfl, _, rfl, ifNe _ _ (fun e => ?_) fun e => ?_⟩
        · exact ⟨_, rfl, d3, yes _ _ k3 c3 eb e⟩
        · exact ⟨_, _, _, rfl, d3, k3, no _ eb e⟩
      · rw [decide_eq_false hbe]
        have eemp : t.2.2.2.1.2.isEmpty = false := by
          cases e : t.2.2.2.1.2 with
          | nil => exact absurd e hbe
          | cons _ _ => rfl
        refine iteT ⟨_, rfl, bb, rfl, ⟨_, SqT.of b3⟩, fun D hD => ?_⟩
        obtain ⟨hDH, hDd⟩ := hn k3 d3 hD
        refine lc_tup (K := K) (a := bb) (xs := t.2.2.2.1.2.map V.int) (fun j H' => H' D = some (.lst (((t.2.2.2.1.2.take j).map fun one => lost.contains one).map V.bl)) ∧ Same H3 H') ⟨upd_same, same_upd hD⟩ (fun j H' _ h => SqT.of (h.2 _ _ b3)) ?_ ?_
        · rintro j x H' hx ⟨p1, p2⟩
          obtain ⟨one, ho, rfl⟩ := map_get hx
          have hjl := (List.getElem?_eq_some_iff.mp ho).1
          refine ⟨rfl, _, rfl, _, rfl, l, _, rfl, .inr (SqT.of (p2 _ _ (tkOf k3 _ _ hl))), rfl, flat_ints _, _, p1, ?_, ?_, same_new p2 hD⟩
          · rw [List.length_map, List.length_map, List.length_take]
            exact small_line' (by omega)
          · rw [upd_same, take_succ ho, List.map_append, List.map_append, inV_ints] <;> rfl
        · rintro H4 ⟨p1, p2⟩
          rw [List.length_map, List.take_length] at p1
          have k4 : Kb d H H4 := fun b o hb hn => p2 _ _ (k3 b o hb hn)
          have d4 := p2 _ _ d3
          have c4 := p2 _ _ c3
          refine ⟨D, _, rfl, SqL.of p1, _, rfl, rfl, _, rfl, ?_⟩
          have eany : (t.2.2.2.1.2.map fun one => lost.contains one).any id = t.2.2.2.1.2.any fun one => lost.contains one := by
            rw [List.any_map] <;> rfl
          have eb : (!(t.2.2.2.1.2.map fun one => lost.contains one).any id) = (!t.2.2.2.1.2.isEmpty && !t.2.2.2.1.2.any fun one => lost.contains one) := by
            rw [eany, eemp] <;> rfl
          refine ifNe _ _ (fun e => ?_) fun e => ?_
          · exact ⟨_, rfl, d4, yes _ _ k4 c4 eb e⟩
          · exact ⟨_, _, _, rfl, d4, k4, no _ eb e⟩
    · rintro σ H1 ⟨v2, v3, v4, rfl, h1, h2, h3⟩
      refine ⟨h1, (q _ (sameOf h2)).1 ?_⟩
      rw [h3, List.length_map, List.drop_of_length_le (by rw [List.length_map]; exact Nat.le_refl _)]
      rfl
end
end QT
set_option Elab.async false
set_option linter.all false
set_option maxRecDepth 100000
set_option maxHeartbeats 4000000
namespace QT
open PySem PySem.Spec PyProof.Rows L2
theorem rgV_nat (n : Nat) : rgV 0 (n : Int) = ((List.range n).map fun i : Nat => (i : Int)).map V.int := by
  unfold rgV
  rw [List.map_map, show ((n : Int) - 0).toNat = n by omega]
  refine List.map_congr_left fun i _ => ?_
  show V.int (0 + (i : Int)) = V.int (i : Int)
  rw [Int.zero_add]
/-- the table at p, written out -/
theorem TabAt.row {H : Hp} {p : Addr} {t : List (List Int)} (x : TabAt H p t) : ∃ rs : List Addr, H p = some (.tup (rs.map V.ref)) ∧ rs.length = t.length ∧ Paired (PosAt H) rs t := by
  obtain ⟨rs, h1, h2⟩ := x
  exact ⟨rs, h1, Paired.length h2, h2⟩
abbrev sTable : Stmt := top 22
abbrev nTable : List Str := ["value", "many", "row", "one", "other", "at"]
theorem scTable : FnScope nTable ["value"] (defScope sTable) := ⟨rfl, rfl, rfl, by decide +kernel, rfl, by decide +kernel, by decide +kernel⟩
def spTable : Sp := fun vs H Q _ => ∃ p t, vs = [.ref p] ∧ TabAt H p t ∧ Mon t ∧ ∀ H', Same H H' → Q (.bl true) H'
section
variable {P : Program} {w : World} {K : PySem.W.Frag} {mg : Str → Option Value} {base : Heap} {f f1 f2 f3 C a kd : Addr} {fd fd1 fd2 fd3 : FuncData}
theorem ok_table (F : FnP K "is_table" sTable f fd) (T : Tx mg) (c1 : Cal P w K mg base 2 "is_in" ["value", "least", "most"] spIsIn f1 fd1) : FnOk P w K mg base CX0 3 f fd ["value"] spTable := by
  obtain ⟨tk, hk⟩ := T.elements
  refine F.ok scTable (fun vs H Q E h => ?_) (fun cdv A outer s H vs Q E hr h => ⟨_, PSs.nox
    (pss_cons (ps_if (PW.pt (pw_or (pt_not (pt_val (pe_callB call_isi rfl T.isinstance (by decide +kernel) (pa_cons (pv 0) (pa_cons (pe_bltn (v := .ty "tuple") rfl T.tuple (by decide +kernel) rfl) pa_nil)))))
      (pw_or1 (pt_not (pt_chain op_le op_le pe_int (pe_callB call_len_seq rfl T.len boot_len (pa_cons (pv 0) pa_nil)) (pe_glob (v := .int 60) rfl hk ⟨_, rfl⟩)))))) (pss_one ps_never) pss_nil)
    (pss_cons (ps_set (i := 1) scTable.nd rfl (Or.inr rfl) (pe_callB call_len_seq rfl T.len boot_len (pa_cons (pv 0) pa_nil)))
    (pss_cons (ps_for PassesOwn.never rfl (pi_tup (pv 0)) (pg_name (i := 2) scTable.nd rfl (.inl rfl))
      (pss_one (ps_if (PW.pt (pw_or (pt_not (pt_val (pe_callB call_isi rfl T.isinstance (by decide +kernel) (pa_cons (pv 2) (pa_cons (pe_bltn (v := .ty "tuple") rfl T.tuple (by decide +kernel) rfl) pa_nil)))))
        (pw_or (pt_cmpR op_ne (pe_callB call_len_seq rfl T.len boot_len (pa_cons (pv 2) pa_nil)) (pv 1) (nomark _))
        (pw_or1 (pt_not (pt_val (pe_callB (cr_all rfl) rfl T.all (by decide +kernel) (pa_cons (pe_lc (own := [("one", 3)]) (g := gName 3) (tt := tYes) rfl scTable.nd (pi_tup (pv 2)) (blkOk_by (N := nTable) (sc := defScope sTable) (by decide +kernel)) (fun _ _ _ _ _ => pg_name (i := 3) scTable.nd rfl (Or.inl rfl)) (fun _ _ _ _ _ => pts_nil)
          (fun _ _ _ _ _ => pe_call c1.ok hr rfl c1.g c1.kp c1.b .nil pass0 (pa_cons (pv 3) (pa_cons pe_int (pa_cons (pe_op op_sub (pv 1) pe_int) pa_nil))))) pa_nil)))))))) (pss_one ps_never) pss_nil)))
    (pss_cons (ps_if (pt_cmpR (op_neD hr.units) (pe_ix ix_tup (pv 0) pe_int (fun _ _ => rfl)) (pe_tupRg rfl rfl T.tuple (prg_1 rfl T.range (pv 1))) (nomark _)) (pss_one ps_never) pss_nil)
    (pss_cons (ps_for PassesOwn.never rfl (pi_range1 rfl T.range (pa_cons (pv 1) pa_nil)) (pg_name (i := 3) scTable.nd rfl (.inr rfl))
      (pss_one (ps_for PassesOwn.never rfl (pi_range1 rfl T.range (pa_cons (pv 1) pa_nil)) (pg_name (i := 4) scTable.nd rfl (.inr rfl))
        (pss_cons (ps_if (pt_cmpR op_ne (pe_ix ix_tup (pe_ix ix_tup (pv 0) (pv 3) (fun _ _ => rfl)) (pv 4) (fun _ _ => rfl)) (pe_ix ix_tup (pe_ix ix_tup (pv 0) (pv 4) (fun _ _ => rfl)) (pv 3) (fun _ _ => rfl)) (nomark _)) (pss_one ps_never) pss_nil)
        (pss_one (ps_if (pt_not (pt_val (pe_callB (cr_all rfl) rfl T.all (by decide +kernel) (pa_cons (pe_lc (own := [("at", 5)]) (g := gName 5) (tt := tYes) rfl scTable.nd (pi_range1 rfl T.range (pa_cons (pv 1) pa_nil)) (blkOk_by (N := nTable) (sc := defScope sTable) (by decide +kernel)) (fun _ _ _ _ _ => pg_name (i := 5) scTable.nd rfl (Or.inl rfl)) (fun _ _ _ _ _ => pts_nil)
          (fun _ _ _ _ _ => pe_cmpR op_eq (pe_ix (ix_tK (K := K) rfl) (pe_ix (ix_tK (K := K) rfl) (pv 0) (pe_ix (ix_tK (K := K) rfl) (pe_ix (ix_tK (K := K) rfl) (pv 0) (pv 3) (fun _ _ => rfl)) (pv 4) (fun _ _ => rfl)) (fun _ _ => rfl)) (pv 5) (fun _ _ => rfl))
            (pe_ix (ix_tK (K := K) rfl) (pe_ix (ix_tK (K := K) rfl) (pv 0) (pv 3) (fun _ _ => rfl)) (pe_ix (ix_tK (K := K) rfl) (pe_ix (ix_tK (K := K) rfl) (pv 0) (pv 4) (fun _ _ => rfl)) (pv 5) (fun _ _ => rfl)) (fun _ _ => rfl)) (nomark _))) pa_nil)))) (pss_one ps_never) pss_nil))))))
    (pss_one (ps_ret pe_bl))))))), ?_⟩)
  · obtain ⟨p, t, rfl, _⟩ := h
    rfl
  · obtain ⟨p, t, rfl, ht, M, q⟩ := h
    obtain ⟨rs, h1, h2, h3⟩ := ht.row
    have hp := M.pos
    have hfw := M.few
    refine ⟨_, rfl, _, _, _, _, true, rfl, .ty "tuple", ty_tup (SqT.of h1), kit_ty (by decide +kernel), true, rfl, iteF ?_⟩
    refine ⟨_, rfl, p, _, rfl, .inr (SqT.of h1), _, _, rfl, rfl, _, rfl, ?_⟩
    rw [List.length_map, h2, decide_eq_true (by omega : (1 : Int) ≤ (t.length : Int))]
    refine iteT ⟨_, _, rfl, rfl, _, rfl, ?_⟩
    rw [decide_eq_true (by omega : (t.length : Int) ≤ 60)]
    refine iteF ⟨_, rfl, p, _, rfl, .inr (SqT.of h1), ?_⟩
    rw [List.length_map, h2]
    dsimp only [gName, List.set]
    refine seq_mid (fun σ' H' => ∃ v2, σ' = [some (.ref p), some (.int (t.length : Int)), v2, none, none, none] ∧ Same H H') (fun nx hnx => ?_) ?_
    · refine ⟨_, rfl, p, rfl, ⟨_, SqT.of h1⟩, for_tup (K := K) (a := p) (xs := rs.map V.ref) (fun i σ' H' => ∃ v2, σ' = [some (.ref p), some (.int (t.length : Int)), v2, none, none, none] ∧ Same H H') ⟨none, rfl, Same.refl H⟩ (fun i σ H' _ ⟨_, _, e⟩ => SqT.of (e _ _ h1)) ?_ ?_⟩
      · rintro i x σ H' hx ⟨v2, rfl, s1⟩
        obtain ⟨r, hr1, rfl⟩ := map_get hx
        obtain ⟨row, hrow, hat⟩ := paired_get' h3 hr1
        obtain ⟨hl, hin⟩ := M.row row (List.mem_of_getElem? hrow)
        have hat1 := s1 _ _ hat
        refine ⟨_, rfl, _, _, _, _, true, rfl, .ty "tuple", ty_tup (SqT.of hat1), kit_ty (by decide +kernel), true, rfl, iteF ?_⟩
        refine ⟨_, rfl, r, _, rfl, .inr (SqT.of hat1), _, rfl, rfl, _, rfl, ?_⟩
        rw [decI, List.length_map, hl, decide_eq_true rfl]
        refine iteF ⟨_, rfl, r, rfl, ⟨_, SqT.of hat1⟩, fun D hD => ?_⟩
        refine lc_tup (K := K) (a := r) (xs := row.map V.int) (fun j H2 => H2 D = some (.lst ((List.replicate j true).map V.bl)) ∧ Same H' H2) ⟨upd_same, same_upd hD⟩ (fun j H2 _ h => SqT.of (h.2 _ _ hat1)) (fun j x H2 hx ⟨hl2, hs2⟩ => ?_) (fun H2 ⟨hl2, hs2⟩ => ?_)
        · obtain ⟨one, ho, rfl⟩ := map_get hx
          have hz := hin one (List.mem_of_getElem? ho)
          have hjl := (List.getElem?_eq_some_iff.mp ho).1
          refine ⟨rfl, _, rfl, _, rfl, _, _, rfl, rfl, one, 0, (t.length : Int) - 1, rfl, hz.1, by omega, _, hl2, by rw [List.length_map, List.length_replicate]; exact small_line' (by omega), ?_, same_new hs2 hD⟩
          rw [upd_same, List.replicate_succ', List.map_append] <;> rfl
        · rw [List.length_map] at hl2
          refine ⟨D, List.replicate row.length true, rfl, SqL.of hl2, ?_⟩
          rw [List.all_replicate]
          exact ⟨true, by simp, iteF ⟨_, rfl, s1.trans hs2⟩⟩
      · rintro σ H' ⟨v2, rfl, s1⟩
        exact hnx _ _ ⟨v2, rfl, s1⟩
    · rintro _ H1 ⟨v2, rfl, s1⟩
      have t0 : ∃ r, rs[0]? = some r ∧ PosAt H r ((List.range t.length).map fun i : Nat => (i : Int)) := by
        have e : t[0]? = some t[0] := List.getElem?_eq_getElem (by omega)
        obtain ⟨r, r1, r2⟩ := paired_get2 h3 e
        refine ⟨r, r1, ?_⟩
        rw [← M.first, List.getD_eq_getElem?_getD, e]
        exact r2
      obtain ⟨r0, hr0, hat0⟩ := t0
      have g1 := s1 _ _ h1
      refine ⟨_, rfl, p, _, _, .ref r0, rfl, rfl, SqT.of g1, atI_int (by decide) (map_at hr0), _, rfl, _, rfl, RgOk.of_le (by decide) (by omega) (by decide) (by omega), fun qa hqa => ?_⟩
      rw [rgV_nat]
      have s2 := same_new (o := .tup (((List.range t.length).map fun i : Nat => (i : Int)).map V.int)) s1 (s1.free hqa)
      have e2 : upd H1 qa (.tup (((List.range t.length).map fun i : Nat => (i : Int)).map V.int)) qa = some (.tup (((List.range t.length).map fun i : Nat => (i : Int)).map V.int)) := upd_same
      generalize upd H1 qa (.tup (((List.range t.length).map fun i : Nat => (i : Int)).map V.int)) = H2 at s2 e2 ⊢
      refine ⟨_, _, dp_ints (SqT.of (s2 _ _ hat0)), dp_ints (SqT.of e2), shaped_ints _, shaped_ints _, _, rfl, ?_⟩
      rw [eqv_ints, decide_eq_true rfl]
      refine iteF ?_
      dsimp only [tNext]
      have htN : ((t.length : Nat) : Int).toNat = t.length := by omega
      have tA : ∀ {H' : Hp}, Same H H' → TabAt H' p t := fun s => ht.keep (Tk.of s)
      refine seq_mid (fun σ' H' => ∃ v3 v4, σ' = [some (.ref p), some (.int (t.length : Int)), v2, v3, v4, none] ∧ Same H H') (fun nx hnx => ?_) ?_
      · refine ⟨_, rfl, _, rfl, by omega, by omega, for_range (lo := 0) (n := ((t.length : Nat) : Int).toNat) (fun i σ' H' => ∃ v3 v4, σ' = [some (.ref p), some (.int (t.length : Int)), v2, v3, v4, none] ∧ Same H H') ⟨none, none, rfl, s2⟩ ?_ ?_⟩
        · rintro i _ H3 hi ⟨v3, v4, rfl, s3⟩
          rw [htN] at hi
          refine ⟨_, rfl, _, rfl, by omega, by omega, for_range (lo := 0) (n := ((t.length : Nat) : Int).toNat) (fun j σ' H' => ∃ v4, σ' = [some (.ref p), some (.int (t.length : Int)), v2, some (.int (0 + (i : Int))), v4, none] ∧ Same H H') ⟨v4, rfl, s3⟩ ?_ ?_⟩
          · rintro j _ H4 hj ⟨v4, rfl, s4⟩
            rw [htN] at hj
            have ri : (0 : Int) ≤ 0 + (i : Int) ∧ (0 : Int) + (i : Int) < t.length := by omega
            have rj : (0 : Int) ≤ 0 + (j : Int) ∧ (0 : Int) + (j : Int) < t.length := by omega
            dsimp only [gName, List.set]
            generalize (0 : Int) + (i : Int) = a at ri ⊢
            generalize (0 : Int) + (j : Int) = b at rj ⊢
            obtain ⟨rs1, r1, row1, y1, y2, y3, y4⟩ := tab_at (tA s4) M ri.1 ri.2 rj.1 rj.2
            obtain ⟨rs2, r2, row2, z1, z2, z3, z4⟩ := tab_at (tA s4) M rj.1 rj.2 ri.1 ri.2
            refine ⟨_, rfl, _, rfl, p, _, _, _, rfl, rfl, SqT.of y1, y2, _, rfl, r1, _, _, _, rfl, rfl, SqT.of y3, y4, _, rfl, _, rfl, p, _, _, _, rfl, rfl, SqT.of z1, z2, _, rfl, r2, _, _, _, rfl, rfl, SqT.of z3, z4, rfl, _, rfl, ?_⟩
            rw [decI, decide_eq_true (M.comm a b ri.1 ri.2 rj.1 rj.2)]
            refine iteF ⟨_, rfl, _, rfl, by omega, by omega, fun D hD => ?_⟩
            refine lc_range (lo := 0) (n := ((t.length : Nat) : Int).toNat) (fun k H' => H' D = some (.lst ((List.replicate k true).map V.bl)) ∧ Same H4 H') ⟨upd_same, same_upd hD⟩ ?_ ?_
            · rintro k H5 hk ⟨l1, s5⟩
              rw [htN] at hk
              have rk : (0 : Int) ≤ 0 + (k : Int) ∧ (0 : Int) + (k : Int) < t.length := by omega
              have s6 := s4.trans s5
              have rab := M.rng ri.1 ri.2 rj.1 rj.2
              have rbc := M.rng rj.1 rj.2 rk.1 rk.2
              obtain ⟨rs3, r3, row3, u1, u2, u3, u4⟩ := tab_at (tA s6) M ri.1 ri.2 rj.1 rj.2
              obtain ⟨rs4, r4, row4, w1, w2, w3, w4⟩ := tab_at (tA s6) M rab.1 rab.2 rk.1 rk.2
              obtain ⟨rs5, r5, row5, x1, x2, x3, x4⟩ := tab_at (tA s6) M rj.1 rj.2 rk.1 rk.2
              obtain ⟨rs6, r6, row6, q1, q2, q3, q4⟩ := tab_at (tA s6) M ri.1 ri.2 rbc.1 rbc.2
              refine ⟨rfl, ?_⟩
              dsimp only [gName, List.set, wipe, List.map]
              refine ⟨_, rfl, _, rfl, _, rfl, p, _, _, _, rfl, rfl, SqT.of u1, u2, _, rfl, r3, _, _, _, rfl, rfl, SqT.of u3, u4, p, _, _, _, rfl, rfl, SqT.of w1, w2, _, rfl, r4, _, _, _, rfl, rfl, SqT.of w3, w4,
                _, rfl, _, rfl, p, _, _, _, rfl, rfl, SqT.of q1, q2, _, rfl, _, rfl, p, _, _, _, rfl, rfl, SqT.of x1, x2, _, rfl, r5, _, _, _, rfl, rfl, SqT.of x3, x4, r6, _, _, _, rfl, rfl, SqT.of q3, q4, rfl, _, l1, by rw [List.length_map, List.length_replicate]; exact small_line' (by omega), ?_, same_new s5 hD⟩
              rw [upd_same, List.replicate_succ', List.map_append]
              show some (HO.lst (_ ++ [V.bl (decide (V.int (tb t (tb t a b) (0 + (k : Int))) = V.int (tb t a (tb t b (0 + (k : Int))))))])) = _
              rw [decI, decide_eq_true (M.assoc a b _ ri.1 ri.2 rj.1 rj.2 rk.1 rk.2)] <;> rfl
            · rintro H5 ⟨l1, s5⟩
              rw [htN] at l1
              refine ⟨D, List.replicate t.length true, rfl, SqL.of l1, ?_⟩
              rw [List.all_replicate]
              exact ⟨true, by simp, iteF ⟨_, rfl, s4.trans s5⟩⟩
          · rintro _ H4 ⟨v4, rfl, s4⟩
            exact ⟨_, _, rfl, s4⟩
        · rintro _ H3 ⟨v3, v4, rfl, s3⟩
          exact hnx _ _ ⟨_, _, rfl, s3⟩
      · rintro _ H3 ⟨v3, v4, rfl, s3⟩
        exact q H3 s3
end
end QT
set_option Elab.async false
set_option linter.all false
set_option maxRecDepth 100000
set_option maxHeartbeats 4000000
namespace QT
open PySem PySem.Spec PyProof.Rows L2
def rLenK (K : PySem.W.Frag) : List V → Hp → VK → Prop := fun xs H Q => ∃ p ys, xs = [.ref p] ∧ (SqL K H p ys ∨ SqT K H p ys) ∧ Q (.int ys.length) H
theorem call_lenK {X : Cx} {K : PySem.W.Frag} (h : X.K = K) : CallR X (.builtin "len") (rLenK K) := by
  subst h
  exact call_len_seq
def rTupK (K : PySem.W.Frag) : List V → Hp → VK → Prop := fun xs H Q => ∃ p ys, xs = [.ref p] ∧ ((SqL K H p ys ∧ ∀ l, H l = none → Q (.ref l) (upd H l (.tup ys))) ∨ (SqT K H p ys ∧ Q (.ref p) H))
theorem call_tupleK {X : Cx} {K : PySem.W.Frag} (h : X.K = K) : CallR X (.type "tuple") (rTupK K) := by
  subst h
  exact call_tuple_of
theorem pi_tupK {X : Cx} {K : PySem.W.Frag} (h : X.K = K) {tg e : Expr} {te : TE} (he : PE X e te) : PI X tg e (iTup K te) := by
  subst h
  exact pi_tup he
theorem pi_listK {X : Cx} {K : PySem.W.Frag} (h : X.K = K) {tg e : Expr} {te : TE} (he : PE X e te) : PI X tg e (iList K te) := by
  subst h
  exact pi_list he
theorem cr_setBw {X : Cx} {w : World} (h : X.w = w) (hc : X.calm = true) (hu : X.A.units + 64 < cLine) : CallR X (.type "set") (rSetB X.K w) := by
  subst h
  exact cr_setB hc hu
theorem cr_lenSetNw {X : Cx} {w : World} (h : X.w = w) : CallR X (.builtin "len") (rLenSetN w) := by
  subst h
  exact cr_lenSetN
theorem paired_zip {α β : Type} {R : α → β → Prop} : ∀ {as : List α} {bs : List β}, Paired R as bs → (as.zip bs).map (·.1) = as ∧ (as.zip bs).map (·.2) = bs ∧ ∀ p ∈ as.zip bs, R p.1 p.2
  | _, _, .nil => ⟨rfl, rfl, fun p hp => (nomatch hp)⟩
  | a :: as, b :: bs, .cons r t => by
    obtain ⟨h1, h2, h3⟩ := paired_zip t
    refine ⟨by rw [List.zip_cons_cons, List.map_cons, h1], by rw [List.zip_cons_cons, List.map_cons, h2], fun p hp => ?_⟩
    rw [List.zip_cons_cons] at hp
    rcases List.mem_cons.mp hp with e | e
    · subst e; exact r
    · exact h3 p e
abbrev sShape : Stmt := top 23
abbrev nShape : List Str := ["most", "value", "table", "lost", "images", "one", "at"]
theorem scShape : FnScope nShape ["most", "value"] (defScope sShape) := ⟨rfl, rfl, rfl, by decide +kernel, rfl, by decide +kernel, by decide +kernel⟩
structure ShOk (m : Nat) (t : List (List Int)) (lost ims : List Int) : Prop where
  M : Mon t
  im : ims.length = m
  few : lost.length ≤ 20
  lo : ∀ x ∈ lost, 0 ≤ x ∧ x < (t.length : Int)
  ii : ∀ x ∈ ims, 0 ≤ x ∧ x < (t.length : Int)
  asc : ∀ i : Nat, i + 1 < lost.length → lost.getD i 0 < lost.getD (i + 1) 0
theorem ShOk.of {m : Nat} {t : List (List Int)} {lost ims : List Int} (h : shOk m t lost ims = true) : ShOk m t lost ims := by
  unfold shOk at h
  simp only [Bool.and_eq_true, decide_eq_true_eq, List.all_eq_true, List.mem_range] at h
  obtain ⟨⟨⟨⟨⟨h1, h2⟩, h3⟩, h4⟩, h5⟩, h6⟩ := h
  exact ⟨mon_of h1, h2, h3, h4, h5, fun i hi => h6 i (by omega)⟩
theorem ShOk.imOk {m : Nat} {t : List (List Int)} {lost ims : List Int} (h : ShOk m t lost ims) : ImOk m t ims := ⟨h.im, h.ii⟩
def spShape : Sp := fun vs H Q _ => ∃ v t l im tab lost ims m, vs = [.int ((m : Nat) : Int), .ref v] ∧ H v = some (.tup [.ref t, .ref l, .ref im]) ∧ TabAt H t tab ∧ PosAt H l lost ∧ PosAt H im ims ∧ ShOk m tab lost ims ∧ m ≤ 3 ∧ ∀ H', Same H H' → Q (.bl true) H'
abbrev sApart : Stmt := top 24
abbrev nApart : List Str := ["table", "lost", "rows", "row", "one"]
theorem scApart : FnScope nApart ["table", "lost"] (defScope sApart) := ⟨rfl, rfl, rfl, by decide +kernel, rfl, by decide +kernel, by decide +kernel⟩
def spApart : Sp := fun vs H Q _ => ∃ t l tab lost, vs = [.ref t, .ref l] ∧ TabAt H t tab ∧ PosAt H l lost ∧ Mon tab ∧ (tab.map fun r => hashB (rowB lost r)).Nodup ∧ ∀ H', Same H H' → Q (.bl true) H'
section
variable {P : Program} {w : World} {K : PySem.W.Frag} {mg : Str → Option Value} {base : Heap} {f f1 f2 f3 C a kd : Addr} {fd fd1 fd2 fd3 : FuncData}
theorem ok_shape (F : FnP K "is_shape" sShape f fd) (T : Tx mg) (c1 : Cal P w K mg base 2 "is_in" ["value", "least", "most"] spIsIn f1 fd1) (c2 : Cal P w K mg base 3 "is_table" ["value"] spTable f2 fd2) : FnOk P w K mg base CX0 4 f fd ["most", "value"] spShape := by
  refine F.ok scShape (fun vs H Q E h => ?_) (fun cdv A outer s H vs Q E hr h => ⟨_, PSs.nox
    (pss_cons (ps_if (PW.pt (pw_or (pt_not (pt_val (pe_callB call_isi rfl T.isinstance (by decide +kernel) (pa_cons (pv 1) (pa_cons (pe_bltn (v := .ty "tuple") rfl T.tuple (by decide +kernel) rfl) pa_nil)))))
      (pw_or (pt_cmpR op_ne (pe_callB call_len_seq rfl T.len boot_len (pa_cons (pv 1) pa_nil)) pe_int (nomark _))
      (pw_or1 (pt_not (pt_val (pe_call c2.ok hr rfl c2.g c2.kp c2.b .nil pass0 (pa_cons (pe_ix ix_tup (pv 1) pe_int (fun _ _ => rfl)) pa_nil)))))))) (pss_one ps_never) pss_nil)
    (pss_cons (ps_asg (pv 1) (pg_tup rfl (pgs_cons (pg_name (i := 2) scShape.nd rfl (.inr rfl)) (pgs_cons (pg_name (i := 3) scShape.nd rfl (.inr rfl)) (pgs_cons (pg_name (i := 4) scShape.nd rfl (.inl rfl)) pgs_nil)))))
    (pss_cons (ps_if (PW.pt (pw_or (pt_not (pt_val (pe_callB call_isi rfl T.isinstance (by decide +kernel) (pa_cons (pv 3) (pa_cons (pe_bltn (v := .ty "tuple") rfl T.tuple (by decide +kernel) rfl) pa_nil)))))
      (pw_or (pt_not (pt_val (pe_callB call_isi rfl T.isinstance (by decide +kernel) (pa_cons (pv 4) (pa_cons (pe_bltn (v := .ty "tuple") rfl T.tuple (by decide +kernel) rfl) pa_nil)))))
      (pw_or1 (pt_cmpR op_ne (pe_callB call_len_seq rfl T.len boot_len (pa_cons (pv 4) pa_nil)) (pv 0) (nomark _)))))) (pss_one ps_never) pss_nil)
    (pss_cons (ps_if (pt_not (pt_val (pe_callB (cr_all rfl) rfl T.all (by decide +kernel) (pa_cons (pe_lc (own := [("one", 5)]) (g := gName 5) (tt := tYes) rfl scShape.nd (pi_list (pe_lst (StX.pa_star (pv 3) (StX.pa_star (pv 4) pa_nil)))) (blkOk_by (N := nShape) (sc := defScope sShape) (by decide +kernel)) (fun _ _ _ _ _ => pg_name (i := 5) scShape.nd rfl (Or.inl rfl)) (fun _ _ _ _ _ => pts_nil)
        (fun _ _ _ _ _ => pe_call c1.ok (hr.mono (by decide)) rfl c1.g c1.kp c1.b .nil pass0 (pa_cons (pv 5) (pa_cons pe_int (pa_cons (pe_op op_sub (pe_callB (call_lenK (K := K) rfl) rfl T.len boot_len (pa_cons (pv 2) pa_nil)) pe_int) pa_nil))))) pa_nil)))) (pss_one ps_never) pss_nil)
    (pss_one (ps_ret (pe_callB (cr_all rfl) rfl T.all (by decide +kernel) (pa_cons (pe_lc (own := [("at", 6)]) (g := gName 6) (tt := tYes) rfl scShape.nd (pi_range1 rfl T.range (pa_cons (pe_op op_sub (pe_callB call_len_seq rfl T.len boot_len (pa_cons (pv 3) pa_nil)) pe_int) pa_nil)) (blkOk_by (N := nShape) (sc := defScope sShape) (by decide +kernel)) (fun _ _ _ _ _ => pg_name (i := 6) scShape.nd rfl (Or.inl rfl)) (fun _ _ _ _ _ => pts_nil)
        (fun _ _ _ _ _ => pe_cmpR op_lt (pe_ix (ix_tK (K := K) rfl) (pv 3) (pv 6) (fun _ _ => rfl)) (pe_ix (ix_tK (K := K) rfl) (pv 3) (pe_op op_add (pv 6) pe_int) (fun _ _ => rfl)) (nomark _))) pa_nil)))))))), ?_⟩)
  · obtain ⟨v, t, l, im, tab, lost, ims, m, rfl, _⟩ := h
    rfl
  · obtain ⟨v, t, l, im, tab, lost, ims, m, rfl, hv, ht, hl, hi, S, hm, q⟩ := h
    refine ⟨_, rfl, _, _, _, _, true, rfl, .ty "tuple", ty_tup (SqT.of hv), kit_ty (by decide +kernel), true, rfl, iteF ?_⟩
    refine ⟨_, rfl, v, _, rfl, .inr (SqT.of hv), rfl, _, rfl, ?_⟩
    rw [decI]
    refine iteF ⟨_, rfl, v, _, _, .ref t, rfl, rfl, SqT.of hv, atI_int (by decide) rfl, t, tab, rfl, ht, S.M, fun H1 s1 => ⟨true, rfl, iteF ?_⟩⟩
    refine ⟨_, rfl, v, _, rfl, SqT.of (s1 _ _ hv), rfl, _, _, rfl, _, _, rfl, _, _, rfl, rfl, ?_⟩
    dsimp only [gName, List.set]
    refine ⟨_, rfl, _, _, _, _, true, rfl, .ty "tuple", ty_tup (SqT.of (s1 _ _ hl)), kit_ty (by decide +kernel), true, rfl, iteF ?_⟩
    refine ⟨_, rfl, _, _, _, _, true, rfl, .ty "tuple", ty_tup (SqT.of (s1 _ _ hi)), kit_ty (by decide +kernel), true, rfl, iteF ?_⟩
    refine ⟨_, rfl, im, _, rfl, .inr (SqT.of (s1 _ _ hi)), _, rfl, rfl, _, rfl, ?_⟩
    rw [decI, List.length_map, S.im, decide_eq_true rfl]
    refine iteF ⟨_, rfl, l, _, rfl, .inl (SqT.of (s1 _ _ hl)), _, rfl, im, _, rfl, .inl (SqT.of (s1 _ _ hi)), ?_⟩
    dsimp only [tNil]
    have ecat : lost.map V.int ++ (ims.map V.int ++ []) = (lost ++ ims).map V.int := by rw [List.append_nil, List.map_append]
    have elen : (lost ++ ims).length ≤ 100 := by
      rw [List.length_append, S.im]
      have := S.few
      omega
    rw [ecat]
    refine ⟨by rw [List.length_map]; exact small_line (by omega), fun u1 hu1 => ?_⟩
    have s2 := same_new (o := .lst ((lost ++ ims).map V.int)) s1 (s1.free hu1)
    have e2 : upd H1 u1 (.lst ((lost ++ ims).map V.int)) u1 = some (.lst ((lost ++ ims).map V.int)) := upd_same
    generalize upd H1 u1 (.lst ((lost ++ ims).map V.int)) = H2 at s2 e2 ⊢
    have tA : ∀ {H' : Hp}, Same H H' → TabAt H' t tab := fun s => ht.keep (Tk.of s)
    refine ⟨u1, rfl, ⟨_, SqL.of e2⟩, fun D hD => ?_⟩
    refine lc_list (K := K) (a := u1) (xs := (lost ++ ims).map V.int) (fun j H' => H' D = some (.lst ((List.replicate j true).map V.bl)) ∧ Same H2 H') ⟨upd_same, same_upd hD⟩ (fun j H' _ h => SqL.of (h.2 _ _ e2)) (fun j x H' hx ⟨hl2, hs2⟩ => ?_) (fun H' ⟨hl2, hs2⟩ => ?_)
    · obtain ⟨one, ho, rfl⟩ := map_get hx
      have hjl := (List.getElem?_eq_some_iff.mp ho).1
      have hz : 0 ≤ one ∧ one < (tab.length : Int) := by
        rcases List.mem_append.mp (List.mem_of_getElem? ho) with z | z
        · exact S.lo one z
        · exact S.ii one z
      obtain ⟨rs, g1, g2, g3⟩ := (tA (s2.trans hs2)).row
      refine ⟨rfl, _, rfl, _, rfl, t, _, rfl, .inr (SqT.of g1), _, _, rfl, rfl, one, 0, _, rfl, hz.1, ?_, _, hl2, by rw [List.length_map, List.length_replicate]; exact small_line' (by omega), ?_, same_new hs2 hD⟩
      · rw [List.length_map, g2]
        omega
      · rw [upd_same, List.replicate_succ', List.map_append] <;> rfl
    · rw [List.length_map] at hl2
      have s3 := s2.trans hs2
      refine ⟨D, List.replicate (lost ++ ims).length true, rfl, SqL.of hl2, ?_⟩
      rw [List.all_replicate]
      refine ⟨true, by simp, iteF ?_⟩
      refine ⟨_, rfl, l, _, rfl, .inr (SqT.of (s3 _ _ hl)), _, _, rfl, rfl, _, rfl, ?_, ?_, fun D2 hD2 => ?_⟩
      · have := S.few
        rw [List.length_map]
        omega
      · have := S.few
        rw [List.length_map]
        omega
      have en : (((lost.map V.int).length : Int) - 1).toNat = lost.length - 1 := by
        rw [List.length_map]
        omega
      refine lc_range (lo := 0) (n := (((lost.map V.int).length : Int) - 1).toNat) (fun k H2 => H2 D2 = some (.lst ((List.replicate k true).map V.bl)) ∧ Same H' H2) ⟨upd_same, same_upd hD2⟩ ?_ ?_
      · rintro k H5 hk ⟨l1, s5⟩
        rw [en] at hk
        have hl5 := (s3.trans s5) _ _ hl
        have a1 : lost[k]? = some lost[k] := List.getElem?_eq_getElem (by omega)
        have a2 : lost[k + 1]? = some lost[k + 1] := List.getElem?_eq_getElem (by omega)
        have asc := S.asc k (by omega)
        rw [List.getD_eq_getElem?_getD, List.getD_eq_getElem?_getD, a1, a2] at asc
        have asc : lost[k] < lost[k + 1] := asc
        refine ⟨rfl, _, rfl, _, rfl, l, _, _, _, rfl, rfl, SqT.of hl5, atI_int (by omega) (by rw [show ((0 : Int) + (k : Int)).toNat = k by omega]; exact map_at a1), _, rfl, _, rfl, _, _, rfl, rfl, l, _, _, _, rfl, rfl, SqT.of hl5, atI_int (by omega) (by rw [show ((0 : Int) + (k : Int) + 1).toNat = k + 1 by omega]; exact map_at a2), _, _, rfl, rfl, _, l1, by rw [List.length_map, List.length_replicate]; have := S.few; exact small_line' (by omega), ?_, same_new s5 hD2⟩
        rw [upd_same, List.replicate_succ', List.map_append]
        show some (HO.lst (_ ++ [V.bl (decide (lost[k] < lost[k + 1]))])) = _
        rw [decide_eq_true asc] <;> rfl
      · rintro H5 ⟨l1, s5⟩
        refine ⟨D2, List.replicate (((lost.map V.int).length : Int) - 1).toNat true, rfl, SqL.of l1, ?_⟩
        rw [List.all_replicate]
        have := q H5 (s3.trans s5)
        simpa using this
theorem ok_apart (F : FnP K "are_apart" sApart f fd) (T : Tx mg) : FnOk P w K mg base CX0 1 f fd ["table", "lost"] spApart := by
  refine F.ok scApart (fun vs H Q E h => ?_) (fun cdv A outer s H vs Q E hr h => ⟨_, PSs.nox
    (pss_cons (ps_setLc (i := 2) (own := [("row", 3)]) (g := gName 3) (tt := tYes) rfl scApart.nd rfl rfl (sw_true rfl rfl rfl (by decide +kernel)) (pi_tup (pv 0)) (blkOk_by (N := nApart) (sc := defScope sApart) (by decide +kernel)) (fun _ _ _ _ _ => pg_name (i := 3) scApart.nd rfl (Or.inl rfl)) (fun _ _ _ _ _ => pts_nil)
      (fun _ _ _ _ _ => pe_callTy (call_tupleK (K := K) rfl) rfl T.tuple (by decide +kernel) (pa_cons (pe_lc (own := [("one", 4)]) (g := gName 4) (tt := tYes) rfl scApart.nd (pi_tupK (K := K) rfl (pv 3)) (blkOk_by (N := nApart) (by kernel_rfl)) (fun _ _ _ _ _ => pg_name (i := 4) scApart.nd rfl (Or.inl rfl)) (fun _ _ _ _ _ => pts_nil)
        (fun _ _ _ _ _ => pe_cmpR (op_inK (K := K) rfl) (pv 4) (pv 1) (by rfl))) pa_nil)))
    (pss_one (ps_ret (pe_cmpR op_eq (pe_callB (cr_lenSetNw (w := w) rfl) rfl T.len boot_len (pa_cons (pe_callTy (cr_setBw (w := w) rfl rfl hr.units) rfl T.set (by decide +kernel) (pa_cons (pv 2) pa_nil)) pa_nil)) (pe_callB call_len_seq rfl T.len boot_len (pa_cons (pv 2) pa_nil)) (nomark _))))), ?_⟩)
  · obtain ⟨t, l, tab, lost, rfl, _⟩ := h
    rfl
  · obtain ⟨t, l, tab, lost, rfl, ht, hl, M, hnd, q⟩ := h
    obtain ⟨rs, h1, h2, h3⟩ := ht.row
    have hfw := M.few
    refine ⟨_, rfl, t, rfl, ⟨_, SqT.of h1⟩, fun D hD => ?_⟩
    refine lc_tup (K := K) (a := t) (xs := rs.map V.ref) (fun i H' => ∃ as : List Addr, H' D = some (.lst (as.map V.ref)) ∧ Paired (fun a r => H' a = some (.tup (r.map V.bl))) as ((tab.take i).map (rowB lost)) ∧ Same H H') ⟨[], upd_same, by rw [List.take_zero]; exact .nil, same_upd hD⟩ (fun i H' _ ⟨_, _, _, e⟩ => SqT.of (e _ _ h1)) ?_ ?_
    · rintro i x H' hx ⟨as, d1, d2, s1⟩
      obtain ⟨r, hr1, rfl⟩ := map_get hx
      obtain ⟨row, hrow, hat⟩ := paired_get' h3 hr1
      obtain ⟨hrl, _⟩ := M.row row (List.mem_of_getElem? hrow)
      have hat1 := s1 _ _ hat
      have hil := (List.getElem?_eq_some_iff.mp hrow).1
      refine ⟨rfl, ?_⟩
      refine ⟨_, rfl, r, rfl, ⟨_, SqT.of hat1⟩, fun D2 hD2 => ?_⟩
      refine lc_tup (K := K) (a := r) (xs := row.map V.int) (fun j H2 => H2 D2 = some (.lst ((rowB lost (row.take j)).map V.bl)) ∧ Same H' H2) ⟨upd_same, same_upd hD2⟩ (fun j H2 _ h => SqT.of (h.2 _ _ hat1)) ?_ ?_
      · rintro j x H2 hx2 ⟨p1, p2⟩
        obtain ⟨one, ho, rfl⟩ := map_get hx2
        have hjl := (List.getElem?_eq_some_iff.mp ho).1
        refine ⟨rfl, _, rfl, _, rfl, l, _, rfl, .inr (SqT.of (p2 _ _ (s1 _ _ hl))), rfl, flat_ints _, _, p1, ?_, ?_, same_new p2 hD2⟩
        · unfold rowB
          rw [List.length_map, List.length_map, List.length_take]
          exact small_line' (by omega)
        · unfold rowB
          rw [upd_same, take_succ ho, List.map_append, List.map_append, inV_ints] <;> rfl
      · rintro H2 ⟨p1, p2⟩
        rw [List.length_map, List.take_length] at p1
        refine ⟨D2, _, rfl, .inl ⟨SqL.of p1, fun tt htt => ?_⟩⟩
        have p3 := same_new (o := .tup ((rowB lost row).map V.bl)) p2 (p2.free htt)
        have e3 : upd H2 tt (.tup ((rowB lost row).map V.bl)) tt = some (.tup ((rowB lost row).map V.bl)) := upd_same
        generalize upd H2 tt (.tup ((rowB lost row).map V.bl)) = H3 at p3 e3 ⊢
        have d3 := p3 _ _ d1
        have hlen : as.length = i := by
          rw [Paired.length d2, List.length_map, List.length_take]
          omega
        have ks : ∀ (a : Addr) (xs : List V), H3 a = some (.tup xs) → upd H3 D (.lst (as.map V.ref ++ [.ref tt])) a = some (.tup xs) := fun a xs h => by
          rw [upd_ne (ne_of h d3 (fun z => nomatch z))]
          exact h
        refine ⟨_, d3, by rw [List.length_map, hlen]; exact small_line' (by omega), as ++ [tt], by rw [upd_same, List.map_append] <;> rfl, ?_, same_new (s1.trans p3) hD⟩
        rw [take_succ hrow, List.map_append]
        exact paired_snoc (paired_mono (fun a r h => ks _ _ (p3 _ _ h)) d2) (ks _ _ e3)
    · rintro H' ⟨as, d1, d2, s1⟩
      rw [List.length_map, h2, List.take_length] at d2
      obtain ⟨z1, z2, z3⟩ := paired_zip d2
      have el : as.length = tab.length := by rw [Paired.length d2, List.length_map]
      have el2 : (as.zip (tab.map (rowB lost))).length = tab.length := by
        have := congrArg List.length z1
        rw [List.length_map] at this
        omega
      refine ⟨_, rfl, D, as.zip (tab.map (rowB lost)), rfl, SqL.of ?_, fun p hp => SqT.of (z3 p hp), by omega, ?_, fun sa hsa => ?_⟩
      · rw [d1]
        have : (as.zip (tab.map (rowB lost))).map (fun p => V.ref p.1) = as.map V.ref := by
          have e := congrArg (List.map V.ref) z1
          rw [List.map_map] at e
          exact e
        rw [this]
      · have e := congrArg (List.map hashB) z2
        rw [List.map_map, List.map_map] at e
        rw [show (fun p : Addr × List Bool => hashB p.2) = hashB ∘ (fun p : Addr × List Bool => p.2) from rfl, e]
        exact hnd
      · rw [el2]
        have s2 := same_new (o := SetNO w sa tab.length) s1 (s1.free hsa)
        have e2 : upd H' sa (SetNO w sa tab.length) sa = some (SetNO w sa tab.length) := upd_same
        have e3 : upd H' sa (SetNO w sa tab.length) D = some (.lst (as.map V.ref)) := by rw [upd_ne (ne_of_none d1 hsa)]; exact d1
        generalize upd H' sa (SetNO w sa tab.length) = H2 at s2 e2 e3 ⊢
        refine ⟨sa, tab.length, rfl, e2, by omega, _, rfl, D, _, rfl, .inl (SqL.of e3), rfl, ?_⟩
        rw [List.length_map, el]
        have e4 : decide (V.int ((tab.length : Nat) : Int) = V.int ((tab.length : Nat) : Int)) = true := decide_eq_true rfl
        show Q (.bl (decide (V.int ((tab.length : Nat) : Int) = V.int ((tab.length : Nat) : Int)))) H2
        rw [e4]
        exact q H2 s2
end
end QT
set_option Elab.async false
set_option linter.all false
set_option maxRecDepth 100000
set_option maxHeartbeats 4000000
namespace QT
open PySem PySem.Spec PyProof.Rows L2
/-- a class of the module, ready to make an instance -/
structure CalK (P : Program) (w : World) (K : PySem.W.Frag) (mg : Str → Option Value) (base : Heap) (k : Nat) (x : Str) (C : Addr) (ps : List Str) (sp : Sp) (f : Addr) (fd : FuncData) : Prop where
  ok : FnOk P w K mg base CX0 k f fd ps sp
  M : Mk K C f
  g : mg x = some (.ref C)
  b : Binds K fd ps []
theorem fnOk_ex {ι : Type} {P : Program} {w : World} {K : PySem.W.Frag} {mg : Str → Option Value} {base : Heap} {k : Nat} {f : Addr} {fd : FuncData} {ps : List Str} {p : ι → Prop} {sp : ι → Sp} (h : ∀ i, p i → FnOk P w K mg base CX0 k f fd ps (sp i)) :
    FnOk P w K mg base CX0 k f fd ps (fun vs H Q E => ∃ i, p i ∧ sp i vs H Q E) :=
  ⟨fun vs H Q E ⟨i, pi, q⟩ => (h i pi).len vs H Q E q, fun A outer s H args us vs Q E hr he hb hv ⟨i, pi, q⟩ => (h i pi).run A outer s H args us vs Q E hr he hb hv q⟩
structure LX where
  G : Gs
  mv : List (List (List Int))
  a : Addr
  kd : Addr
def spPairsX (P : Program) (w : World) (C : Addr) : Sp := fun vs H Q E => ∃ x : LX, LateIn C x.G x.mv x.a x.kd ∧ spPairs P w C x.G x.mv x.a x.kd vs H Q E
theorem pairsM_len {t : List (List Int)} {sts : List (Int × List Int)} {es : List Ent} : ∀ {f i : Nat} {es0 : List Ent}, pairsM t sts f i es0 = some es → es.length < 50
  | 0, _, _, h => by cases h
  | f + 1, i, es0, h => by
    rw [pairsM] at h
    by_cases c : es0.length < 50
    · rw [if_pos c] at h
      cases e : es0[i]? with
      | none =>
        rw [e] at h
        have h : some es0 = some es := h
        cases h
        exact c
      | some e0 =>
        rw [e] at h
        exact pairsM_len (f := f) h
    · rw [if_neg c] at h
      cases h
theorem pg_tupK {X : Cx} {K : PySem.W.Frag} (h : X.K = K) {es : List Expr} {k : Nat} {t : TGs} {n : Nat} {pos : Pos} (hc : X.calm = true) (hg : PGs X es t)
    (hn : (assignEach es X.env).length = n := by rfl) (hst : (assignEach es X.env).findIdx? (·.1) = none := by rfl) : PG X (.Tuple es k pos) (gTup K n t) := by
  subst h
  exact pg_tup hc hg hn hst
theorem cr_lenSetOw {X : Cx} {w : World} (h : X.w = w) : CallR X (.builtin "len") (rLenSetO w) := by
  subst h
  exact cr_lenSetO
abbrev sShows : Stmt := top 25
abbrev nShows : List Str := ["rule", "most", "value", "table", "lost", "images", "found", "image", "behind"]
theorem scShows : FnScope nShows ["rule", "most", "value"] (defScope sShows) := ⟨rfl, rfl, rfl, by decide +kernel, rfl, by decide +kernel, by decide +kernel⟩
def spShows (K : PySem.W.Frag) : Sp := fun vs H Q _ => ∃ r v t l im ds tab lost ims m es, vs = [.ref r, .int ((m : Nat) : Int), .ref v] ∧ SqT K H r (ds.map V.int) ∧ RuleOk ds ∧ 1 ≤ m ∧ m ≤ 3 ∧ H v = some (.tup [.ref t, .ref l, .ref im]) ∧ TabAt H t tab ∧ PosAt H l lost ∧ PosAt H im ims ∧
  ShOk m tab lost ims ∧ (tab.map fun r => hashB (rowB lost r)).Nodup ∧ MvOk m (movesM ds m) ∧ pairsM tab (stepsM (movesM ds m) tab ims m) 50 0 [((0, []), [])] = some es ∧ tab.length ≤ (isort (es.map fun e => e.1.1)).length ∧ faultM lost es = none ∧
  ∀ H', Same H H' → Q (.bl true) H'
section
variable {P : Program} {w : World} {K : PySem.W.Frag} {mg : Str → Option Value} {base : Heap} {f f1 f2 f3 f4 f5 f6 f7 CL a kd : Addr} {fd fd1 fd2 fd3 fd4 fd5 fd6 fd7 : FuncData}
theorem ok_pairsX (F : FnP K "pairs_of" sPairs f fd) (T : Tx mg) (TC : TL K CL) (c1 : Cal P w K mg base 1 "image_of" ["table", "images", "heaps"] spImage f1 fd1) : FnOk P w K mg base CX0 2 f fd ["late", "most", "table", "images"] (spPairsX P w CL) :=
  fnOk_ex fun x LI => ok_pairs F T TC LI c1
theorem ok_shows (F : FnP K "shows_quotient" sShows f fd) (T : Tx mg) (c1 : Cal P w K mg base 3 "need_rule" ["value"] (spNeedRule K) f1 fd1) (c2 : Cal P w K mg base 3 "need_number" ["value", "least", "most"] spNeedNumber f2 fd2)
    (c3 : Cal P w K mg base 4 "is_shape" ["most", "value"] spShape f3 fd3) (c4 : Cal P w K mg base 1 "are_apart" ["table", "lost"] spApart f4 fd4) (c5 : Cal P w K mg base 2 "pairs_of" ["late", "most", "table", "images"] (spPairsX P w CL) f5 fd5)
    (c6 : CalK P w K mg base 5 "Late" CL ["self", "rule", "most"] (spLateInit K CL) f6 fd6) (c7 : Cal P w K mg base 1 "first_fault" ["found", "lost"] (spFault P w) f7 fd7) : FnOk P w K mg base CX0 7 f fd ["rule", "most", "value"] (spShows K) := by
  obtain ⟨tk, hk⟩ := T.most
  refine F.ok scShows (fun vs H Q E h => ?_) (fun cdv A outer s H vs Q E hr h => ⟨_, PSs.nox
    (pss_cons (ps_expr (pe_call c1.ok (hr.mono (by decide)) rfl c1.g c1.kp c1.b .nil pass0 (pa_cons (pv 0) pa_nil)))
    (pss_cons (ps_expr (pe_call c2.ok (hr.mono (by decide)) rfl c2.g c2.kp c2.b .nil pass0 (pa_cons (pv 1) (pa_cons pe_int (pa_cons (pe_glob (v := .int 6) rfl hk ⟨_, rfl⟩) pa_nil)))))
    (pss_cons (ps_if (pt_not (pt_val (pe_call c3.ok (hr.mono (by decide)) rfl c3.g c3.kp c3.b .nil pass0 (pa_cons (pv 1) (pa_cons (pv 2) pa_nil))))) (pss_one ps_never) pss_nil)
    (pss_cons (ps_asg (pv 2) (pg_tup rfl (pgs_cons (pg_name (i := 3) scShows.nd rfl (.inl rfl)) (pgs_cons (pg_name (i := 4) scShows.nd rfl (.inl rfl)) (pgs_cons (pg_name (i := 5) scShows.nd rfl (.inl rfl)) pgs_nil)))))
    (pss_cons (ps_if (pt_not (pt_val (pe_call c4.ok (hr.mono (by decide)) rfl c4.g c4.kp c4.b .nil pass0 (pa_cons (pv 3) (pa_cons (pv 4) pa_nil))))) (pss_one ps_never) pss_nil)
    (pss_cons (ps_set (i := 6) scShows.nd rfl (Or.inl rfl) (pe_call c5.ok (hr.mono (by decide)) rfl c5.g c5.kp c5.b .nil pass0 (pa_cons (pe_make c6.M c6.ok (hr.mono (by decide)) rfl c6.g c6.b .nil pass0 (pa_cons (pv 0) (pa_cons (pv 1) pa_nil))) (pa_cons (pv 1) (pa_cons (pv 3) (pa_cons (pv 5) pa_nil))))))
    (pss_cons (ps_if (pt_cmpR op_lt (pe_callB (cr_lenSetOw (w := w) rfl) rfl T.len boot_len (pa_cons (pe_lock (pe_scA (accI P w K) (own := [("image", 7), ("behind", 8)]) (g := gTup K 2 (gCons (gName 7) (gCons (gName 8) gNil))) (tt := tYes) hr.units rfl scShows.nd (pi_keysP (P := P) (w := w) rfl rfl (pv 6)) (blkOk_by (N := nShows) (sc := defScope sShows) (by decide +kernel))
        (fun _ _ _ _ _ => pg_tupK (K := K) rfl rfl (pgs_cons (pg_name (i := 7) scShows.nd rfl (.inl rfl)) (pgs_cons (pg_name (i := 8) scShows.nd rfl (.inl rfl)) pgs_nil))) (fun _ _ _ _ _ => pts_nil) (fun _ _ _ _ _ => pv 7))) pa_nil)) (pe_callB call_len_seq rfl T.len boot_len (pa_cons (pv 3) pa_nil)) (nomark _)) (pss_one ps_never) pss_nil)
    (pss_one (ps_ret (pe_cmpR op_isN (pe_call c7.ok (hr.mono (by decide)) rfl c7.g c7.kp c7.b .nil pass0 (pa_cons (pv 6) (pa_cons (pv 4) pa_nil))) pe_non (nomark _))))))))))), ?_⟩)
  · obtain ⟨r, v, t, l, im, ds, tab, lost, ims, m, es, rfl, _⟩ := h
    rfl
  · obtain ⟨r, v, t, l, im, ds, tab, lost, ims, m, es, rfl, hr1, hrule, hm1, hm3, hv, ht, hl, hi, S, hnd, V0, hes, hcnt, hfault, q⟩ := h
    refine ⟨_, rfl, r, ds, rfl, hr1, hrule, fun H1 s1 => ?_⟩
    refine ⟨_, rfl, (m : Int), 1, 6, rfl, by omega, by omega, ?_⟩
    refine ⟨_, rfl, _, rfl, v, t, l, im, tab, lost, ims, m, rfl, s1 _ _ hv, ht.keep (Tk.of s1), s1 _ _ hl, s1 _ _ hi, S, hm3, fun H2 s2 => ⟨true, rfl, iteF ?_⟩⟩
    have s2 := s1.trans s2
    refine ⟨_, rfl, v, _, rfl, SqT.of (s2 _ _ hv), rfl, _, _, rfl, _, _, rfl, _, _, rfl, rfl, ?_⟩
    dsimp only [gName, List.set]
    refine ⟨_, rfl, _, rfl, t, l, tab, lost, rfl, ht.keep (Tk.of s2), s2 _ _ hl, S.M, hnd, fun H3 s3 => ⟨true, rfl, iteF ?_⟩⟩
    have s3 := s2.trans s3
    refine ⟨_, rfl, _, rfl, fun x dx hx hdx hne => ⟨x, dx, r, ds, m, rfl, upd_same, ?_, hrule, hm3, fun H4 G kd hfr LI st hkd hkd0 hGc => ⟨rfl, _, rfl, _, rfl, _, rfl, ?_⟩⟩⟩
    · exact sqT_same (same_new (same_new s3 (s3.free hdx)) (s3.free hx)) hr1
    have s4 : Same H H4 := fun b o hb => by
      have h3 := s3 _ _ hb
      have n1 := ne_of_none h3 hx
      exact hfr b o (by rw [upd_ne n1, upd_ne (ne_of_none h3 hdx)]; exact h3) n1
    refine ⟨⟨G, movesM ds m, x, kd⟩, LI, t, im, tab, ims, m, es, rfl, ht.keep (Tk.of s4), s4 _ _ hi, S.M, S.imOk, V0, st, hes, fun H5 d ts s5 hd hdd hts hent hok => ?_⟩
    have s5 := s4.trans s5
    dsimp only [gName, List.set]
    have hel := pairsM_len hes
    -- the set of images
    refine ⟨d, _, hdd, trivial, fun od => ?_⟩
    have kb0 : Kb d H5 (upd H5 d (.frz od (DN P w d (ts.map rowT)))) := fun b o hb hn => by rw [upd_ne hn]; exact hb
    refine ⟨_, rfl, d, od, _, rfl, upd_same, fun D hD => ?_⟩
    have hDd : D ≠ d := fun e => by rw [e, upd_same] at hD; cases hD
    refine sc_it (P := P) (w := w) (K := K) (walk_keysN (P := P) (w := w)) (fun i H' => ∃ S n ls, H' D = some (SetO w D S n) ∧ H' d = some (.frz od (DN P w d (ts.map rowT))) ∧ Kb d H5 H' ∧ ls.Nodup ∧ ls.length = n ∧ n ≤ i ∧ (∀ k, S k = true ↔ k ∈ ls) ∧ ∀ k, k ∈ ls ↔ k ∈ (ts.take i).map fun t => t.2.2.2.1.1)
      ⟨_, 0, [], upd_same, by rw [upd_ne (Ne.symm hDd), upd_same], fun b o hb hn => ?_, List.nodup_nil, rfl, Nat.le_refl _, fun k => by simp, fun k => by simp⟩ (fun i H' _ ⟨_, _, _, _, e, _⟩ => e) ?_ ?_
    · have hb2 := kb0 b o hb hn
      rw [upd_ne (ne_of_none hb2 hD)]
      exact hb2
    · rintro i x' H6 H7 hi6 ⟨S1, n, ls, d1, d2, d3, d4, d5, d6, d7, d8⟩ ⟨rfl, rw1, hrw, rfl⟩
      obtain ⟨tt, htt, rfl⟩ := map_get hrw
      have hE := hent tt (List.mem_of_getElem? htt)
      obtain ⟨bb, b1, b2⟩ := hE.k
      have b3 := d3 _ _ b1 (ne_of b1 hdd (fun z => nomatch z))
      have hil := (List.getElem?_eq_some_iff.mp htt).1
      have htl : ts.length < 50 := by
        rw [hts, List.length_map] at hel
        exact hel
      refine ⟨tt.1, _, rfl, SqT.of b3, rfl, _, _, rfl, _, _, rfl, rfl, rfl, ?_⟩
      have hDH : H5 D = none := by
        cases e : H5 D with
        | none => rfl
        | some o =>
          have := kb0 _ _ e hDd
          rw [this] at hD
          cases hD
      have kb7 : ∀ o, Kb d H5 (upd H7 D o) := fun o b u hb hn => by
        rw [upd_ne (ne_of_none hb hDH)]
        exact d3 _ _ hb hn
      refine ⟨_, rfl, tt.2.2.2.1.1, S1, n, rfl, d1, by omega, ?_⟩
      by_cases c : S1 tt.2.2.2.1.1 = true
      · refine ⟨_, _, ls, upd_same, by rw [upd_ne (Ne.symm hDd)]; exact d2, kb7 _, d4, ?_, ?_, fun k => ?_, fun k => ?_⟩
        · rw [if_pos c]; exact d5
        · rw [if_pos c]; omega
        · rw [Bool.or_eq_true, decide_eq_true_eq, ← d7]
          exact ⟨fun z => z.elim id fun e => e ▸ c, .inl⟩
        · rw [take_succ htt, List.map_append, List.mem_append, ← d8]
          refine ⟨.inl, fun z => z.elim id fun e => ?_⟩
          rw [List.map_cons, List.map_nil, List.mem_singleton] at e
          rw [e]
          exact (d7 _).mp c
      · have cn : tt.2.2.2.1.1 ∉ ls := fun z => c ((d7 _).mpr z)
        refine ⟨_, _, ls ++ [tt.2.2.2.1.1], upd_same, by rw [upd_ne (Ne.symm hDd)]; exact d2, kb7 _, ?_, ?_, ?_, fun k => ?_, fun k => ?_⟩
        · exact List.nodup_append.mpr ⟨d4, by simp, fun a ha b hb => by
            rw [List.mem_singleton.mp hb]
            exact fun e => cn (e ▸ ha)⟩
        · rw [if_neg c, List.length_append, d5] <;> rfl
        · rw [if_neg c]; omega
        · rw [Bool.or_eq_true, decide_eq_true_eq, d7, List.mem_append, List.mem_singleton]
        · rw [take_succ htt, List.map_append, List.mem_append, List.mem_append, ← d8] <;> rfl
    · rintro H6 ⟨S1, n, ls, d1, d2, d3, d4, d5, d6, d7, d8⟩
      rw [List.length_map, List.take_length] at d8
      have s6 : Same H5 (upd H6 d (DN P w d (ts.map rowT))) := fun b o hb => by
        by_cases e : b = d
        · rw [e, upd_same, ← hdd, ← e]; exact hb
        · rw [upd_ne e]; exact d3 _ _ hb e
      have d9 : upd H6 d (DN P w d (ts.map rowT)) D = some (SetO w D S1 n) := by rw [upd_ne hDd]; exact d1
      have dd : upd H6 d (DN P w d (ts.map rowT)) d = some (DN P w d (ts.map rowT)) := upd_same
      refine ⟨d2, ?_⟩
      generalize upd H6 d (DN P w d (ts.map rowT)) = H7 at s6 d9 dd ⊢
      have s7 := s5.trans s6
      obtain ⟨rs, g1, g2, g3⟩ := (ht.keep (Tk.of s7)).row
      refine ⟨D, S1, n, rfl, d9, _, rfl, t, _, rfl, .inr (SqT.of g1), _, _, rfl, rfl, _, rfl, ?_⟩
      have hn : n = (isort (es.map fun e => e.1.1)).length := by
        rw [← d5]
        refine List.Perm.length_eq ((List.perm_ext_iff_of_nodup d4 (nodup_lt (isort_sorted _))).mpr fun k => ?_)
        rw [d8, isort_mem, hts, List.map_map] <;> rfl
      rw [List.length_map, g2, decide_eq_false (by omega)]
      refine iteF ⟨_, rfl, _, rfl, d, l, ts, lost, rfl, dd, fun t' ht' => ?_, s7 _ _ hl, fun H8 s8 => ⟨fun hno => ⟨rfl, ?_⟩, fun hp hsome => ?_⟩⟩
      · refine ⟨(hent t' ht').keep (Tk.of s6), ?_⟩
        obtain ⟨_, r2, r3, _⟩ := hok.ok t'.2.2.2 (by rw [hts]; exact List.mem_map.mpr ⟨t', ht', rfl⟩)
        have := range_len r3 r2
        have := S.M.few
        omega
      · exact q H8 (s7.trans s8)
      · rw [← hts, hfault] at hsome
        cases hsome
end
end QT
set_option Elab.async false
set_option linter.all false
set_option maxRecDepth 100000
set_option maxHeartbeats 4000000
namespace QT
open PySem PySem.Spec PyProof.Rows L2
theorem pe_fldK {X : Cx} {K : PySem.W.Frag} (h : X.K = K) {e : Expr} {f : Str} {ta : TE} {pos : Pos} (he : PE X e ta) (hb : attributeBase e f X.env (eval e X.env) = eval e X.env) : PE X (.Attribute e f pos) (tFld K ta f) := by
  subst h
  exact pe_fld he hb
theorem pa_starK {X : Cx} {K : PySem.W.Frag} (h : X.K = K) {e : Expr} {es : List Expr} {te : TE} {t : TA} {p : Pos} (he : PE X e te) (hr : PA X es t) (hs : starEach (.Starred e p :: es) X.env = (true, eval e X.env) :: starEach es X.env := by rfl) : PA X (.Starred e p :: es) (StX.tStar K te t) := by
  subst h
  exact StX.pa_star he hr hs
theorem cr_sortTIK {X : Cx} {K : PySem.W.Frag} (h : X.K = K) : CallR X (.builtin "sorted") (rSortTI K) := by
  subst h
  exact cr_sortTI
structure SX where
  G : Gs
  mv : List (List (List Int))
  L : List Int → Bool
  m : Nat
  a : Addr
  kd : Addr
structure SXok (CL : Addr) (x : SX) : Prop where
  li : LateIn CL x.G x.mv x.a x.kd
  cf : Cfg x.m x.mv x.L
def spLosesX (C : Addr) : Sp := fun vs H Q E => ∃ x : SX, SXok C x ∧ spLoses 29 C x.G x.mv x.L x.m x.a x.kd vs H Q E
/-- a list of positions -/
def ListsAt (H : Hp) (l : Addr) (hs : List (List Int)) : Prop := ∃ as : List Addr, H l = some (.lst (as.map V.ref)) ∧ Paired (PosAt H) as hs
def srF (a : Addr) (m : Nat) (tl rl pd : Addr) : List (Str × V) := [("late", .ref a), ("most", .int (m : Int)), ("tests", .ref tl), ("reps", .ref rl), ("places", .ref pd)]
theorem srF_late (a : Addr) (m : Nat) (tl rl pd : Addr) : (srF a m tl rl pd).lookup ("late" : Str) = some (.ref a) := rfl
theorem srF_most (a : Addr) (m : Nat) (tl rl pd : Addr) : (srF a m tl rl pd).lookup ("most" : Str) = some (.int (m : Int)) := rfl
theorem srF_tests (a : Addr) (m : Nat) (tl rl pd : Addr) : (srF a m tl rl pd).lookup ("tests" : Str) = some (.ref tl) := rfl
theorem srF_reps (a : Addr) (m : Nat) (tl rl pd : Addr) : (srF a m tl rl pd).lookup ("reps" : Str) = some (.ref rl) := rfl
theorem srF_places (a : Addr) (m : Nat) (tl rl pd : Addr) : (srF a m tl rl pd).lookup ("places" : Str) = some (.ref pd) := rfl
structure TS (K : PySem.W.Frag) (C : Addr) : Prop where
  cl : Cls K C
  la : NoAttr K C "late"
  mo : NoAttr K C "most"
  te : NoAttr K C "tests"
  re : NoAttr K C "reps"
  pl : NoAttr K C "places"
theorem Kb.lists {kd l : Addr} {H H' : Hp} {L : List Int → Bool} {m : Nat} {hs : List (List Int)} (s : Kb kd H H') (M : Memo L m kd H) (x : ListsAt H l hs) : ListsAt H' l hs := by
  obtain ⟨as, h1, h2⟩ := x
  have hk := Tk.kb s M
  obtain ⟨ks, k1, _⟩ := M
  exact ⟨as, s _ _ h1 (ne_of h1 k1 (fun z => nomatch z)), paired_mono (fun a b q => hk _ _ q) h2⟩
theorem Kb.ins {kd l : Addr} {H H' : Hp} {L : List Int → Bool} {m : Nat} (s : Kb kd H H') (M : Memo L m kd H) {C dx : Addr} {fs : List (Str × V)} (x : H l = some (.ins C dx fs)) : H' l = some (.ins C dx fs) := by
  obtain ⟨ks, k1, _⟩ := M
  exact s _ _ x (ne_of x k1 (fun z => nomatch z))
abbrev sSign : Stmt := inClass (top 26) 1
abbrev nSign : List Str := ["self", "heaps", "test"]
theorem scSign : FnScope nSign ["self", "heaps"] (defScope sSign) := ⟨rfl, rfl, rfl, by decide +kernel, rfl, by decide +kernel, by decide +kernel⟩
def spSign (CL CS : Addr) (x : SX) : Sp := fun vs H Q _ => ∃ s dxs tl rl pd p h tests, vs = [.ref s, .ref p] ∧ H s = some (.ins CS dxs (srF x.a x.m tl rl pd)) ∧ ListsAt H tl tests ∧ tests.length ≤ 100 ∧ PosAt H p h ∧ sgOk x.m tests h = true ∧ Stat x.G H ∧ Memo x.L x.m x.kd H ∧
  ∀ H' b, Kb x.kd H H' → Memo x.L x.m x.kd H' → H b = none → H' b = some (.tup ((sgn x.L tests h).map V.bl)) → Q (.ref b) H'
def spSignX (CL CS : Addr) : Sp := fun vs H Q E => ∃ x : SX, SXok CL x ∧ spSign CL CS x vs H Q E
section
variable {P : Program} {w : World} {K : PySem.W.Frag} {mg : Str → Option Value} {base : Heap} {f f1 f2 f3 f4 f5 f6 f7 CL CS a kd : Addr} {fd fd1 fd2 fd3 fd4 fd5 fd6 fd7 : FuncData}
theorem ok_losesX (F : FnM K "loses" "Late.loses" sLoses f fd) (T : Tx mg) (TC : TL K CL) (M : Meth K CL "loses" f) (b : Binds K fd ["self", "heaps"] []) : FnOk P w K mg base CX0 29 f fd ["self", "heaps"] (spLosesX CL) :=
  fnOk_ex fun x ok => ok_loses F T TC M b ok.li ok.cf 29
theorem ok_sign (F : FnM K "sign" "Search.sign" sSign f fd) (T : Tx mg) (TC : TL K CL) (TD : TS K CS) (c1 : CalM P w K mg base 29 CL "loses" ["self", "heaps"] (spLosesX CL) f1 fd1) (x : SX) (ok : SXok CL x) : FnOk P w K mg base CX0 30 f fd ["self", "heaps"] (spSign CL CS x) := by
  refine F.ok scSign (fun vs H Q E h => ?_) (fun cdv A outer s H vs Q E hr h => ⟨_, PSs.nox
    (pss_one (ps_ret (pe_callTy call_tuple_of rfl T.tuple (by decide +kernel) (pa_cons (pe_lc (own := [("test", 2)]) (g := gName 2) (tt := tYes) rfl scSign.nd (pi_list (pe_fld (pv 0) rfl)) (blkOk_by (N := nSign) (sc := defScope sSign) (by decide +kernel)) (fun _ _ _ _ _ => pg_name (i := 2) scSign.nd rfl (Or.inl rfl)) (fun _ _ _ _ _ => pts_nil)
      (fun _ _ _ _ _ => pe_meth (pe_fldK (K := K) rfl (pv 0) rfl) TC.cl c1.m c1.ok hr c1.b .nil pass0 (pa_cons (pe_callTy (call_tupleK (K := K) rfl) rfl T.tuple (by decide +kernel) (pa_cons (pe_callB (cr_sortTIK (K := K) rfl) rfl T.sorted (by decide +kernel)
        (pa_cons (pe_tup (pa_starK (K := K) rfl (pv 1) (pa_starK (K := K) rfl (pv 2) pa_nil))) pa_nil)) pa_nil)) pa_nil))) pa_nil)))), ?_⟩)
  · obtain ⟨s, dxs, tl, rl, pd, p, h, tests, rfl, _⟩ := h
    rfl
  · obtain ⟨s, dxs, tl, rl, pd, p, h, tests, rfl, hs, htl, htn, hp, hsg, hst, hM, q⟩ := h
    obtain ⟨as, ha1, ha2⟩ := id htl
    obtain ⟨ml, dx, hins, hrest⟩ := id ok.li
    have hal := Paired.length ha2
    have sg : ∀ t ∈ tests, vOk x.m (h ++ t) = true := by
      unfold sgOk at hsg
      exact List.all_eq_true.mp hsg
    refine ⟨_, rfl, s, CS, dxs, _, _, rfl, hs, TD.cl, TD.te, srF_tests _ _ _ _ _, tl, rfl, ⟨_, SqL.of ha1⟩, fun D hD => ?_⟩
    refine lc_list (K := K) (a := tl) (xs := as.map V.ref) (fun i H' => H' D = some (.lst ((sgn x.L (tests.take i) h).map V.bl)) ∧ Kb x.kd H H' ∧ Memo x.L x.m x.kd H') ⟨upd_same, (Kb.refl _ _).new hD, hM.new hD⟩ (fun i H' _ ⟨_, k, _⟩ => ?_) ?_ ?_
    · obtain ⟨as', g1, _⟩ := k.lists hM htl
      have e := k _ _ ha1 (by obtain ⟨ks, k1, _⟩ := hM; exact ne_of ha1 k1 (fun z => nomatch z))
      exact SqL.of e
    · rintro i y H1 hy ⟨d1, k1, m1⟩
      obtain ⟨ta, hta, rfl⟩ := map_get hy
      obtain ⟨test, htest, hat⟩ := paired_get' ha2 hta
      have hil := (List.getElem?_eq_some_iff.mp htest).1
      have hv := sg test (List.mem_of_getElem? htest)
      have st1 := k1.stat ok.li hst
      have hat1 := k1.pos hM hat
      have hp1 := k1.pos hM hp
      refine ⟨rfl, _, rfl, s, CS, dxs, _, _, rfl, k1.ins hM hs, TD.cl, TD.la, srF_late _ _ _ _ _, x.a, dx, _, rfl, st1 _ hins, lk0, _, rfl, p, _, rfl, .inl (SqT.of hp1), _, rfl, ta, _, rfl, .inl (SqT.of hat1), ?_⟩
      dsimp only [tNil]
      have ecat : h.map V.int ++ (test.map V.int ++ []) = (h ++ test).map V.int := by rw [List.append_nil, List.map_append]
      have hol : (h ++ test).length ≤ 28 := by
        have := len_sum (vOk_of hv).1
        have := (vOk_of hv).2
        omega
      rw [ecat]
      refine ⟨by rw [List.length_map]; exact small_line (by omega), fun q3 hq3 => ?_⟩
      have hsum : (h ++ test).sum < 29 := by
        have := (vOk_of hv).2
        omega
      have f3 := k1.free hM.at m1.at hq3
      have k6 := k1.new (o := .tup ((h ++ test).map V.int)) f3
      have m6 := m1.new (o := .tup ((h ++ test).map V.int)) hq3
      have e6 : PosAt (upd H1 q3 (.tup ((h ++ test).map V.int))) q3 (h ++ test) := upd_same
      have d6 : upd H1 q3 (.tup ((h ++ test).map V.int)) D = some (.lst ((sgn x.L (tests.take i) h).map V.bl)) := by rw [upd_ne (ne_of_none d1 hq3)]; exact d1
      generalize upd H1 q3 (.tup ((h ++ test).map V.int)) = H6 at k6 m6 e6 d6 ⊢
      refine ⟨q3, _, rfl, SqT.of e6, fun ns' q4 hperm hsorted hq4 => ?_⟩
      obtain rfl := srt_uniq hperm hsorted
      have k7 := k6.new (o := .lst ((srt (h ++ test)).map V.int)) (k6.free hM.at m6.at hq4)
      have m7 := m6.new (o := .lst ((srt (h ++ test)).map V.int)) hq4
      have e7 : upd H6 q4 (.lst ((srt (h ++ test)).map V.int)) q4 = some (.lst ((srt (h ++ test)).map V.int)) := upd_same
      have d7 : upd H6 q4 (.lst ((srt (h ++ test)).map V.int)) D = some (.lst ((sgn x.L (tests.take i) h).map V.bl)) := by rw [upd_ne (ne_of_none d6 hq4)]; exact d6
      generalize upd H6 q4 (.lst ((srt (h ++ test)).map V.int)) = H7 at k7 m7 e7 d7 ⊢
      refine ⟨q4, _, rfl, .inl ⟨SqL.of e7, fun q5 hq5 => ?_⟩⟩
      have k8 := k7.new (o := .tup ((srt (h ++ test)).map V.int)) (k7.free hM.at m7.at hq5)
      have m8 := m7.new (o := .tup ((srt (h ++ test)).map V.int)) hq5
      have d8 : upd H7 q5 (.tup ((srt (h ++ test)).map V.int)) D = some (.lst ((sgn x.L (tests.take i) h).map V.bl)) := by rw [upd_ne (ne_of_none d7 hq5)]; exact d7
      refine ⟨x, ok, q5, srt (h ++ test), rfl, upd_same, vOk_srt hv, srt_sorted _, by rw [srt_sum]; omega, k8.stat ok.li hst, m8, fun H9 k9 m9 => ?_⟩
      have k10 := k8.trans k9
      have hDk : D ≠ x.kd := fun e => by
        obtain ⟨ks, z1, _⟩ := m8
        rw [e, z1] at d8
        cases d8
      have d9 := k9 _ _ d8 hDk
      have hDH : H D = none := hD
      have ma : Memo x.L x.m x.kd (upd H9 D (.lst ((sgn x.L (tests.take i) h).map V.bl ++ [.bl (x.L (srt (h ++ test)))]))) := by
        obtain ⟨ks, z1, z2⟩ := m9
        exact ⟨ks, by rw [upd_ne (Ne.symm hDk)]; exact z1, z2⟩
      refine ⟨_, d9, ?_, ?_, k10.new hDH, ma⟩
      · unfold sgn
        rw [List.length_map, List.length_map, List.length_take]
        exact small_line' (by omega)
      · unfold sgn
        rw [upd_same, take_succ htest, List.map_append, List.map_append] <;> rfl
    · rintro H1 ⟨d1, k1, m1⟩
      rw [List.length_map, hal, List.take_length] at d1
      refine ⟨D, _, rfl, .inl ⟨SqL.of d1, fun b hb => ?_⟩⟩
      have f1 := k1.free hM.at m1.at hb
      exact q _ b (k1.new f1) (m1.new hb) f1 upd_same
theorem ok_signX (F : FnM K "sign" "Search.sign" sSign f fd) (T : Tx mg) (TC : TL K CL) (TD : TS K CS) (c1 : CalM P w K mg base 29 CL "loses" ["self", "heaps"] (spLosesX CL) f1 fd1) : FnOk P w K mg base CX0 30 f fd ["self", "heaps"] (spSignX CL CS) :=
  fnOk_ex fun x ok => ok_sign F T TC TD c1 x ok
end
end QT
set_option Elab.async false
set_option linter.all false
set_option maxRecDepth 100000
set_option maxHeartbeats 4000000
namespace QT
open PySem PySem.Spec PyProof.Rows L2
/-! comprehensions of two clauses, by two walks -/
abbrev innerL (g1 : TG) (tt1 : TT) (te : TE) (vs1 : List Nat) (σ2 : L2.St) (D : Addr) (J1 : It) (H4 : Hp) (Nx : Hp → Prop) : Prop := ∃ W1 : Nat → Nat → Hp → Prop, (∃ m, W1 0 m H4) ∧ ∀ j k H, W1 j k H →
  (J1.stop j H ∧ Nx H) ∨ (J1.go j H ∧ ∃ Nx1 : Hp → Prop, (∀ H', Nx1 H' → ∃ k', k' < k ∧ W1 (j + 1) k' H') ∧ ∀ x H', J1.yld j H x H' → g1 x (wipe σ2 vs1) H' fun σ3 H5 => wipe σ3 vs1 = wipe σ2 vs1 ∧ tt1 σ3 H5 fun b H6 =>
    if b = true then te σ3 H6 fun y H7 => ∃ acc, H7 D = some (.lst acc) ∧ acc.length < sizeLine ∧ Nx1 (upd H7 D (.lst (acc ++ [y]))) else Nx1 H6)
theorem lci_it {J : It} {n : Nat} {Gd : Hp → Prop} {Y : Nat → Hp → V → Hp → Prop} (wk : Walk J n Gd Y) {g : TG} {tt : TT} {te : TE} {vs : List Nat} {σ : L2.St} {H0 : Hp} {D : Addr} {Qd : Hp → Prop} (Pv : Nat → Hp → Prop) (h0 : Pv 0 H0) (hG : ∀ i H, i ≤ n → Pv i H → Gd H)
    (hs : ∀ i x H H', i < n → Pv i H → Y i H x H' → g x (wipe σ vs) H' fun σ2 H2 => wipe σ2 vs = wipe σ vs ∧ tt σ2 H2 fun b H3 =>
      if b = true then te σ2 H3 fun y H4 => ∃ acc, H4 D = some (.lst acc) ∧ acc.length < sizeLine ∧ Pv (i + 1) (upd H4 D (.lst (acc ++ [y]))) else Pv (i + 1) H3) (hd : ∀ H, Pv n H → Qd H) : innerL g tt te vs σ D J H0 Qd := by
  refine ⟨fun i m H => m = n - i ∧ i ≤ n ∧ Pv i H, ⟨n, by simp, Nat.zero_le _, h0⟩, ?_⟩
  rintro i m H ⟨rfl, hi, p⟩
  have q := hG i H hi p
  by_cases hlt : i < n
  · exact .inr ⟨wk.goes i H hlt q, Pv (i + 1), fun H' p' => ⟨n - (i + 1), by omega, rfl, hlt, p'⟩, fun x H' y => hs i x H H' hlt p (wk.yields i H x H' hlt q y)⟩
  · have e : i = n := by omega
    subst e
    exact .inl ⟨wk.stops H q, hd H p⟩
theorem lc2_it {J : It} {n : Nat} {Gd : Hp → Prop} {Y : Nat → Hp → V → Hp → Prop} (wk : Walk J n Gd Y) {wi1 : TI} {g g1 : TG} {tt tt1 : TT} {te : TE} {vs vs1 : List Nat} {σ : L2.St} {H0 : Hp} {D : Addr} {Qd : Hp → Prop} (Pv : Nat → Hp → Prop) (h0 : Pv 0 H0) (hG : ∀ i H, i ≤ n → Pv i H → Gd H)
    (hs : ∀ i x H H', i < n → Pv i H → Y i H x H' → g x (wipe σ vs) H' fun σ2 H2 => wipe σ2 vs = wipe σ vs ∧ tt σ2 H2 fun b H3 =>
      if b = true then wi1 σ2 H3 fun J1 H4 => innerL g1 tt1 te vs1 σ2 D J1 H4 (Pv (i + 1)) else Pv (i + 1) H3) (hd : ∀ H, Pv n H → Qd H) :
    ∃ W : Nat → Nat → Hp → Prop, (∃ m, W 0 m H0) ∧ ∀ i m H, W i m H →
      (J.stop i H ∧ Qd H) ∨ (J.go i H ∧ ∃ Nx : Hp → Prop, (∀ H', Nx H' → ∃ m', m' < m ∧ W (i + 1) m' H') ∧ ∀ x H', J.yld i H x H' → g x (wipe σ vs) H' fun σ2 H2 => wipe σ2 vs = wipe σ vs ∧ tt σ2 H2 fun b H3 =>
        if b = true then wi1 σ2 H3 fun J1 H4 => innerL g1 tt1 te vs1 σ2 D J1 H4 Nx else Nx H3) := by
  refine ⟨fun i m H => m = n - i ∧ i ≤ n ∧ Pv i H, ⟨n, by simp, Nat.zero_le _, h0⟩, ?_⟩
  rintro i m H ⟨rfl, hi, p⟩
  have q := hG i H hi p
  by_cases hlt : i < n
  · exact .inr ⟨wk.goes i H hlt q, Pv (i + 1), fun H' p' => ⟨n - (i + 1), by omega, rfl, hlt, p'⟩, fun x H' y => hs i x H H' hlt p (wk.yields i H x H' hlt q y)⟩
  · have e : i = n := by omega
    subst e
    exact .inl ⟨wk.stops H q, hd H p⟩
/-! d.get(k), keys that are tuples of bools -/
def tDGetN (P : Program) (w : World) (K : PySem.W.Frag) (td ty : TE) : TE := fun σ H Q => td σ H fun x H1 => ∃ d L1, x = .ref d ∧ DnAt P w K H1 d L1 ∧ ty σ H1 fun y H2 => ∃ a k L2, y = .ref a ∧ DnAt P w K H2 d L2 ∧ KeyN K H2 k a ∧ Q ((lkN L2 k).getD .non) H2
theorem pe_dgetN {X : Cx} {P : Program} {w : World} {K : PySem.W.Frag} (h1 : X.prog = P) (h2 : X.w = w) (h3 : X.K = K) {o e : Expr} {apos cpos : Pos} {td ty : TE} (hu : X.A.units + 64 < cLine) (ho : PE X o td) (he : PE X e ty) (m : M1 X o "get" apos e cpos) :
    PE X (.Call (.Attribute o "get" apos) [e] [] cpos) (tDGetN P w K td ty) := by
  subst h1 h2 h3
  refine ⟨fun pins s σ H Q I h => ?_⟩
  refine wpAny_Call_method m.base m.few m.line PySem.F.plainAttrs_dict PySem.F.slot_dict_get PySem.F.type_dict_get (thn (ho.run pins s σ H _ I h) fun u s1 ⟨x, H1, I1, rx, d, L1, ex, dn, q1⟩ => ?_)
  subst ex
  obtain rfl : u = Value.ref d := rx
  obtain ⟨_, _, xs, _, dd⟩ := dn_get I1 dn
  refine ⟨dd.typeIs, fun b q => ?_, ?_⟩
  · cases q
    obtain ⟨ob, _, _, z1, z2, _⟩ := dd
    exact ⟨ob, z1, z2.2.1⟩
  rw [m.trees]
  refine Calls.callWith_builtin rfl (Calls.evalArgs_plain (Calls.spliced_cons (thn (he.run pins s1 σ H1 _ I1 q1) fun iv s2 ⟨y, H2, I2, ry, a, k, L2, ey, dn2, hk, q2⟩ => Calls.spliced_nil ?_)))
  subst ey
  exact mt_getN hu pins s2 σ H2 (.ref d) [.ref a] (.ref d) [iv] _ I2 rfl (.cons ry .nil) ⟨d, a, k, L2, rfl, rfl, dn2, hk, q2⟩
/-- the places: signs and their numbers -/
def plRows (ks : List Addr) (pl : Pl) : List DRow := (ks.zip pl).map fun q => (keyB q.2.1, q.1, V.int q.2.2)
def PlAt (P : Program) (w : World) (H : Hp) (pd : Addr) (pl : Pl) : Prop := ∃ ks : List Addr, H pd = some (DN P w pd (plRows ks pl)) ∧ Paired (fun a p => H a = some (.tup (p.1.map V.bl))) ks pl
theorem lk_pl {R : Addr → List Bool × Int → Prop} (sg : List Bool) : ∀ {ks : List Addr} {pl : Pl}, Paired R ks pl → lkN (plRows ks pl) (keyB sg) = (lkP pl sg).map V.int
  | _, _, .nil => rfl
  | k :: ks, p :: pl, .cons r t => by
    have ih := lk_pl sg t
    show lkN ((keyB p.1, k, V.int p.2) :: plRows ks pl) (keyB sg) = (lkP (p :: pl) sg).map V.int
    rw [lkN, lkP]
    by_cases c : p.1 = sg
    · rw [if_pos c, if_pos (show keyB p.1 = keyB sg by rw [c])] <;> rfl
    · rw [if_neg c, if_neg fun e => c (keyB_inj e)]
      exact ih
theorem PlAt.dn {P : Program} {w : World} {K : PySem.W.Frag} {H : Hp} {pd : Addr} {pl : Pl} (x : PlAt P w H pd pl) : ∃ ks : List Addr, DnAt P w K H pd (plRows ks pl) ∧ Paired (fun a p => H a = some (.tup (p.1.map V.bl))) ks pl := by
  obtain ⟨ks, h1, h2⟩ := x
  obtain ⟨z1, z2, z3⟩ := paired_zip h2
  refine ⟨ks, ⟨h1, fun r hr => ?_⟩, h2⟩
  obtain ⟨q, hq, rfl⟩ := List.mem_map.mp hr
  exact .inl ⟨q.2.1, rfl, SqT.of (z3 q hq)⟩
theorem Kb.pl {P : Program} {w : World} {kd pd : Addr} {H H' : Hp} {L : List Int → Bool} {m : Nat} {pl : Pl} (s : Kb kd H H') (M : Memo L m kd H) (x : PlAt P w H pd pl) : PlAt P w H' pd pl := by
  obtain ⟨ks, h1, h2⟩ := x
  have hk := Tk.kb s M
  obtain ⟨hs, k1, _⟩ := M
  exact ⟨ks, s _ _ h1 (ne_of h1 k1 (fun z => nomatch z)), paired_mono (fun a b q => hk _ _ q) h2⟩
abbrev sPlace : Stmt := inClass (top 26) 3
abbrev nPlace : List Str := ["self", "heaps"]
theorem scPlace : FnScope nPlace ["self", "heaps"] (defScope sPlace) := ⟨rfl, rfl, rfl, by decide +kernel, rfl, by decide +kernel, by decide +kernel⟩
def spPlace (P : Program) (w : World) (CL CS : Addr) (x : SX) : Sp := fun vs H Q _ => ∃ s dxs tl rl pd p h tests pl z, vs = [.ref s, .ref p] ∧ H s = some (.ins CS dxs (srF x.a x.m tl rl pd)) ∧ ListsAt H tl tests ∧ tests.length ≤ 100 ∧ PlAt P w H pd pl ∧ PosAt H p h ∧ placeM x.L x.m tests pl h = some z ∧ Stat x.G H ∧ Memo x.L x.m x.kd H ∧
  ∀ H', Kb x.kd H H' → Memo x.L x.m x.kd H' → Q (.int z) H'
def spPlaceX (P : Program) (w : World) (CL CS : Addr) : Sp := fun vs H Q E => ∃ x : SX, SXok CL x ∧ spPlace P w CL CS x vs H Q E
section
variable {P : Program} {w : World} {K : PySem.W.Frag} {mg : Str → Option Value} {base : Heap} {f f1 f2 f3 f4 f5 f6 f7 CL CS a kd : Addr} {fd fd1 fd2 fd3 fd4 fd5 fd6 fd7 : FuncData}
theorem ok_placeX (F : FnM K "place" "Search.place" sPlace f fd) (T : Tx mg) (TD : TS K CS) (c1 : CalM P w K mg base 30 CS "sign" ["self", "heaps"] (spSignX CL CS) f1 fd1) : FnOk P w K mg base CX0 31 f fd ["self", "heaps"] (spPlaceX P w CL CS) := by
  refine F.ok scPlace (fun vs H Q E h => ?_) (fun cdv A outer s H vs Q E hr h => ⟨_, PSs.nox
    (pss_one (ps_ret (pe_dgetN (P := P) (w := w) (K := K) rfl rfl rfl hr.units (pe_fld (pv 0) rfl) (pe_meth (pv 0) TD.cl c1.m c1.ok hr c1.b .nil pass0 (pa_cons (pv 1) pa_nil)) ⟨rfl, rfl, rfl, rfl⟩))), ?_⟩)
  · obtain ⟨x, ok, s, dxs, tl, rl, pd, p, h, tests, pl, z, rfl, _⟩ := h
    rfl
  · obtain ⟨x, ok, s, dxs, tl, rl, pd, p, h, tests, pl, z, rfl, hs, htl, htn, hpl, hp, hz, hst, hM, q⟩ := h
    unfold placeM at hz
    by_cases hsg : sgOk x.m tests h = true
    · rw [if_pos hsg] at hz
      obtain ⟨ks, dn, hks⟩ := hpl.dn (K := K)
      refine ⟨_, rfl, s, CS, dxs, _, _, rfl, hs, TD.cl, TD.pl, srF_places _ _ _ _ _, pd, _, rfl, dn, _, rfl, s, dxs, _, rfl, hs, rfl, _, rfl, x, ok, s, dxs, tl, rl, pd, p, h, tests, rfl, hs, htl, htn, hp, hsg, hst, hM, fun H' b k' m' hb hb2 => ?_⟩
      obtain ⟨ks', dn', hks'⟩ := (k'.pl hM hpl).dn (K := K)
      refine ⟨b, keyB (sgn x.L tests h), _, rfl, dn', .inl ⟨_, rfl, SqT.of hb2⟩, ?_⟩
      rw [lk_pl _ hks', hz]
      exact q H' k' m'
    · rw [if_neg hsg] at hz
      cases hz
end
end QT
set_option Elab.async false
set_option linter.all false
set_option maxRecDepth 100000
set_option maxHeartbeats 4000000
namespace QT
open PySem PySem.Spec PyProof.Rows L2
theorem mapM_paired {α β : Type} {g : α → Option β} : ∀ {xs : List α} {ys : List β}, mapM' g xs = some ys → Paired (fun x y => g x = some y) xs ys
  | [], _, h => by
    have h : some [] = some _ := h
    cases h
    exact .nil
  | x :: xs, _, h => by
    rw [mapM'] at h
    cases e1 : g x with
    | none => rw [e1] at h; cases h
    | some y =>
      rw [e1] at h
      cases e2 : mapM' g xs with
      | none => rw [e2] at h; cases h
      | some ys =>
        rw [e2] at h
        have h : some (y :: ys) = some _ := h
        cases h
        exact .cons e1 (mapM_paired e2)
theorem op_notNK {X : Cx} : OpR X (compareOp .IsNot) (fun x y H Q => y = .non ∧ Q (.bl (!decide (x = .non))) H) := op_notN
abbrev sTbl : Stmt := inClass (top 26) 4
abbrev nTbl : List Str := ["self", "rows", "one", "other", "row"]
theorem scTbl : FnScope nTbl ["self"] (defScope sTbl) := ⟨rfl, rfl, rfl, by decide +kernel, rfl, by decide +kernel, by decide +kernel⟩
def spTbl (P : Program) (w : World) (CL CS : Addr) (x : SX) : Sp := fun vs H Q _ => ∃ s dxs tl rl pd tests reps pl t, vs = [.ref s] ∧ H s = some (.ins CS dxs (srF x.a x.m tl rl pd)) ∧ ListsAt H tl tests ∧ tests.length ≤ 100 ∧ ListsAt H rl reps ∧ reps.length ≤ 60 ∧ PlAt P w H pd pl ∧ tableM x.L x.m tests reps pl = some t ∧
  (∀ h ∈ reps, h.length ≤ 28) ∧ Stat x.G H ∧ Memo x.L x.m x.kd H ∧ ∀ H' p, Kb x.kd H H' → Memo x.L x.m x.kd H' → H p = none → TabAt H' p t → Q (.ref p) H'
def spTblX (P : Program) (w : World) (CL CS : Addr) : Sp := fun vs H Q E => ∃ x : SX, SXok CL x ∧ spTbl P w CL CS x vs H Q E
section
variable {P : Program} {w : World} {K : PySem.W.Frag} {mg : Str → Option Value} {base : Heap} {f f1 f2 f3 f4 f5 f6 f7 CL CS a kd : Addr} {fd fd1 fd2 fd3 fd4 fd5 fd6 fd7 : FuncData}
theorem ok_tblX (F : FnM K "table" "Search.table" sTbl f fd) (T : Tx mg) (TD : TS K CS) (c1 : CalM P w K mg base 31 CS "place" ["self", "heaps"] (spPlaceX P w CL CS) f1 fd1) : FnOk P w K mg base CX0 32 f fd ["self"] (spTblX P w CL CS) := by
  refine F.ok scTbl (fun vs H Q E h => ?_) (fun cdv A outer s H vs Q E hr h => ⟨_, PSs.nox
    (pss_cons (ps_setLc (i := 1) (own := [("one", 2)]) (g := gName 2) (tt := tYes) rfl scTbl.nd rfl rfl (sw_true rfl rfl rfl (by decide +kernel)) (pi_list (pe_fld (pv 0) rfl)) (blkOk_by (N := nTbl) (sc := defScope sTbl) (by decide +kernel)) (fun _ _ _ _ _ => pg_name (i := 2) scTbl.nd rfl (Or.inr rfl)) (fun _ _ _ _ _ => pts_nil)
      (fun _ _ _ _ _ => pe_lc (own := [("other", 3)]) (g := gName 3) (tt := tYes) rfl scTbl.nd (pi_listK (K := K) rfl (pe_fldK (K := K) rfl (pv 0) rfl)) (blkOk_by (N := nTbl) (by kernel_rfl)) (fun _ _ _ _ _ => pg_name (i := 3) scTbl.nd rfl (Or.inl rfl)) (fun _ _ _ _ _ => pts_nil)
        (fun _ _ _ _ _ => pe_meth (pv 0) TD.cl c1.m c1.ok hr c1.b .nil pass0 (pa_cons (pe_callTy (call_tupleK (K := K) rfl) rfl T.tuple (by decide +kernel) (pa_cons (pe_callB (cr_sortTIK (K := K) rfl) rfl T.sorted (by decide +kernel) (pa_cons (pe_tup (pa_starK (K := K) rfl (pv 2) (pa_starK (K := K) rfl (pv 3) pa_nil))) pa_nil)) pa_nil)) pa_nil))))
    (pss_cons (ps_if (pt_not (pt_val (pe_callB (cr_all rfl) rfl T.all (by decide +kernel) (pa_cons (pe_lc2 (own := [("row", 4), ("one", 2)]) (vs1 := [2]) (g := gName 4) (g1 := gName 2) (tt := tYes) (tt1 := tYes) rfl scTbl.nd (pi_list (pv 1)) (blkOk_by (N := nTbl) (sc := defScope sTbl) (by decide +kernel)) (by decide) (fun _ _ _ _ _ => pg_name (i := 4) scTbl.nd rfl (Or.inl rfl)) (fun _ _ _ _ _ => pts_nil)
        (fun _ _ _ _ _ => pi_listK (K := K) rfl (pv 4)) (fun _ _ _ _ _ => pg_name (i := 2) scTbl.nd rfl (Or.inl rfl)) (fun _ _ _ _ _ => pts_nil) (fun _ _ _ _ _ => pe_cmpR op_notNK (pv 2) pe_non (nomark _))) pa_nil)))) (pss_one ps_never) pss_nil)
    (pss_one (ps_ret (pe_callTy call_tuple_of rfl T.tuple (by decide +kernel) (pa_cons (pe_lc (own := [("row", 4)]) (g := gName 4) (tt := tYes) rfl scTbl.nd (pi_list (pv 1)) (blkOk_by (N := nTbl) (sc := defScope sTbl) (by decide +kernel)) (fun _ _ _ _ _ => pg_name (i := 4) scTbl.nd rfl (Or.inl rfl)) (fun _ _ _ _ _ => pts_nil)
      (fun _ _ _ _ _ => pe_callTy (call_tupleK (K := K) rfl) rfl T.tuple (by decide +kernel) (pa_cons (pv 4) pa_nil))) pa_nil)))))), ?_⟩)
  · obtain ⟨x, ok, s, dxs, tl, rl, pd, tests, reps, pl, t, rfl, _⟩ := h
    rfl
  · obtain ⟨x, ok, s, dxs, tl, rl, pd, tests, reps, pl, t, rfl, hs, htl, htn, hrl, hrn, hpl, ht, hlen28, hst, hM, q⟩ := h
    have hrows := mapM_paired ht
    have htlen : reps.length = t.length := Paired.length hrows
    have fo : ∀ {H' : Hp} {b : Addr}, Kb x.kd H H' → Memo x.L x.m x.kd H' → H' b = none → H b = none := fun k m h => k.free hM.at m.at h
    have rlAt : ∀ {H' : Hp}, Kb x.kd H H' → ∃ as : List Addr, SqL K H' rl (as.map V.ref) ∧ Paired (PosAt H') as reps := fun k => by
      obtain ⟨as, g1, g2⟩ := k.lists hM hrl
      exact ⟨as, SqL.of g1, g2⟩
    obtain ⟨bs, hb1, hb2⟩ := id hrl
    have hbl := Paired.length hb2
    have rl2 : ∀ {H' : Hp}, Kb x.kd H H' → H' rl = some (.lst (bs.map V.ref)) := fun k => by
      obtain ⟨ks, k1, _⟩ := id hM
      exact k _ _ hb1 (ne_of hb1 k1 (fun z => nomatch z))
    refine ⟨_, rfl, s, CS, dxs, _, _, rfl, hs, TD.cl, TD.re, srF_reps _ _ _ _ _, rl, rfl, ⟨_, SqL.of hb1⟩, fun D hD => ?_⟩
    refine lc_it (walk_list (K := K) (a := rl) (xs := bs.map V.ref)) (fun i H' => ∃ ls : List Addr, H' D = some (.lst (ls.map V.ref)) ∧ Paired (fun l row => H' l = some (.lst (row.map V.int)) ∧ l ≠ D) ls (t.take i) ∧ Kb x.kd H H' ∧ Memo x.L x.m x.kd H')
      ⟨[], upd_same, by rw [List.take_zero]; exact .nil, (Kb.refl _ _).new hD, hM.new hD⟩ (fun i H' _ ⟨_, _, _, k, _⟩ => SqL.of (rl2 k)) ?_ ?_
    · rintro i y H1 H2 hi ⟨ls, d1, d2, k1, m1⟩ ⟨rfl, hy⟩
      obtain ⟨ra, hra, rfl⟩ := map_get hy
      obtain ⟨one, hone, hoat⟩ := paired_get' hb2 hra
      obtain ⟨row, hrow, hrowM⟩ := paired_get' hrows hone
      have hcells := mapM_paired hrowM
      have hrl2 : reps.length = row.length := Paired.length hcells
      refine ⟨rfl, ?_⟩
      refine ⟨_, rfl, s, CS, dxs, _, _, rfl, k1.ins hM hs, TD.cl, TD.re, srF_reps _ _ _ _ _, rl, rfl, ⟨_, SqL.of (rl2 k1)⟩, fun D2 hD2 => ?_⟩
      have hD2H := fo k1 m1 hD2
      have hDkd : D ≠ x.kd := fun e => by
        obtain ⟨ks, z1, _⟩ := m1
        rw [e, z1] at d1
        cases d1
      refine lc_it (walk_list (K := K) (a := rl) (xs := bs.map V.ref)) (fun j H' => H' D2 = some (.lst ((row.take j).map V.int)) ∧ Kb x.kd H2 H' ∧ Memo x.L x.m x.kd H')
        ⟨upd_same, (Kb.refl _ _).new hD2, m1.new hD2⟩ (fun j H' _ ⟨_, k, _⟩ => SqL.of (rl2 (k1.trans k))) ?_ ?_
      · rintro j y H3 H4 hj ⟨e1, k3, m3⟩ ⟨rfl, hy⟩
        obtain ⟨rb, hrb, rfl⟩ := map_get hy
        obtain ⟨other, hother, hbat⟩ := paired_get' hb2 hrb
        obtain ⟨z, hz, hzM⟩ := paired_get' hcells hother
        have k4 := k1.trans k3
        have hjl := (List.getElem?_eq_some_iff.mp hz).1
        have ecat : one.map V.int ++ (other.map V.int ++ []) = (one ++ other).map V.int := by rw [List.append_nil, List.map_append]
        refine ⟨rfl, _, rfl, s, dxs, _, rfl, k4.ins hM hs, rfl, _, rfl, ra, _, rfl, .inl (SqT.of (k4.pos hM hoat)), _, rfl, rb, _, rfl, .inl (SqT.of (k4.pos hM hbat)), ?_⟩
        dsimp only [tNil]
        rw [ecat]
        have hl1 := hlen28 one (List.mem_of_getElem? hone)
        have hl2 := hlen28 other (List.mem_of_getElem? hother)
        refine ⟨by rw [List.length_map, List.length_append]; exact small_line (by omega), fun q3 hq3 => ?_⟩
        have k6 := k4.new (o := .tup ((one ++ other).map V.int)) (fo k4 m3 hq3)
        have k6' := k3.new (o := .tup ((one ++ other).map V.int)) (k3.free m1.at m3.at hq3)
        have m6 := m3.new (o := .tup ((one ++ other).map V.int)) hq3
        have e6 : PosAt (upd H4 q3 (.tup ((one ++ other).map V.int))) q3 (one ++ other) := upd_same
        have d6 : upd H4 q3 (.tup ((one ++ other).map V.int)) D2 = some (.lst ((row.take j).map V.int)) := by rw [upd_ne (ne_of_none e1 hq3)]; exact e1
        generalize upd H4 q3 (.tup ((one ++ other).map V.int)) = H6 at k6 k6' m6 e6 d6 ⊢
        refine ⟨q3, _, rfl, SqT.of e6, fun ns' q4 hperm hsorted hq4 => ?_⟩
        obtain rfl := srt_uniq hperm hsorted
        have k7 := k6.new (o := .lst ((srt (one ++ other)).map V.int)) (fo k6 m6 hq4)
        have k7' := k6'.new (o := .lst ((srt (one ++ other)).map V.int)) (k6'.free m1.at m6.at hq4)
        have m7 := m6.new (o := .lst ((srt (one ++ other)).map V.int)) hq4
        have e7 : upd H6 q4 (.lst ((srt (one ++ other)).map V.int)) q4 = some (.lst ((srt (one ++ other)).map V.int)) := upd_same
        have d7 : upd H6 q4 (.lst ((srt (one ++ other)).map V.int)) D2 = some (.lst ((row.take j).map V.int)) := by rw [upd_ne (ne_of_none d6 hq4)]; exact d6
        generalize upd H6 q4 (.lst ((srt (one ++ other)).map V.int)) = H7 at k7 k7' m7 e7 d7 ⊢
        refine ⟨q4, _, rfl, .inl ⟨SqL.of e7, fun q5 hq5 => ?_⟩⟩
        have k8 := k7.new (o := .tup ((srt (one ++ other)).map V.int)) (fo k7 m7 hq5)
        have k8' := k7'.new (o := .tup ((srt (one ++ other)).map V.int)) (k7'.free m1.at m7.at hq5)
        have m8 := m7.new (o := .tup ((srt (one ++ other)).map V.int)) hq5
        have d8 : upd H7 q5 (.tup ((srt (one ++ other)).map V.int)) D2 = some (.lst ((row.take j).map V.int)) := by rw [upd_ne (ne_of_none d7 hq5)]; exact d7
        refine ⟨x, ok, s, dxs, tl, rl, pd, q5, srt (one ++ other), tests, pl, z, rfl, k8.ins hM hs, k8.lists hM htl, htn, k8.pl hM hpl, upd_same, hzM, k8.stat ok.li hst, m8, fun H9 k9 m9 => ?_⟩
        have hD2k : D2 ≠ x.kd := fun e => by
          obtain ⟨ks, z1, _⟩ := m8
          rw [e, z1] at d8
          cases d8
        have d9 := k9 _ _ d8 hD2k
        refine ⟨_, d9, ?_, ?_, (k8'.trans k9).new hD2, ?_⟩
        · rw [List.length_map, List.length_take]
          exact small_line' (by omega)
        · rw [upd_same, take_succ hz, List.map_append] <;> rfl
        · obtain ⟨ks, z1, z2⟩ := m9
          exact ⟨ks, by rw [upd_ne (Ne.symm hD2k)]; exact z1, z2⟩
      · rintro H3 ⟨e1, k3, m3⟩
        rw [List.length_map, hbl, hrl2, List.take_length] at e1
        have d3 := k3 _ _ d1 hDkd
        have hll : ls.length = i := by
          have := (List.getElem?_eq_some_iff.mp hrow).1
          rw [Paired.length d2, List.length_take]
          omega
        have hD2D : D2 ≠ D := fun e => by rw [e, d1] at hD2; cases hD2
        refine ⟨_, d3, ?_, ls ++ [D2], ?_, ?_, (k1.trans k3).new hD, ?_⟩
        · have := (List.getElem?_eq_some_iff.mp hrow).1
          rw [List.length_map, hll]
          exact small_line' (by omega)
        · rw [upd_same, List.map_append] <;> rfl
        · rw [take_succ hrow]
          have lk : ∀ l (r : List Int), H2 l = some (.lst (r.map V.int)) → l ≠ x.kd := fun l r z => by
            obtain ⟨ks, z1, _⟩ := m1
            exact ne_of z z1 (fun z => nomatch z)
          refine paired_snoc (paired_mono (fun l r z => ⟨by rw [upd_ne z.2]; exact k3 _ _ z.1 (lk l r z.1), z.2⟩) d2) ⟨?_, hD2D⟩
          rw [upd_ne hD2D]
          exact e1
        · obtain ⟨ks, z1, z2⟩ := m3
          exact ⟨ks, by rw [upd_ne (Ne.symm hDkd)]; exact z1, z2⟩
    · rintro H1 ⟨ls, d1, d2, k1, m1⟩
      rw [List.length_map, hbl, htlen, List.take_length] at d2
      dsimp only [gName, List.set]
      have hll := Paired.length d2
      have hrowlen : ∀ row ∈ t, row.length ≤ 60 := by
        intro row hrow
        obtain ⟨i, hi, e⟩ := List.getElem_of_mem hrow
        obtain ⟨one, _, h2⟩ := paired_get2 hrows (show t[i]? = some row by rw [List.getElem?_eq_getElem hi, e])
        rw [← Paired.length (mapM_paired h2)]
        exact hrn
      refine ⟨_, rfl, D, rfl, ⟨_, SqL.of d1⟩, fun D3 hD3 => ?_⟩
      refine lc2_it (walk_list (K := K) (a := D) (xs := ls.map V.ref)) (fun i H' => ∃ bs : List Bool, H' D3 = some (.lst (bs.map V.bl)) ∧ bs.all id = true ∧ bs.length ≤ 60 * i ∧ Same H1 H')
        ⟨[], upd_same, rfl, Nat.zero_le _, same_upd hD3⟩ (fun i H' _ ⟨_, _, _, _, e⟩ => SqL.of (e _ _ d1)) ?_ ?_
      · rintro i y H2 H3 hi ⟨b1, e1, e2, e3, s2⟩ ⟨rfl, hy⟩
        obtain ⟨rl2, hrl2, rfl⟩ := map_get hy
        obtain ⟨row, hrow, hrat, _⟩ := paired_get' d2 hrl2
        have hrw := hrowlen row (List.mem_of_getElem? hrow)
        have hil := (List.getElem?_eq_some_iff.mp hrow).1
        refine ⟨rfl, ?_⟩
        refine ⟨_, rfl, rl2, rfl, ⟨_, SqL.of (s2 _ _ hrat)⟩, ?_⟩
        refine lci_it (walk_list (K := K) (a := rl2) (xs := row.map V.int)) (fun j H' => ∃ bs : List Bool, H' D3 = some (.lst (bs.map V.bl)) ∧ bs.all id = true ∧ bs.length ≤ 60 * i + j ∧ Same H1 H')
          ⟨b1, e1, e2, by omega, s2⟩ (fun j H' _ ⟨_, _, _, _, e⟩ => SqL.of (e _ _ hrat)) ?_ ?_
        · rintro j y H4 H5 hj ⟨b2, f1, f2, f3, s4⟩ ⟨rfl, hy⟩
          obtain ⟨z, hz, rfl⟩ := map_get hy
          have hjl := (List.getElem?_eq_some_iff.mp hz).1
          refine ⟨rfl, _, rfl, rfl, _, f1, ?_, b2 ++ [true], ?_, ?_, ?_, same_new s4 hD3⟩
          · rw [List.length_map]
            exact small_line' (by omega)
          · rw [upd_same, List.map_append] <;> rfl
          · rw [List.all_append, f2] <;> rfl
          · rw [List.length_append, List.length_singleton]
            omega
        · rintro H4 ⟨b2, f1, f2, f3, s4⟩
          rw [List.length_map] at f3
          exact ⟨b2, f1, f2, by omega, s4⟩
      · rintro H2 ⟨b1, e1, e2, e3, s2⟩
        refine ⟨D3, b1, rfl, SqL.of e1, ?_⟩
        rw [e2]
        refine ⟨true, rfl, iteF ?_⟩
        refine ⟨_, rfl, D, rfl, ⟨_, SqL.of (s2 _ _ d1)⟩, fun D4 hD4 => ?_⟩
        refine lc_it (walk_list (K := K) (a := D) (xs := ls.map V.ref)) (fun i H' => ∃ ts : List Addr, H' D4 = some (.lst (ts.map V.ref)) ∧ Paired (PosAt H') ts (t.take i) ∧ Same H2 H')
          ⟨[], upd_same, by rw [List.take_zero]; exact .nil, same_upd hD4⟩ (fun i H' _ ⟨_, _, _, e⟩ => SqL.of (e _ _ (s2 _ _ d1))) ?_ ?_
        · rintro i y H3 H4 hi ⟨ts, f1, f2, s3⟩ ⟨rfl, hy⟩
          obtain ⟨rl2, hrl2, rfl⟩ := map_get hy
          obtain ⟨row, hrow, hrat, _⟩ := paired_get' d2 hrl2
          have hil := (List.getElem?_eq_some_iff.mp hrow).1
          refine ⟨rfl, _, rfl, rl2, _, rfl, .inl ⟨SqL.of (s3 _ _ (s2 _ _ hrat)), fun q1 hq1 => ?_⟩⟩
          have s5 := same_new (o := .tup (row.map V.int)) s3 (s3.free hq1)
          have g1 : upd H4 q1 (.tup (row.map V.int)) D4 = some (.lst (ts.map V.ref)) := by rw [upd_ne (ne_of_none f1 hq1)]; exact f1
          have g2 : upd H4 q1 (.tup (row.map V.int)) q1 = some (.tup (row.map V.int)) := upd_same
          have g3 := paired_mono (fun a b (z : PosAt H4 a b) => show PosAt (upd H4 q1 (.tup (row.map V.int))) a b by
            show upd H4 q1 _ a = _
            rw [upd_ne (ne_of_none z hq1)]
            exact z) f2
          generalize upd H4 q1 (.tup (row.map V.int)) = H5 at s5 g1 g2 g3 ⊢
          have hlt : ts.length = i := by
            rw [Paired.length f2, List.length_take]
            omega
          have ks : ∀ (a : Addr) (xs : List V), H5 a = some (.tup xs) → upd H5 D4 (.lst (ts.map V.ref ++ [.ref q1])) a = some (.tup xs) := fun a xs h => by
            rw [upd_ne (ne_of h g1 (fun z => nomatch z))]
            exact h
          refine ⟨_, g1, by rw [List.length_map, hlt]; exact small_line' (by omega), ts ++ [q1], by rw [upd_same, List.map_append] <;> rfl, ?_, same_new s5 hD4⟩
          rw [take_succ hrow]
          exact paired_snoc (paired_mono (fun a b z => ks _ _ z) g3) (ks _ _ g2)
        · rintro H3 ⟨ts, f1, f2, s3⟩
          rw [List.length_map, hll, List.take_length] at f2
          refine ⟨D4, _, rfl, .inl ⟨SqL.of f1, fun p hp => ?_⟩⟩
          have s4 := s2.trans s3
          have k3 : Kb x.kd H H3 := k1.trans (Kb.of s4)
          have m3 : Memo x.L x.m x.kd H3 := by
            obtain ⟨ks, z1, z2⟩ := m1
            exact ⟨ks, s4 _ _ z1, z2⟩
          have hpH := fo k3 m3 hp
          refine q _ p (k3.new hpH) (m3.new hp) hpH ⟨ts, upd_same, paired_mono (fun a b z => ?_) f2⟩
          show upd H3 p _ a = _
          rw [upd_ne (ne_of_none z hp)]
          exact z
end
end QT
set_option Elab.async false
set_option linter.all false
set_option maxRecDepth 100000
set_option maxHeartbeats 4000000
namespace QT
open PySem PySem.Spec PyProof.Rows L2
/-! lists of positions as data -/
theorem dpAll_lists {K : PySem.W.Frag} {H : Hp} : ∀ {as : List Addr} {hs : List (List Int)}, Paired (PosAt H) as hs → DpAll K H (as.map V.ref) (hs.map dInts)
  | _, _, .nil => .nil
  | _, _, .cons r t => .cons (dp_ints (SqT.of r)) (dpAll_lists t)
theorem ListsAt.dp {K : PySem.W.Frag} {H : Hp} {l : Addr} {hs : List (List Int)} (x : ListsAt H l hs) : Dp K H (.ref l) (.list (hs.map dInts)) := by
  obtain ⟨as, h1, h2⟩ := x
  exact .lst (SqL.of h1) (dpAll_lists h2)
theorem can_lists : ∀ hs : List (List Int), PyData.canLayAll0 (hs.map dInts) = true
  | [] => rfl
  | h :: hs => by
    rw [List.map_cons, PyData.canLayAll0, can_lists hs]
    unfold dInts
    rw [PyData.canLay0, can_ints] <;> rfl
theorem depth_lists : ∀ hs : List (List Int), PyData.depthAll (hs.map dInts) ≤ 1
  | [] => Nat.zero_le _
  | h :: hs => by
    rw [List.map_cons, PyData.depthAll]
    have := depth_lists hs
    have e : (dInts h).depth = 1 := by
      unfold dInts
      rw [PyData.depth, depth_ints]
    rw [e]
    omega
theorem shaped_lists (hs : List (List Int)) : SeqAt.shaped (.list (hs.map dInts)) = true := by
  unfold SeqAt.shaped
  rw [PyData.canLay0, can_lists, PyData.depth, Bool.true_and, decide_eq_true_eq]
  have := depth_lists hs
  omega
theorem any_lists (h : List Int) : ∀ hs : List (List Int), ((hs.map dInts).any fun z => PyData.eqv z (dInts h)) = hs.contains h
  | [] => rfl
  | g :: hs => by
    rw [List.map_cons, List.any_cons, any_lists h hs, eqv_ints, List.contains_cons]
    congr 1
    by_cases e : g = h
    · rw [e]; simp
    · rw [decide_eq_false e]
      symm
      exact beq_eq_false_iff_ne.mpr fun z => e z.symm
theorem room65 {k : Nat} {A : Around} (r : Room k A) : A.units + 65 < cLine := by
  have := r.un
  omega
/-- o.f as a target among others -/
def gFld (K : PySem.W.Frag) (ta : TE) (f : Str) : TG := fun v σ H Q => ta σ H fun x H1 => ∃ a C dx fs, x = .ref a ∧ H1 a = some (.ins C dx fs) ∧ Cls K C ∧ NoAttr K C f ∧ fs.length < 1000 ∧ Q σ (upd H1 a (.ins C dx (putF f v fs)))
theorem pg_fld {X : Cx} {o : Expr} {f : Str} {ta : TE} {pos : Pos} (ho : PE X o ta) : PG X (.Attribute o f pos) (gFld X.K ta f) := by
  refine ⟨fun pins s σ H v u Q I r h => ?_⟩
  refine PySem.W.kas_attr (thn (ho.run pins s σ H _ I h) fun ov s1 ⟨x, H1, I1, rx, a, C, dx, fs, ex, ea, c, n, l, q⟩ => ?_)
  subst ex
  obtain rfl : ov = Value.ref a := rx
  exact setattr_ok I1 ea c n l r fun s3 I3 => ⟨σ, _, I3, q⟩
theorem widenM_snoc : ∀ (more tests : List (List Int)) (h : List Int), widenM tests (more ++ [h]) = if (widenM tests more).contains h = true then widenM tests more else widenM tests more ++ [h]
  | [], tests, h => by
    show widenM tests [h] = _
    rw [widenM]
    rfl
  | g :: more, tests, h => by
    show widenM tests (g :: (more ++ [h])) = if (widenM tests (g :: more)).contains h = true then widenM tests (g :: more) else widenM tests (g :: more) ++ [h]
    rw [widenM, widenM]
    by_cases c : tests.contains g = true
    · rw [if_pos c, if_pos c]
      exact widenM_snoc more tests h
    · rw [if_neg c, if_neg c]
      exact widenM_snoc more _ h
theorem widenM_len : ∀ (more tests : List (List Int)), (widenM tests more).length ≤ tests.length + more.length
  | [], tests => Nat.le_refl _
  | g :: more, tests => by
    rw [widenM]
    split
    · have := widenM_len more tests
      rw [List.length_cons]
      omega
    · have := widenM_len more (tests ++ [g])
      rw [List.length_append] at this
      rw [List.length_cons]
      simp at this
      omega
abbrev sSrInit : Stmt := inClass (top 26) 0
abbrev nSrInit : List Str := ["self", "rule", "most"]
theorem scSrInit : FnScope nSrInit ["self", "rule", "most"] (defScope sSrInit) := ⟨rfl, rfl, rfl, by decide +kernel, rfl, by decide +kernel, by decide +kernel⟩
def spSrInit (K : PySem.W.Frag) (CL CS : Addr) : Sp := fun vs H Q _ => ∃ s dxs r ds m, vs = [.ref s, .ref r, .int ((m : Nat) : Int)] ∧ H s = some (.ins CS dxs []) ∧ SqT K H r (ds.map V.int) ∧ RuleOk ds ∧ m ≤ 3 ∧
  ∀ H' G a kd tl rl pd, (∀ b o, H b = some o → b ≠ s → H' b = some o) → LateIn CL G (movesM ds m) a kd → Stat G H' → H' kd = some (.dT []) → H kd = none → H' s = some (.ins CS dxs (srF a m tl rl pd)) → ListsAt H' tl [[]] → H tl = none → (∀ p ∈ G, p.1 ≠ tl ∧ p.1 ≠ s) → Q .non H'
abbrev sWiden : Stmt := inClass (top 26) 5
abbrev nWiden : List Str := ["self", "some", "many", "heaps"]
theorem scWiden : FnScope nWiden ["self", "some"] (defScope sWiden) := ⟨rfl, rfl, rfl, by decide +kernel, rfl, by decide +kernel, by decide +kernel⟩
def spWiden (CS : Addr) : Sp := fun vs H Q _ => ∃ s dxs a m tl rl pd l tests more, vs = [.ref s, .ref l] ∧ H s = some (.ins CS dxs (srF a m tl rl pd)) ∧ ListsAt H tl tests ∧ ListsAt H l more ∧ l ≠ tl ∧ (tests.length + more.length ≤ 1000) ∧
  ∀ H', (∀ b o, H b = some o → b ≠ tl → H' b = some o) → ListsAt H' tl (widenM tests more) → Q (.bl (decide (tests.length < (widenM tests more).length))) H'
section
variable {P : Program} {w : World} {K : PySem.W.Frag} {mg : Str → Option Value} {base : Heap} {f f1 f2 f3 f4 f5 f6 f7 CL CS a kd : Addr} {fd fd1 fd2 fd3 fd4 fd5 fd6 fd7 : FuncData}
theorem ok_srInit (F : FnM K "__init__" "Search.__init__" sSrInit f fd) (T : Tx mg) (TD : TS K CS) (c6 : CalK P w K mg base 5 "Late" CL ["self", "rule", "most"] (spLateInit K CL) f6 fd6) : FnOk P w K mg base CX0 7 f fd ["self", "rule", "most"] (spSrInit K CL CS) := by
  refine F.ok scSrInit (fun vs H Q E h => ?_) (fun cdv A outer s H vs Q E hr h => ⟨_, PSs.nox
    (pss_cons (ps_fld (pv 0) (pe_make c6.M c6.ok (hr.mono (by decide)) rfl c6.g c6.b .nil pass0 (pa_cons (pv 1) (pa_cons (pv 2) pa_nil))) rfl)
    (pss_cons (ps_fld (pv 0) (pv 2) rfl)
    (pss_cons (ps_fld (pv 0) (pe_lst (pa_cons (pe_tup pa_nil) pa_nil)) rfl)
    (pss_cons (ps_fld (pv 0) (pe_lst pa_nil) rfl)
    (pss_one (ps_fld (pv 0) pe_dnewT rfl)))))), ?_⟩)
  · obtain ⟨s, dxs, r, ds, m, rfl, _⟩ := h
    rfl
  · obtain ⟨s, dxs, r, ds, m, rfl, hs, hr1, hrule, hm, q⟩ := h
    refine ⟨_, rfl, _, rfl, fun x dx hx hdx hne => ⟨x, dx, r, ds, m, rfl, upd_same, sqT_same (same_new (same_upd hdx) hx) hr1, hrule, hm, fun H4 G kd hfr LI st hkd hkd0 hGc => ⟨rfl, ?_⟩⟩⟩
    have s4 : Same H H4 := fun b o hb => by
      have n1 := ne_of_none hb hx
      exact hfr b o (by rw [upd_ne n1, upd_ne (ne_of_none hb hdx)]; exact hb) n1
    have hxs : s ≠ x := ne_of_none hs hx
    have hsdx : s ≠ dx := ne_of_none hs hdx
    have hkdx : kd ≠ x := fun e => by rw [e, upd_same] at hkd0; cases hkd0
    have hkdd : kd ≠ dx := fun e => by
      rw [e, upd_ne (fun z : dx = x => hne z), upd_same] at hkd0
      cases hkd0
    have hkdH : H kd = none := by
      rw [upd_ne hkdx, upd_ne hkdd] at hkd0
      exact hkd0
    have hs4 := s4 _ _ hs
    have off4 : ∀ p ∈ G, p.1 ≠ kd := by
      obtain ⟨ml, dx2, _, _, off⟩ := LI
      exact off
    have offs : ∀ p ∈ G, p.1 ≠ s := by
      intro p hp e
      have h1 := st p hp
      rcases hGc p hp with z | ⟨xs, z⟩ | ⟨xs, z⟩
      · exact hxs (e.symm.trans z)
      · rw [e, hs4, z] at h1; cases h1
      · rw [e, hs4, z] at h1; cases h1
    refine ⟨_, rfl, s, CS, dxs, _, rfl, hs4, TD.cl, TD.la, by show 0 < 1000; decide, ?_⟩
    have f1 : ∀ b o, H4 b = some o → b ≠ s → upd H4 s (.ins CS dxs (putF "late" (.ref x) [])) b = some o := fun b o hb hn => by rw [upd_ne hn]; exact hb
    have g1 : upd H4 s (.ins CS dxs (putF "late" (.ref x) [])) s = some (.ins CS dxs (putF "late" (.ref x) [])) := upd_same
    generalize upd H4 s (.ins CS dxs (putF "late" (.ref x) [])) = H5 at f1 g1 ⊢
    refine ⟨_, rfl, _, rfl, s, CS, dxs, _, rfl, g1, TD.cl, TD.mo, by show 1 < 1000; decide, ?_⟩
    have f2 : ∀ b o, H4 b = some o → b ≠ s → upd H5 s (.ins CS dxs (putF "most" (.int (m : Int)) (putF "late" (.ref x) []))) b = some o := fun b o hb hn => by rw [upd_ne hn]; exact f1 b o hb hn
    have g2 : upd H5 s (.ins CS dxs (putF "most" (.int (m : Int)) (putF "late" (.ref x) []))) s = some (.ins CS dxs (putF "most" (.int (m : Int)) (putF "late" (.ref x) []))) := upd_same
    generalize upd H5 s (.ins CS dxs (putF "most" (.int (m : Int)) (putF "late" (.ref x) []))) = H6 at f2 g2 ⊢
    refine ⟨by show 0 ≤ sizeLine; decide, fun e1 he1 => ⟨by show 1 ≤ sizeLine; decide, fun tl htl => ?_⟩⟩
    have u3 : Same H6 (upd (upd H6 e1 (.tup [])) tl (.lst [.ref e1])) := same_new (same_upd he1) ((same_upd he1).free htl)
    have v3 : ListsAt (upd (upd H6 e1 (.tup [])) tl (.lst [.ref e1])) tl [[]] := by
      refine ⟨[e1], upd_same, .cons ?_ .nil⟩
      have n1 : e1 ≠ tl := fun e => by rw [← e, upd_same] at htl; cases htl
      show upd _ tl _ e1 = _
      rw [upd_ne n1, upd_same] <;> rfl
    have w3 : H6 tl = none := (same_upd he1).free htl
    generalize upd (upd H6 e1 (.tup [])) tl (.lst [.ref e1]) = H7 at u3 v3 ⊢
    have g3 := u3 _ _ g2
    have tls : tl ≠ s := fun e => by rw [e, g2] at w3; cases w3
    refine ⟨_, rfl, s, CS, dxs, _, rfl, g3, TD.cl, TD.te, by show 2 < 1000; decide, ?_⟩
    have keepL : ∀ {Ha Hb : Hp}, (∀ b o, Ha b = some o → b ≠ s → Hb b = some o) → (∃ C dx fs, Ha s = some (.ins C dx fs)) → ListsAt Ha tl [[]] → ListsAt Hb tl [[]] := fun {Ha Hb} k ⟨C, dx, fs, hz⟩ ⟨as, y1, y2⟩ =>
      ⟨as, k _ _ y1 tls, paired_mono (fun a b (z : PosAt Ha a b) => (k a _ z (ne_of (show Ha a = _ from z) hz (fun z => nomatch z)) : PosAt Hb a b)) y2⟩
    have f4 : ∀ b o, H7 b = some o → b ≠ s → upd H7 s (.ins CS dxs (putF "tests" (.ref tl) (putF "most" (.int (m : Int)) (putF "late" (.ref x) [])))) b = some o := fun b o hb hn => by rw [upd_ne hn]; exact hb
    have g4 : upd H7 s (.ins CS dxs (putF "tests" (.ref tl) (putF "most" (.int (m : Int)) (putF "late" (.ref x) [])))) s = some (.ins CS dxs (putF "tests" (.ref tl) (putF "most" (.int (m : Int)) (putF "late" (.ref x) [])))) := upd_same
    have v4 := keepL f4 ⟨_, _, _, g3⟩ v3
    generalize upd H7 s (.ins CS dxs (putF "tests" (.ref tl) (putF "most" (.int (m : Int)) (putF "late" (.ref x) [])))) = H8 at f4 g4 v4 ⊢
    refine ⟨by show 0 ≤ sizeLine; decide, fun rl hrl => ?_⟩
    have g5 : upd H8 rl (.lst []) s = some (.ins CS dxs (putF "tests" (.ref tl) (putF "most" (.int (m : Int)) (putF "late" (.ref x) [])))) := by rw [upd_ne (ne_of_none g4 hrl)]; exact g4
    have f5 : Same H8 (upd H8 rl (.lst [])) := same_upd hrl
    have v5 := keepL (fun b o hb _ => f5 b o hb) ⟨_, _, _, g4⟩ v4
    generalize upd H8 rl (.lst []) = H9 at f5 g5 v5 ⊢
    refine ⟨_, rfl, s, CS, dxs, _, rfl, g5, TD.cl, TD.re, by show 3 < 1000; decide, ?_⟩
    have f6 : ∀ b o, H9 b = some o → b ≠ s → upd H9 s (.ins CS dxs (putF "reps" (.ref rl) (putF "tests" (.ref tl) (putF "most" (.int (m : Int)) (putF "late" (.ref x) []))))) b = some o := fun b o hb hn => by rw [upd_ne hn]; exact hb
    have g6 : upd H9 s (.ins CS dxs (putF "reps" (.ref rl) (putF "tests" (.ref tl) (putF "most" (.int (m : Int)) (putF "late" (.ref x) []))))) s = some (.ins CS dxs (putF "reps" (.ref rl) (putF "tests" (.ref tl) (putF "most" (.int (m : Int)) (putF "late" (.ref x) []))))) := upd_same
    have v6 := keepL f6 ⟨_, _, _, g5⟩ v5
    generalize upd H9 s (.ins CS dxs (putF "reps" (.ref rl) (putF "tests" (.ref tl) (putF "most" (.int (m : Int)) (putF "late" (.ref x) []))))) = H10 at f6 g6 v6 ⊢
    intro pd hpd
    have g7 : upd H10 pd (.dT []) s = some (.ins CS dxs (putF "reps" (.ref rl) (putF "tests" (.ref tl) (putF "most" (.int (m : Int)) (putF "late" (.ref x) []))))) := by rw [upd_ne (ne_of_none g6 hpd)]; exact g6
    have f7 : Same H10 (upd H10 pd (.dT [])) := same_upd hpd
    have v7 := keepL (fun b o hb _ => f7 b o hb) ⟨_, _, _, g6⟩ v6
    generalize upd H10 pd (.dT []) = H11 at f7 g7 v7 ⊢
    refine ⟨_, rfl, s, CS, dxs, _, rfl, g7, TD.cl, TD.pl, by show 4 < 1000; decide, ?_⟩
    have f8 : ∀ b o, H4 b = some o → b ≠ s → upd H11 s (.ins CS dxs (srF x m tl rl pd)) b = some o := fun b o hb hn => by
      rw [upd_ne hn]
      exact f7 _ _ (f6 _ _ (f5 _ _ (f4 _ _ (u3 _ _ (f2 b o hb hn)) hn)) hn)
    have kds : kd ≠ s := fun e => by rw [e, hs4] at hkd; cases hkd
    have w4 : H4 tl = none := by
      cases e : H4 tl with
      | none => rfl
      | some o => rw [f2 _ _ e tls] at w3; cases w3
    refine q _ G x kd tl rl pd (fun b o hb hn => f8 b o (s4 _ _ hb) hn) LI (fun p hp => f8 _ _ (st p hp) (offs p hp)) (f8 _ _ hkd kds) hkdH ?_ ?_ (s4.free w4) fun p hp => ⟨ne_of_none (st p hp) w4, offs p hp⟩
    · exact upd_same
    · exact keepL (fun b o hb hn => by rw [upd_ne hn]; exact hb) ⟨_, _, _, g7⟩ v7
theorem ok_widen (F : FnM K "widen" "Search.widen" sWiden f fd) (T : Tx mg) (TD : TS K CS) : FnOk P w K mg base CX0 1 f fd ["self", "some"] (spWiden CS) := by
  refine F.ok scWiden (fun vs H Q E h => ?_) (fun cdv A outer s H vs Q E hr h => ⟨_, PSs.nox
    (pss_cons (ps_set (i := 2) scWiden.nd rfl (Or.inl rfl) (pe_callB call_len_seq rfl T.len boot_len (pa_cons (pe_fld (pv 0) rfl) pa_nil)))
    (pss_cons (ps_for PassesOwn.never rfl (pi_list (pv 1)) (pg_name (i := 3) scWiden.nd rfl (.inl rfl))
      (pss_one (ps_if (pt_cmpR (op_notInD (room65 hr)) (pv 3) (pe_fld (pv 0) rfl) (by rfl))
        (pss_one (ps_expr (pe_bm PySem.F.plainAttrs_list PySem.F.slot_list_append PySem.F.type_list_append mt_append (pe_fld (pv 0) rfl) (pa_cons (pv 3) pa_nil)))) pss_nil)))
    (pss_one (ps_ret (pe_cmpR op_gt (pe_callB call_len_seq rfl T.len boot_len (pa_cons (pe_fld (pv 0) rfl) pa_nil)) (pv 2) (nomark _)))))), ?_⟩)
  · obtain ⟨s, dxs, a, m, tl, rl, pd, l, tests, more, rfl, _⟩ := h
    rfl
  · obtain ⟨s, dxs, a, m, tl, rl, pd, l, tests, more, rfl, hs, htl, hl, hne, hbd, q⟩ := h
    obtain ⟨as, a1, a2⟩ := id htl
    obtain ⟨bs, b1, b2⟩ := id hl
    have stl : s ≠ tl := ne_of hs a1 (fun z => nomatch z)
    refine ⟨_, rfl, s, CS, dxs, _, _, rfl, hs, TD.cl, TD.te, srF_tests _ _ _ _ _, tl, _, rfl, .inl (SqL.of a1), ?_⟩
    rw [List.length_map, Paired.length a2]
    dsimp only [gName, List.set]
    refine seq_mid (fun σ' H' => ∃ v3, σ' = [some (.ref s), some (.ref l), some (.int (tests.length : Int)), v3] ∧ (∀ b o, H b = some o → b ≠ tl → H' b = some o) ∧ ListsAt H' tl (widenM tests more)) (fun nx hnx => ?_) ?_
    · refine ⟨_, rfl, l, rfl, ⟨_, SqL.of b1⟩, for_list (K := K) (a := l) (xs := bs.map V.ref) (fun i σ' H' => ∃ v3, σ' = [some (.ref s), some (.ref l), some (.int (tests.length : Int)), v3] ∧ (∀ b o, H b = some o → b ≠ tl → H' b = some o) ∧ ListsAt H' tl (widenM tests (more.take i)))
        ⟨none, rfl, fun b o hb _ => hb, htl⟩ (fun i σ' H' _ ⟨_, _, k, _⟩ => SqL.of (k _ _ b1 hne)) ?_ ?_⟩
      · rintro i y σ' H1 hy ⟨v3, rfl, k1, t1⟩
        obtain ⟨rb, hrb, rfl⟩ := map_get hy
        obtain ⟨h, hh, hat⟩ := paired_get' b2 hrb
        have hat1 := k1 _ _ hat (ne_of hat a1 (fun z => nomatch z))
        have hs1 := k1 _ _ hs stl
        have hil := (List.getElem?_eq_some_iff.mp hh).1
        obtain ⟨cs, c1, c2⟩ := id t1
        refine ⟨_, rfl, _, rfl, s, CS, dxs, _, _, rfl, hs1, TD.cl, TD.te, srF_tests _ _ _ _ _, dInts h, _, dp_ints (SqT.of hat1), t1.dp, shaped_ints _, shaped_lists _, _, rfl, ?_⟩
        rw [any_lists]
        have et := take_succ hh
        cases c : (widenM tests (more.take i)).contains h with
        | true =>
          refine iteF ⟨_, rfl, k1, ?_⟩
          rw [et, widenM_snoc, if_pos c]
          exact t1
        | false =>
          have hwl := widenM_len (more.take i) tests
          rw [List.length_take] at hwl
          refine iteT ⟨_, rfl, s, CS, dxs, _, _, rfl, hs1, TD.cl, TD.te, srF_tests _ _ _ _ _, .inl ⟨rfl, _, SqL.of c1⟩, _, rfl, tl, _, _, rfl, rfl, c1, by rw [List.length_map, Paired.length c2]; exact small_line' (by omega), _, rfl, fun b o hb hn => by rw [upd_ne hn]; exact k1 _ _ hb hn, ?_⟩
          rw [et, widenM_snoc, if_neg (by rw [c]; exact Bool.false_ne_true)]
          have ks : ∀ (a : Addr) (xs : List V), H1 a = some (.tup xs) → upd H1 tl (.lst (cs.map V.ref ++ [.ref rb])) a = some (.tup xs) := fun a xs h => by
            rw [upd_ne (ne_of h c1 (fun z => nomatch z))]
            exact h
          exact ⟨cs ++ [rb], by rw [upd_same, List.map_append] <;> rfl, paired_snoc (paired_mono (fun a b z => ks _ _ z) c2) (ks _ _ hat1)⟩
      · rintro σ' H1 ⟨v3, rfl, k1, t1⟩
        have e : (bs.map V.ref).length = more.length := by rw [List.length_map]; exact Paired.length b2
        rw [e, List.take_length] at t1
        exact hnx _ _ ⟨v3, rfl, k1, t1⟩
    · rintro _ H1 ⟨v3, rfl, k1, t1⟩
      obtain ⟨cs, c1, c2⟩ := id t1
      refine ⟨_, rfl, s, CS, dxs, _, _, rfl, k1 _ _ hs stl, TD.cl, TD.te, srF_tests _ _ _ _ _, tl, _, rfl, .inl (SqL.of c1), _, rfl, _, _, rfl, rfl, ?_⟩
      have := q H1 k1 t1
      rw [List.length_map, Paired.length c2]
      have e : decide ((tests.length : Int) < ((widenM tests more).length : Int)) = decide (tests.length < (widenM tests more).length) := by
        rw [decide_eq_decide]
        omega
      show Q (.bl (decide ((tests.length : Int) < ((widenM tests more).length : Int)))) H1
      rw [e]
      exact this
end
end QT
set_option Elab.async false
set_option linter.all false
set_option maxRecDepth 100000
set_option maxHeartbeats 4000000
namespace QT
open PySem PySem.Spec PyProof.Rows L2
abbrev innerB {P : Program} {w : World} {K : PySem.W.Frag} (ac : Acc P w K) (g1 : TG) (tt1 : TT) (te : TE) (vs1 : List Nat) (σ2 : L2.St) (D : Addr) (J1 : It) (H4 : Hp) (Nx : Hp → Prop) : Prop := ∃ W1 : Nat → Nat → Hp → Prop, (∃ m, W1 0 m H4) ∧ ∀ j k H, W1 j k H →
  (J1.stop j H ∧ Nx H) ∨ (J1.go j H ∧ ∃ Nx1 : Hp → Prop, (∀ H', Nx1 H' → ∃ k', k' < k ∧ W1 (j + 1) k' H') ∧ ∀ x H', J1.yld j H x H' → g1 x (wipe σ2 vs1) H' fun σ3 H5 => wipe σ3 vs1 = wipe σ2 vs1 ∧ tt1 σ3 H5 fun b H6 =>
    if b = true then te σ3 H6 fun y H7 => ac.rd D y H7 Nx1 else Nx1 H6)
theorem sci_it {P : Program} {w : World} {K : PySem.W.Frag} {ac : Acc P w K} {J : It} {n : Nat} {Gd : Hp → Prop} {Y : Nat → Hp → V → Hp → Prop} (wk : Walk J n Gd Y) {g : TG} {tt : TT} {te : TE} {vs : List Nat} {σ : L2.St} {H0 : Hp} {D : Addr} {Qd : Hp → Prop} (Pv : Nat → Hp → Prop) (h0 : Pv 0 H0) (hG : ∀ i H, i ≤ n → Pv i H → Gd H)
    (hs : ∀ i x H H', i < n → Pv i H → Y i H x H' → g x (wipe σ vs) H' fun σ2 H2 => wipe σ2 vs = wipe σ vs ∧ tt σ2 H2 fun b H3 => if b = true then te σ2 H3 fun y H4 => ac.rd D y H4 (Pv (i + 1)) else Pv (i + 1) H3) (hd : ∀ H, Pv n H → Qd H) : innerB ac g tt te vs σ D J H0 Qd := by
  refine ⟨fun i m H => m = n - i ∧ i ≤ n ∧ Pv i H, ⟨n, by simp, Nat.zero_le _, h0⟩, ?_⟩
  rintro i m H ⟨rfl, hi, p⟩
  have q := hG i H hi p
  by_cases hlt : i < n
  · exact .inr ⟨wk.goes i H hlt q, Pv (i + 1), fun H' p' => ⟨n - (i + 1), by omega, rfl, hlt, p'⟩, fun x H' y => hs i x H H' hlt p (wk.yields i H x H' hlt q y)⟩
  · have e : i = n := by omega
    subst e
    exact .inl ⟨wk.stops H q, hd H p⟩
theorem sc2_it {X : Cx} {ac : Acc X.prog X.w X.K} {J : It} {n : Nat} {Gd : Hp → Prop} {Y : Nat → Hp → V → Hp → Prop} (wk : Walk J n Gd Y) {wi1 : TI} {g g1 : TG} {tt tt1 : TT} {te : TE} {vs vs1 : List Nat} {σ : L2.St} {Q : VK} {H0 : Hp} {D : Addr} (Pv : Nat → Hp → Prop) (h0 : Pv 0 H0) (hG : ∀ i H, i ≤ n → Pv i H → Gd H)
    (hs : ∀ i x H H', i < n → Pv i H → Y i H x H' → g x (wipe σ vs) H' fun σ2 H2 => wipe σ2 vs = wipe σ vs ∧ tt σ2 H2 fun b H3 =>
      if b = true then wi1 σ2 H3 fun J1 H4 => innerB ac g1 tt1 te vs1 σ2 D J1 H4 (Pv (i + 1)) else Pv (i + 1) H3) (hd : ∀ H, Pv n H → Q (.ref D) H) : bodyB ac g tt wi1 g1 tt1 te vs vs1 σ Q J D H0 := by
  refine ⟨fun i m H => m = n - i ∧ i ≤ n ∧ Pv i H, ⟨n, by simp, Nat.zero_le _, h0⟩, ?_⟩
  rintro i m H ⟨rfl, hi, p⟩
  have q := hG i H hi p
  by_cases hlt : i < n
  · exact .inr ⟨wk.goes i H hlt q, Pv (i + 1), fun H' p' => ⟨n - (i + 1), by omega, rfl, hlt, p'⟩, fun x H' y => hs i x H H' hlt p (wk.yields i H x H' hlt q y)⟩
  · have e : i = n := by omega
    subst e
    exact .inl ⟨wk.stops H q, hd H p⟩
theorem cr_sortSTw {X : Cx} {P : Program} {w : World} {K : PySem.W.Frag} (h1 : X.prog = P) (h2 : X.w = w) (h3 : X.K = K) (hc : X.calm = true) (hu : X.A.units + 64 < cLine) : CallR X (.builtin "sorted") (rSortST K P w) := by
  subst h1 h2 h3
  exact cr_sortST hc hu
theorem set_dictNP {X : Cx} {P : Program} {w : World} {K : PySem.W.Frag} (h1 : X.prog = P) (h2 : X.w = w) (h3 : X.K = K) (hu : X.A.units + 64 < cLine) : PSet X (rSetN P w K) := by
  subst h1 h2 h3
  exact set_dictN hu
theorem ListsAt.upd_ {H : Hp} {l r : Addr} {o o' : HO} {hs : List (List Int)} (x : ListsAt H l hs) (hr : H r = some o) (hn : ∀ xs, o ≠ .tup xs) (hne : l ≠ r) : ListsAt (upd H r o') l hs := by
  obtain ⟨as, h1, h2⟩ := x
  refine ⟨as, by rw [upd_ne hne]; exact h1, paired_mono (fun a h z => ?_) h2⟩
  show upd H r o' a = _
  rw [upd_ne fun e => ?_]
  · exact z
  · have z : H a = _ := z
    rw [e, hr] at z
    exact hn _ (Option.some.inj z)
theorem ListsAt.same {H H' : Hp} {l : Addr} {hs : List (List Int)} (x : ListsAt H l hs) (s : Same H H') : ListsAt H' l hs := by
  obtain ⟨as, h1, h2⟩ := x
  exact ⟨as, s _ _ h1, paired_mono (fun a h z => s _ _ z) h2⟩
theorem PlAt.upd_ {P : Program} {w : World} {H : Hp} {pd r : Addr} {o o' : HO} {pl : Pl} (x : PlAt P w H pd pl) (hr : H r = some o) (hn : ∀ xs, o ≠ .tup xs) (hne : pd ≠ r) : PlAt P w (upd H r o') pd pl := by
  obtain ⟨ks, h1, h2⟩ := x
  refine ⟨ks, by rw [upd_ne hne]; exact h1, paired_mono (fun a h z => ?_) h2⟩
  rw [upd_ne fun e => ?_]
  · exact z
  · rw [e, hr] at z
    exact hn _ (Option.some.inj z)
theorem PlAt.same {P : Program} {w : World} {H H' : Hp} {pd : Addr} {pl : Pl} (x : PlAt P w H pd pl) (s : Same H H') : PlAt P w H' pd pl := by
  obtain ⟨ks, h1, h2⟩ := x
  exact ⟨ks, s _ _ h1, paired_mono (fun a h z => s _ _ z) h2⟩
theorem Memo.same {L : List Int → Bool} {m : Nat} {kd : Addr} {H H' : Hp} (M : Memo L m kd H) (s : Same H H') : Memo L m kd H' := by
  obtain ⟨hs, h1, h2⟩ := M
  exact ⟨hs, s _ _ h1, h2⟩
theorem Memo.upd_ {L : List Int → Bool} {m : Nat} {kd r : Addr} {H : Hp} {o : HO} (M : Memo L m kd H) (hn : kd ≠ r) : Memo L m kd (upd H r o) := by
  obtain ⟨hs, h1, h2⟩ := M
  exact ⟨hs, by rw [upd_ne hn]; exact h1, h2⟩
theorem eqv_lists_nil (hs : List (List Int)) : PyData.eqv (.list (hs.map dInts)) (.list []) = hs.isEmpty := by
  cases hs <;> rfl
/-- all but s and kd stands -/
def Kb2 (s kd : Addr) (H H' : Hp) : Prop := ∀ b o, H b = some o → b ≠ s → b ≠ kd → H' b = some o
/-- what stands while spread runs -/
structure Core (P : Program) (w : World) (CS : Addr) (x : SX) (s dxs tl rl pd : Addr) (H0 H : Hp) (reps : List (List Int)) (pl : Pl) : Prop where
  k : Kb2 s x.kd H0 H
  m : Memo x.L x.m x.kd H
  s : H s = some (.ins CS dxs (srF x.a x.m tl rl pd))
  r : ListsAt H rl reps
  p : PlAt P w H pd pl
theorem Core.same {P : Program} {w : World} {CS : Addr} {x : SX} {s dxs tl rl pd : Addr} {H0 H H' : Hp} {reps : List (List Int)} {pl : Pl} (c : Core P w CS x s dxs tl rl pd H0 H reps pl) (e : Same H H') : Core P w CS x s dxs tl rl pd H0 H' reps pl :=
  ⟨fun b o h1 h2 h3 => e _ _ (c.k b o h1 h2 h3), c.m.same e, e _ _ c.s, c.r.same e, c.p.same e⟩
theorem Core.kb {P : Program} {w : World} {CS : Addr} {x : SX} {s dxs tl rl pd : Addr} {H0 H H' : Hp} {reps : List (List Int)} {pl : Pl} (c : Core P w CS x s dxs tl rl pd H0 H reps pl) (e : Kb x.kd H H') (m : Memo x.L x.m x.kd H') : Core P w CS x s dxs tl rl pd H0 H' reps pl :=
  ⟨fun b o h1 h2 h3 => e _ _ (c.k b o h1 h2 h3) h3, m, e.ins c.m c.s, e.lists c.m c.r, e.pl c.m c.p⟩
theorem Kb2.lists {s kd l : Addr} {H H' : Hp} {L : List Int → Bool} {m : Nat} {hs : List (List Int)} {C dx : Addr} {fs : List (Str × V)} (k : Kb2 s kd H H') (M : Memo L m kd H) (hsI : H s = some (.ins C dx fs)) (x : ListsAt H l hs) : ListsAt H' l hs := by
  obtain ⟨as, h1, h2⟩ := x
  obtain ⟨ks, k1, _⟩ := M
  exact ⟨as, k _ _ h1 (ne_of h1 hsI (fun z => nomatch z)) (ne_of h1 k1 (fun z => nomatch z)), paired_mono (fun a b (z : PosAt H a b) => (k a _ z (ne_of (show H a = _ from z) hsI (fun z => nomatch z)) (ne_of (show H a = _ from z) k1 (fun z => nomatch z)) : PosAt H' a b)) h2⟩
theorem spIn_len {L : List Int → Bool} {m : Nat} {tests : List (List Int)} : ∀ {later reps : List (List Int)} {pl : Pl} {lay : List (List Int)} {r2 : List (List Int)} {p2 : Pl} {l2 : List (List Int)}, spIn L m tests later reps pl lay = some (r2, p2, l2) → lay.length ≤ reps.length → reps.length ≤ 51 → l2.length ≤ r2.length ∧ r2.length ≤ 51
  | [], reps, pl, lay, r2, p2, l2, h, h1, h3 => by
    have h : some (reps, pl, lay) = some (r2, p2, l2) := h
    cases h
    exact ⟨h1, h3⟩
  | g :: later, reps, pl, lay, r2, p2, l2, h, h1, h3 => by
    rw [spIn] at h
    by_cases c : sgOk m tests g = true ∧ reps.length < 50
    · rw [if_pos c] at h
      cases e : lkP pl (sgn L tests g) with
      | some z =>
        rw [e] at h
        exact spIn_len (later := later) h h1 h3
      | none =>
        rw [e] at h
        exact spIn_len (later := later) h (by rw [List.length_append, List.length_append]; simp; exact h1) (by rw [List.length_append]; simp; omega)
    · rw [if_neg c] at h
      cases h
theorem spIn_lay {L : List Int → Bool} {m : Nat} {tests : List (List Int)} : ∀ {later reps : List (List Int)} {pl : Pl} {lay : List (List Int)} {r2 : List (List Int)} {p2 : Pl} {l2 : List (List Int)}, spIn L m tests later reps pl lay = some (r2, p2, l2) → ∀ h ∈ l2, h ∈ lay ∨ sgOk m tests h = true
  | [], reps, pl, lay, r2, p2, l2, h => by
    have h : some (reps, pl, lay) = some (r2, p2, l2) := h
    cases h
    exact fun h hh => .inl hh
  | g :: later, reps, pl, lay, r2, p2, l2, h => by
    rw [spIn] at h
    by_cases c : sgOk m tests g = true ∧ reps.length < 50
    · rw [if_pos c] at h
      cases e : lkP pl (sgn L tests g) with
      | some z =>
        rw [e] at h
        exact spIn_lay (later := later) h
      | none =>
        rw [e] at h
        intro k hk
        rcases spIn_lay (later := later) h k hk with z | z
        · rcases List.mem_append.mp z with y | y
          · exact .inl y
          · rw [List.mem_singleton.mp y]
            exact .inr c.1
        · exact .inr z
    · rw [if_neg c] at h
      cases h
theorem sgOk_len {m : Nat} {tests : List (List Int)} {h : List Int} (h0 : ([] : List Int) ∈ tests) (s : sgOk m tests h = true) : h.length ≤ 28 := by
  unfold sgOk at s
  have v := List.all_eq_true.mp s [] h0
  rw [List.append_nil] at v
  have := len_sum (vOk_of v).1
  have := (vOk_of v).2
  omega
theorem plRows_snoc {R : Addr → List Bool × Int → Prop} {ks : List Addr} {pl : Pl} (h : Paired R ks pl) (k : Addr) (p : List Bool × Int) : plRows (ks ++ [k]) (pl ++ [p]) = plRows ks pl ++ [(keyB p.1, k, V.int p.2)] := by
  unfold plRows
  rw [List.zip_append (Paired.length h), List.map_append] <;> rfl
theorem lists_snoc {H : Hp} {l g : Addr} {hs : List (List Int)} {h : List Int} {as : List Addr} (h1 : H l = some (.lst (as.map V.ref))) (h2 : Paired (PosAt H) as hs) (hg : PosAt H g h) : ListsAt (upd H l (.lst (as.map V.ref ++ [.ref g]))) l (hs ++ [h]) := by
  have ks : ∀ (a : Addr) (xs : List V), H a = some (.tup xs) → upd H l (.lst (as.map V.ref ++ [.ref g])) a = some (.tup xs) := fun a xs h => by
    rw [upd_ne (ne_of h h1 (fun z => nomatch z))]
    exact h
  exact ⟨as ++ [g], by rw [upd_same, List.map_append] <;> rfl, paired_snoc (paired_mono (fun a b z => ks _ _ z) h2) (ks _ _ hg)⟩
abbrev sSpread : Stmt := inClass (top 26) 2
abbrev nSpread : List Str := ["self", "layer", "heaps", "later", "sign", "size"]
theorem scSpread : FnScope nSpread ["self"] (defScope sSpread) := ⟨rfl, rfl, rfl, by decide +kernel, rfl, by decide +kernel, by decide +kernel⟩
def spSpread (P : Program) (w : World) (CL CS : Addr) (x : SX) : Sp := fun vs H Q _ => ∃ s dxs tl rl pd tests reps pl, vs = [.ref s] ∧ H s = some (.ins CS dxs (srF x.a x.m tl rl pd)) ∧ ListsAt H tl tests ∧ tests.length ≤ 100 ∧ sgOk x.m tests [] = true ∧ ([] : List Int) ∈ tests ∧ Stat x.G H ∧ (∀ p ∈ x.G, p.1 ≠ s) ∧ Memo x.L x.m x.kd H ∧
  spreadM x.L x.m tests 30 [[]] [(sgn x.L tests [], 0)] [[]] = some (reps, pl) ∧
  ∀ H' rl' pd', Kb2 s x.kd H H' → Memo x.L x.m x.kd H' → H' s = some (.ins CS dxs (srF x.a x.m tl rl' pd')) → ListsAt H' rl' reps → PlAt P w H' pd' pl → Q (.bl true) H'
def spSpreadX (P : Program) (w : World) (CL CS : Addr) : Sp := fun vs H Q E => ∃ x : SX, SXok CL x ∧ spSpread P w CL CS x vs H Q E
section
variable {P : Program} {w : World} {K : PySem.W.Frag} {mg : Str → Option Value} {base : Heap} {f f1 f2 f3 f4 f5 f6 f7 CL CS a kd : Addr} {fd fd1 fd2 fd3 fd4 fd5 fd6 fd7 : FuncData}
theorem ok_spreadX (F : FnM K "spread" "Search.spread" sSpread f fd) (T : Tx mg) (TD : TS K CS) (c1 : CalM P w K mg base 30 CS "sign" ["self", "heaps"] (spSignX CL CS) f1 fd1) : FnOk P w K mg base CX0 31 f fd ["self"] (spSpreadX P w CL CS) := by
  obtain ⟨tk, hk⟩ := T.elements
  refine F.ok scSpread (fun vs H Q E h => ?_) (fun cdv A outer s H vs Q E hr h => ⟨_, PSs.nox
    (pss_cons (ps_asg (pe_tup (pa_cons (pe_lst (pa_cons (pe_tup pa_nil) pa_nil)) (pa_cons (pe_disP (P := P) (w := w) (K := K) rfl rfl rfl hr.units (pps_cons (pe_meth (pv 0) TD.cl c1.m c1.ok hr c1.b .nil pass0 (pa_cons (pe_tup pa_nil) pa_nil)) pe_int pps_nil) (by rfl) (by rfl) (fun z => by cases z) (by decide)) pa_nil)))
        (pg_tup rfl (pgs_cons (pg_fld (pv 0)) (pgs_cons (pg_fld (pv 0)) pgs_nil))))
    (pss_cons (ps_set (i := 1) scSpread.nd rfl (Or.inl rfl) (pe_lst (pa_cons (pe_tup pa_nil) pa_nil)))
    (pss_cons (ps_while PassesOwn.never (pt_cmpR (op_neD hr.units) (pv 1) (pe_lst pa_nil) (nomark _))
      (pss_cons (ps_set (i := 3) scSpread.nd rfl (Or.inl rfl) (pe_callB (cr_sortSTw (P := P) (w := w) (K := K) rfl rfl rfl rfl hr.units) rfl T.sorted (by decide +kernel) (pa_cons
        (pe_scB (accT P w K) (own := [("heaps", 2), ("size", 5)]) (vs1 := [5]) (g := gName 2) (g1 := gName 5) (tt := tYes) (tt1 := tYes) hr.units rfl scSpread.nd (pi_list (pv 1)) (blkOk_by (N := nSpread) (sc := defScope sSpread) (by decide +kernel)) (by decide) (fun _ _ _ _ _ => pg_name (i := 2) scSpread.nd rfl (Or.inl rfl)) (fun _ _ _ _ _ => pts_nil)
          (fun _ _ _ _ _ => pi_range2 rfl T.range (pa_cons pe_int (pa_cons (pe_op op_add (pe_fldK (K := K) rfl (pv 0) rfl) pe_int) pa_nil))) (fun _ _ _ _ _ => pg_name (i := 5) scSpread.nd rfl (Or.inl rfl)) (fun _ _ _ _ _ => pts_nil)
          (fun _ _ _ _ _ => pe_callTy (call_tupleK (K := K) rfl) rfl T.tuple (by decide +kernel) (pa_cons (pe_callB (cr_sortTIK (K := K) rfl) rfl T.sorted (by decide +kernel) (pa_cons (pe_tup (pa_starK (K := K) rfl (pv 2) (pa_cons (pv 5) pa_nil))) pa_nil)) pa_nil))) pa_nil)))
      (pss_cons (ps_set (i := 1) scSpread.nd rfl (Or.inl rfl) (pe_lst pa_nil))
      (pss_one (ps_for PassesOwn.never rfl (pi_list (pv 3)) (pg_name (i := 2) scSpread.nd rfl (.inl rfl))
        (pss_cons (ps_set (i := 4) scSpread.nd rfl (Or.inl rfl) (pe_meth (pv 0) TD.cl c1.m c1.ok hr c1.b .nil pass0 (pa_cons (pv 2) pa_nil)))
        (pss_one (ps_if (pt_cmpR (op_notInN hr.units) (pv 4) (pe_fld (pv 0) rfl) (by rfl))
          (pss_cons (ps_if (pt_cmpR op_eq (pe_callB call_len_seq rfl T.len boot_len (pa_cons (pe_fld (pv 0) rfl) pa_nil)) (pe_glob (v := .int 60) rfl hk ⟨_, rfl⟩) (nomark _)) (pss_one ps_never) pss_nil)
          (pss_cons (ps_asg (pe_callB call_len_seq rfl T.len boot_len (pa_cons (pe_fld (pv 0) rfl) pa_nil)) (pg_sub (pe_fld (pv 0) rfl) (pv 4) (set_dictNP (P := P) (w := w) (K := K) rfl rfl rfl hr.units)))
          (pss_cons (ps_expr (pe_bm PySem.F.plainAttrs_list PySem.F.slot_list_append PySem.F.type_list_append mt_append (pe_fld (pv 0) rfl) (pa_cons (pv 2) pa_nil)))
          (pss_one (ps_expr (pe_bm PySem.F.plainAttrs_list PySem.F.slot_list_append PySem.F.type_list_append mt_append (pv 1) (pa_cons (pv 2) pa_nil))))))) pss_nil))))))))
    (pss_one (ps_ret pe_bl))))), ?_⟩)
  · obtain ⟨x, ok, s, dxs, tl, rl, pd, tests, reps, pl, rfl, _⟩ := h
    rfl
  · obtain ⟨x, ok, s, dxs, tl, rl0, pd0, tests, repsF, plF, rfl, hs, htl, htn, hsg0, h0t, hst, hGs, hM, hsp, q⟩ := h
    obtain ⟨mlx, dxx, hinsx, hmvx, hoffk⟩ := id ok.li
    have stOf : ∀ {H' : Hp}, Kb2 s x.kd H H' → Stat x.G H' := fun k p hp => k _ _ (hst p hp) (hGs p hp) (hoffk p hp)
    have tlOf : ∀ {H' : Hp}, Kb2 s x.kd H H' → ListsAt H' tl tests := fun k => k.lists hM hs htl
    have fo : ∀ {H' : Hp} {b : Addr} {fs : List (Str × V)}, Kb2 s x.kd H H' → Memo x.L x.m x.kd H' → H' s = some (.ins CS dxs fs) → H' b = none → H b = none := fun {H' b fs} k m hs' hb => by
      cases e : H b with
      | none => rfl
      | some o =>
        have n1 : b ≠ s := fun z => by rw [z, hs'] at hb; cases hb
        have n2 : b ≠ x.kd := fun z => by obtain ⟨ks, k1, _⟩ := m; rw [z, k1] at hb; cases hb
        rw [k b o e n1 n2] at hb
        cases hb
    have hsk : s ≠ x.kd := by obtain ⟨ks, k1, _⟩ := hM; exact ne_of hs k1 (fun z => nomatch z)
    refine ⟨by show 0 ≤ sizeLine; decide, fun e1 he1 => ⟨by show 1 ≤ sizeLine; decide, fun rl hrl => fun pd hpd => ?_⟩⟩
    have u1 : Same H (upd H e1 (.tup [])) := same_upd he1
    have u2 : Same H (upd (upd H e1 (.tup [])) rl (.lst [.ref e1])) := same_new u1 (u1.free hrl)
    have v2 : ListsAt (upd (upd H e1 (.tup [])) rl (.lst [.ref e1])) rl [[]] := by
      have n1 : e1 ≠ rl := fun e => by rw [← e, upd_same] at hrl; cases hrl
      exact ⟨[e1], upd_same, .cons (by show upd _ rl _ e1 = _; rw [upd_ne n1, upd_same]; rfl) .nil⟩
    have hrlH := u1.free hrl
    generalize upd (upd H e1 (.tup [])) rl (.lst [.ref e1]) = H1 at u2 v2 hpd ⊢
    have u3 : Same H1 (upd H1 pd (DN P w pd [])) := same_upd hpd
    have v3 : upd H1 pd (DN P w pd []) pd = some (DN P w pd []) := upd_same
    have hpdH := u2.free hpd
    generalize upd H1 pd (DN P w pd []) = H2 at u3 v3 ⊢
    have s2 := u2.trans u3
    refine ⟨_, rfl, s, dxs, _, rfl, s2 _ _ hs, rfl, by show 0 ≤ sizeLine; decide, fun e2 he2 => ?_⟩
    have u4 : Same H2 (upd H2 e2 (.tup [])) := same_upd he2
    have v4 : PosAt (upd H2 e2 (.tup [])) e2 [] := upd_same
    generalize upd H2 e2 (.tup []) = H3 at u4 v4 ⊢
    have s3 := s2.trans u4
    refine ⟨x, ok, s, dxs, tl, rl0, pd0, e2, [], tests, rfl, s3 _ _ hs, htl.same s3, htn, v4, hsg0, stat_same s3 hst, hM.same s3, fun H4 b kb4 m4 hb hb4 => ?_⟩
    have dnk : H4 pd = some (DN P w pd []) := kb4 _ _ (u4 _ _ v3) (by obtain ⟨ks, k1, _⟩ := hM.same s3; exact ne_of (u4 _ _ v3) k1 (fun z => nomatch z))
    refine ⟨dnk, keyB (sgn x.L tests []), b, .int 0, rfl, .inl ⟨_, rfl, SqT.of hb4⟩, by show 2 ≤ sizeLine; decide, fun tt htt => ?_⟩
    have kH4 : Kb2 s x.kd H H4 := fun b o h1 _ h3 => kb4 _ _ (s3 _ _ h1) h3
    have hs4 : H4 s = some (.ins CS dxs (srF x.a x.m tl rl0 pd0)) := kb4.ins (hM.same s3) (s3 _ _ hs)
    have rl4 : ListsAt H4 rl [[]] := kb4.lists (hM.same s3) (v2.same (u3.trans u4))
    have rlpd : rl ≠ pd := by obtain ⟨as, z, _⟩ := rl4; exact ne_of z dnk (fun z => nomatch z)
    have spd : s ≠ pd := ne_of hs4 dnk (fun z => nomatch z)
    have kpd : x.kd ≠ pd := by obtain ⟨ks, k1, _⟩ := m4; exact ne_of k1 dnk (fun z => nomatch z)
    have kH5 : Kb2 s x.kd H (upd H4 pd (DN P w pd [(keyB (sgn x.L tests []), b, .int 0)])) := fun c o h1 h2 h3 => by
      rw [upd_ne (ne_of_none h1 hpdH)]
      exact kH4 c o h1 h2 h3
    have hs5 : upd H4 pd (DN P w pd [(keyB (sgn x.L tests []), b, .int 0)]) s = some (.ins CS dxs (srF x.a x.m tl rl0 pd0)) := by rw [upd_ne spd]; exact hs4
    have rl5 := rl4.upd_ (o' := DN P w pd [(keyB (sgn x.L tests []), b, .int 0)]) dnk (fun xs z => by cases z) rlpd
    have m5 := m4.upd_ (o := DN P w pd [(keyB (sgn x.L tests []), b, .int 0)]) kpd
    have p5 : PlAt P w (upd H4 pd (DN P w pd [(keyB (sgn x.L tests []), b, .int 0)])) pd [(sgn x.L tests [], 0)] := by
      refine ⟨[b], upd_same, .cons ?_ .nil⟩
      rw [upd_ne (ne_of hb4 dnk (fun z => nomatch z))]
      exact hb4
    generalize upd H4 pd (DN P w pd [(keyB (sgn x.L tests []), b, .int 0)]) = H5 at kH5 hs5 rl5 m5 p5 htt ⊢
    have s6 : Same H5 (upd H5 tt (.tup [.ref rl, .ref pd])) := same_upd htt
    have e6 : upd H5 tt (.tup [.ref rl, .ref pd]) tt = some (.tup [.ref rl, .ref pd]) := upd_same
    generalize upd H5 tt (.tup [.ref rl, .ref pd]) = H6 at s6 e6 ⊢
    have hs6 := s6 _ _ hs5
    refine ⟨tt, _, rfl, SqT.of e6, rfl, _, _, rfl, _, rfl, s, CS, dxs, _, rfl, hs6, TD.cl, TD.re, by show 5 < 1000; decide, ?_⟩
    have rls : rl ≠ s := by obtain ⟨as, z, _⟩ := rl5; exact ne_of z hs5 (fun z => nomatch z)
    have pds : pd ≠ s := Ne.symm spd
    have hs7 : upd H6 s (.ins CS dxs (putF "reps" (.ref rl) (srF x.a x.m tl rl0 pd0))) s = some (.ins CS dxs (putF "reps" (.ref rl) (srF x.a x.m tl rl0 pd0))) := upd_same
    have kH7 : Kb2 s x.kd H (upd H6 s (.ins CS dxs (putF "reps" (.ref rl) (srF x.a x.m tl rl0 pd0)))) := fun c o h1 h2 h3 => by
      rw [upd_ne h2]
      exact s6 _ _ (kH5 c o h1 h2 h3)
    have rl7 := (rl5.same s6).upd_ (o' := .ins CS dxs (putF "reps" (.ref rl) (srF x.a x.m tl rl0 pd0))) hs6 (fun xs z => by cases z) rls
    have m7 := (m5.same s6).upd_ (o := .ins CS dxs (putF "reps" (.ref rl) (srF x.a x.m tl rl0 pd0))) (Ne.symm hsk)
    have p7 := (p5.same s6).upd_ (o' := .ins CS dxs (putF "reps" (.ref rl) (srF x.a x.m tl rl0 pd0))) hs6 (fun xs z => by cases z) pds
    generalize upd H6 s (.ins CS dxs (putF "reps" (.ref rl) (srF x.a x.m tl rl0 pd0))) = H7 at hs7 kH7 rl7 m7 p7 ⊢
    refine ⟨_, _, rfl, _, rfl, s, CS, dxs, _, rfl, hs7, TD.cl, TD.pl, by show 5 < 1000; decide, rfl, ?_⟩
    have core : Core P w CS x s dxs tl rl pd H (upd H7 s (.ins CS dxs (putF "places" (.ref pd) (putF "reps" (.ref rl) (srF x.a x.m tl rl0 pd0))))) [[]] [(sgn x.L tests [], 0)] :=
      ⟨fun c o h1 h2 h3 => by rw [upd_ne h2]; exact kH7 c o h1 h2 h3, m7.upd_ (Ne.symm hsk), upd_same, rl7.upd_ hs7 (fun xs z => by cases z) rls, p7.upd_ hs7 (fun xs z => by cases z) pds⟩
    generalize upd H7 s (.ins CS dxs (putF "places" (.ref pd) (putF "reps" (.ref rl) (srF x.a x.m tl rl0 pd0)))) = H8 at core ⊢
    clear s6 e6 hs6 hs7 kH7 rl7 m7 p7 hs5 rl5 m5 p5 kH5 kH4 hs4 rl4 dnk
    refine ⟨by show 0 ≤ sizeLine; decide, fun e7 he7 => ⟨by show 1 ≤ sizeLine; decide, fun ly hly => ?_⟩⟩
    have u8 : Same H8 (upd (upd H8 e7 (.tup [])) ly (.lst [.ref e7])) := same_new (same_upd he7) ((same_upd he7).free hly)
    have v8 : ListsAt (upd (upd H8 e7 (.tup [])) ly (.lst [.ref e7])) ly [[]] := by
      have n1 : e7 ≠ ly := fun e => by rw [← e, upd_same] at hly; cases hly
      exact ⟨[e7], upd_same, .cons (by show upd _ ly _ e7 = _; rw [upd_ne n1, upd_same]; rfl) .nil⟩
    have hly8 := (same_upd (o := .tup []) he7).free hly
    have hlyH := fo core.k core.m core.s hly8
    have hlyrl : ly ≠ rl := fun e => by
      obtain ⟨as, z, _⟩ := core.r
      rw [e, z] at hly8
      cases hly8
    have core := core.same u8
    generalize upd (upd H8 e7 (.tup [])) ly (.lst [.ref e7]) = H9 at v8 core ⊢
    dsimp only [gName, List.set]
    show tSeq (tWhile _ _) _ _ _ _
    refine ⟨fun fuel σ' H' => ∃ (ly : Addr) (layer reps : List (List Int)) (pl : Pl) (v2 v3 v4 : Option V), σ' = [some (.ref s), some (.ref ly), v2, v3, v4, none] ∧ Core P w CS x s dxs tl rl pd H H' reps pl ∧ ListsAt H' ly layer ∧ ly ≠ rl ∧ H ly = none ∧ reps.length ≤ 51 ∧ pl.length = reps.length ∧ (∀ h ∈ layer, h.length ≤ 28) ∧ spreadM x.L x.m tests fuel reps pl layer = some (repsF, plF),
      ⟨30, ly, [[]], [[]], _, none, none, none, rfl, core, v8, hlyrl, hlyH, by decide, rfl, fun h hh => by rw [List.mem_singleton.mp hh]; exact Nat.zero_le _, hsp⟩, ?_⟩
    clear core v8 hlyrl hlyH u8 hly8 hly he7
    rintro fuel σ' H9 ⟨ly, layer, reps, pl, v2, v3, v4, rfl, core, hl9, hlyrl, hlyH, hreps, hplen, hl28, hsp9⟩
    refine ⟨_, rfl, by show 0 ≤ sizeLine; decide, fun nl hnl => ?_⟩
    have u10 : Same H9 (upd H9 nl (.lst [])) := same_upd hnl
    have v10 : upd H9 nl (.lst []) nl = some (.lst []) := upd_same
    generalize upd H9 nl (.lst []) = H10 at u10 v10 ⊢
    have core := core.same u10
    have hl10 := hl9.same u10
    refine ⟨_, .list [], hl10.dp, .lst (SqL.of v10) .nil, shaped_lists _, rfl, _, rfl, ?_⟩
    rw [eqv_lists_nil]
    cases fuel with
    | zero => rw [spreadM] at hsp9; cases hsp9
    | succ fuel =>
    rw [spreadM] at hsp9
    cases hemp : layer.isEmpty with
    | true =>
      rw [if_pos hemp] at hsp9
      have hsp9 : some (reps, pl) = some (repsF, plF) := hsp9
      cases hsp9
      refine iteF ?_
      exact q H10 rl pd core.k core.m core.s core.r core.p
    | false =>
      rw [if_neg (by rw [hemp]; exact Bool.false_ne_true)] at hsp9
      by_cases hl20 : layer.length < 20
      case neg => rw [if_neg hl20] at hsp9; cases hsp9
      rw [if_pos hl20] at hsp9
      cases hspi : spIn x.L x.m tests (nextL x.m layer) reps pl [] with
      | none => rw [hspi] at hsp9; cases hsp9
      | some st =>
      obtain ⟨reps2, pl2, layer2⟩ := st
      rw [hspi] at hsp9
      have hsp9 : spreadM x.L x.m tests fuel reps2 pl2 layer2 = some (repsF, plF) := hsp9
      refine iteT ⟨fun σ' H' => ∃ (ly : Addr) (layer reps : List (List Int)) (pl : Pl) (v2 v3 v4 : Option V), σ' = [some (.ref s), some (.ref ly), v2, v3, v4, none] ∧ Core P w CS x s dxs tl rl pd H H' reps pl ∧ ListsAt H' ly layer ∧ ly ≠ rl ∧ H ly = none ∧ reps.length ≤ 51 ∧ pl.length = reps.length ∧ (∀ h ∈ layer, h.length ≤ 28) ∧ spreadM x.L x.m tests fuel reps pl layer = some (repsF, plF), fun σ' H' h => ⟨fuel, Nat.lt_succ_self _, h⟩, ?_⟩
      obtain ⟨as, a1, a2⟩ := id hl10
      have hal := Paired.length a2
      have hm3 := ok.cf.ok.most
      refine ⟨_, rfl, ly, rfl, ⟨_, SqL.of a1⟩, fun D hD => ?_⟩
      refine sc2_it (walk_list (K := K) (a := ly) (xs := as.map V.ref)) (fun i H' => ∃ Ls : List (Addr × List Int), H' D = some (SetTO P w D Ls) ∧ (∀ p ∈ Ls, PosAt H' p.1 p.2) ∧ (∀ z, z ∈ Ls.map (·.2) ↔ z ∈ (layer.take i).flatMap fun h => (sizes x.m).map fun s => srt (h ++ [s])) ∧ Ls.length ≤ i * 3 ∧ Same H10 H')
        ⟨[], upd_same, fun p hp => (nomatch hp), fun z => by simp, Nat.zero_le _, same_upd hD⟩ (fun i H' _ ⟨_, _, _, _, _, e⟩ => SqL.of (e _ _ a1)) ?_ ?_
      · rintro i y H11 H12 hi ⟨Ls, d1, d2, d3, d4, s11⟩ ⟨rfl, hy⟩
        obtain ⟨ra, hra, rfl⟩ := map_get hy
        obtain ⟨h, hh, hat⟩ := paired_get' a2 hra
        have hil := (List.getElem?_eq_some_iff.mp hh).1
        refine ⟨rfl, ?_⟩
        refine ⟨_, rfl, s, CS, dxs, _, _, rfl, s11 _ _ core.s, TD.cl, TD.mo, srF_most _ _ _ _ _, _, _, rfl, rfl, 1, (x.m : Int) + 1, rfl, ⟨by decide, by decide, by omega, by omega⟩, ?_⟩
        refine sci_it (walk_range (lo := 1) (n := ((x.m : Int) + 1 - 1).toNat)) (fun j H' => ∃ Ls : List (Addr × List Int), H' D = some (SetTO P w D Ls) ∧ (∀ p ∈ Ls, PosAt H' p.1 p.2) ∧ (∀ z, z ∈ Ls.map (·.2) ↔ (z ∈ (layer.take i).flatMap fun h => (sizes x.m).map fun s => srt (h ++ [s])) ∨ z ∈ ((sizes x.m).take j).map fun s => srt (h ++ [s])) ∧ Ls.length ≤ i * 3 + j ∧ Same H10 H')
          ⟨Ls, d1, d2, fun z => by rw [d3, List.take_zero]; simp, by omega, s11⟩ (fun _ _ _ _ => trivial) ?_ ?_
        · rintro j y H13 H14 hj ⟨Ls, d1, d2, d3, d4, s13⟩ ⟨rfl, rfl⟩
          have hjm : j < x.m := by omega
          have hsz : (sizes x.m)[j]? = some ((j : Int) + 1) := by
            unfold sizes
            rw [List.getElem?_map, List.getElem?_range hjm] <;> rfl
          have ehs : h.map V.int ++ [V.int (1 + (j : Int))] = (h ++ [1 + (j : Int)]).map V.int := by rw [List.map_append] <;> rfl
          have hatx := s13 _ _ hat
          refine ⟨rfl, _, rfl, ra, _, rfl, .inl (SqT.of hatx), _, rfl, ?_⟩
          dsimp only [tNil]
          rw [ehs]
          have hzl := hl28 h (List.mem_of_getElem? hh)
          refine ⟨by rw [List.length_map, List.length_append, List.length_singleton]; exact small_line (by omega), fun q1 hq1 => ?_⟩
          have s15 := same_new (o := .tup ((h ++ [1 + (j : Int)]).map V.int)) s13 (s13.free hq1)
          have e15 : PosAt (upd H14 q1 (.tup ((h ++ [1 + (j : Int)]).map V.int))) q1 (h ++ [1 + (j : Int)]) := upd_same
          have t15 : Same H14 (upd H14 q1 (.tup ((h ++ [1 + (j : Int)]).map V.int))) := same_upd hq1
          generalize upd H14 q1 (.tup ((h ++ [1 + (j : Int)]).map V.int)) = H15 at s15 e15 t15 ⊢
          refine ⟨q1, _, rfl, SqT.of e15, fun ns' q2 hperm hsorted hq2 => ?_⟩
          obtain rfl := srt_uniq hperm hsorted
          have s16 := same_new (o := .lst ((srt (h ++ [1 + (j : Int)])).map V.int)) s15 (s15.free hq2)
          have e16 : upd H15 q2 (.lst ((srt (h ++ [1 + (j : Int)])).map V.int)) q2 = some (.lst ((srt (h ++ [1 + (j : Int)])).map V.int)) := upd_same
          have t16 : Same H14 (upd H15 q2 (.lst ((srt (h ++ [1 + (j : Int)])).map V.int))) := same_new t15 (t15.free hq2)
          generalize upd H15 q2 (.lst ((srt (h ++ [1 + (j : Int)])).map V.int)) = H16 at s16 e16 t16 ⊢
          refine ⟨q2, _, rfl, .inl ⟨SqL.of e16, fun q3 hq3 => ?_⟩⟩
          have s17 := same_new (o := .tup ((srt (h ++ [1 + (j : Int)])).map V.int)) s16 (s16.free hq3)
          have e17 : PosAt (upd H16 q3 (.tup ((srt (h ++ [1 + (j : Int)])).map V.int))) q3 (srt (h ++ [1 + (j : Int)])) := upd_same
          have t17 : Same H14 (upd H16 q3 (.tup ((srt (h ++ [1 + (j : Int)])).map V.int))) := same_new t16 (t16.free hq3)
          generalize upd H16 q3 (.tup ((srt (h ++ [1 + (j : Int)])).map V.int)) = H17 at s17 e17 t17 ⊢
          have d17 := t17 _ _ d1
          have p17 := fun p hp => t17 _ _ (d2 p hp)
          have hD14 : H10 D = none := hD
          refine ⟨q3, srt (h ++ [1 + (j : Int)]), Ls, rfl, SqT.of e17, d17, fun p hp => SqT.of (p17 p hp), by omega, fun L' hy hn => ?_⟩
          have keepT : ∀ (a : Addr) (k : List Int), PosAt H17 a k → PosAt (upd H17 D (SetTO P w D L')) a k := fun a k z => by
            show upd H17 D _ a = _
            rw [upd_ne (ne_of (show H17 a = _ from z) d17 (fun z => nomatch z))]
            exact z
          have ej : (sizes x.m).take (j + 1) = (sizes x.m).take j ++ [(j : Int) + 1] := take_succ hsz
          have e1j : (1 : Int) + (j : Int) = (j : Int) + 1 := Int.add_comm _ _
          by_cases c : srt (h ++ [1 + (j : Int)]) ∈ Ls.map (·.2)
          · have eL := hy c
            subst eL
            refine ⟨L', upd_same, fun p hp => keepT _ _ (p17 p hp), fun z => ?_, by omega, same_new s17 hD14⟩
            rw [d3, ej, List.map_append, List.mem_append]
            constructor
            · rintro (y | y)
              · exact .inl y
              · exact .inr (.inl y)
            · rintro (y | y | y)
              · exact .inl y
              · exact .inr y
              · rw [List.map_cons, List.map_nil, List.mem_singleton] at y
                rw [y, ← e1j]
                exact (d3 _).mp c
          · have pm := hn c
            refine ⟨L', upd_same, fun p hp => ?_, fun z => ?_, ?_, same_new s17 hD14⟩
            · rcases List.mem_cons.mp (pm.mem_iff.mp hp) with y | y
              · rw [y]
                exact keepT _ _ e17
              · exact keepT _ _ (p17 p y)
            · rw [(pm.map (·.2)).mem_iff, List.map_cons, List.mem_cons, d3, ej, List.map_append, List.mem_append, List.map_cons, List.map_nil, List.mem_singleton, ← e1j]
              constructor
              · rintro (y | y | y)
                · exact .inr (.inr y)
                · exact .inl y
                · exact .inr (.inl y)
              · rintro (y | y | y)
                · exact .inr (.inl y)
                · exact .inr (.inr y)
                · exact .inl y
            · rw [pm.length_eq, List.length_cons]
              omega
        · rintro H13 ⟨Ls, d1, d2, d3, d4, s13⟩
          have en : ((x.m : Int) + 1 - 1).toNat = x.m := by omega
          have esz : (sizes x.m).length = x.m := by unfold sizes; rw [List.length_map, List.length_range]
          rw [en] at d3 d4
          refine ⟨Ls, d1, d2, fun z => ?_, by omega, s13⟩
          rw [d3, take_succ hh, List.flatMap_append, List.mem_append]
          have : (sizes x.m).take x.m = sizes x.m := by rw [List.take_of_length_le (by omega)]
          rw [this]
          simp
      · rintro H11 ⟨Ls, d1, d2, d3, d4, s11⟩
        rw [List.length_map, hal, List.take_length] at d3
        refine ⟨D, Ls, rfl, d1, fun p hp => SqT.of (d2 p hp), fun L' lt hnd hperm hsort hlt => ?_⟩
        have elat : L'.map (·.2) = nextL x.m layer := by
          refine lsort_rows hsort ((hperm.map (·.2)).nodup_iff.mpr hnd) fun z => ?_
          rw [(hperm.map (·.2)).mem_iff]
          exact d3 z
        have s12 : Same H10 (upd H11 lt (.lst (L'.map fun q => V.ref q.1))) := same_new s11 (s11.free hlt)
        have lat : ListsAt (upd H11 lt (.lst (L'.map fun q => V.ref q.1))) lt (nextL x.m layer) := by
          refine ⟨L'.map (·.1), by rw [upd_same, List.map_map] <;> rfl, ?_⟩
          rw [← elat]
          have : ∀ Lx : List (Addr × List Int), (∀ q ∈ Lx, PosAt H11 q.1 q.2) → Paired (PosAt (upd H11 lt (.lst (L'.map fun q => V.ref q.1)))) (Lx.map (·.1)) (Lx.map (·.2)) := by
            intro Lx
            induction Lx with
            | nil => intro _; exact .nil
            | cons y Lx ih =>
              intro hL
              refine .cons ?_ (ih fun q hq => hL q (List.mem_cons_of_mem _ hq))
              have h1 := hL y List.mem_cons_self
              show upd H11 lt _ y.1 = _
              rw [upd_ne (ne_of_none (show H11 y.1 = _ from h1) hlt)]
              exact h1
          exact this L' fun q hq => d2 q (hperm.mem_iff.mp hq)
        have hltH : H lt = none := fo core.k core.m core.s (s11.free hlt)
        have hltrl : lt ≠ rl := fun e => by
          obtain ⟨as, z, _⟩ := core.r
          have := s11.free hlt
          rw [e, z] at this
          cases this
        have core := core.same s12
        generalize upd H11 lt (.lst (L'.map fun q => V.ref q.1)) = H12 at lat core ⊢
        generalize nextL x.m layer = later at lat hspi
        clear s11 s12 d1 d2 d3 d4 hperm hsort hnd elat hlt u10 v10 hl10 a1 a2
        refine ⟨by show 0 ≤ sizeLine; decide, fun ly2 hly2 => ?_⟩
        have s13 : Same H12 (upd H12 ly2 (.lst [])) := same_upd hly2
        have lay0 : ListsAt (upd H12 ly2 (.lst [])) ly2 [] := ⟨[], upd_same, .nil⟩
        have hly2H : H ly2 = none := fo core.k core.m core.s hly2
        have hly2rl : ly2 ≠ rl := fun e => by
          obtain ⟨as, z, _⟩ := core.r
          rw [e, z] at hly2
          cases hly2
        have hly2lt : ly2 ≠ lt := fun e => by
          obtain ⟨as, z, _⟩ := lat
          rw [e, z] at hly2
          cases hly2
        have core := core.same s13
        have lat := lat.same s13
        generalize upd H12 ly2 (.lst []) = H13 at lay0 core lat ⊢
        dsimp only [gName, List.set]
        have hll := spIn_len hspi (Nat.zero_le _) hreps
        have hlay2 : ∀ h ∈ layer2, h.length ≤ 28 := fun h hh => (spIn_lay hspi h hh).elim (fun z => nomatch z) fun z => sgOk_len h0t z
        obtain ⟨bs, b1, b2⟩ := id lat
        have hbl := Paired.length b2
        refine ⟨_, rfl, lt, rfl, ⟨_, SqL.of b1⟩, for_it (walk_list (K := K) (a := lt) (xs := bs.map V.ref)) (fun i σ' H' => ∃ (reps' : List (List Int)) (pl' : Pl) (lay' : List (List Int)) (v2 v4 : Option V), σ' = [some (.ref s), some (.ref ly2), v2, some (.ref lt), v4, none] ∧ Core P w CS x s dxs tl rl pd H H' reps' pl' ∧ ListsAt H' ly2 lay' ∧
            H' lt = some (.lst (bs.map V.ref)) ∧ Paired (PosAt H') bs later ∧ lay'.length ≤ reps'.length ∧ reps'.length ≤ 51 ∧ pl'.length = reps'.length ∧ spIn x.L x.m tests (later.drop i) reps' pl' lay' = some (reps2, pl2, layer2))
          ⟨reps, pl, [], v2, v4, rfl, core, lay0, b1, b2, Nat.zero_le _, hreps, hplen, hspi⟩ (fun i σ' H' _ ⟨_, _, _, _, _, _, _, _, e, _⟩ => SqL.of e) ?_ ?_⟩
        · rintro i y σ' H14 H15 hi ⟨reps', pl', lay', v2, v4, rfl, core, l1, l2, l3, l4, l5, l6, l7⟩ ⟨rfl, hy⟩
          obtain ⟨ga, hga, rfl⟩ := map_get hy
          obtain ⟨g, hg, hgat⟩ := paired_get' l3 hga
          have hil := (List.getElem?_eq_some_iff.mp hg).1
          have hdrop : later.drop i = g :: later.drop (i + 1) := by
            rw [List.drop_eq_getElem_cons hil]
            congr 1
            exact (List.getElem?_eq_some_iff.mp hg).2
          rw [hdrop, spIn] at l7
          by_cases c : sgOk x.m tests g = true ∧ reps'.length < 50
          case neg => rw [if_neg c] at l7; cases l7
          rw [if_pos c] at l7
          refine ⟨_, rfl, s, dxs, _, rfl, core.s, rfl, _, rfl, x, ok, s, dxs, tl, rl, pd, ga, g, tests, rfl, core.s, tlOf core.k, htn, hgat, c.1, stOf core.k, core.m, fun H16 b kb16 m16 hb hb16 => ?_⟩
          have l1 := kb16.lists core.m l1
          have l2' : H16 lt = some (.lst (bs.map V.ref)) := kb16 _ _ l2 (by obtain ⟨ks, k1, _⟩ := core.m; exact ne_of l2 k1 (fun z => nomatch z))
          have tk16 := Tk.kb kb16 core.m
          have l3 := paired_mono (fun a h (z : PosAt H15 a h) => (tk16 a _ z : PosAt H16 a h)) l3
          have hgat := tk16 _ _ hgat
          have core := core.kb kb16 m16
          dsimp only [gName, List.set]
          obtain ⟨ks, dn, hks⟩ := core.p.dn (K := K)
          refine ⟨_, rfl, _, rfl, s, CS, dxs, _, _, rfl, core.s, TD.cl, TD.pl, srF_places _ _ _ _ _, b, pd, keyB (sgn x.L tests g), plRows ks pl', rfl, rfl, dn, .inl ⟨_, rfl, SqT.of hb16⟩, _, rfl, ?_⟩
          rw [lk_pl _ hks]
          cases elk : lkP pl' (sgn x.L tests g) with
          | some z =>
            rw [elk] at l7
            exact iteF ⟨reps', pl', lay', _, _, rfl, core, l1, l2', l3, l4, l5, l6, l7⟩
          | none =>
            rw [elk] at l7
            have l7 : spIn x.L x.m tests (later.drop (i + 1)) (reps' ++ [g]) (pl' ++ [(sgn x.L tests g, (reps'.length : Int))]) (lay' ++ [g]) = some (reps2, pl2, layer2) := l7
            obtain ⟨ra, r1, r2⟩ := id core.r
            have hral := Paired.length r2
            refine iteT ⟨_, rfl, s, CS, dxs, _, _, rfl, core.s, TD.cl, TD.re, srF_reps _ _ _ _ _, rl, _, rfl, .inl (SqL.of r1), rfl, _, rfl, ?_⟩
            rw [decI, List.length_map, hral, decide_eq_false (by omega)]
            refine iteF ?_
            refine ⟨_, rfl, s, CS, dxs, _, _, rfl, core.s, TD.cl, TD.re, srF_reps _ _ _ _ _, rl, _, rfl, .inl (SqL.of r1), ?_⟩
            rw [List.length_map, hral]
            have hlno : lkN (plRows ks pl') (keyB (sgn x.L tests g)) = none := by rw [lk_pl _ hks, elk] <;> rfl
            have hrl : (plRows ks pl').length < 100000 := by
              unfold plRows
              rw [List.length_map, List.length_zip, Paired.length hks]
              omega
            refine ⟨_, rfl, s, CS, dxs, _, _, rfl, core.s, TD.cl, TD.pl, srF_places _ _ _ _ _, _, rfl, pd, b, keyB (sgn x.L tests g), plRows ks pl', rfl, rfl, dn, .inl ⟨_, rfl, SqT.of hb16⟩, hlno, hrl, ?_⟩
            have dat := dn.at_
            have n1 : s ≠ pd := ne_of core.s dat (fun z => nomatch z)
            have n2 : rl ≠ pd := ne_of r1 dat (fun z => nomatch z)
            obtain ⟨ya, y1, y2⟩ := id l1
            have n3 : ly2 ≠ pd := ne_of y1 dat (fun z => nomatch z)
            have n4 : lt ≠ pd := ne_of l2' dat (fun z => nomatch z)
            have n5 : x.kd ≠ pd := by obtain ⟨ks, k1, _⟩ := core.m; exact ne_of k1 dat (fun z => nomatch z)
            have eDN : plRows ks pl' ++ [(keyB (sgn x.L tests g), b, V.int (reps'.length : Int))] = plRows (ks ++ [b]) (pl' ++ [(sgn x.L tests g, (reps'.length : Int))]) := (plRows_snoc hks b (sgn x.L tests g, (reps'.length : Int))).symm
            rw [eDN]
            have tkA : Tk H16 (upd H16 pd (DN P w pd (plRows (ks ++ [b]) (pl' ++ [(sgn x.L tests g, (reps'.length : Int))])))) := fun a xs h => by
              rw [upd_ne (ne_of h dat (fun z => nomatch z))]
              exact h
            have pA : PlAt P w (upd H16 pd (DN P w pd (plRows (ks ++ [b]) (pl' ++ [(sgn x.L tests g, (reps'.length : Int))])))) pd (pl' ++ [(sgn x.L tests g, (reps'.length : Int))]) :=
              ⟨ks ++ [b], upd_same, paired_snoc (paired_mono (fun a p z => tkA _ _ z) hks) (tkA _ _ hb16)⟩
            have oA : ∀ {c : Addr} {o : HO}, H16 c = some o → c ≠ pd → upd H16 pd (DN P w pd (plRows (ks ++ [b]) (pl' ++ [(sgn x.L tests g, (reps'.length : Int))]))) c = some o := fun {c o} h hn => by
              rw [upd_ne hn]
              exact h
            have kA : Kb2 s x.kd H (upd H16 pd (DN P w pd (plRows (ks ++ [b]) (pl' ++ [(sgn x.L tests g, (reps'.length : Int))])))) := fun c o h1 h2 h3 => oA (core.k c o h1 h2 h3) (ne_of_none h1 hpdH)
            have mA := core.m.upd_ (o := DN P w pd (plRows (ks ++ [b]) (pl' ++ [(sgn x.L tests g, (reps'.length : Int))]))) n5
            have sA := oA core.s n1
            have r1A := oA r1 n2
            have r2A := paired_mono (fun a h (z : PosAt H16 a h) => (tkA a _ z : PosAt (upd H16 pd (DN P w pd (plRows (ks ++ [b]) (pl' ++ [(sgn x.L tests g, (reps'.length : Int))])))) a h)) r2
            have y1A := oA y1 n3
            have y2A := paired_mono (fun a h (z : PosAt H16 a h) => (tkA a _ z : PosAt (upd H16 pd (DN P w pd (plRows (ks ++ [b]) (pl' ++ [(sgn x.L tests g, (reps'.length : Int))])))) a h)) y2
            have l2A := oA l2' n4
            have l3A := paired_mono (fun a h (z : PosAt H16 a h) => (tkA a _ z : PosAt (upd H16 pd (DN P w pd (plRows (ks ++ [b]) (pl' ++ [(sgn x.L tests g, (reps'.length : Int))])))) a h)) l3
            have gA := tkA _ _ hgat
            generalize upd H16 pd (DN P w pd (plRows (ks ++ [b]) (pl' ++ [(sgn x.L tests g, (reps'.length : Int))]))) = HA at tkA pA oA kA mA sA r1A r2A y1A y2A l2A l3A gA ⊢
            refine ⟨_, rfl, s, CS, dxs, _, _, rfl, sA, TD.cl, TD.re, srF_reps _ _ _ _ _, .inl ⟨rfl, _, SqL.of r1A⟩, _, rfl, rl, _, _, rfl, rfl, r1A, by rw [List.length_map, hral]; exact small_line' (by omega), ?_⟩
            have srl : s ≠ rl := ne_of sA r1A (fun z => nomatch z)
            have krl : x.kd ≠ rl := by obtain ⟨ks, k1, _⟩ := mA; exact ne_of k1 r1A (fun z => nomatch z)
            have pdrl : pd ≠ rl := by obtain ⟨ks, k1, _⟩ := pA; exact ne_of k1 r1A (fun z => nomatch z)
            have tkB : Tk HA (upd HA rl (.lst (ra.map V.ref ++ [.ref ga]))) := fun a xs h => by
              rw [upd_ne (ne_of h r1A (fun z => nomatch z))]
              exact h
            have oB : ∀ {c : Addr} {o : HO}, HA c = some o → c ≠ rl → upd HA rl (.lst (ra.map V.ref ++ [.ref ga])) c = some o := fun {c o} h hn => by
              rw [upd_ne hn]
              exact h
            have rB : ListsAt (upd HA rl (.lst (ra.map V.ref ++ [.ref ga]))) rl (reps' ++ [g]) := lists_snoc r1A r2A gA
            have pB := pA.upd_ (o' := .lst (ra.map V.ref ++ [.ref ga])) r1A (fun xs z => by cases z) pdrl
            have mB := mA.upd_ (o := .lst (ra.map V.ref ++ [.ref ga])) krl
            have kB : Kb2 s x.kd H (upd HA rl (.lst (ra.map V.ref ++ [.ref ga]))) := fun c o h1 h2 h3 => oB (kA c o h1 h2 h3) (ne_of_none h1 hrlH)
            have sB := oB sA srl
            have y1B := oB y1A hly2rl
            have y2B := paired_mono (fun a h (z : PosAt HA a h) => (tkB a _ z : PosAt (upd HA rl (.lst (ra.map V.ref ++ [.ref ga]))) a h)) y2A
            have l2B := oB l2A hltrl
            have l3B := paired_mono (fun a h (z : PosAt HA a h) => (tkB a _ z : PosAt (upd HA rl (.lst (ra.map V.ref ++ [.ref ga]))) a h)) l3A
            have gB := tkB _ _ gA
            generalize upd HA rl (.lst (ra.map V.ref ++ [.ref ga])) = HB at tkB oB rB pB mB kB sB y1B y2B l2B l3B gB ⊢
            have hyl := Paired.length y2B
            refine ⟨_, rfl, .inl ⟨rfl, _, SqL.of y1B⟩, _, rfl, ly2, _, _, rfl, rfl, y1B, by rw [List.length_map, hyl]; exact small_line' (by omega), ?_⟩
            have sly : s ≠ ly2 := ne_of sB y1B (fun z => nomatch z)
            have kly : x.kd ≠ ly2 := by obtain ⟨ks, k1, _⟩ := mB; exact ne_of k1 y1B (fun z => nomatch z)
            have pdly : pd ≠ ly2 := by obtain ⟨ks, k1, _⟩ := pB; exact ne_of k1 y1B (fun z => nomatch z)
            have tkC : Tk HB (upd HB ly2 (.lst (ya.map V.ref ++ [.ref ga]))) := fun a xs h => by
              rw [upd_ne (ne_of h y1B (fun z => nomatch z))]
              exact h
            have hll2 : lay'.length ≤ reps'.length ∨ True := .inr trivial
            refine ⟨reps' ++ [g], pl' ++ [(sgn x.L tests g, (reps'.length : Int))], lay' ++ [g], _, _, rfl, ⟨fun c o h1 h2 h3 => ?_, mB.upd_ kly, ?_, rB.upd_ y1B (fun xs z => by cases z) (Ne.symm hly2rl), pB.upd_ y1B (fun xs z => by cases z) pdly⟩, lists_snoc y1B y2B gB, ?_, paired_mono (fun a h z => tkC a _ z) l3B, ?_, ?_, ?_, l7⟩
            · rw [upd_ne (ne_of_none h1 hly2H)]
              exact kB c o h1 h2 h3
            · rw [upd_ne sly]
              exact sB
            · rw [upd_ne (Ne.symm hly2lt)]
              exact l2B
            · rw [List.length_append, List.length_append]
              simp
              omega
            · rw [List.length_append, List.length_singleton]
              omega
            · rw [List.length_append, List.length_append, l6] <;> rfl
        · rintro σ' H14 ⟨reps', pl', lay', v2, v4, rfl, core, l1, l2, l3, l4, l5, l6, l7⟩
          have e : (bs.map V.ref).length = later.length := by rw [List.length_map]; exact hbl
          rw [e, List.drop_length] at l7
          have l7 : some (reps', pl', lay') = some (reps2, pl2, layer2) := l7
          cases l7
          exact ⟨ly2, layer2, reps2, pl2, v2, _, v4, rfl, core, l1, hly2rl, hly2H, hll.2, l6, hlay2, hsp9⟩
end
end QT
set_option Elab.async false
set_option linter.all false
set_option maxRecDepth 100000
set_option maxHeartbeats 4000000
namespace QT
open PySem PySem.Spec PyProof.Rows L2
theorem lists_rows {H : Hp} {lt : Addr} (hlt : H lt = none) : ∀ {L' : List (Addr × List Int)} (hq : ∀ q ∈ L', PosAt H q.1 q.2), ListsAt (upd H lt (.lst (L'.map fun q => V.ref q.1))) lt (L'.map (·.2)) := by
  intro L' hq
  refine ⟨L'.map (·.1), by rw [upd_same, List.map_map] <;> rfl, ?_⟩
  have : ∀ (o : HO) (Lx : List (Addr × List Int)), (∀ q ∈ Lx, PosAt H q.1 q.2) → Paired (PosAt (upd H lt o)) (Lx.map (·.1)) (Lx.map (·.2)) := by
    intro o Lx
    induction Lx with
    | nil => intro _; exact .nil
    | cons y Lx ih =>
      intro hL
      refine .cons ?_ (ih fun q hq => hL q (List.mem_cons_of_mem _ hq))
      have h1 := hL y List.mem_cons_self
      show upd H lt o y.1 = _
      rw [upd_ne (ne_of_none (show H y.1 = _ from h1) hlt)]
      exact h1
  exact this _ L' hq
abbrev sParts : Stmt := top 27
abbrev nParts : List Str := ["heaps", "found", "size", "more", "part"]
theorem scParts : FnScope nParts ["heaps"] (defScope sParts) := ⟨rfl, rfl, rfl, by decide +kernel, rfl, by decide +kernel, by decide +kernel⟩
def spParts : Sp := fun vs H Q _ => ∃ p h, vs = [.ref p] ∧ PosAt H p h ∧ h.length ≤ 1000 ∧ partsOk [[]] h = true ∧ ∀ H' l, Same H H' → H l = none → ListsAt H' l (partsM [[]] h) → Q (.ref l) H'
theorem cr_setOfTw {X : Cx} {P : Program} {w : World} {K : PySem.W.Frag} (h1 : X.prog = P) (h2 : X.w = w) (h3 : X.K = K) (hc : X.calm = true) (hu : X.A.units + 64 < cLine) : CallR X (.type "set") (rSetOfT K P w) := by
  subst h1 h2 h3
  exact cr_setOfT hc hu
theorem lostAt_snoc (L : List Int → Bool) (h : List Int) : ∀ (hs : List (List Int)) (i : Nat), lostAt L i (hs ++ [h]) = lostAt L i hs ++ (if L h = true then [((i + hs.length : Nat) : Int)] else [])
  | [], i => by
    show lostAt L i [h] = [] ++ _
    rw [lostAt]
    by_cases c : L h = true
    · rw [if_pos c, if_pos c] <;> rfl
    · rw [if_neg c, if_neg c] <;> rfl
  | g :: hs, i => by
    show lostAt L i (g :: (hs ++ [h])) = lostAt L i (g :: hs) ++ _
    rw [lostAt, lostAt, lostAt_snoc L h hs (i + 1), List.length_cons, show i + 1 + hs.length = i + (hs.length + 1) by omega]
    by_cases c : L g = true
    · rw [if_pos c, if_pos c] <;> rfl
    · rw [if_neg c, if_neg c]
theorem lostAt_len (L : List Int → Bool) : ∀ (hs : List (List Int)) (i : Nat), (lostAt L i hs).length ≤ hs.length
  | [], i => Nat.le_refl _
  | g :: hs, i => by
    rw [lostAt]
    have := lostAt_len L hs (i + 1)
    split
    · rw [List.length_cons, List.length_cons]; omega
    · rw [List.length_cons]; omega
theorem faultM_mem {lost : List Int} : ∀ {es : List Ent} {hw : List Int}, faultM lost es = some hw → ∃ e ∈ es, e.2 = hw
  | [], _, h => by cases h
  | e :: es, hw, h => by
    rw [faultM] at h
    by_cases c : bad lost e = true
    · rw [if_pos c] at h
      exact ⟨e, List.mem_cons_self, Option.some.inj h⟩
    · rw [if_neg c] at h
      obtain ⟨e2, h1, h2⟩ := faultM_mem h
      exact ⟨e2, List.mem_cons_of_mem _ h1, h2⟩
abbrev sTried : Stmt := top 28
abbrev nTried : List Str := ["search", "table", "images", "lost", "found", "wrong", "size", "at", "heaps"]
theorem scTried : FnScope nTried ["search"] (defScope sTried) := ⟨rfl, rfl, rfl, by decide +kernel, rfl, by decide +kernel, by decide +kernel⟩
def spTried (P : Program) (w : World) (CS : Addr) (x : SX) : Sp := fun vs H Q _ => ∃ s dxs tl rl pd tests reps pl r, vs = [.ref s] ∧ H s = some (.ins CS dxs (srF x.a x.m tl rl pd)) ∧ ListsAt H tl tests ∧ tests.length ≤ 100 ∧ ListsAt H rl reps ∧ reps.length ≤ 60 ∧ PlAt P w H pd pl ∧
  (∀ h ∈ reps, h.Pairwise (· ≤ ·)) ∧ Stat x.G H ∧ Memo x.L x.m x.kd H ∧ triedM x.mv x.L x.m tests reps pl = some r ∧
  (∀ t lost im, r = .inl (t, lost, im) → ∀ H' p q ta la ia ea, Kb x.kd H H' → Memo x.L x.m x.kd H' → H' p = some (.tup [.ref q, .ref ea]) → H' q = some (.tup [.ref ta, .ref la, .ref ia]) → TabAt H' ta t → PosAt H' la lost → PosAt H' ia im → Q (.ref p) H') ∧
  (∀ hw, r = .inr hw → hw.length ≤ 1000 → ∀ H' p c, Kb x.kd H H' → Memo x.L x.m x.kd H' → H' p = some (.tup [.non, .ref c]) → PosAt H' c hw → Q (.ref p) H')
def spTriedX (P : Program) (w : World) (CL CS : Addr) : Sp := fun vs H Q E => ∃ x : SX, SXok CL x ∧ spTried P w CS x vs H Q E
section
variable {P : Program} {w : World} {K : PySem.W.Frag} {mg : Str → Option Value} {base : Heap} {f f1 f2 f3 f4 f5 f6 f7 CL CS a kd : Addr} {fd fd1 fd2 fd3 fd4 fd5 fd6 fd7 : FuncData}
theorem ok_parts (F : FnP K "parts_of" sParts f fd) (T : Tx mg) : FnOk P w K mg base CX0 1 f fd ["heaps"] spParts := by
  refine F.ok scParts (fun vs H Q E h => ?_) (fun cdv A outer s H vs Q E hr h => ⟨_, PSs.nox
    (pss_cons (ps_set (i := 1) scParts.nd rfl (Or.inl rfl) (pe_lst (pa_cons (pe_tup pa_nil) pa_nil)))
    (pss_cons (ps_for PassesOwn.never rfl (pi_tup (pv 0)) (pg_name (i := 2) scParts.nd rfl (.inr rfl))
      (pss_cons (ps_setLc (i := 3) (own := [("part", 4)]) (g := gName 4) (tt := tYes) rfl scParts.nd rfl rfl (sw_true rfl rfl rfl (by decide +kernel)) (pi_list (pv 1)) (blkOk_by (N := nParts) (sc := defScope sParts) (by decide +kernel)) (fun _ _ _ _ _ => pg_name (i := 4) scParts.nd rfl (Or.inl rfl)) (fun _ _ _ _ _ => pts_nil)
        (fun _ _ _ _ _ => pe_callTy (call_tupleK (K := K) rfl) rfl T.tuple (by decide +kernel) (pa_cons (pe_callB (cr_sortTIK (K := K) rfl) rfl T.sorted (by decide +kernel) (pa_cons (pe_tup (pa_starK (K := K) rfl (pv 4) (pa_cons (pv 2) pa_nil))) pa_nil)) pa_nil)))
      (pss_one (ps_set (i := 1) scParts.nd rfl (Or.inl rfl) (pe_callB (cr_sortSTw (P := P) (w := w) (K := K) rfl rfl rfl rfl hr.units) rfl T.sorted (by decide +kernel) (pa_cons (pe_callTy (cr_setOfTw (P := P) (w := w) (K := K) rfl rfl rfl rfl hr.units) rfl T.set (by decide +kernel) (pa_cons (pe_op op_cat (pv 1) (pv 3)) pa_nil)) pa_nil))))))
    (pss_one (ps_ret (pv 1))))), ?_⟩)
  · obtain ⟨p, h, rfl, _⟩ := h
    rfl
  · obtain ⟨p, h, rfl, hp, hlen, hok, q⟩ := h
    refine ⟨by show 0 ≤ sizeLine; decide, fun e1 he1 => ⟨by show 1 ≤ sizeLine; decide, fun l hl => ?_⟩⟩
    have u1 : Same H (upd (upd H e1 (.tup [])) l (.lst [.ref e1])) := same_new (same_upd he1) ((same_upd he1).free hl)
    have v1 : ListsAt (upd (upd H e1 (.tup [])) l (.lst [.ref e1])) l [[]] := by
      have n1 : e1 ≠ l := fun e => by rw [← e, upd_same] at hl; cases hl
      exact ⟨[e1], upd_same, .cons (by show upd _ l _ e1 = _; rw [upd_ne n1, upd_same]; rfl) .nil⟩
    have hlH := (same_upd (o := .tup []) he1).free hl
    generalize upd (upd H e1 (.tup [])) l (.lst [.ref e1]) = H1 at u1 v1 ⊢
    dsimp only [gName, List.set]
    refine ⟨_, rfl, p, rfl, ⟨_, SqT.of (u1 _ _ hp)⟩, for_tup (K := K) (a := p) (xs := h.map V.int) (fun i σ' H' => ∃ (found : List (List Int)) (l : Addr) (v2 v3 : Option V), σ' = [some (.ref p), some (.ref l), v2, v3, none] ∧ ListsAt H' l found ∧ H l = none ∧ Same H H' ∧ partsM found (h.drop i) = partsM [[]] h ∧ partsOk found (h.drop i) = true ∧ ∀ g ∈ found, g.length ≤ i)
      ⟨[[]], l, none, none, rfl, v1, hlH, u1, rfl, hok, fun g hg => by rw [List.mem_singleton.mp hg]; exact Nat.zero_le _⟩ (fun i σ' H' _ ⟨_, _, _, _, _, _, _, e, _⟩ => SqT.of (e _ _ hp)) ?_ ?_⟩
    · rintro i y σ' H2 hy ⟨found, l, v2, v3, rfl, hf, hlH, s2, hpm, hpo, hfl⟩
      obtain ⟨sz, hsz, rfl⟩ := map_get hy
      have hil := (List.getElem?_eq_some_iff.mp hsz).1
      have hdrop : h.drop i = sz :: h.drop (i + 1) := by
        rw [List.drop_eq_getElem_cons hil]
        congr 1
        exact (List.getElem?_eq_some_iff.mp hsz).2
      rw [hdrop, partsM] at hpm
      rw [hdrop, partsOk, Bool.and_eq_true, decide_eq_true_eq] at hpo
      obtain ⟨as, a1, a2⟩ := id hf
      have hal := Paired.length a2
      refine ⟨_, rfl, l, rfl, ⟨_, SqL.of a1⟩, fun D hD => ?_⟩
      refine lc_it (walk_list (K := K) (a := l) (xs := as.map V.ref)) (fun j H' => ∃ bs : List Addr, H' D = some (.lst (bs.map V.ref)) ∧ Paired (PosAt H') bs ((found.take j).map fun p => srt (p ++ [sz])) ∧ Same H2 H')
        ⟨[], upd_same, by rw [List.take_zero]; exact .nil, same_upd hD⟩ (fun j H' _ ⟨_, _, _, e⟩ => SqL.of (e _ _ a1)) ?_ ?_
      · rintro j y H3 H4 hj ⟨bs, b1, b2, s3⟩ ⟨rfl, hy⟩
        obtain ⟨ra, hra, rfl⟩ := map_get hy
        obtain ⟨g, hg, hgat⟩ := paired_get' a2 hra
        have hgl := hfl g (List.mem_of_getElem? hg)
        have hjl := (List.getElem?_eq_some_iff.mp hg).1
        have ecat : g.map V.int ++ [V.int sz] = (g ++ [sz]).map V.int := by rw [List.map_append] <;> rfl
        refine ⟨rfl, _, rfl, ra, _, rfl, .inl (SqT.of (s3 _ _ hgat)), _, rfl, ?_⟩
        dsimp only [tNil]
        rw [ecat]
        refine ⟨by rw [List.length_map, List.length_append, List.length_singleton]; exact small_line (by omega), fun q1 hq1 => ?_⟩
        have t5 : Same H4 (upd H4 q1 (.tup ((g ++ [sz]).map V.int))) := same_upd hq1
        have e5 : PosAt (upd H4 q1 (.tup ((g ++ [sz]).map V.int))) q1 (g ++ [sz]) := upd_same
        generalize upd H4 q1 (.tup ((g ++ [sz]).map V.int)) = H5 at t5 e5 ⊢
        refine ⟨q1, _, rfl, SqT.of e5, fun ns' q2 hperm hsorted hq2 => ?_⟩
        obtain rfl := srt_uniq hperm hsorted
        have t6 := same_new (o := .lst ((srt (g ++ [sz])).map V.int)) t5 (t5.free hq2)
        have e6 : upd H5 q2 (.lst ((srt (g ++ [sz])).map V.int)) q2 = some (.lst ((srt (g ++ [sz])).map V.int)) := upd_same
        generalize upd H5 q2 (.lst ((srt (g ++ [sz])).map V.int)) = H6 at t6 e6 ⊢
        refine ⟨q2, _, rfl, .inl ⟨SqL.of e6, fun q3 hq3 => ?_⟩⟩
        have t7 := same_new (o := .tup ((srt (g ++ [sz])).map V.int)) t6 (t6.free hq3)
        have e7 : PosAt (upd H6 q3 (.tup ((srt (g ++ [sz])).map V.int))) q3 (srt (g ++ [sz])) := upd_same
        generalize upd H6 q3 (.tup ((srt (g ++ [sz])).map V.int)) = H7 at t7 e7 ⊢
        have b3 := t7 _ _ b1
        have hbl : bs.length = j := by
          rw [Paired.length b2, List.length_map, List.length_take]
          omega
        have ks : ∀ (a : Addr) (xs : List V), H7 a = some (.tup xs) → upd H7 D (.lst (bs.map V.ref ++ [.ref q3])) a = some (.tup xs) := fun a xs h => by
          rw [upd_ne (ne_of h b3 (fun z => nomatch z))]
          exact h
        refine ⟨_, b3, by rw [List.length_map, hbl]; exact small_line' (by omega), bs ++ [q3], by rw [upd_same, List.map_append] <;> rfl, ?_, same_new (s3.trans t7) hD⟩
        rw [take_succ hg, List.map_append]
        exact paired_snoc (paired_mono (fun a b z => ks _ _ (t7 _ _ z)) b2) (ks _ _ e7)
      · rintro H3 ⟨bs, b1, b2, s3⟩
        rw [List.length_map, hal, List.take_length] at b2
        have hbl := Paired.length b2
        rw [List.length_map] at hbl
        dsimp only [gName, List.set]
        have a1' := s3 _ _ a1
        have a2' := paired_mono (fun a h (z : PosAt H2 a h) => (s3 _ _ z : PosAt H3 a h)) a2
        refine ⟨_, rfl, _, rfl, l, D, _, _, rfl, rfl, a1', b1, by rw [List.length_map, List.length_map]; exact small_line (by omega), fun c hc => ?_⟩
        obtain ⟨z1, z2, z3⟩ := paired_zip a2'
        obtain ⟨y1, y2, y3⟩ := paired_zip b2
        have s4 : Same H3 (upd H3 c (.lst (as.map V.ref ++ bs.map V.ref))) := same_upd hc
        have c4 : upd H3 c (.lst (as.map V.ref ++ bs.map V.ref)) c = some (.lst (as.map V.ref ++ bs.map V.ref)) := upd_same
        generalize upd H3 c (.lst (as.map V.ref ++ bs.map V.ref)) = H4 at s4 c4 ⊢
        have kat : ∀ p ∈ as.zip found ++ bs.zip (found.map fun p => srt (p ++ [sz])), PosAt H4 p.1 p.2 := fun p hp => by
          rcases List.mem_append.mp hp with z | z
          · exact s4 _ _ (z3 p z)
          · exact s4 _ _ (y3 p z)
        have kmap : (as.zip found ++ bs.zip (found.map fun p => srt (p ++ [sz]))).map (·.2) = found ++ found.map fun p => srt (p ++ [sz]) := by rw [List.map_append, z2, y2]
        have klen : (as.zip found ++ bs.zip (found.map fun p => srt (p ++ [sz]))).length < 64 := by
          have := congrArg List.length kmap
          simp only [List.length_map, List.length_append] at this ⊢
          omega
        refine ⟨c, as.zip found ++ bs.zip (found.map fun p => srt (p ++ [sz])), rfl, SqL.of ?_, fun p hp => SqT.of (kat p hp), klen, fun sa Ls hsa hsub hall => ?_⟩
        · rw [c4, List.map_append]
          have g1 := congrArg (List.map V.ref) z1
          have g2 := congrArg (List.map V.ref) y1
          rw [List.map_map] at g1 g2
          rw [show (fun p : Addr × List Int => V.ref p.1) = V.ref ∘ (fun p : Addr × List Int => p.1) from rfl, g1, g2]
        have s5 := same_new (o := SetTO P w sa Ls) s4 (s4.free hsa)
        have d5 : upd H4 sa (SetTO P w sa Ls) sa = some (SetTO P w sa Ls) := upd_same
        have p5 : ∀ p ∈ Ls, PosAt (upd H4 sa (SetTO P w sa Ls)) p.1 p.2 := fun p hp => by
          show upd H4 sa _ p.1 = _
          rw [upd_ne (ne_of_none (show H4 p.1 = _ from kat p (hsub p hp)) hsa)]
          exact kat p (hsub p hp)
        generalize upd H4 sa (SetTO P w sa Ls) = H5 at s5 d5 p5 ⊢
        refine ⟨sa, Ls, rfl, d5, fun p hp => SqT.of (p5 p hp), fun L' lt hnd hperm hsort hlt => ?_⟩
        have elat : L'.map (·.2) = lsort (found ++ found.map fun p => srt (p ++ [sz])) := by
          refine lsort_rows hsort ((hperm.map (·.2)).nodup_iff.mpr hnd) fun z => ?_
          rw [(hperm.map (·.2)).mem_iff, ← kmap]
          constructor
          · intro hz
            obtain ⟨p, hp, e⟩ := List.mem_map.mp hz
            exact List.mem_map.mpr ⟨p, hsub p hp, e⟩
          · intro hz
            obtain ⟨p, hp, e⟩ := List.mem_map.mp hz
            rw [← e]
            exact hall p hp
        have lat := lists_rows hlt (L' := L') fun q hq => p5 q (hperm.mem_iff.mp hq)
        rw [elat] at lat
        have s6 := s2.trans (s3.trans s5)
        refine ⟨_, lt, _, _, rfl, lat, s6.free hlt, same_new s6 (s6.free hlt), hpm, hpo.2, fun g hg => ?_⟩
        rcases List.mem_append.mp (lsort_mem.mp hg) with z | z
        · have := hfl g z
          omega
        · obtain ⟨g0, hg0, rfl⟩ := List.mem_map.mp z
          have := hfl g0 hg0
          rw [(srt_perm _).length_eq, List.length_append, List.length_singleton]
          omega
    · rintro σ' H2 ⟨found, l, v2, v3, rfl, hf, hlH, s2, hpm, hpo, hfl⟩
      rw [List.length_map, List.drop_length, partsM] at hpm
      rw [hpm] at hf
      exact ⟨_, rfl, q _ l s2 hlH hf⟩
theorem ok_triedX (F : FnP K "tried" sTried f fd) (T : Tx mg) (TC : TL K CL) (TD : TS K CS) (c1 : CalM P w K mg base 32 CS "table" ["self"] (spTblX P w CL CS) f1 fd1) (c2 : Cal P w K mg base 3 "is_table" ["value"] spTable f2 fd2) (c3 : CalM P w K mg base 31 CS "place" ["self", "heaps"] (spPlaceX P w CL CS) f3 fd3)
    (c4 : CalM P w K mg base 29 CL "loses" ["self", "heaps"] (spLosesX CL) f4 fd4) (c5 : Cal P w K mg base 2 "pairs_of" ["late", "most", "table", "images"] (spPairsX P w CL) f5 fd5) (c6 : Cal P w K mg base 1 "first_fault" ["found", "lost"] (spFault P w) f6 fd6) :
    FnOk P w K mg base CX0 33 f fd ["search"] (spTriedX P w CL CS) := by
  refine F.ok scTried (fun vs H Q E h => ?_) (fun cdv A outer s H vs Q E hr h => ⟨_, PSs.nox
    (pss_cons (ps_set (i := 1) scTried.nd rfl (Or.inl rfl) (pe_meth0 (pv 0) TD.cl c1.m c1.ok (hr.mono (by decide)) c1.b .nil pass0))
    (pss_cons (ps_if (PW.pt (pw_or (pt_cmpR op_isN (pv 1) pe_non (nomark _)) (pw_or1 (pt_not (pt_val (pe_call c2.ok (hr.mono (by decide)) rfl c2.g c2.kp c2.b .nil pass0 (pa_cons (pv 1) pa_nil))))))) (pss_one ps_never) pss_nil)
    (pss_cons (ps_set (i := 2) scTried.nd rfl (Or.inl rfl) (pe_callTy call_tuple_of rfl T.tuple (by decide +kernel) (pa_cons (pe_lc (own := [("size", 6)]) (g := gName 6) (tt := tYes) rfl scTried.nd (pi_range2 rfl T.range (pa_cons pe_int (pa_cons (pe_op op_add (pe_fld (pv 0) rfl) pe_int) pa_nil))) (blkOk_by (N := nTried) (sc := defScope sTried) (by decide +kernel)) (fun _ _ _ _ _ => pg_name (i := 6) scTried.nd rfl (Or.inl rfl)) (fun _ _ _ _ _ => pts_nil)
      (fun _ _ _ _ _ => pe_meth (pv 0) TD.cl c3.m c3.ok (hr.mono (by decide)) c3.b .nil pass0 (pa_cons (pe_tup (pa_cons (pv 6) pa_nil)) pa_nil))) pa_nil)))
    (pss_cons (ps_set (i := 3) scTried.nd rfl (Or.inl rfl) (pe_callTy call_tuple_of rfl T.tuple (by decide +kernel) (pa_cons (pe_lc (own := [("at", 7), ("heaps", 8)]) (g := gTup K 2 (gCons (gName 7) (gCons (gName 8) gNil))) rfl scTried.nd (pi_enum rfl T.enumerate (pa_cons (pe_fld (pv 0) rfl) pa_nil)) (blkOk_by (N := nTried) (sc := defScope sTried) (by decide +kernel))
        (fun _ _ _ _ _ => pg_tupK (K := K) rfl rfl (pgs_cons (pg_name (i := 7) scTried.nd rfl (.inl rfl)) (pgs_cons (pg_name (i := 8) scTried.nd rfl (.inl rfl)) pgs_nil))) (fun _ _ _ _ _ => pts_one (pt_val (pe_meth (pe_fldK (K := K) rfl (pv 0) rfl) TC.cl c4.m c4.ok (hr.mono (by decide)) c4.b .nil pass0 (pa_cons (pv 8) pa_nil)))) (fun _ _ _ _ _ => pv 7)) pa_nil)))
    (pss_cons (ps_set (i := 4) scTried.nd rfl (Or.inl rfl) (pe_call c5.ok (hr.mono (by decide)) rfl c5.g c5.kp c5.b .nil pass0 (pa_cons (pe_fld (pv 0) rfl) (pa_cons (pe_fld (pv 0) rfl) (pa_cons (pv 1) (pa_cons (pv 2) pa_nil))))))
    (pss_cons (ps_set (i := 5) scTried.nd rfl (Or.inl rfl) (pe_call c6.ok (hr.mono (by decide)) rfl c6.g c6.kp c6.b .nil pass0 (pa_cons (pv 4) (pa_cons (pv 3) pa_nil))))
    (pss_one (ps_ret (pe_ifExp (pt_cmpR op_isN (pv 5) pe_non (nomark _)) (pe_tup (pa_cons (pe_tup (pa_cons (pv 1) (pa_cons (pv 3) (pa_cons (pv 2) pa_nil)))) (pa_cons (pe_tup pa_nil) pa_nil))) (pe_tup (pa_cons pe_non (pa_cons (pv 5) pa_nil)))))))))))), ?_⟩)
  · obtain ⟨x, ok, s, dxs, tl, rl, pd, tests, reps, pl, r, rfl, _⟩ := h
    rfl
  · obtain ⟨x, ok, s, dxs, tl, rl, pd, tests, reps, pl, r, rfl, hs, htl, htn, hrl, hrn, hpl, hso, hst, hM, htr, q1, q2⟩ := h
    unfold triedM at htr
    cases ht : tableM x.L x.m tests reps pl with
    | none => rw [ht] at htr; cases htr
    | some t =>
    rw [ht] at htr
    dsimp only at htr
    cases him : mapM' (fun s => placeM x.L x.m tests pl [s]) (sizes x.m) with
    | none => rw [him] at htr; cases htr
    | some im =>
    rw [him] at htr
    dsimp only at htr
    by_cases hc : tabOk t = true ∧ reps.all (vOk x.m) = true ∧ shOk x.m t [] im = true
    case neg => rw [if_neg hc] at htr; cases htr
    rw [if_pos hc] at htr
    obtain ⟨hc1, hc2, hc3⟩ := hc
    have M := mon_of hc1
    have S := ShOk.of hc3
    have hv := List.all_eq_true.mp hc2
    cases hes : pairsM t (stepsM x.mv t im x.m) 50 0 [((0, []), [])] with
    | none => rw [hes] at htr; cases htr
    | some es =>
    rw [hes] at htr
    dsimp only at htr
    have hlen28 : ∀ h ∈ reps, h.length ≤ 28 := fun h hh => by
      have := len_sum (vOk_of (hv h hh)).1
      have := (vOk_of (hv h hh)).2
      omega
    have fo : ∀ {H' : Hp} {b : Addr}, Kb x.kd H H' → Memo x.L x.m x.kd H' → H' b = none → H b = none := fun k m h => k.free hM.at m.at h
    refine ⟨_, rfl, s, dxs, _, rfl, hs, rfl, x, ok, s, dxs, tl, rl, pd, tests, reps, pl, t, rfl, hs, htl, htn, hrl, hrn, hpl, ht, hlen28, hst, hM, fun H1 tp k1 m1 htp htab => ?_⟩
    refine ⟨_, rfl, rfl, _, rfl, ?_⟩
    rw [show decide (V.ref tp = V.non) = false from decide_eq_false fun z => nomatch z]
    refine iteF ⟨_, rfl, tp, t, rfl, htab, M, fun H2 s2 => ⟨true, rfl, iteF ?_⟩⟩
    have k2 : Kb x.kd H H2 := k1.trans (Kb.of s2)
    have m2 := m1.same s2
    have htab := htab.keep (Tk.of s2)
    dsimp only [gName, List.set]
    clear k1 m1 s2
    have hims := mapM_paired him
    have hm3 := ok.cf.ok.most
    have himl := Paired.length hims
    have hszl : (sizes x.m).length = x.m := by unfold sizes; rw [List.length_map, List.length_range]
    have en : ((x.m : Int) + 1 - 1).toNat = x.m := by omega
    refine ⟨_, rfl, s, CS, dxs, _, _, rfl, k2.ins hM hs, TD.cl, TD.mo, srF_most _ _ _ _ _, _, _, rfl, rfl, 1, (x.m : Int) + 1, rfl, ⟨by decide, by decide, by omega, by omega⟩, fun D hD => ?_⟩
    have hDH := fo k2 m2 hD
    refine lc_range (lo := 1) (n := ((x.m : Int) + 1 - 1).toNat) (fun i H' => H' D = some (.lst ((im.take i).map V.int)) ∧ Kb x.kd H2 H' ∧ Memo x.L x.m x.kd H') ⟨upd_same, (Kb.refl _ _).new hD, m2.new hD⟩ ?_ ?_
    · rintro i H3 hi ⟨d3, k3, m3⟩
      rw [en] at hi
      have k4 := k2.trans k3
      have hsz : (sizes x.m)[i]? = some ((i : Int) + 1) := by
        unfold sizes
        rw [List.getElem?_map, List.getElem?_range hi] <;> rfl
      obtain ⟨z, hz, hzM⟩ := paired_get' hims hsz
      refine ⟨rfl, _, rfl, s, dxs, _, rfl, k4.ins hM hs, rfl, _, rfl, by show 1 ≤ sizeLine; decide, fun q3 hq3 => ?_⟩
      have k5 := k4.new (o := .tup [.int (1 + (i : Int))]) (fo k4 m3 hq3)
      have k5' := k3.new (o := .tup [.int (1 + (i : Int))]) (k3.free m2.at m3.at hq3)
      have m5 := m3.new (o := .tup [.int (1 + (i : Int))]) hq3
      have e5 : PosAt (upd H3 q3 (.tup [.int (1 + (i : Int))])) q3 [(i : Int) + 1] := by
        show upd H3 q3 _ q3 = _
        rw [upd_same, Int.add_comm] <;> rfl
      have d5 : upd H3 q3 (.tup [.int (1 + (i : Int))]) D = some (.lst ((im.take i).map V.int)) := by rw [upd_ne (ne_of_none d3 hq3)]; exact d3
      generalize upd H3 q3 (.tup [.int (1 + (i : Int))]) = H5 at k5 k5' m5 e5 d5 ⊢
      refine ⟨x, ok, s, dxs, tl, rl, pd, q3, [(i : Int) + 1], tests, pl, z, rfl, k5.ins hM hs, k5.lists hM htl, htn, k5.pl hM hpl, e5, hzM, k5.stat ok.li hst, m5, fun H6 k6 m6 => ?_⟩
      have hDk : D ≠ x.kd := by obtain ⟨ks, z1, _⟩ := m5; exact ne_of d5 z1 (fun z => nomatch z)
      refine ⟨_, k6 _ _ d5 hDk, by rw [List.length_map, List.length_take]; exact small_line' (by omega), ?_, (k5'.trans k6).new hD, m6.upd_ (Ne.symm hDk)⟩
      rw [upd_same, take_succ hz, List.map_append] <;> rfl
    · rintro H3 ⟨d3, k3, m3⟩
      rw [en] at d3
      have eim : im.take x.m = im := List.take_of_length_le (by omega)
      rw [eim] at d3
      refine ⟨D, _, rfl, .inl ⟨SqL.of d3, fun ia hia => ?_⟩⟩
      have k4 := (k2.trans k3).new (o := .tup (im.map V.int)) (fo (k2.trans k3) m3 hia)
      have m4 := m3.new (o := .tup (im.map V.int)) hia
      have e4 : PosAt (upd H3 ia (.tup (im.map V.int))) ia im := upd_same
      have htab4 : TabAt (upd H3 ia (.tup (im.map V.int))) tp t := (htab.keep (Tk.kb k3 m2)).keep fun b xs h => by
        rw [upd_ne (ne_of_none h hia)]
        exact h
      generalize upd H3 ia (.tup (im.map V.int)) = H4 at k4 m4 e4 htab4 ⊢
      dsimp only [gName, List.set]
      clear k3 m3 d3 k2 m2 hD hDH htab
      obtain ⟨bs, b1, b2⟩ := k4.lists hM hrl
      have hbl := Paired.length b2
      refine ⟨_, rfl, s, CS, dxs, _, _, rfl, k4.ins hM hs, TD.cl, TD.re, srF_reps _ _ _ _ _, rl, _, rfl, SqL.of b1, fun D hD => ?_⟩
      refine lc_it (walk_enum (K := K) (xs := bs.map V.ref)) (fun i H' => H' D = some (.lst ((lostAt x.L 0 (reps.take i)).map V.int)) ∧ Kb x.kd H4 H' ∧ Memo x.L x.m x.kd H') ⟨upd_same, (Kb.refl _ _).new hD, m4.new hD⟩ (fun i H' _ ⟨_, k, _⟩ => SqL.of ?_) ?_ ?_
      · obtain ⟨ks, z1, _⟩ := m4
        exact k _ _ b1 (ne_of b1 z1 (fun z => nomatch z))
      · rintro i v H5 H6 hi ⟨d5, k5, m5⟩ ⟨T1, y1, y2, rfl, hT, rfl, ex, ey⟩
        cases ex
        obtain ⟨ga, hga, rfl⟩ := map_get (show (bs.map V.ref)[i]? = some y2 from ey)
        obtain ⟨g, hg, hgat⟩ := paired_get' b2 hga
        have hil := (List.getElem?_eq_some_iff.mp hg).1
        have hgm := List.mem_of_getElem? hg
        have k6 := k5.new (o := .tup [.int (i : Nat), .ref ga]) (k5.free m4.at m5.at hT)
        have m6 := m5.new (o := .tup [.int (i : Nat), .ref ga]) hT
        have e6 : upd H5 T1 (.tup [.int (i : Nat), .ref ga]) T1 = some (.tup [.int (i : Nat), .ref ga]) := upd_same
        have d6 : upd H5 T1 (.tup [.int (i : Nat), .ref ga]) D = some (.lst ((lostAt x.L 0 (reps.take i)).map V.int)) := by rw [upd_ne (ne_of_none d5 hT)]; exact d5
        have g6 : PosAt (upd H5 T1 (.tup [.int (i : Nat), .ref ga])) ga g := by
          have z := k5.pos m4 hgat
          show upd H5 T1 _ ga = _
          rw [upd_ne (ne_of_none (show H5 ga = _ from z) hT)]
          exact z
        refine ⟨T1, _, rfl, SqT.of e6, rfl, _, _, rfl, _, _, rfl, rfl, rfl, ?_⟩
        generalize upd H5 T1 (.tup [.int (i : Nat), .ref ga]) = H6 at k6 m6 e6 d6 g6 ⊢
        have k7 := k4.trans k6
        obtain ⟨ml, dx, hins, _⟩ := id ok.li
        have st6 := k7.stat ok.li hst
        refine ⟨_, rfl, s, CS, dxs, _, _, rfl, k7.ins hM hs, TD.cl, TD.la, srF_late _ _ _ _ _, x.a, dx, _, rfl, st6 _ hins, lk0, _, rfl, x, ok, ga, g, rfl, g6, hv g hgm, hso g hgm, ?_, st6, m6, fun H7 k8 m8 => ⟨_, rfl, ?_⟩⟩
        · have := (vOk_of (hv g hgm)).2
          omega
        have hDk : D ≠ x.kd := by obtain ⟨ks, z1, _⟩ := m6; exact ne_of d6 z1 (fun z => nomatch z)
        have d7 := k8 _ _ d6 hDk
        have elast := lostAt_snoc x.L g (reps.take i) 0
        rw [← take_succ hg] at elast
        have hti : (reps.take i).length = i := by rw [List.length_take]; omega
        rw [hti, Nat.zero_add] at elast
        cases hL : x.L g with
        | true =>
          rw [hL, if_pos rfl] at elast
          refine iteT ⟨_, rfl, _, d7, ?_, ?_, (k6.trans k8).new hD, m8.upd_ (Ne.symm hDk)⟩
          · have := lostAt_len x.L (reps.take i) 0
            rw [List.length_map]
            exact small_line' (by omega)
          · rw [upd_same, elast, List.map_append] <;> rfl
        | false =>
          rw [hL, if_neg Bool.false_ne_true, List.append_nil] at elast
          refine iteF ⟨?_, k6.trans k8, m8⟩
          rw [elast]
          exact d7
      · rintro H5 ⟨d5, k5, m5⟩
        rw [List.length_map, hbl, List.take_length] at d5
        have hDH := fo k4 m4 hD
        refine ⟨D, _, rfl, .inl ⟨SqL.of d5, fun la hla => ?_⟩⟩
        have k6 := (k4.trans k5).new (o := .tup ((lostAt x.L 0 reps).map V.int)) (fo (k4.trans k5) m5 hla)
        have m6 := m5.new (o := .tup ((lostAt x.L 0 reps).map V.int)) hla
        have tk6 : Tk H4 (upd H5 la (.tup ((lostAt x.L 0 reps).map V.int))) := (Tk.kb k5 m4).trans fun b xs h => by
          rw [upd_ne (ne_of_none h hla)]
          exact h
        have l6 : PosAt (upd H5 la (.tup ((lostAt x.L 0 reps).map V.int))) la (lostAt x.L 0 reps) := upd_same
        generalize upd H5 la (.tup ((lostAt x.L 0 reps).map V.int)) = H6 at k6 m6 tk6 l6 ⊢
        dsimp only [gName, List.set]
        have e6 := tk6 _ _ e4
        have htab6 := htab4.keep tk6
        refine ⟨_, rfl, s, CS, dxs, _, _, rfl, k6.ins hM hs, TD.cl, TD.la, srF_late _ _ _ _ _, _, rfl, s, CS, dxs, _, _, rfl, k6.ins hM hs, TD.cl, TD.mo, srF_most _ _ _ _ _, _, rfl, _, rfl, ⟨x.G, x.mv, x.a, x.kd⟩, ok.li, tp, ia, t, im, x.m, es, rfl, htab6, e6, M, S.imOk, ok.cf.ok, k6.stat ok.li hst, hes, fun H7 d ts s7 hd hdd hts hent hok => ?_⟩
        have k7 := k6.trans (Kb.of s7)
        have m7 := m6.same s7
        refine ⟨_, rfl, _, rfl, d, la, ts, lostAt x.L 0 reps, rfl, hdd, fun t' ht' => ⟨hent t' ht', ?_⟩, s7 _ _ l6, fun H8 s8 => ⟨fun hno => ?_, fun hw hsome c hcw => ?_⟩⟩
        · obtain ⟨_, r2, r3, _⟩ := hok.ok t'.2.2.2 (by rw [hts]; exact List.mem_map.mpr ⟨t', ht', rfl⟩)
          have := range_len r3 r2
          have := M.few
          omega
        · have k8 := k7.trans (Kb.of s8)
          have m8 := m7.same s8
          have htab8 := htab6.keep (Tk.of (s7.trans s8))
          have l8 := (s7.trans s8) _ _ l6
          have e8 := (s7.trans s8) _ _ e6
          have hno' : faultM (lostM x.L reps) es = none := by rw [hts]; exact hno
          rw [hno'] at htr
          have htr : some (Sum.inl (t, lostM x.L reps, im)) = some r := htr
          have hr1 : r = .inl (t, lostM x.L reps, im) := (Option.some.inj htr).symm
          refine ⟨_, rfl, rfl, _, rfl, iteT ?_⟩
          refine ⟨_, rfl, _, rfl, _, rfl, by show 3 ≤ sizeLine; decide, fun qa hqa => ⟨by show 0 ≤ sizeLine; decide, fun ea hea => ⟨by show 2 ≤ sizeLine; decide, fun pa hpa => ?_⟩⟩⟩
          have w1 : Same H8 (upd H8 qa (.tup [.ref tp, .ref la, .ref ia])) := same_upd hqa
          have w2 := same_new (o := .tup []) w1 (w1.free hea)
          have w3 := same_new (o := .tup [.ref qa, .ref ea]) w2 (w2.free hpa)
          have z1 : upd H8 qa (.tup [.ref tp, .ref la, .ref ia]) qa = some (.tup [.ref tp, .ref la, .ref ia]) := upd_same
          have z2 : upd (upd H8 qa (.tup [.ref tp, .ref la, .ref ia])) ea (.tup []) qa = some (.tup [.ref tp, .ref la, .ref ia]) := by rw [upd_ne (ne_of_none z1 hea)]; exact z1
          have z3 : upd (upd (upd H8 qa (.tup [.ref tp, .ref la, .ref ia])) ea (.tup [])) pa (.tup [.ref qa, .ref ea]) qa = some (.tup [.ref tp, .ref la, .ref ia]) := by rw [upd_ne (ne_of_none z2 hpa)]; exact z2
          exact q1 _ _ _ hr1 _ pa qa tp la ia ea (k8.trans (Kb.of w3)) (m8.same w3) upd_same z3 (htab8.keep (Tk.of w3)) (w3 _ _ l8) (w3 _ _ e8)
        · have k8 := k7.trans (Kb.of s8)
          have m8 := m7.same s8
          have hsome' : faultM (lostM x.L reps) es = some hw := by rw [hts]; exact hsome
          rw [hsome'] at htr
          have htr : some (Sum.inr hw) = some r := htr
          have hr1 : r = .inr hw := (Option.some.inj htr).symm
          refine ⟨_, rfl, rfl, _, rfl, ?_⟩
          rw [show decide (V.ref c = V.non) = false from decide_eq_false fun z => nomatch z]
          refine iteF ⟨_, rfl, by show 2 ≤ sizeLine; decide, fun pa hpa => ?_⟩
          have w3 : Same H8 (upd H8 pa (.tup [.non, .ref c])) := same_upd hpa
          have hwl : hw.length ≤ 1000 := by
            obtain ⟨e, he, e2⟩ := faultM_mem hsome'
            have := (hok.ok e he).2.2.2
            have := pairsM_len hes
            rw [e2] at *
            omega
          exact q2 _ hr1 hwl _ pa c (k8.trans (Kb.of w3)) (m8.same w3) upd_same (w3 _ _ hcw)
end
end QT
set_option Elab.async false
set_option linter.all false
set_option maxRecDepth 100000
set_option maxHeartbeats 4000000
namespace QT
open PySem PySem.Spec PyProof.Rows L2
theorem spIn_sorted {L : List Int → Bool} {m : Nat} {tests : List (List Int)} : ∀ {later reps : List (List Int)} {pl : Pl} {lay : List (List Int)} {r2 : List (List Int)} {p2 : Pl} {l2 : List (List Int)}, spIn L m tests later reps pl lay = some (r2, p2, l2) → (∀ h ∈ later, h.Pairwise (· ≤ ·)) → (∀ h ∈ reps, h.Pairwise (· ≤ ·)) → ∀ h ∈ r2, h.Pairwise (· ≤ ·)
  | [], reps, pl, lay, r2, p2, l2, h, _, h2 => by
    have h : some (reps, pl, lay) = some (r2, p2, l2) := h
    cases h
    exact h2
  | g :: later, reps, pl, lay, r2, p2, l2, h, h1, h2 => by
    rw [spIn] at h
    by_cases c : sgOk m tests g = true ∧ reps.length < 50
    · rw [if_pos c] at h
      cases e : lkP pl (sgn L tests g) with
      | some z =>
        rw [e] at h
        exact spIn_sorted (later := later) h (fun k hk => h1 k (List.mem_cons_of_mem _ hk)) h2
      | none =>
        rw [e] at h
        refine spIn_sorted (later := later) h (fun k hk => h1 k (List.mem_cons_of_mem _ hk)) fun k hk => ?_
        rcases List.mem_append.mp hk with z | z
        · exact h2 k z
        · rw [List.mem_singleton.mp z]
          exact h1 g List.mem_cons_self
    · rw [if_neg c] at h
      cases h
theorem nextL_sorted {m : Nat} {layer : List (List Int)} : ∀ h ∈ nextL m layer, h.Pairwise (· ≤ ·) := by
  intro h hh
  obtain ⟨g, _, z⟩ := List.mem_flatMap.mp (lsort_mem.mp hh)
  obtain ⟨s, _, rfl⟩ := List.mem_map.mp z
  exact srt_sorted _
theorem spreadM_facts {L : List Int → Bool} {m : Nat} {tests : List (List Int)} : ∀ {f : Nat} {reps : List (List Int)} {pl : Pl} {layer : List (List Int)} {r2 : List (List Int)} {p2 : Pl}, spreadM L m tests f reps pl layer = some (r2, p2) → reps.length ≤ 51 → (∀ h ∈ reps, h.Pairwise (· ≤ ·)) → r2.length ≤ 51 ∧ ∀ h ∈ r2, h.Pairwise (· ≤ ·)
  | 0, _, _, _, _, _, h, _, _ => by cases h
  | f + 1, reps, pl, layer, r2, p2, h, h1, h2 => by
    rw [spreadM] at h
    by_cases c : layer.isEmpty = true
    · rw [if_pos c] at h
      have h : some (reps, pl) = some (r2, p2) := h
      cases h
      exact ⟨h1, h2⟩
    · rw [if_neg c] at h
      by_cases c2 : layer.length < 20
      · rw [if_pos c2] at h
        cases e : spIn L m tests (nextL m layer) reps pl [] with
        | none => rw [e] at h; cases h
        | some st =>
          obtain ⟨r3, p3, l3⟩ := st
          rw [e] at h
          exact spreadM_facts (f := f) h (spIn_len e (Nat.zero_le _) h1).2 (spIn_sorted e nextL_sorted h2)
      · rw [if_neg c2] at h
        cases h
theorem insL_len (x : List Int) : ∀ l : List (List Int), (insL x l).length ≤ l.length + 1
  | [] => Nat.le_refl _
  | y :: ys => by
    rw [insL]
    have := insL_len x ys
    split
    · exact Nat.le_refl _
    · split
      · rw [List.length_cons, List.length_cons]; omega
      · omega
theorem lsort_len : ∀ l : List (List Int), (lsort l).length ≤ l.length
  | [] => Nat.le_refl _
  | x :: xs => by
    rw [lsort, List.length_cons]
    have := insL_len x (lsort xs)
    have := lsort_len xs
    omega
theorem partsM_len : ∀ {h : List Int} {found : List (List Int)}, partsOk found h = true → found.length ≤ 40 → (partsM found h).length ≤ 40
  | [], found, _, hl => hl
  | s :: h, found, hok, _ => by
    rw [partsOk, Bool.and_eq_true, decide_eq_true_eq] at hok
    rw [partsM]
    refine partsM_len hok.2 ?_
    have := lsort_len (found ++ found.map fun p => srt (p ++ [s]))
    rw [List.length_append, List.length_map] at this
    omega
theorem widenM_mem {h : List Int} : ∀ (more tests : List (List Int)), h ∈ tests → h ∈ widenM tests more
  | [], _, hh => hh
  | g :: more, tests, hh => by
    rw [widenM]
    split
    · exact widenM_mem more tests hh
    · exact widenM_mem more _ (List.mem_append_left _ hh)
abbrev sQuot : Stmt := top 29
abbrev nQuot : List Str := ["rule", "most", "search", "found", "wrong"]
theorem scQuot : FnScope nQuot ["rule", "most"] (defScope sQuot) := ⟨rfl, rfl, rfl, by decide +kernel, rfl, by decide +kernel, by decide +kernel⟩
def spQuot (K : PySem.W.Frag) : Sp := fun vs H Q _ => ∃ r ds m L t lost im, vs = [.ref r, .int ((m : Nat) : Int)] ∧ SqT K H r (ds.map V.int) ∧ RuleOk ds ∧ 1 ≤ m ∧ m ≤ 3 ∧ Cfg m (movesM ds m) L ∧ quotM (movesM ds m) L m 4 [[]] = some (t, lost, im) ∧
  ∀ H' q ta la ia, Same H H' → H' q = some (.tup [.ref ta, .ref la, .ref ia]) → TabAt H' ta t → PosAt H' la lost → PosAt H' ia im → Q (.ref q) H'
section
variable {P : Program} {w : World} {K : PySem.W.Frag} {mg : Str → Option Value} {base : Heap} {f f1 f2 f3 f4 f5 f6 f7 f8 CL CS a kd : Addr} {fd fd1 fd2 fd3 fd4 fd5 fd6 fd7 fd8 : FuncData}
theorem ok_quot (F : FnP K "quotient" sQuot f fd) (T : Tx mg) (TD : TS K CS) (c1 : Cal P w K mg base 3 "need_rule" ["value"] (spNeedRule K) f1 fd1) (c2 : Cal P w K mg base 3 "need_number" ["value", "least", "most"] spNeedNumber f2 fd2)
    (c3 : CalK P w K mg base 7 "Search" CS ["self", "rule", "most"] (spSrInit K CL CS) f3 fd3) (c4 : CalM P w K mg base 31 CS "spread" ["self"] (spSpreadX P w CL CS) f4 fd4) (c5 : Cal P w K mg base 33 "tried" ["search"] (spTriedX P w CL CS) f5 fd5)
    (c6 : Cal P w K mg base 1 "parts_of" ["heaps"] spParts f6 fd6) (c7 : CalM P w K mg base 1 CS "widen" ["self", "some"] (spWiden CS) f7 fd7) :
    FnOk P w K mg base CX0 34 f fd ["rule", "most"] (spQuot K) := by
  obtain ⟨tk, hk⟩ := T.most
  refine F.ok scQuot (fun vs H Q E h => ?_) (fun cdv A outer s H vs Q E hr h => ⟨_, PSs.nox
    (pss_cons (ps_expr (pe_call c1.ok (hr.mono (by decide)) rfl c1.g c1.kp c1.b .nil pass0 (pa_cons (pv 0) pa_nil)))
    (pss_cons (ps_expr (pe_call c2.ok (hr.mono (by decide)) rfl c2.g c2.kp c2.b .nil pass0 (pa_cons (pv 1) (pa_cons pe_int (pa_cons (pe_glob (v := .int 6) rfl hk ⟨_, rfl⟩) pa_nil)))))
    (pss_cons (ps_set (i := 2) scQuot.nd rfl (Or.inl rfl) (pe_make c3.M c3.ok (hr.mono (by decide)) rfl c3.g c3.b .nil pass0 (pa_cons (pv 0) (pa_cons (pv 1) pa_nil))))
    (pss_cons (ps_while PassesOwn.never (pt_val (pe_meth0 (pv 2) TD.cl c4.m c4.ok (hr.mono (by decide)) c4.b .nil pass0))
      (pss_cons (ps_asg (pe_call c5.ok hr rfl c5.g c5.kp c5.b .nil pass0 (pa_cons (pv 2) pa_nil)) (pg_tup rfl (pgs_cons (pg_name (i := 3) scQuot.nd rfl (.inl rfl)) (pgs_cons (pg_name (i := 4) scQuot.nd rfl (.inl rfl)) pgs_nil))))
      (pss_cons (ps_if (pt_cmpR op_notN (pv 3) pe_non (nomark _)) (pss_one (ps_ret (pv 3))) pss_nil)
      (pss_one (ps_if (pt_not (pt_val (pe_meth (pv 2) TD.cl c7.m c7.ok (hr.mono (by decide)) c7.b .nil pass0 (pa_cons (pe_call c6.ok (hr.mono (by decide)) rfl c6.g c6.kp c6.b .nil pass0 (pa_cons (pv 4) pa_nil)) pa_nil)))) (pss_one ps_never) pss_nil)))))
    (pss_one (ps_ret pe_non)))))), ?_⟩)
  · obtain ⟨r, ds, m, L, t, lost, im, rfl, _⟩ := h
    rfl
  · obtain ⟨r, ds, m, L, t, lost, im, rfl, hr1, hrule, hm1, hm3, CF, hq, q⟩ := h
    refine ⟨_, rfl, r, ds, rfl, hr1, hrule, fun H1 s1 => ?_⟩
    refine ⟨_, rfl, (m : Int), 1, 6, rfl, by omega, by omega, ?_⟩
    refine ⟨_, rfl, _, rfl, fun s dxs hsn hdxs hne => ⟨s, dxs, r, ds, m, rfl, upd_same, sqT_same (same_new (same_new s1 (s1.free hdxs)) (s1.free hsn)) hr1, hrule, hm3, fun H2 G a kd tl rl pd hfr LI st hkd hkd0 hs2 htl htl0 hG => ⟨rfl, ?_⟩⟩⟩
    have s2 : Same H H2 := fun b o hb => by
      have h1 := s1 _ _ hb
      have n1 := ne_of_none h1 hsn
      exact hfr b o (by rw [upd_ne n1, upd_ne (ne_of_none h1 hdxs)]; exact h1) n1
    have hsH : H s = none := s1.free hsn
    have un : ∀ {b : Addr}, upd (upd H1 dxs (.own s)) s (.ins CS dxs []) b = none → H b = none := fun {b} hb => by
      have n1 : b ≠ s := fun e => by rw [e, upd_same] at hb; cases hb
      have n2 : b ≠ dxs := fun e => by rw [e, upd_ne (fun z : dxs = s => hne z), upd_same] at hb; cases hb
      rw [upd_ne n1, upd_ne n2] at hb
      exact s1.free hb
    have hkdH : H kd = none := un hkd0
    have htlH : H tl = none := un htl0
    have mem0 : Memo L m kd H2 := ⟨[], hkd, List.nodup_nil, fun h hh => (nomatch hh)⟩
    have ok : SXok CL ⟨G, movesM ds m, L, m, a, kd⟩ := ⟨LI, CF⟩
    dsimp only [gName, List.set]
    show tSeq (tWhile _ _) _ _ _ _
    refine ⟨fun fuel σ' H' => ∃ (tests : List (List Int)) (rl pd : Addr) (v3 v4 : Option V), σ' = [some (.ref r), some (.int (m : Int)), some (.ref s), v3, v4] ∧ Same H H' ∧ H' s = some (.ins CS dxs (srF a m tl rl pd)) ∧ ListsAt H' tl tests ∧ tests.length ≤ 30 ∧ ([] : List Int) ∈ tests ∧ Stat G H' ∧ Memo L m kd H' ∧ quotM (movesM ds m) L m fuel tests = some (t, lost, im),
      ⟨4, [[]], rl, pd, none, none, rfl, s2, hs2, htl, by decide, List.mem_singleton.mpr rfl, st, mem0, hq⟩, ?_⟩
    clear s2 hs2 htl mem0 hq hkd
    rintro fuel σ' H3 ⟨tests, rl, pd, v3, v4, rfl, s3, hs3, htl3, htn, h0t, st3, m3, hq⟩
    cases fuel with
    | zero => rw [quotM] at hq; cases hq
    | succ fuel =>
    rw [quotM] at hq
    cases hsp : spreadM L m tests 30 [[]] [(sgn L tests [], 0)] [[]] with
    | none => rw [hsp] at hq; cases hq
    | some st0 =>
    obtain ⟨reps, pl⟩ := st0
    rw [hsp] at hq
    dsimp only at hq
    by_cases hsg : sgOk m tests [] = true
    case neg => rw [if_neg hsg] at hq; cases hq
    rw [if_pos hsg] at hq
    cases htr : triedM (movesM ds m) L m tests reps pl with
    | none => rw [htr] at hq; cases hq
    | some tr =>
    rw [htr] at hq
    obtain ⟨hrl, hrs⟩ := spreadM_facts hsp (by decide) fun h hh => by rw [List.mem_singleton.mp hh]; exact List.Pairwise.nil
    have skd : s ≠ kd := by obtain ⟨ks, k1, _⟩ := m3; exact ne_of hs3 k1 (fun z => nomatch z)
    refine ⟨_, rfl, s, dxs, _, rfl, hs3, rfl, ⟨G, movesM ds m, L, m, a, kd⟩, ok, s, dxs, tl, rl, pd, tests, reps, pl, rfl, hs3, htl3, by omega, hsg, h0t, st3, fun p hp => (hG p hp).2, m3, hsp, fun H4 rl' pd' k4 m4 hs4 hrl4 hpl4 => ⟨_, rfl, iteT ?_⟩⟩
    have s4 : Same H H4 := fun b o hb => k4 b o (s3 _ _ hb) (ne_of_none hb hsH) (ne_of_none hb hkdH)
    have htl4 := k4.lists m3 hs3 htl3
    have st4 : Stat G H4 := fun p hp => k4 _ _ (st3 p hp) (hG p hp).2 (by
      obtain ⟨ml, dx, _, _, off⟩ := LI
      exact off p hp)
    clear k4
    refine ⟨fun σ' H' => ∃ (tests : List (List Int)) (rl pd : Addr) (v3 v4 : Option V), σ' = [some (.ref r), some (.int (m : Int)), some (.ref s), v3, v4] ∧ Same H H' ∧ H' s = some (.ins CS dxs (srF a m tl rl pd)) ∧ ListsAt H' tl tests ∧ tests.length ≤ 30 ∧ ([] : List Int) ∈ tests ∧ Stat G H' ∧ Memo L m kd H' ∧ quotM (movesM ds m) L m fuel tests = some (t, lost, im), fun σ' H' h => ⟨fuel, Nat.lt_succ_self _, h⟩, ?_⟩
    refine ⟨_, rfl, ⟨G, movesM ds m, L, m, a, kd⟩, ok, s, dxs, tl, rl', pd', tests, reps, pl, tr, rfl, hs4, htl4, by omega, hrl4, by omega, hpl4, hrs, st4, m4, htr, ?_, ?_⟩
    · rintro t' lost' im' rfl H5 p qa ta la ia ea k5 m5 hp5 hq5 ht5 hl5 hi5
      have hq : some (t', lost', im') = some (t, lost, im) := hq
      cases hq
      have s5 : Same H H5 := fun b o hb => k5 b o (s4 _ _ hb) (ne_of_none hb hkdH)
      refine ⟨p, _, rfl, SqT.of hp5, rfl, _, _, rfl, _, _, rfl, rfl, ?_⟩
      dsimp only [gName, List.set]
      refine ⟨_, rfl, rfl, _, rfl, ?_⟩
      rw [show decide (V.ref qa = V.non) = false from decide_eq_false fun z => nomatch z]
      refine iteT ⟨_, rfl, q H5 qa ta la ia s5 hq5 ht5 hl5 hi5⟩
    · rintro hw rfl hwl H5 p c k5 m5 hp5 hc5
      have s5 : Same H H5 := fun b o hb => k5 b o (s4 _ _ hb) (ne_of_none hb hkdH)
      dsimp only at hq
      by_cases hcond : partsOk [[]] hw = true ∧ tests.length < (widenM tests (partsM [[]] hw)).length ∧ (widenM tests (partsM [[]] hw)).length < 30
      case neg => rw [if_neg hcond] at hq; cases hq
      rw [if_pos hcond] at hq
      obtain ⟨hpo, hgt, hlt30⟩ := hcond
      refine ⟨p, _, rfl, SqT.of hp5, rfl, _, _, rfl, _, _, rfl, rfl, ?_⟩
      dsimp only [gName, List.set]
      refine ⟨_, rfl, rfl, _, rfl, iteF ?_⟩
      have hs5 := k5.ins m4 hs4
      have htl5 := k5.lists m4 htl4
      have st5 := k5.stat LI st4
      refine ⟨_, rfl, s, dxs, _, rfl, hs5, rfl, _, rfl, c, hw, rfl, hc5, hwl, hpo, fun H6 l s6 hl0 hl6 => ?_⟩
      have hs6 := s6 _ _ hs5
      have htl6 := htl5.same s6
      have hltl : l ≠ tl := fun e => by
        obtain ⟨as, z, _⟩ := htl5
        rw [e, z] at hl0
        cases hl0
      have hpl := partsM_len hpo (by decide)
      have m6 := m5.same s6
      refine ⟨s, dxs, a, m, tl, rl', pd', l, tests, partsM [[]] hw, rfl, hs6, htl6, hl6, hltl, by omega, fun H7 k7 htl7 => ⟨_, rfl, ?_⟩⟩
      rw [decide_eq_true hgt]
      have stl : s ≠ tl := by
        obtain ⟨as, z, _⟩ := htl6
        exact ne_of hs6 z (fun z => nomatch z)
      have ktl : kd ≠ tl := by
        obtain ⟨as, z, _⟩ := htl6
        obtain ⟨ks, k1, _⟩ := m6
        exact ne_of k1 z (fun z => nomatch z)
      refine iteF ⟨widenM tests (partsM [[]] hw), rl', pd', _, _, rfl, fun b o hb => k7 b o (s6 _ _ (s5 _ _ hb)) (ne_of_none hb htlH), k7 _ _ hs6 stl, htl7, by omega, widenM_mem _ _ h0t, fun p hp => k7 _ _ (s6 _ _ (st5 p hp)) (hG p hp).1, ?_, hq⟩
      obtain ⟨ks, k1, k2⟩ := m6
      exact ⟨ks, k7 _ _ k1 ktl, k2⟩
end
end QT
set_option Elab.async false
set_option linter.all false
set_option maxRecDepth 100000
set_option maxHeartbeats 4000000
namespace QT
open PySem PySem.Spec PyProof.Rows L2
theorem sqL_same {K : PySem.W.Frag} {H H' : Hp} {a : Addr} {xs : List V} (e : Same H H') (h : SqL K H a xs) : SqL K H' a xs := by
  rcases h with (h | ⟨o, h⟩) | h
  · exact .inl (.inl (e _ _ h))
  · exact .inl (.inr ⟨o, e _ _ h⟩)
  · exact .inr h
/-- the script at a stands as long as all but p stands -/
def Scr (K : PySem.W.Frag) (H : Hp) (p a : Addr) (ns : List Int) : Prop := ∀ H', Kb p H H' → SqL K H' a (ns.map V.int)
theorem Scr.sq {K : PySem.W.Frag} {H : Hp} {p a : Addr} {ns : List Int} (h : Scr K H p a ns) : SqL K H a (ns.map V.int) := h H (Kb.refl _ _)
theorem Scr.kb {K : PySem.W.Frag} {H H' : Hp} {p a : Addr} {ns : List Int} (h : Scr K H p a ns) (k : Kb p H H') : Scr K H' p a ns := fun H2 k2 => h H2 (k.trans k2)
/-- the law's row at p: the script, the place, the state, the rest -/
def RowAt (K : PySem.W.Frag) (H : Hp) (p a : Addr) (ns : List Int) : Prop := ∃ (x y z : Int), H p = some (.lst [.ref a, .int x, .int y, .int z]) ∧ Scr K H p a ns ∧ True ∧ 0 ≤ x
/-- all but p is kept -/
def But (p : Addr) (H H' : Hp) : Prop := ∀ b, b ≠ p → H' b = H b
theorem sqL_but {K : PySem.W.Frag} {H H' : Hp} {a p : Addr} {ns : List Int} (e : But p H H') (n : True) (h : Scr K H p a ns) : Scr K H' p a ns := h.kb fun b o h n => (e b n).trans h
section
variable {P : Program} {w : World} {K : PySem.W.Frag} {mg : Str → Option Value} {base : Heap} {f f1 f2 f3 : Addr} {fd fd1 fd2 fd3 : FuncData}
/-! _law_taken -/
abbrev sTaken : Stmt := top 31
abbrev nTaken : List Str := ["_law_row", "_law_many", "_law_found", "_law_cell"]
theorem scTaken : FnScope nTaken ["_law_row", "_law_many"] (defScope sTaken) := ⟨rfl, rfl, rfl, by decide +kernel, rfl, by decide +kernel, by decide +kernel⟩
def spTaken (K : PySem.W.Frag) : Sp := fun vs H Q _ => ∃ (p a : Addr) (ns : List Int) (m : Nat), vs = [.ref p, .int (m : Int)] ∧ RowAt K H p a ns ∧ ns.length ≤ 63 ∧ 1 ≤ m ∧ m ≤ 64 ∧
  ∀ (v : Nat) H', v < m → But p H H' → RowAt K H' p a ns → Q (.int (v : Int)) H'
theorem modNat (i : Int) {m : Nat} (h : 1 ≤ m) : ∃ v : Nat, i % (m : Int) = (v : Int) ∧ v < m := by
  have h1 := Int.emod_nonneg i (show (m : Int) ≠ 0 by omega)
  have h2 := Int.emod_lt_of_pos i (show (0 : Int) < m by omega)
  exact ⟨(i % (m : Int)).toNat, by omega, by omega⟩
theorem ok_taken (F : FnP K "_law_taken" sTaken f fd) (T : Tx mg) : FnOk P w K mg base CX0 1 f fd ["_law_row", "_law_many"] (spTaken K) := by
  refine F.ok scTaken (fun vs H Q E h => ?_) (fun cdv A outer s H vs Q E hr h => ⟨_, PSs.nox
    (pss_cons (ps_if (pt_cmpR op_gt (pe_ix ix_list (pv 0) pe_int (fun _ _ => rfl)) pe_int (nomark _))
      (pss_cons (ps_set (i := 2) scTaken.nd rfl (Or.inl rfl) (pe_op op_mod (pe_callTy call_int1 rfl T.int rfl (pa_cons (pe_ix ix_list (pv 0) pe_int (fun _ _ => rfl)) pa_nil)) (pv 1)))
      (pss_cons (ps_asg (pe_op op_fdiv (pe_ix ix_list (pv 0) pe_int (fun _ _ => rfl)) (pv 1)) (pg_sub (pv 0) pe_int set_list))
      (pss_one (ps_ret (pv 2))))) pss_nil)
    (pss_cons (ps_asg (pe_op op_add (pe_ix ix_list (pv 0) pe_int (fun _ _ => rfl)) pe_int) (pg_sub (pv 0) pe_int set_list))
    (pss_cons (ps_if (pt_cmpR op_gt (pe_ix ix_list (pv 0) pe_int (fun _ _ => rfl)) (pe_callB call_len_seq rfl T.len boot_len (pa_cons (pe_ix ix_list (pv 0) pe_int (fun _ _ => rfl)) pa_nil)) (nomark _))
      (pss_cons (ps_asg (pe_op op_mod (pe_callTy call_int1 rfl T.int rfl (pa_cons (pe_op op_add (pe_op op_mul (pe_ix ix_list (pv 0) pe_int (fun _ _ => rfl)) pe_int) pe_int) pa_nil)) pe_int) (pg_sub (pv 0) pe_int set_list))
      (pss_one (ps_ret (pe_op op_mod (pe_callTy call_int1 rfl T.int rfl (pa_cons (pe_op op_fdiv (pe_ix ix_list (pv 0) pe_int (fun _ _ => rfl)) pe_int) pa_nil)) (pv 1))))) pss_nil)
    (pss_cons (ps_set (i := 3) scTaken.nd rfl (Or.inl rfl) (pe_ix ix_list (pe_ix ix_list (pv 0) pe_int (fun _ _ => rfl)) (pe_op op_sub (pe_ix ix_list (pv 0) pe_int (fun _ _ => rfl)) pe_int) (fun _ _ => rfl)))
    (pss_cons (ps_asg (pe_op op_mod (pe_callTy call_int1 rfl T.int rfl (pa_cons (pe_op op_add (pe_op op_add (pe_op op_mul (pe_ix ix_list (pv 0) pe_int (fun _ _ => rfl)) pe_int) (pv 3)) pe_int) pa_nil)) pe_int) (pg_sub (pv 0) pe_int set_list))
    (pss_cons (ps_if (pt_cmpR op_ge (pv 3) (pe_op op_pow pe_int pe_int) (nomark _))
      (pss_one (ps_asg (pe_op op_fdiv (pv 3) (pv 1)) (pg_sub (pv 0) pe_int set_list))) pss_nil)
    (pss_one (ps_ret (pe_op op_mod (pe_callTy call_int1 rfl T.int rfl (pa_cons (pv 3) pa_nil)) (pv 1)))))))))), ?_⟩)
  · obtain ⟨p, a, ns, m, rfl, _⟩ := h
    rfl
  · obtain ⟨p, a, ns, m, rfl, ⟨x, y, z, hp, ha, hap, hx⟩, hns, hm1, hm2, q⟩ := h
    have hL : ∀ {H' : Hp} {l : List V}, H' p = some (.lst l) → SqL K H' p l := fun e => .inl (.inl e)
    refine ⟨_, rfl, p, _, _, _, rfl, rfl, hL hp, atI_int (by decide) rfl, _, _, rfl, rfl, _, rfl, ?_⟩
    by_cases c : 0 < z
    · rw [decide_eq_true c]
      refine iteT ⟨_, rfl, p, _, _, _, rfl, rfl, hL hp, atI_int (by decide) rfl, .inl ⟨_, rfl, ?_⟩⟩
      obtain ⟨v, e1, e2⟩ := modNat z hm1
      refine ⟨_, rfl, _, _, rfl, rfl, by omega, ?_⟩
      refine ⟨_, rfl, p, _, _, _, rfl, rfl, hL hp, atI_int (by decide) rfl, _, rfl, _, _, rfl, rfl, ⟨by omega, by omega⟩, ?_⟩
      refine ⟨_, rfl, p, _, _, 3, rfl, rfl, hp, rfl, ?_⟩
      dsimp only [gName, List.set]
      refine ⟨_, rfl, ?_⟩
      rw [e1]
      exact q v _ e2 (fun b hb => upd_ne hb) ⟨x, y, _, upd_same, sqL_but (fun b hb => upd_ne hb) hap ha, hap, hx⟩
    · rw [decide_eq_false c]
      refine iteF ?_
      dsimp only [tNext]
      refine ⟨_, rfl, p, _, _, _, rfl, rfl, hL hp, atI_int (by decide) rfl, _, _, rfl, rfl, ?_⟩
      refine ⟨_, rfl, p, _, _, 1, rfl, rfl, hp, rfl, ?_⟩
      dsimp only [List.set]
      have b1 : But p H (upd H p (.lst [.ref a, .int (x + 1), .int y, .int z])) := fun b hb => upd_ne hb
      have hp1 : upd H p (.lst [.ref a, .int (x + 1), .int y, .int z]) p = some (.lst [.ref a, .int (x + 1), .int y, .int z]) := upd_same
      generalize upd H p (.lst [.ref a, .int (x + 1), .int y, .int z]) = H1 at b1 hp1 ⊢
      have ha1 := sqL_but b1 hap ha
      refine ⟨_, rfl, p, _, _, _, rfl, rfl, hL hp1, atI_int (by decide) rfl, _, rfl, p, _, _, _, rfl, rfl, hL hp1, atI_int (by decide) rfl, a, _, rfl, .inl ha1.sq, _, _, rfl, rfl, _, rfl, ?_⟩
      by_cases c2 : ((ns.map V.int).length : Int) < x + 1
      · rw [decide_eq_true c2]
        refine iteT ⟨_, rfl, p, _, _, _, rfl, rfl, hL hp1, atI_int (by decide) rfl, _, _, rfl, rfl, .inr ⟨by decide, by decide⟩, _, _, rfl, rfl, .inl ⟨_, rfl, _, _, rfl, rfl, show (0 : Int) < 2147483647 by decide, ?_⟩⟩
        refine ⟨_, rfl, p, _, _, 2, rfl, rfl, hp1, rfl, ?_⟩
        dsimp only [List.set]
        have hp2 : upd H1 p (.lst [.ref a, .int (x + 1), .int ((y * 48271 + 11) % 2147483647), .int z]) p = some (.lst [.ref a, .int (x + 1), .int ((y * 48271 + 11) % 2147483647), .int z]) := upd_same
        have b2 : But p H (upd H1 p (.lst [.ref a, .int (x + 1), .int ((y * 48271 + 11) % 2147483647), .int z])) := fun b hb => (upd_ne hb).trans (b1 b hb)
        generalize upd H1 p (.lst [.ref a, .int (x + 1), .int ((y * 48271 + 11) % 2147483647), .int z]) = H2 at b2 hp2 ⊢
        refine ⟨_, rfl, p, _, _, _, rfl, rfl, hL hp2, atI_int (by decide) rfl, _, _, rfl, rfl, ⟨by decide, by decide⟩, .inl ⟨_, rfl, ?_⟩⟩
        obtain ⟨v, e1, e2⟩ := modNat (((y * 48271 + 11) % 2147483647) / 7) hm1
        refine ⟨_, rfl, _, _, rfl, rfl, by omega, ?_⟩
        have z9 := q v _ e2 b2 ⟨_, _, _, hp2, sqL_but b2 hap ha, hap, by omega⟩
        rw [← e1] at z9
        exact z9
      · rw [decide_eq_false c2]
        refine iteF ?_
        dsimp only [tNext]
        rw [List.length_map] at c2
        obtain ⟨i, rfl⟩ : ∃ i : Nat, x = (i : Int) := ⟨x.toNat, by omega⟩
        have hi : i < ns.length := by omega
        have hat : atI (ns.map V.int) ((i : Int) + 1 - 1) = some (.int ns[i]) := by
          rw [show (i : Int) + 1 - 1 = (i : Int) by omega]
          exact atI_int (by omega) (map_at (List.getElem?_eq_getElem hi))
        refine ⟨_, rfl, p, _, _, _, rfl, rfl, hL hp1, atI_int (by decide) rfl, _, rfl, p, _, _, _, rfl, rfl, hL hp1, atI_int (by decide) rfl, _, _, rfl, rfl, a, _, _, _, rfl, rfl, ha1.sq, hat, ?_⟩
        dsimp only [gName, List.set]
        refine ⟨_, rfl, p, _, _, _, rfl, rfl, hL hp1, atI_int (by decide) rfl, _, _, rfl, rfl, .inr ⟨by decide, by decide⟩, _, rfl, _, _, rfl, rfl, _, _, rfl, rfl, .inl ⟨_, rfl, _, _, rfl, rfl, show (0 : Int) < 2147483647 by decide, ?_⟩⟩
        refine ⟨_, rfl, p, _, _, 2, rfl, rfl, hp1, rfl, ?_⟩
        dsimp only [List.set]
        generalize ns[i] = cc
        have hp2 : upd H1 p (.lst [.ref a, .int ((i : Int) + 1), .int ((y * 48271 + cc + 11) % 2147483647), .int z]) p = some (.lst [.ref a, .int ((i : Int) + 1), .int ((y * 48271 + cc + 11) % 2147483647), .int z]) := upd_same
        have b2 : But p H (upd H1 p (.lst [.ref a, .int ((i : Int) + 1), .int ((y * 48271 + cc + 11) % 2147483647), .int z])) := fun b hb => (upd_ne hb).trans (b1 b hb)
        generalize upd H1 p (.lst [.ref a, .int ((i : Int) + 1), .int ((y * 48271 + cc + 11) % 2147483647), .int z]) = H2 at b2 hp2 ⊢
        obtain ⟨v, e1, e2⟩ := modNat cc hm1
        refine ⟨_, rfl, _, _, rfl, rfl, ⟨by decide, by decide, by decide⟩, _, _, rfl, rfl, _, rfl, ?_⟩
        by_cases c3 : (10 : Int) ^ (18 : Int).toNat ≤ cc
        · rw [decide_eq_true c3]
          refine iteT ⟨_, rfl, _, rfl, _, _, rfl, rfl, ⟨by omega, by omega⟩, ?_⟩
          refine ⟨_, rfl, p, _, _, 3, rfl, rfl, hp2, rfl, ?_⟩
          dsimp only [List.set]
          refine ⟨_, rfl, .inl ⟨_, rfl, _, rfl, _, _, rfl, rfl, by omega, ?_⟩⟩
          have b3 : But p H (upd H2 p (.lst [.ref a, .int ((i : Int) + 1), .int ((y * 48271 + cc + 11) % 2147483647), .int (cc / (m : Int))])) := fun b hb => (upd_ne hb).trans (b2 b hb)
          have z9 := q v _ e2 b3 ⟨_, _, _, upd_same, sqL_but b3 hap ha, hap, by omega⟩
          rw [← e1] at z9
          exact z9
        · rw [decide_eq_false c3]
          refine iteF ?_
          dsimp only [tNext]
          refine ⟨_, rfl, .inl ⟨_, rfl, _, rfl, _, _, rfl, rfl, by omega, ?_⟩⟩
          have z9 := q v _ e2 b2 ⟨_, _, _, hp2, sqL_but b2 hap ha, hap, by omega⟩
          rw [← e1] at z9
          exact z9
end
end QT
set_option Elab.async false
set_option linter.all false
set_option maxRecDepth 100000
set_option maxHeartbeats 4000000
namespace QT
open PySem PySem.Spec PyProof.Rows L2
section
variable {P : Program} {w : World} {K : PySem.W.Frag} {mg : Str → Option Value} {base : Heap} {f f1 f2 f3 : Addr} {fd fd1 fd2 fd3 : FuncData}
/-! _law_small_rule -/
abbrev sSmall : Stmt := top 32
abbrev nSmall : List Str := ["_law_row", "_law_at"]
theorem scSmall : FnScope nSmall ["_law_row"] (defScope sSmall) := ⟨rfl, rfl, rfl, by decide +kernel, rfl, by decide +kernel, by decide +kernel⟩
def spSmall (K : PySem.W.Frag) : Sp := fun vs H Q _ => ∃ (p a : Addr) (ns : List Int), vs = [.ref p] ∧ RowAt K H p a ns ∧ ns.length ≤ 63 ∧
  ∀ (ds : List Int) r H', RuleOk ds → ds ∈ rules → Kb p H H' → RowAt K H' p a ns → H' r = some (.tup (ds.map V.int)) → Q (.ref r) H'
theorem kb_upd {kd : Addr} {H H' : Hp} {a : Addr} {o : HO} (s : Kb kd H H') (hn : H a = none) : Kb kd H (upd H' a o) := fun b q e n => by
  rw [upd_ne (ne_of_none e hn)]
  exact s b q e n
theorem kb_nxt {kd : Addr} {H H' : Hp} {a : Addr} {o : HO} (s : Kb kd H H') (hn : H' a = none) : Kb kd H (upd H' a o) := fun b q e n => by
  have z := s b q e n
  rw [upd_ne (ne_of_none z hn)]
  exact z
def RowP (H : Hp) (p a : Addr) : Prop := ∃ x y z : Int, H p = some (.lst [.ref a, .int x, .int y, .int z]) ∧ 0 ≤ x
theorem RowAt.p {H : Hp} {p a : Addr} {ns : List Int} (r : RowAt K H p a ns) : RowP H p a := by
  obtain ⟨x, y, z, h1, _, _, h4⟩ := r
  exact ⟨x, y, z, h1, h4⟩
theorem RowAt.kb {H H' : Hp} {p a : Addr} {ns : List Int} (r : RowAt K H p a ns) (k : Kb p H H') (q : RowP H' p a) : RowAt K H' p a ns := by
  obtain ⟨x, y, z, h1, h2, h3, h4⟩ := r
  obtain ⟨x', y', z', g1, g4⟩ := q
  exact ⟨x', y', z', g1, h2.kb k, h3, g4⟩
theorem RowP.ne {H : Hp} {p a D : Addr} (r : RowP H p a) (h : H D = none) : D ≠ p := by
  obtain ⟨x, y, z, g1, g4⟩ := r
  exact (ne_of_none g1 h).symm
theorem RowP.upd {H : Hp} {p a D : Addr} {o : HO} (r : RowP H p a) (h : D ≠ p) : RowP (upd H D o) p a := by
  obtain ⟨x, y, z, g1, g4⟩ := r
  exact ⟨x, y, z, (upd_ne (Ne.symm h)).trans g1, g4⟩
theorem RowP.same {H H' : Hp} {p a : Addr} (r : RowP H p a) (s : Same H H') : RowP H' p a := by
  obtain ⟨x, y, z, g1, g4⟩ := r
  exact ⟨x, y, z, s _ _ g1, g4⟩
theorem But.kb {p : Addr} {H H' : Hp} (b : But p H H') : Kb p H H' := fun a o h n => (b a n).trans h
theorem rules_mem {ds : List Int} {z : Int} (h1 : ds.length ≤ 2) (h2 : ∀ d ∈ ds, 0 ≤ d ∧ d < 8) (h3 : 1 ≤ z) (h4 : z < 8) : ds ++ [z] ∈ rules ∧ RuleOk (ds ++ [z]) := by
  have dm : ∀ d : Int, 0 ≤ d ∧ d < 8 → d ∈ ([0, 1, 2, 3, 4, 5, 6, 7] : List Int) := fun d hd => by
    simp only [List.mem_cons, List.not_mem_nil, or_false]
    omega
  have em : z ∈ ([1, 2, 3, 4, 5, 6, 7] : List Int) := by
    simp only [List.mem_cons, List.not_mem_nil, or_false]
    omega
  refine ⟨?_, ?_, ?_, ?_, z, ?_, ?_⟩
  · unfold rules
    match ds, h1, h2 with
    | [], _, _ => exact List.mem_append_left _ (List.mem_append_left _ (List.mem_map.mpr ⟨z, em, rfl⟩))
    | [x], _, h2 => exact List.mem_append_left _ (List.mem_append_right _ (List.mem_flatMap.mpr ⟨x, dm x (h2 x (by simp)), List.mem_map.mpr ⟨z, em, rfl⟩⟩))
    | [x, y], _, h2 => exact List.mem_append_right _ (List.mem_flatMap.mpr ⟨x, dm x (h2 x (by simp)), List.mem_flatMap.mpr ⟨y, dm y (h2 y (by simp)), List.mem_map.mpr ⟨z, em, rfl⟩⟩⟩)
    | _ :: _ :: _ :: _, h1, _ => simp at h1
  · simp
  · rw [List.length_append, List.length_singleton]; omega
  · intro d hd
    rcases List.mem_append.mp hd with h | h
    · have := h2 d h; omega
    · rw [List.mem_singleton.mp h]; omega
  · simp
  · omega
theorem ok_small (F : FnP K "_law_small_rule" sSmall f fd) (T : Tx mg) (c1 : Cal P w K mg base 1 "_law_taken" ["_law_row", "_law_many"] (spTaken K) f1 fd1) : FnOk P w K mg base CX0 2 f fd ["_law_row"] (spSmall K) := by
  refine F.ok scSmall (fun vs H Q E h => ?_) (fun cdv A outer s H vs Q E hr h => ⟨_, PSs.nox
    (pss_one (ps_ret (pe_op op_catA (pe_callTy (call_tupleK (K := K) rfl) rfl T.tuple (by decide +kernel) (pa_cons (pe_lc (own := [("_law_at", 1)]) (g := gName 1) (tt := tYes) rfl scSmall.nd (pi_range1 rfl T.range (pa_cons (pe_call c1.ok (hr.mono (by decide)) rfl c1.g c1.kp c1.b .nil pass0 (pa_cons (pv 0) (pa_cons pe_int pa_nil))) pa_nil)) (blkOk_by (N := nSmall) (sc := defScope sSmall) (by decide +kernel)) (fun _ _ _ _ _ => pg_name (i := 1) scSmall.nd rfl (Or.inl rfl)) (fun _ _ _ _ _ => pts_nil)
        (fun _ _ _ _ _ => pe_call c1.ok (hr.mono (by decide)) rfl c1.g c1.kp c1.b .nil pass0 (pa_cons (pv 0) (pa_cons pe_int pa_nil)))) pa_nil))
      (pe_tup (pa_cons (pe_op op_add pe_int (pe_call c1.ok (hr.mono (by decide)) rfl c1.g c1.kp c1.b .nil pass0 (pa_cons (pv 0) (pa_cons pe_int pa_nil)))) pa_nil))))), ?_⟩)
  · obtain ⟨p, a, ns, rfl, _⟩ := h
    rfl
  · obtain ⟨p, a, ns, rfl, r0, hns, q⟩ := h
    refine ⟨_, rfl, p, a, ns, 3, rfl, r0, hns, by decide, by decide, fun v H1 hv b1 r1 => ?_⟩
    refine ⟨(v : Int), rfl, by omega, by omega, fun D hD => ?_⟩
    have hDp := r1.p.ne hD
    have sl : 1000 ≤ sizeLine := by decide
    refine lc_it walk_range (fun i H' => ∃ ds : List Int, H' D = some (.lst (ds.map V.int)) ∧ ds.length = i ∧ (∀ d ∈ ds, 0 ≤ d ∧ d < 8) ∧ Kb p H1 H' ∧ RowP H' p a) ⟨[], upd_same, rfl, fun _ h => (nomatch h), (Kb.refl _ _).new hD, r1.p.upd hDp⟩ (fun _ _ _ _ => trivial) ?_ ?_
    · rintro i y H2 H3 hi ⟨ds, d1, d2, d3, d4, d5⟩ ⟨rfl, rfl⟩
      refine ⟨rfl, _, rfl, p, a, ns, 8, rfl, r1.kb d4 d5, hns, by decide, by decide, fun v2 H4 hv2 b4 r4 => ?_⟩
      refine ⟨_, (b4 D hDp).trans d1, by rw [List.length_map, d2]; omega, ds ++ [(v2 : Int)], ?_, by rw [List.length_append, d2] <;> rfl, ?_, kb_upd (d4.trans b4.kb) hD, r4.p.upd hDp⟩
      · rw [upd_same, List.map_append] <;> rfl
      · intro d hd
        rcases List.mem_append.mp hd with h | h
        · exact d3 d h
        · rw [List.mem_singleton.mp h]; omega
    · rintro H2 ⟨ds, d1, d2, d3, d4, d5⟩
      have dl : ds.length ≤ 2 := by omega
      refine ⟨D, _, rfl, .inl ⟨SqL.of d1, fun l hl => ?_⟩⟩
      have hlp := d5.ne hl
      have k3 : Kb p H1 (upd H2 l (.tup (ds.map V.int))) := kb_nxt d4 hl
      have p3 := d5.upd (o := .tup (ds.map V.int)) hlp
      have l3 : upd H2 l (.tup (ds.map V.int)) l = some (.tup (ds.map V.int)) := upd_same
      generalize upd H2 l (.tup (ds.map V.int)) = H3 at k3 p3 l3 ⊢
      refine ⟨_, rfl, p, a, ns, 7, rfl, r1.kb k3 p3, hns, by decide, by decide, fun v2 H4 hv2 b4 r4 => ?_⟩
      refine ⟨_, _, rfl, rfl, ⟨by show 1 ≤ sizeLine; omega, fun l2 hl2 => ?_⟩⟩
      have hl2p := r4.p.ne hl2
      have k4 : Kb p H1 (upd H4 l2 (.tup [.int (1 + (v2 : Int))])) := kb_nxt (k3.trans b4.kb) hl2
      have p4 := r4.p.upd (o := .tup [.int (1 + (v2 : Int))]) hl2p
      have l4 : upd H4 l2 (.tup [.int (1 + (v2 : Int))]) l = some (.tup (ds.map V.int)) := by
        have e := (b4 l hlp).trans l3
        rw [upd_ne (ne_of_none e hl2)]
        exact e
      have m4 : upd H4 l2 (.tup [.int (1 + (v2 : Int))]) l2 = some (.tup [.int (1 + (v2 : Int))]) := upd_same
      generalize upd H4 l2 (.tup [.int (1 + (v2 : Int))]) = H5 at k4 p4 l4 m4 ⊢
      have R := rules_mem (z := 1 + (v2 : Int)) dl d3 (by omega) (by omega)
      refine ⟨l, l2, ds.map V.int, [.int (1 + (v2 : Int))], rfl, rfl, SqT.of l4, SqT.of m4, by rw [List.length_map]; show ds.length + 1 ≤ sizeLine; omega, fun e => ?_, fun _ e => (nomatch e), fun _ _ p5 hp5 => ?_⟩
      · have e2 : ds = [] := List.map_eq_nil_iff.mp e
        subst e2
        exact q _ l2 H5 R.2 R.1 (b1.kb.trans k4) (r1.kb k4 p4) m4
      · have k5 := kb_nxt (o := .tup (ds.map V.int ++ [.int (1 + (v2 : Int))])) k4 hp5
        have p5' := p4.upd (o := .tup (ds.map V.int ++ [.int (1 + (v2 : Int))])) (p4.ne hp5)
        refine q _ p5 _ R.2 R.1 (b1.kb.trans k5) (r1.kb k5 p5') ?_
        rw [upd_same, List.map_append] <;> rfl
end
end QT
set_option Elab.async false
set_option linter.all false
set_option maxRecDepth 100000
set_option maxHeartbeats 4000000
namespace QT
open PySem PySem.Spec PyProof.Rows L2
def lastO (h : List Int) : Int := h.getLast?.getD 1
theorem lists_in : ([1, 2, 3].all fun m : Nat => (listsM m 6 [[]] [[]]).all fun h => h.all fun s => decide (1 ≤ s) && decide (s ≤ (m : Int))) = true := by decide +kernel
theorem longM_len {m : Nat} (hm : m ≤ 3) {h : List Int} (h1 : 1 ≤ lastO h) : (longM m h).length ≤ 3 := by
  unfold longM
  rw [List.length_map, List.length_range]
  have : 1 ≤ h.getLast?.getD 1 := h1
  omega
theorem flatL_len {m : Nat} (hm : m ≤ 3) : ∀ {l : List (List Int)}, (∀ h ∈ l, 1 ≤ lastO h) → (l.flatMap (longM m)).length ≤ 3 * l.length
  | [], _ => Nat.le_refl _
  | h :: l, x => by
    rw [List.flatMap_cons, List.length_append, List.length_cons]
    have := longM_len hm (x h List.mem_cons_self)
    have := flatL_len hm (l := l) fun g hg => x g (List.mem_cons_of_mem _ hg)
    omega
theorem lastO_snoc (h : List Int) (x : Int) : lastO (h ++ [x]) = x := by
  unfold lastO
  rw [List.getLast?_concat] <;> rfl
theorem longM_mem {m : Nat} {h g : List Int} (h1 : 1 ≤ lastO h) (hg : g ∈ longM m h) : (1 ≤ lastO g ∧ lastO g ≤ m) ∧ g.length = h.length + 1 := by
  unfold longM at hg
  obtain ⟨i, hi, rfl⟩ := List.mem_map.mp hg
  have := List.mem_range.mp hi
  have h1 : 1 ≤ h.getLast?.getD 1 := h1
  refine ⟨?_, by rw [List.length_append] <;> rfl⟩
  rw [lastO_snoc]
  omega
theorem op_catAK {X : Cx} {K : PySem.W.Frag} (h : X.K = K) : OpR X (binaryOp .Add) (rCatA K) := by
  subst h
  exact op_catA
theorem paired_app {α β : Type} {R : α → β → Prop} : ∀ {as : List α} {bs : List β} {cs : List α} {ds : List β}, Paired R as bs → Paired R cs ds → Paired R (as ++ cs) (bs ++ ds)
  | _, _, _, _, .nil, h => h
  | _, _, _, _, .cons r t, h => .cons r (paired_app t h)
theorem tIf_val {c : Bool} {ta tb : TE} {σ : L2.St} {H : Hp} {Q : VK} (v : V) (h1 : c = true → ∀ Q' : VK, Q' v H → ta σ H Q') (h2 : c = false → ∀ Q' : VK, Q' v H → tb σ H Q') (q : Q v H) : if c = true then ta σ H Q else tb σ H Q := by
  cases c with
  | true => exact h1 rfl Q q
  | false => exact h2 rfl Q q
section
variable {P : Program} {w : World} {K : PySem.W.Frag} {mg : Str → Option Value} {base : Heap} {f f1 f2 f3 : Addr} {fd fd1 fd2 fd3 : FuncData}
abbrev sLists : Stmt := top 33
abbrev nLists : List Str := ["_law_most", "_law_many", "_law_found", "_law_layer", "_law_turn", "_law_longer", "_law_told", "_law_size"]
theorem scLists : FnScope nLists ["_law_most", "_law_many"] (defScope sLists) := ⟨rfl, rfl, rfl, by decide +kernel, rfl, by decide +kernel, by decide +kernel⟩
def spLists : Sp := fun vs H Q _ => ∃ m n : Nat, vs = [.int (m : Int), .int (n : Int)] ∧ 1 ≤ m ∧ m ≤ 3 ∧ n ≤ 6 ∧ ∀ H' l, Same H H' → ListsAt H' l (listsM m n [[]] [[]]) → Q (.ref l) H'
theorem ok_lists (F : FnP K "_law_lists_to" sLists f fd) (T : Tx mg) : FnOk P w K mg base CX0 1 f fd ["_law_most", "_law_many"] spLists := by
  refine F.ok scLists (fun vs H Q E h => ?_) (fun cdv A outer s H vs Q E hr h => ⟨_, PSs.nox
    (pss_cons (ps_par (i := 2) (j := 3) rfl scLists.nd rfl rfl (by decide) rfl rfl (pa_cons (pe_lst (pa_cons (pe_tup pa_nil) pa_nil)) (pa_cons (pe_lst (pa_cons (pe_tup pa_nil) pa_nil)) pa_nil)) (by rfl))
    (pss_cons (ps_for PassesOwn.never rfl (pi_range1 rfl T.range (pa_cons (pv 1) pa_nil)) (pg_name (i := 4) scLists.nd rfl (.inl rfl))
      (pss_cons (ps_set (i := 5) scLists.nd rfl (Or.inl rfl) (pe_lst pa_nil))
      (pss_cons (ps_for PassesOwn.never rfl (pi_list (pv 3)) (pg_name (i := 6) scLists.nd rfl (.inr rfl))
        (pss_one (ps_set (i := 5) scLists.nd rfl (Or.inl rfl) (pe_op op_cat (pv 5) (pe_lc (own := [("_law_size", 7)]) (g := gName 7) (tt := tYes) rfl scLists.nd
          (pi_range2 rfl T.range (pa_cons (pe_ifExp (pt_cmpR (op_neD hr.units) (pv 6) (pe_tup pa_nil) (nomark _)) (pe_ix ix_tup (pv 6) (pe_un un_neg pe_int) (fun _ _ => rfl)) pe_int) (pa_cons (pe_op op_add (pv 0) pe_int) pa_nil)))
          (blkOk_by (N := nLists) (sc := defScope sLists) (by decide +kernel)) (fun _ _ _ _ _ => pg_name (i := 7) scLists.nd rfl (Or.inl rfl)) (fun _ _ _ _ _ => pts_nil)
          (fun _ _ _ _ _ => pe_op (op_catAK (K := K) rfl) (pv 6) (pe_tup (pa_cons (pv 7) pa_nil))))))))
      (pss_one (ps_par (i := 2) (j := 3) rfl scLists.nd rfl rfl (by decide) rfl rfl (pa_cons (pe_op op_cat (pv 2) (pv 5)) (pa_cons (pv 5) pa_nil)) (by rfl))))))
    (pss_one (ps_ret (pv 2))))), ?_⟩)
  · obtain ⟨m, n, rfl, _⟩ := h
    rfl
  · obtain ⟨m, n, rfl, hm1, hm3, hn6, q⟩ := h
    have sl : 100000 ≤ sizeLine := by decide
    refine ⟨by show 0 ≤ sizeLine; omega, fun e1 he1 => ⟨by show 1 ≤ sizeLine; omega, fun l1 hl1 => ⟨by show 0 ≤ sizeLine; omega, fun e2 he2 => ⟨by show 1 ≤ sizeLine; omega, fun l2 hl2 => ⟨_, _, rfl, ?_⟩⟩⟩⟩⟩
    have lem : ∀ {H : Hp} {e l : Addr}, H e = none → upd H e (.tup []) l = none → ListsAt (upd (upd H e (.tup [])) l (.lst [.ref e])) l [[]] ∧ Same H (upd (upd H e (.tup [])) l (.lst [.ref e])) := fun {H e l} he hl => by
      have n1 : e ≠ l := fun z => by rw [← z, upd_same] at hl; cases hl
      exact ⟨⟨[e], upd_same, .cons (by show upd _ l _ e = _; rw [upd_ne n1, upd_same]; rfl) .nil⟩, same_new (same_upd he) ((same_upd he).free hl)⟩
    obtain ⟨v1, u1⟩ := lem he1 hl1
    generalize upd (upd H e1 (.tup [])) l1 (.lst [.ref e1]) = H1 at v1 u1 he2 hl2 ⊢
    obtain ⟨v2, u2⟩ := lem he2 hl2
    have v1 := v1.same u2
    have u2 := u1.trans u2
    generalize upd (upd H1 e2 (.tup [])) l2 (.lst [.ref e2]) = H2 at v1 v2 u2 ⊢
    dsimp only [List.set]
    refine ⟨_, rfl, (n : Int), rfl, by omega, by omega, for_range (fun i σ' H' => ∃ (fl ll : Addr) (found layer : List (List Int)) (w4 w5 w6 : Option V), σ' = [some (.int (m : Int)), some (.int (n : Int)), some (.ref fl), some (.ref ll), w4, w5, w6, none] ∧ ListsAt H' fl found ∧ ListsAt H' ll layer ∧ Same H H' ∧ listsM m (n - i) found layer = listsM m n [[]] [[]] ∧ i ≤ n ∧ layer.length ≤ 3 ^ i ∧ found.length ≤ 1 + 729 * i ∧ ∀ h ∈ layer, (1 ≤ lastO h ∧ lastO h ≤ m) ∧ h.length = i)
      ⟨l1, l2, [[]], [[]], none, none, none, rfl, v1, v2, u2, rfl, Nat.zero_le _, by decide, by decide, fun h hh => by rw [List.mem_singleton.mp hh]; exact ⟨⟨by decide, by show (1 : Int) ≤ m; omega⟩, rfl⟩⟩ ?_ ?_⟩
    · rintro i σ' H3 hi ⟨fl, ll, found, layer, w4, w5, w6, rfl, hf, hl, s3, e3, hin, hl3, hf3, ho⟩
      have hi' : i < n := by omega
      have p3 : layer.length ≤ 243 := Nat.le_trans hl3 (Nat.le_trans (Nat.pow_le_pow_right (by decide) (show i ≤ 5 by omega)) (by decide))
      refine ⟨by show 0 ≤ sizeLine; omega, fun g0 hg0 => ?_⟩
      have v4 : ListsAt (upd H3 g0 (.lst [])) g0 [] := ⟨[], upd_same, .nil⟩
      have s4 : Same H3 (upd H3 g0 (.lst [])) := same_upd hg0
      generalize upd H3 g0 (.lst []) = H4 at v4 s4 ⊢
      dsimp only [gName, List.set]
      obtain ⟨as, a1, a2⟩ := hl.same s4
      have hal := Paired.length a2
      have hf4 := hf.same s4
      refine ⟨_, rfl, ll, rfl, ⟨_, SqL.of a1⟩, for_list (K := K) (a := ll) (xs := as.map V.ref) (fun j σ' H' => ∃ (gl : Addr) (w6 : Option V), σ' = [some (.int (m : Int)), some (.int (n : Int)), some (.ref fl), some (.ref ll), some (.int (0 + (i : Int))), some (.ref gl), w6, none] ∧ ListsAt H' gl ((layer.take j).flatMap (longM m)) ∧ Same H4 H')
        ⟨g0, w6, rfl, v4, Same.refl _⟩ (fun j σ' H' _ ⟨_, _, _, _, e⟩ => SqL.of (e _ _ a1)) ?_ ?_⟩
      · rintro j y σ' H5 hy ⟨gl, w6, rfl, hgl, s5⟩
        obtain ⟨ra, hra, rfl⟩ := map_get hy
        obtain ⟨g, hg, hgat⟩ := paired_get' a2 hra
        have hgO := ho g (List.mem_of_getElem? hg)
        have hgat5 : PosAt H5 ra g := s5 _ _ hgat
        have hjl := (List.getElem?_eq_some_iff.mp hg).1
        have htk : (layer.take (j + 1)).flatMap (longM m) = (layer.take j).flatMap (longM m) ++ longM m g := by
          rw [take_succ hg, List.flatMap_append, List.flatMap_singleton]
        have hgl3 : ((layer.take j).flatMap (longM m)).length ≤ 1000 := by
          have := flatL_len hm3 (l := layer.take j) fun h hh => (ho h (List.mem_of_mem_take hh)).1.1
          rw [List.length_take] at this
          omega
        dsimp only [gName, List.set]
        refine ⟨_, rfl, _, rfl, by show 0 ≤ sizeLine; omega, fun et het => ?_⟩
        have s6 : Same H5 (upd H5 et (.tup [])) := same_upd het
        have e6 : PosAt (upd H5 et (.tup [])) et [] := upd_same
        generalize upd H5 et (.tup []) = H6 at s6 e6 ⊢
        have g6 : PosAt H6 ra g := s6 _ _ hgat5
        refine ⟨_, _, dp_ints (SqT.of g6), dp_ints (SqT.of e6), shaped_ints _, shaped_ints _, _, rfl, ?_⟩
        rw [eqv_ints]
        refine tIf_val (.int (lastO g)) (fun e Q' q' => ?_) (fun e Q' q' => ?_) ?_
        · have hne : g ≠ [] := fun z => by rw [z] at e; exact absurd e (by decide)
          have hgl := List.dropLast_concat_getLast hne
          have ez : lastO g = g.getLast hne := by
            unfold lastO
            rw [List.getLast?_eq_some_getLast hne] <;> rfl
          refine ⟨_, rfl, _, rfl, ra, _, _, .int (lastO g), rfl, rfl, SqT.of g6, ?_, q'⟩
          rw [ez, show g.map V.int = (g.dropLast.map V.int) ++ [.int (g.getLast hne)] by rw [← List.map_singleton, ← List.map_append, hgl]]
          exact atI_last _ _
        · have hg0 : g = [] := by
            by_cases z : g = []
            · exact z
            · rw [decide_eq_false z] at e; exact absurd e (by decide)
          rw [hg0] at q'
          exact q'
        obtain ⟨⟨o1, o2⟩, o3⟩ := hgO
        refine ⟨_, rfl, _, _, rfl, rfl, _, _, rfl, ⟨by omega, by omega, by omega, by omega⟩, fun D hD => ?_⟩
        have hnn : ((m : Int) + 1 - lastO g).toNat = m + 1 - (g.getLast?.getD 1).toNat := by
          show ((m : Int) + 1 - lastO g).toNat = m + 1 - (lastO g).toNat
          omega
        have hgl6 := hgl.same s6
        refine lc_it walk_range (fun k H' => ∃ bs : List Addr, H' D = some (.lst (bs.map V.ref)) ∧ Paired (PosAt H') bs ((List.range k).map fun i : Nat => g ++ [lastO g + (i : Int)]) ∧ Same H6 H')
          ⟨[], upd_same, .nil, same_upd hD⟩ (fun _ _ _ _ => trivial) ?_ ?_
        · rintro k y H7 H8 hk ⟨bs, b1, b2, s7⟩ ⟨rfl, rfl⟩
          have hbl := Paired.length b2
          rw [List.length_map, List.length_range] at hbl
          refine ⟨rfl, _, rfl, _, rfl, by show 1 ≤ sizeLine; omega, fun t2 ht2 => ?_⟩
          have s8 : Same H8 (upd H8 t2 (.tup [.int (lastO g + (k : Int))])) := same_upd ht2
          have e8 : PosAt (upd H8 t2 (.tup [.int (lastO g + (k : Int))])) t2 [lastO g + (k : Int)] := upd_same
          generalize upd H8 t2 (.tup [.int (lastO g + (k : Int))]) = H9 at s8 e8 ⊢
          have g9 : PosAt H9 ra g := s8 _ _ (s7 _ _ g6)
          have fin : ∀ (p : Addr) (H' : Hp), Same H9 H' → PosAt H' p (g ++ [lastO g + (k : Int)]) → ∃ acc, H' D = some (.lst acc) ∧ acc.length < sizeLine ∧ ∃ bs : List Addr, upd H' D (.lst (acc ++ [V.ref p])) D = some (.lst (bs.map V.ref)) ∧ Paired (PosAt (upd H' D (.lst (acc ++ [V.ref p])))) bs ((List.range (k + 1)).map fun i : Nat => g ++ [lastO g + (i : Int)]) ∧ Same H6 (upd H' D (.lst (acc ++ [V.ref p]))) := fun p H' s9 hp => by
            have sD : Same H8 H' := s8.trans s9
            have d1 : H' D = _ := sD _ _ b1
            have hpD : p ≠ D := fun z => by
              rw [z] at hp
              have hp : H' D = _ := hp
              rw [hp] at d1
              cases d1
            refine ⟨_, d1, by rw [List.length_map, hbl]; omega, bs ++ [p], by rw [upd_same, List.map_append] <;> rfl, ?_, ?_⟩
            · rw [List.range_succ, List.map_append]
              refine paired_snoc (paired_mono (fun a b (r : PosAt H8 a b) => ?_) b2) ?_
              · have r2 : H' a = _ := sD _ _ r
                have n : a ≠ D := fun z => by
                  rw [z, d1] at r2
                  cases r2
                show upd H' D _ a = _
                rw [upd_ne n]
                exact r2
              · show upd H' D _ p = _
                rw [upd_ne hpD]
                exact hp
            · intro b o hb
              have n : b ≠ D := fun z => by rw [z, hD] at hb; cases hb
              rw [upd_ne n]
              exact sD _ _ (s7 _ _ hb)
          refine ⟨ra, t2, _, _, rfl, rfl, SqT.of g9, SqT.of e8, by rw [List.length_map, List.length_map, o3]; show i + 1 ≤ sizeLine; omega, fun z => ?_, fun _ z => (nomatch z), fun _ _ p hp => ?_⟩
          · have hg0 : g = [] := List.map_eq_nil_iff.mp z
            refine fin t2 H9 (Same.refl _) ?_
            rw [hg0] at e8 ⊢
            exact e8
          · refine fin p _ (same_upd hp) ?_
            show upd H9 p _ p = _
            rw [upd_same, List.map_append] <;> rfl
        · rintro H7 ⟨bs, b1, b2, s7⟩
          rw [hnn] at b2
          obtain ⟨cs, c1, c2⟩ := hgl6.same s7
          have hcl := Paired.length c2
          have hbl := Paired.length b2
          have hlm : (longM m g).length ≤ 3 := longM_len hm3 o1
          have b2' : Paired (PosAt H7) bs (longM m g) := b2
          have hbl' := Paired.length b2'
          refine ⟨gl, D, _, _, rfl, rfl, c1, b1, by rw [List.length_map, List.length_map]; omega, fun p hp => ?_⟩
          have s8 : Same H7 (upd H7 p (.lst (cs.map V.ref ++ bs.map V.ref))) := same_upd hp
          refine ⟨p, some (.ref ra), rfl, ⟨cs ++ bs, by rw [upd_same, List.map_append], ?_⟩, ((s5.trans s6).trans s7).trans s8⟩
          rw [htk]
          exact paired_app (paired_mono (fun a b (r : PosAt H7 a b) => s8 _ _ r) c2) (paired_mono (fun a b (r : PosAt H7 a b) => s8 _ _ r) b2')
      · rintro σ' H5 ⟨gl, w6, rfl, hgl, s5⟩
        rw [List.length_map, hal, List.take_length] at hgl
        have hf5 := hf4.same s5
        obtain ⟨cs, c1, c2⟩ := hf5
        obtain ⟨bs, b1, b2⟩ := id hgl
        have hcl := Paired.length c2
        have hbl := Paired.length b2
        have hLL := flatL_len hm3 (l := layer) fun h hh => (ho h hh).1.1
        refine ⟨_, rfl, _, rfl, fl, gl, _, _, rfl, rfl, c1, b1, by rw [List.length_map, List.length_map]; omega, fun p hp => ?_⟩
        have s8 : Same H5 (upd H5 p (.lst (cs.map V.ref ++ bs.map V.ref))) := same_upd hp
        have f8 : ListsAt (upd H5 p (.lst (cs.map V.ref ++ bs.map V.ref))) p (found ++ layer.flatMap (longM m)) := ⟨cs ++ bs, by rw [upd_same, List.map_append], paired_app (paired_mono (fun a b (r : PosAt H5 a b) => s8 _ _ r) c2) (paired_mono (fun a b (r : PosAt H5 a b) => s8 _ _ r) b2)⟩
        generalize upd H5 p (.lst (cs.map V.ref ++ bs.map V.ref)) = H6 at s8 f8 ⊢
        refine ⟨_, rfl, _, _, rfl, p, gl, _, _, _, _, _, rfl, f8, hgl.same s8, s3.trans (s4.trans (s5.trans s8)), ?_, by omega, ?_, ?_, ?_⟩
        · rw [← e3, show n - i = (n - (i + 1)) + 1 by omega, listsM]
        · rw [Nat.pow_succ]; omega
        · rw [List.length_append]; omega
        · intro h hh
          obtain ⟨g, hg, z⟩ := List.mem_flatMap.mp hh
          have := longM_mem (ho g hg).1.1 z
          exact ⟨this.1, by rw [this.2, (ho g hg).2]⟩
    · rintro σ' H3 ⟨fl, ll, found, layer, w4, w5, w6, rfl, hf, hl, s3, e3, _⟩
      have e3 : listsM m (n - n) found layer = _ := e3
      rw [Nat.sub_self] at e3
      rw [show found = _ from e3] at hf
      exact ⟨_, rfl, q H3 fl s3 hf⟩
end
end QT
set_option Elab.async false
set_option linter.all false
set_option maxRecDepth 100000
set_option maxHeartbeats 4000000
namespace QT
open PySem PySem.Spec PyProof.Rows L2
/-! what the law asks of a rule, from the table of cases -/
theorem h0_ok : (cfgs.all fun c => match pairsM c.table (stepsM c.mv c.table c.images c.most) 50 0 [((0, []), [])] with | none => true | some es => (lkE es (0, [])).isSome) = true := by decide +kernel
structure LawC' (mv : List (List (List Int))) (m : Nat) (t : List (List Int)) (lost im : List Int) (L : List Int → Bool) : Prop where
  cfg : Cfg m mv L
  quot : quotM mv L m 4 [[]] = some (t, lost, im)
  sh : ShOk m t lost im
  nd : (t.map fun r => hashB (rowB lost r)).Nodup
  es : ∃ es, pairsM t (stepsM mv t im m) 50 0 [((0, []), [])] = some es ∧ t.length ≤ (isort (es.map fun e => e.1.1)).length ∧ faultM lost es = none
  seen : ∃ k, seenM t im (listsM m 6 [[]] [[]]) 0 = some k ∧ (t.length : Int) ≤ k
abbrev LawC (ds : List Int) (m : Nat) (t : List (List Int)) (lost im : List Int) (L : List Int → Bool) : Prop := LawC' (movesM ds m) m t lost im L
theorem lawC {ds : List Int} {m : Nat} (hd : ds ∈ rules) (h1 : 1 ≤ m) (h3 : m ≤ 3) : ∃ t lost im L, LawC ds m t lost im L := by
  have hm : m ∈ [1, 2, 3] := by
    simp only [List.mem_cons, List.not_mem_nil, or_false]
    omega
  have r := List.all_eq_true.mp (List.all_eq_true.mp rules_ok ds hd) m hm
  obtain ⟨c, hc, e⟩ := List.any_eq_true.mp r
  rw [Bool.and_eq_true, decide_eq_true_eq, decide_eq_true_eq] at e
  obtain ⟨e1, e2⟩ := e
  have ok := List.all_eq_true.mp cfgs_ok c hc
  have h0 := List.all_eq_true.mp h0_ok c hc
  unfold cfOk at ok
  simp only [Bool.and_eq_true, decide_eq_true_eq] at ok
  obtain ⟨⟨⟨⟨a1, a2⟩, a3⟩, a4⟩, a5⟩ := ok
  have V := mvOk_of a1
  have S := ShOk.of a2
  cases hp : pairsM c.table (stepsM c.mv c.table c.images c.most) 50 0 [((0, []), [])] with
  | none => rw [hp] at a4; cases a4
  | some es =>
    rw [hp] at a4 h0
    simp only [Bool.and_eq_true, decide_eq_true_eq] at a4
    obtain ⟨⟨b1, b2⟩, b3⟩ := a4
    unfold clOk at b1
    simp only [List.all_eq_true, Bool.and_eq_true] at b1
    unfold lawOk at a3
    rw [Bool.and_eq_true, decide_eq_true_eq] at a3
    obtain ⟨c1, c2⟩ := a3
    subst e1
    suffices h : ∃ t lost im L, LawC' c.mv c.most t lost im L by
      rw [e2] at h
      exact h
    refine ⟨c.table, c.lost, c.images, Lo c, ⟨V, fun h hi => ?_⟩, a5, S, c2, ⟨es, hp, b2, ?_⟩, ?_⟩
    · exact rec_of S.M S.imOk V (fun e he st hst => (b1 e he).1 st hst) h0 (fun e he => by simpa using (b1 e he).2) hi
    · cases hf : faultM c.lost es with
      | none => rfl
      | some z => rw [hf] at b3; cases b3
    · cases hs : seenM c.table c.images (listsM c.most 6 [[]] [[]]) 0 with
      | none => rw [hs] at c1; cases c1
      | some k =>
        rw [hs] at c1
        exact ⟨k, rfl, of_decide_eq_true c1⟩
end QT
set_option Elab.async false
set_option linter.all false
set_option maxRecDepth 100000
set_option maxHeartbeats 4000000
namespace QT
open PySem PySem.Spec PyProof.Rows L2
section
variable {P : Program} {w : World} {K : PySem.W.Frag} {mg : Str → Option Value} {base : Heap} {f f1 f2 f3 f4 f5 f6 : Addr} {fd fd1 fd2 fd3 fd4 fd5 fd6 : FuncData}
abbrev sLaw : Stmt := top 35
abbrev nLaw : List Str := ["_law_script", "_law_row", "_law_rule", "_law_most", "_law_found", "_law_table", "_law_lost", "_law_images", "_law_many", "_law_seen", "_law_heaps", "_law_image_here", "_law_rows", "_law_one", "_law_other", "_law_third"]
theorem scLaw : FnScope nLaw ["_law_script"] (defScope sLaw) := ⟨rfl, rfl, rfl, by decide +kernel, rfl, by decide +kernel, by decide +kernel⟩
def spLaw (K : PySem.W.Frag) : Sp := fun vs H Q _ => ∃ (a : Addr) (ns : List Int), vs = [.ref a] ∧ SqL K H a (ns.map V.int) ∧ ns.length ≤ 63 ∧ ∀ H', Q (.bl true) H'
theorem scr_new {H : Hp} {a p : Addr} {o : HO} {ns : List Int} (h : SqL K H a (ns.map V.int)) (hp : H p = none) : Scr K (upd H p o) p a ns := fun H' k => by
  have key : ∀ u, H a = some u → H' a = some u := fun u e => by
    have n := ne_of_none e hp
    exact k a u (by rw [upd_ne n]; exact e) n
  rcases h with (h | ⟨o, h⟩) | h
  · exact .inl (.inl (key _ h))
  · exact .inl (.inr ⟨o, key _ h⟩)
  · exact .inr h
theorem Scr.kbn {H H' : Hp} {p a : Addr} {ns : List Int} (h : Scr K H p a ns) (k : Kb p H H') : Scr K H' p a ns := h.kb k
theorem Tk.kbl {se : Addr} {H H' : Hp} {l : List V} (k : Kb se H H') (h : H se = some (.lst l)) : Tk H H' := fun b xs e => k b _ e (ne_of e h (fun z => nomatch z))
abbrev sg (a p r q ta la ia se : Addr) (m n : Nat) (w10 w11 w12 w13 w14 w15 : Option V) : L2.St := [some (.ref a), some (.ref p), some (.ref r), some (.int (m : Int)), some (.ref q), some (.ref ta), some (.ref la), some (.ref ia), some (.int (n : Int)), some (.ref se), w10, w11, w12, w13, w14, w15]
def nums (k : Nat) : List Int := (List.range k).map fun i : Nat => (i : Int)
theorem nums_len (k : Nat) : (nums k).length = k := by
  unfold nums
  rw [List.length_map, List.length_range]
theorem nums_succ (k : Nat) : nums (k + 1) = nums k ++ [(k : Int)] := by
  unfold nums
  rw [List.range_succ, List.map_append] <;> rfl
theorem nums_mem {k : Nat} {x : Int} : x ∈ nums k ↔ 0 ≤ x ∧ x < k := by
  unfold nums
  rw [List.mem_map]
  refine ⟨fun ⟨i, hi, e⟩ => ?_, fun h => ⟨x.toNat, List.mem_range.mpr (by omega), by omega⟩⟩
  have := List.mem_range.mp hi
  omega
theorem seen_step {t : List (List Int)} {im h : List Int} {hs : List (List Int)} {k : Nat} {r : Int} (e : seenM t im (h :: hs) k = some r) : ((nums k).contains (img t im h) = true ∧ seenM t im hs k = some r) ∨ ((nums k).contains (img t im h) = false ∧ img t im h = (k : Int) ∧ seenM t im hs ((k + 1 : Nat) : Int) = some r) := by
  rw [seenM] at e
  by_cases c : 0 ≤ img t im h ∧ img t im h < (k : Int)
  · rw [if_pos c] at e
    exact .inl ⟨List.contains_iff_mem.mpr (nums_mem.mpr c), e⟩
  · rw [if_neg c] at e
    by_cases c2 : img t im h = (k : Int)
    · rw [if_pos c2] at e
      refine .inr ⟨?_, c2, e⟩
      cases z : (nums k).contains (img t im h) with
      | false => rfl
      | true => exact absurd (nums_mem.mp (List.contains_iff_mem.mp z)) c
    · rw [if_neg c2] at e
      cases e
theorem lists_pos : ([1, 2, 3].all fun m : Nat => decide (1 ≤ (listsM m 6 [[]] [[]]).length)) = true := by decide +kernel
theorem lists_few : ([1, 2, 3].all fun m : Nat => decide ((listsM m 6 [[]] [[]]).length ≤ 1000)) = true := by decide +kernel
theorem m_mem {m : Nat} (h1 : 1 ≤ m) (h3 : m ≤ 3) : m ∈ [1, 2, 3] := by
  simp only [List.mem_cons, List.not_mem_nil, or_false]
  omega
theorem ok_law (F : FnP K "law" sLaw f fd) (T : Tx mg) (c1 : Cal P w K mg base 1 "_law_taken" ["_law_row", "_law_many"] (spTaken K) f1 fd1) (c2 : Cal P w K mg base 2 "_law_small_rule" ["_law_row"] (spSmall K) f2 fd2)
    (c3 : Cal P w K mg base 34 "quotient" ["rule", "most"] (spQuot K) f3 fd3) (c4 : Cal P w K mg base 1 "_law_lists_to" ["_law_most", "_law_many"] spLists f4 fd4) (c5 : Cal P w K mg base 1 "_law_image" ["_law_value", "_law_heaps"] spLawImage f5 fd5)
    (c6 : Cal P w K mg base 7 "shows_quotient" ["rule", "most", "value"] (spShows K) f6 fd6) : FnOk P w K mg base CX0 35 f fd ["_law_script"] (spLaw K) := by
  refine F.ok scLaw (fun vs H Q E h => ?_) (fun cdv A outer s H vs Q E hr h => ⟨_, PSs.nox
    (pss_cons (ps_set (i := 1) scLaw.nd rfl (Or.inl rfl) (pe_lst (pa_cons (pv 0) (pa_cons pe_int (pa_cons pe_int (pa_cons pe_int pa_nil))))))
    (pss_cons (ps_par (i := 2) (j := 3) rfl scLaw.nd rfl rfl (by decide) rfl rfl (pa_cons (pe_call c2.ok (hr.mono (by decide)) rfl c2.g c2.kp c2.b .nil pass0 (pa_cons (pv 1) pa_nil)) (pa_cons (pe_op op_add pe_int (pe_call c1.ok (hr.mono (by decide)) rfl c1.g c1.kp c1.b .nil pass0 (pa_cons (pv 1) (pa_cons pe_int pa_nil)))) pa_nil)) (by rfl))
    (pss_cons (ps_set (i := 4) scLaw.nd rfl (Or.inl rfl) (pe_call c3.ok (hr.mono (by decide)) rfl c3.g c3.kp c3.b .nil pass0 (pa_cons (pv 2) (pa_cons (pv 3) pa_nil))))
    (pss_cons (ps_if (pt_cmpR op_isN (pv 4) pe_non (nomark _)) (pss_one ps_never) pss_nil)
    (pss_cons (ps_asg (pv 4) (pg_tup rfl (pgs_cons (pg_name (i := 5) scLaw.nd rfl (.inr rfl)) (pgs_cons (pg_name (i := 6) scLaw.nd rfl (.inr rfl)) (pgs_cons (pg_name (i := 7) scLaw.nd rfl (.inl rfl)) pgs_nil)))))
    (pss_cons (ps_par (i := 8) (j := 9) rfl scLaw.nd rfl rfl (by decide) rfl rfl (pa_cons (pe_callB call_len_seq rfl T.len boot_len (pa_cons (pv 5) pa_nil)) (pa_cons (pe_lst pa_nil) pa_nil)) (by rfl))
    (pss_cons (ps_for PassesOwn.never rfl (pi_list (pe_call c4.ok (hr.mono (by decide)) rfl c4.g c4.kp c4.b .nil pass0 (pa_cons (pv 3) (pa_cons pe_int pa_nil)))) (pg_name (i := 10) scLaw.nd rfl (.inl rfl))
      (pss_cons (ps_set (i := 11) scLaw.nd rfl (Or.inl rfl) (pe_call c5.ok (hr.mono (by decide)) rfl c5.g c5.kp c5.b .nil pass0 (pa_cons (pv 4) (pa_cons (pv 10) pa_nil))))
      (pss_one (ps_if (pt_cmpR op_notIn_seq (pv 11) (pv 9) (by rfl))
        (pss_cons (ps_if (pt_cmpR op_ne (pv 11) (pe_callB call_len_seq rfl T.len boot_len (pa_cons (pv 9) pa_nil)) (nomark _)) (pss_one ps_never) pss_nil)
        (pss_one (ps_expr (pe_bm PySem.F.plainAttrs_list PySem.F.slot_list_append PySem.F.type_list_append mt_append (pv 9) (pa_cons (pv 11) pa_nil))))) pss_nil))))
    (pss_cons (ps_if (PW.pt (pw_or (PW.pt (pw_and (pt_cmpR op_lt (pe_callB call_len_seq rfl T.len boot_len (pa_cons (pv 9) pa_nil)) (pv 8) (nomark _)) (pw_and1 (pt_cmpR op_lt (pv 8) pe_int (nomark _)))))
      (pw_or1 (pt_cmpR op_isnot_bl (pe_call c6.ok (hr.mono (by decide)) rfl c6.g c6.kp c6.b .nil pass0 (pa_cons (pv 2) (pa_cons (pv 3) (pa_cons (pv 4) pa_nil)))) pe_bl (nomark _))))) (pss_one ps_never) pss_nil)
    (pss_cons (ps_set (i := 12) scLaw.nd rfl (Or.inl rfl) (pe_lst pa_nil))
    (pss_cons (ps_for PassesOwn.never rfl (pi_range1 rfl T.range (pa_cons (pv 8) pa_nil)) (pg_name (i := 13) scLaw.nd rfl (.inr rfl))
      (pss_cons (ps_expr (pe_bm PySem.F.plainAttrs_list PySem.F.slot_list_append PySem.F.type_list_append mt_append (pv 12) (pa_cons (pe_callTy (call_tupleK (K := K) rfl) rfl T.tuple (by decide +kernel) (pa_cons (pe_lc (own := [("_law_other", 14)]) (g := gName 14) (tt := tYes) rfl scLaw.nd (pi_range1 rfl T.range (pa_cons (pv 8) pa_nil))
          (blkOk_by (N := nLaw) (sc := defScope sLaw) (by decide +kernel)) (fun _ _ _ _ _ => pg_name (i := 14) scLaw.nd rfl (Or.inl rfl)) (fun _ _ _ _ _ => pts_nil)
          (fun _ _ _ _ _ => pe_cmpR (op_inK (K := K) rfl) (pe_ix (ix_tK (K := K) rfl) (pe_ix (ix_tK (K := K) rfl) (pv 5) (pv 13) (fun _ _ => rfl)) (pv 14) (fun _ _ => rfl)) (pv 6) (by rfl))) pa_nil)) pa_nil)))
      (pss_one (ps_if (PW.pt (pw_or (pt_cmpR op_ne (pe_ix ix_tup (pe_ix ix_tup (pv 5) pe_int (fun _ _ => rfl)) (pv 13) (fun _ _ => rfl)) (pv 13) (nomark _))
        (pw_or1 (pt_cmpR (op_neD hr.units) (pe_lc (own := [("_law_other", 14)]) (g := gName 14) rfl scLaw.nd (pi_range1 rfl T.range (pa_cons (pv 8) pa_nil))
          (blkOk_by (N := nLaw) (sc := defScope sLaw) (by decide +kernel)) (fun _ _ _ _ _ => pg_name (i := 14) scLaw.nd rfl (Or.inl rfl))
          (fun _ _ _ _ _ => pts_one (pt_cmpR op_ne (pe_ix (ix_tK (K := K) rfl) (pe_ix (ix_tK (K := K) rfl) (pv 5) (pv 13) (fun _ _ => rfl)) (pv 14) (fun _ _ => rfl)) (pe_ix (ix_tK (K := K) rfl) (pe_ix (ix_tK (K := K) rfl) (pv 5) (pv 14) (fun _ _ => rfl)) (pv 13) (fun _ _ => rfl)) (nomark _)))
          (fun _ _ _ _ _ => pv 14)) (pe_lst pa_nil) (nomark _))))) (pss_one ps_never) pss_nil))))
    (pss_cons (ps_if (pt_cmpR op_ne (pe_callB (cr_lenSetNw (w := w) rfl) rfl T.len boot_len (pa_cons (pe_callTy (cr_setBw (w := w) rfl rfl hr.units) rfl T.set (by decide +kernel) (pa_cons (pv 12) pa_nil)) pa_nil)) (pv 8) (nomark _)) (pss_one ps_never) pss_nil)
    (pss_cons (ps_asg (pe_tup (pa_cons (pe_call c1.ok (hr.mono (by decide)) rfl c1.g c1.kp c1.b .nil pass0 (pa_cons (pv 1) (pa_cons (pv 8) pa_nil))) (pa_cons (pe_call c1.ok (hr.mono (by decide)) rfl c1.g c1.kp c1.b .nil pass0 (pa_cons (pv 1) (pa_cons (pv 8) pa_nil))) (pa_cons (pe_call c1.ok (hr.mono (by decide)) rfl c1.g c1.kp c1.b .nil pass0 (pa_cons (pv 1) (pa_cons (pv 8) pa_nil))) pa_nil))))
        (pg_tup rfl (pgs_cons (pg_name (i := 13) scLaw.nd rfl (.inr rfl)) (pgs_cons (pg_name (i := 14) scLaw.nd rfl (.inl rfl)) (pgs_cons (pg_name (i := 15) scLaw.nd rfl (.inl rfl)) pgs_nil)))))
    (pss_one (ps_ret (pe_cmpR op_eq (pe_ix ix_tup (pe_ix ix_tup (pv 5) (pe_ix ix_tup (pe_ix ix_tup (pv 5) (pv 13) (fun _ _ => rfl)) (pv 14) (fun _ _ => rfl)) (fun _ _ => rfl)) (pv 15) (fun _ _ => rfl))
      (pe_ix ix_tup (pe_ix ix_tup (pv 5) (pv 13) (fun _ _ => rfl)) (pe_ix ix_tup (pe_ix ix_tup (pv 5) (pv 14) (fun _ _ => rfl)) (pv 15) (fun _ _ => rfl)) (fun _ _ => rfl)) (nomark _)))))))))))))))), ?_⟩)
  · obtain ⟨a, ns, rfl, _⟩ := h
    rfl
  · obtain ⟨a, ns, rfl, ha, hns, q⟩ := h
    have sl : 100000 ≤ sizeLine := by decide
    refine ⟨_, rfl, by show 4 ≤ sizeLine; omega, fun p hp => ?_⟩
    have r1 : RowAt K (upd H p (.lst [.ref a, .int 0, .int 3169, .int 0])) p a ns := ⟨0, 3169, 0, upd_same, scr_new ha hp, trivial, by decide⟩
    generalize upd H p (.lst [.ref a, .int 0, .int 3169, .int 0]) = H1 at r1 ⊢
    dsimp only [gName, List.set]
    refine ⟨_, rfl, p, a, ns, rfl, r1, hns, fun ds r H2 hrule hds k2 r2 hr2 => ?_⟩
    refine ⟨_, rfl, p, a, ns, 3, rfl, r2, hns, by decide, by decide, fun v H3 hv b3 r3 => ?_⟩
    have hrp : r ≠ p := by
      obtain ⟨x, y, z, e, _⟩ := r2.p
      exact ne_of hr2 e (fun z => nomatch z)
    have hr3 : H3 r = some (.tup (ds.map V.int)) := (b3 r hrp).trans hr2
    obtain ⟨m, em, hm1, hm3⟩ : ∃ m : Nat, 1 + (v : Int) = (m : Int) ∧ 1 ≤ m ∧ m ≤ 3 := ⟨v + 1, by omega, by omega, by omega⟩
    refine ⟨_, _, rfl, rfl, .ref r, .int (m : Int), ?_, ?_⟩
    · show [V.ref r, V.int (1 + (v : Int))] = _
      rw [em]
    dsimp only [List.set]
    obtain ⟨tab, lost, im, L, C⟩ := lawC hds hm1 hm3
    have M := C.sh.M
    have hpos := M.pos
    have hfew := M.few
    refine ⟨_, rfl, _, rfl, r, ds, m, L, tab, lost, im, rfl, SqT.of hr3, hrule, hm1, hm3, C.cfg, C.quot, fun H4 q4 ta la ia s4 hq ht hl hi => ?_⟩
    have r4 : RowAt K H4 p a ns := r3.kb (Kb.of s4) (r3.p.same s4)
    have hr4 : H4 r = some (.tup (ds.map V.int)) := s4 _ _ hr3
    clear r1 r2 r3 k2 b3 hr2 hr3 s4
    dsimp only [gName, List.set]
    refine ⟨_, rfl, rfl, _, rfl, ?_⟩
    have e0 : decide (V.ref q4 = V.non) = false := decide_eq_false fun z => nomatch z
    rw [e0]
    refine iteF ?_
    dsimp only [tNext]
    refine ⟨_, rfl, q4, _, rfl, SqT.of hq, rfl, _, _, rfl, _, _, rfl, _, _, rfl, rfl, ?_⟩
    dsimp only [gName, List.set]
    obtain ⟨rs, g1, g2, g3⟩ := ht.row
    refine ⟨_, rfl, ta, _, rfl, .inr (SqT.of g1), by show 0 ≤ sizeLine; omega, fun se hse => ⟨_, _, rfl, ?_⟩⟩
    rw [List.length_map, g2]
    dsimp only [List.set]
    have s5 : Same H4 (upd H4 se (.lst [])) := same_upd hse
    have hse5 : upd H4 se (.lst []) se = some (.lst []) := upd_same
    generalize upd H4 se (.lst []) = H5 at s5 hse5 ⊢
    obtain ⟨K0, hK0, hK1⟩ := C.seen
    refine seq_mid (fun σ' H' => ∃ (k : Nat) (w10 w11 : Option V), σ' = sg a p r q4 ta la ia se m tab.length w10 w11 none none none none ∧ Kb se H4 H' ∧ H' se = some (.lst ((nums k).map V.int)) ∧ tab.length ≤ k) (fun nx hnx => ?_) ?_
    · refine ⟨_, rfl, m, 6, rfl, hm1, hm3, by decide, fun H6 hl6 s6 hls => ?_⟩
      obtain ⟨as, a1, a2⟩ := hls
      have hal := Paired.length a2
      have s46 : Same H4 H6 := s5.trans s6
      refine ⟨hl6, rfl, ⟨_, SqL.of a1⟩, for_list (K := K) (a := hl6) (xs := as.map V.ref) (fun i σ' H' => ∃ (k : Nat) (w10 w11 : Option V), σ' = sg a p r q4 ta la ia se m tab.length w10 w11 none none none none ∧ Kb se H6 H' ∧ H' se = some (.lst ((nums k).map V.int)) ∧ seenM tab im ((listsM m 6 [[]] [[]]).drop i) (k : Int) = some K0 ∧ k ≤ i)
        ⟨0, none, none, rfl, Kb.refl _ _, s6 _ _ hse5, hK0, Nat.le_refl _⟩ ?_ ?_ ?_⟩
      · rintro i σ' H7 _ ⟨k, w10, w11, rfl, kb, _⟩
        have hp1 := of_decide_eq_true (List.all_eq_true.mp lists_pos m (m_mem hm1 hm3))
        refine SqL.of (kb _ _ a1 (ne_of a1 (s6 _ _ hse5) fun z => ?_))
        injection z with z
        rw [← hal] at hp1
        rw [List.map_eq_nil_iff] at z
        rw [z] at hp1
        exact absurd hp1 (by decide)
      · rintro i y σ' H7 hy ⟨k, w10, w11, rfl, kb, hs7, hsn, hki⟩
        obtain ⟨ra, hra, rfl⟩ := map_get hy
        obtain ⟨h, hh, hat⟩ := paired_get' a2 hra
        have tk : Tk H6 H7 := Tk.kbl kb (s6 _ _ hse5)
        have hil := (List.getElem?_eq_some_iff.mp hh).1
        have hdrop : (listsM m 6 [[]] [[]]).drop i = h :: (listsM m 6 [[]] [[]]).drop (i + 1) := by
          rw [List.drop_eq_getElem_cons hil]
          congr 1
          exact (List.getElem?_eq_some_iff.mp hh).2
        have hll : (listsM m 6 [[]] [[]]).length ≤ 1000 := of_decide_eq_true (List.all_eq_true.mp lists_few m (m_mem hm1 hm3))
        have hin : InM m h := fun x hx => by
          have z := List.all_eq_true.mp (List.all_eq_true.mp (List.all_eq_true.mp lists_in m (m_mem hm1 hm3)) h (List.mem_of_getElem? hh)) x hx
          rw [Bool.and_eq_true, decide_eq_true_eq, decide_eq_true_eq] at z
          exact z
        dsimp only [sg, gName, List.set]
        refine ⟨_, rfl, _, rfl, q4, ta, la, ia, ra, tab, im, h, m, rfl, tk _ _ (s46 _ _ hq), (ht.keep (Tk.of s46)).keep tk, tk _ _ (s46 _ _ hi), tk _ _ hat, M, C.sh.imOk, hin, ?_⟩
        dsimp only [gName, List.set]
        refine ⟨_, rfl, _, rfl, se, _, rfl, .inl (SqL.of hs7), rfl, flat_ints _, _, rfl, ?_⟩
        rw [inV_ints]
        rw [hdrop] at hsn
        rcases seen_step hsn with ⟨e1, e2⟩ | ⟨e1, e2, e3⟩
        · rw [e1]
          exact iteF ⟨k, _, _, rfl, kb, hs7, e2, by omega⟩
        · rw [e1]
          refine iteT ⟨_, rfl, _, rfl, se, _, rfl, .inl (SqL.of hs7), rfl, _, rfl, ?_⟩
          rw [List.length_map, nums_len, e2, decI, decide_eq_true rfl]
          refine iteF ?_
          dsimp only [tNext]
          refine ⟨_, rfl, .inl ⟨rfl, _, SqL.of hs7⟩, _, rfl, se, _, _, rfl, rfl, hs7, by rw [List.length_map, nums_len]; exact small_line' (by omega), k + 1, _, _, rfl, fun b o hb hn => by rw [upd_ne hn]; exact kb _ _ hb hn, ?_, e3, by omega⟩
          rw [upd_same, nums_succ, List.map_append] <;> rfl
      · rintro σ' H7 ⟨k, w10, w11, rfl, kb, hs7, hsn, hki⟩
        refine hnx _ _ ⟨k, w10, w11, rfl, (Kb.of s46).trans kb, hs7, ?_⟩
        rw [List.length_map, hal, List.drop_length, seenM] at hsn
        have := Option.some.inj hsn
        omega
    · rintro _ H7 ⟨k, w10, w11, rfl, kb, hs7, hk⟩
      dsimp only [sg]
      obtain ⟨es, hes, hcnt, hfault⟩ := C.es
      have tk7 : ∀ b xs, H4 b = some (.tup xs) → H7 b = some (.tup xs) := fun b xs e => kb b _ e (ne_of_none e hse)
      have tk7 : Tk H4 H7 := tk7
      refine ⟨_, rfl, se, _, rfl, .inl (SqL.of hs7), _, rfl, _, _, rfl, rfl, _, rfl, ?_⟩
      rw [List.length_map, nums_len, decide_eq_false (by omega)]
      refine iteF (iteF ?_)
      refine ⟨_, rfl, _, rfl, _, rfl, r, q4, ta, la, ia, ds, tab, lost, im, m, es, rfl, SqT.of (tk7 _ _ hr4), hrule, hm1, hm3, tk7 _ _ hq, ht.keep tk7, tk7 _ _ hl, tk7 _ _ hi, C.sh, C.nd, C.cfg.ok, hes, hcnt, hfault, fun H8 s8 => ?_⟩
      refine ⟨true, true, rfl, rfl, _, rfl, ?_⟩
      refine iteF ?_
      dsimp only [tNext]
      have tk8 : Tk H4 H8 := tk7.trans (Tk.of s8)
      refine ⟨by show 0 ≤ sizeLine; omega, fun rl hrl => ?_⟩
      have hpse : p ≠ se := by
        obtain ⟨x, y, z, e, _⟩ := r4.p
        exact ne_of_none e hse
      have rp8 : RowP H8 p a := by
        obtain ⟨x, y, z, e, e2⟩ := r4.p
        exact ⟨x, y, z, s8 _ _ (kb _ _ e hpse), e2⟩
      dsimp only [gName, List.set]
      have hrl8 : ∀ b xs, H4 b = some (.tup xs) → b ≠ rl := fun b xs e => ne_of_none (tk8 _ _ e) hrl
      have hprl : p ≠ rl := by
        obtain ⟨x, y, z, e, _⟩ := rp8
        exact ne_of_none e hrl
      have s9 : Same H8 (upd H8 rl (.lst [])) := same_upd hrl
      have v9 : upd H8 rl (.lst []) rl = some (.lst []) := upd_same
      generalize upd H8 rl (.lst []) = H9 at s9 v9 ⊢
      have tk9 : Tk H4 H9 := tk8.trans (Tk.of s9)
      have en : ((tab.length : Nat) : Int).toNat = tab.length := Int.toNat_natCast _
      refine seq_mid (fun σ' H' => ∃ (as : List Addr) (w13 : Option V), σ' = sg a p r q4 ta la ia se m tab.length w10 w11 (some (.ref rl)) w13 none none ∧ H' rl = some (.lst (as.map V.ref)) ∧ Paired (fun a r => H' a = some (.tup (r.map V.bl))) as (tab.map (rowB lost)) ∧ Kb rl H9 H') (fun nx hnx => ?_) ?_
      · refine ⟨_, rfl, (tab.length : Int), rfl, by omega, by omega, for_range (fun j σ' H' => ∃ (as : List Addr) (w13 : Option V), σ' = sg a p r q4 ta la ia se m tab.length w10 w11 (some (.ref rl)) w13 none none ∧ H' rl = some (.lst (as.map V.ref)) ∧ Paired (fun a r => H' a = some (.tup (r.map V.bl))) as ((tab.take j).map (rowB lost)) ∧ Kb rl H9 H')
          ⟨[], none, rfl, v9, by rw [List.take_zero]; exact .nil, Kb.refl _ _⟩ ?_ ?_⟩
        · rintro j σ' H10 hj ⟨as, w13, rfl, d1, d2, kb10⟩
          rw [en] at hj
          have tk10 : Tk H4 H10 := tk9.trans (Tk.kbl kb10 v9)
          have hrow : tab[j]? = some tab[j] := List.getElem?_eq_getElem hj
          obtain ⟨rj, hrj, hatj⟩ := paired_get2 g3 hrow
          obtain ⟨hrl2, hrr⟩ := M.row tab[j] (List.getElem_mem hj)
          have ejj : (0 : Int) + (j : Int) = (j : Int) := Int.zero_add _
          have ixj : ∀ {H' : Hp}, Tk H10 H' → SqT K H' ta (rs.map V.ref) ∧ atI (rs.map V.ref) ((0 : Int) + (j : Int)) = some (.ref rj) ∧ SqT K H' rj (tab[j].map V.int) := fun t => ⟨SqT.of (t _ _ (tk10 _ _ g1)), atI_int (by omega) (by rw [ejj]; exact map_at hrj), SqT.of (t _ _ (tk10 _ _ hatj))⟩
          have hlen : as.length = j := by
            rw [Paired.length d2, List.length_map, List.length_take]
            omega
          dsimp only [sg, gName, List.set]
          refine ⟨_, rfl, .inl ⟨rfl, _, SqL.of d1⟩, ?_⟩
          refine ⟨_, rfl, _, rfl, by omega, by omega, fun D hD => ?_⟩
          refine lc_range (lo := 0) (n := ((tab.length : Nat) : Int).toNat) (fun k H' => H' D = some (.lst ((rowB lost (tab[j].take k)).map V.bl)) ∧ Same H10 H') ⟨upd_same, same_upd hD⟩ ?_ ?_
          · rintro k H11 hk ⟨p1, p2⟩
            rw [en] at hk
            have t11 := Tk.of p2
            obtain ⟨i1, i2, i3⟩ := ixj t11
            have ho : tab[j][k]? = some tab[j][k] := List.getElem?_eq_getElem (by omega)
            refine ⟨rfl, _, rfl, _, rfl, ta, _, _, .ref rj, rfl, rfl, i1, i2, _, rfl, rj, _, _, .int tab[j][k], rfl, rfl, i3, atI_int (by omega) (by rw [show ((0 : Int) + (k : Int)).toNat = k by omega]; exact map_at ho), _, rfl, la, _, rfl, .inr (SqT.of (t11 _ _ (tk10 _ _ hl))), rfl, flat_ints _, _, p1, ?_, ?_, same_new p2 hD⟩
            · unfold rowB
              rw [List.length_map, List.length_map, List.length_take]
              exact small_line' (by omega)
            · unfold rowB
              rw [upd_same, take_succ ho, List.map_append, List.map_append, inV_ints] <;> rfl
          · rintro H11 ⟨p1, p2⟩
            rw [en, List.take_of_length_le (by omega)] at p1
            refine ⟨D, _, rfl, .inl ⟨SqL.of p1, fun tt htt => ?_⟩⟩
            have p3 := same_new (o := .tup ((rowB lost tab[j]).map V.bl)) p2 (p2.free htt)
            have e3 : upd H11 tt (.tup ((rowB lost tab[j]).map V.bl)) tt = some (.tup ((rowB lost tab[j]).map V.bl)) := upd_same
            generalize upd H11 tt (.tup ((rowB lost tab[j]).map V.bl)) = H12 at p3 e3 ⊢
            have d3 := p3 _ _ d1
            have ks : ∀ (a : Addr) (xs : List V), H12 a = some (.tup xs) → upd H12 rl (.lst (as.map V.ref ++ [.ref tt])) a = some (.tup xs) := fun a xs h => by
              rw [upd_ne (ne_of h d3 (fun z => nomatch z))]
              exact h
            refine ⟨rl, _, _, rfl, rfl, d3, by rw [List.length_map, hlen]; exact small_line' (by omega), ?_⟩
            have kb13 : Kb rl H9 (upd H12 rl (.lst (as.map V.ref ++ [.ref tt]))) := fun b o hb hn => by
              rw [upd_ne hn]
              exact p3 _ _ (kb10 _ _ hb hn)
            have d13 : upd H12 rl (.lst (as.map V.ref ++ [.ref tt])) rl = some (.lst ((as ++ [tt]).map V.ref)) := by rw [upd_same, List.map_append] <;> rfl
            have pr13 : Paired (fun a r => upd H12 rl (.lst (as.map V.ref ++ [.ref tt])) a = some (.tup (r.map V.bl))) (as ++ [tt]) ((tab.take (j + 1)).map (rowB lost)) := by
              rw [take_succ hrow, List.map_append]
              exact paired_snoc (paired_mono (fun a r h => ks _ _ (p3 _ _ h)) d2) (ks _ _ e3)
            have tk13 : Tk H10 (upd H12 rl (.lst (as.map V.ref ++ [.ref tt]))) := fun b xs e => ks _ _ (p3 _ _ e)
            generalize upd H12 rl (.lst (as.map V.ref ++ [.ref tt])) = H13 at kb13 d13 pr13 tk13 ⊢
            have tk413 := tk10.trans tk13
            have jr0 : 0 ≤ (0 : Int) + (j : Int) := by omega
            have jr1 : (0 : Int) + (j : Int) < (tab.length : Int) := by omega
            obtain ⟨rs1, ra1, row1, x1, x2, x3, x4⟩ := tab_at (ht.keep tk413) M (a := 0) (b := 0 + (j : Int)) (by decide) (by omega) jr0 jr1
            refine ⟨_, rfl, ta, _, _, .ref ra1, rfl, rfl, SqT.of x1, x2, _, rfl, ra1, _, _, _, rfl, rfl, SqT.of x3, x4, _, rfl, rfl, _, rfl, ?_⟩
            rw [M.one jr0 jr1, decI, decide_eq_true rfl]
            refine iteF ?_
            refine ⟨_, rfl, _, rfl, by omega, by omega, fun D2 hD2 => ?_⟩
            refine lc_range (lo := 0) (n := ((tab.length : Nat) : Int).toNat) (fun k H' => H' D2 = some (.lst []) ∧ Same H13 H') ⟨upd_same, same_upd hD2⟩ ?_ ?_
            · rintro k H14 hk ⟨p1, p2⟩
              rw [en] at hk
              have kr0 : 0 ≤ (0 : Int) + (k : Int) := by omega
              have kr1 : (0 : Int) + (k : Int) < (tab.length : Int) := by omega
              have ht14 : TabAt H14 ta tab := ht.keep (tk413.trans (Tk.of p2))
              obtain ⟨rs2, ra2, row2, y1, y2, y3, y4⟩ := tab_at ht14 M (a := 0 + (j : Int)) (b := 0 + (k : Int)) jr0 jr1 kr0 kr1
              obtain ⟨rs3, ra3, row3, z1, z2, z3, z4⟩ := tab_at ht14 M (a := 0 + (k : Int)) (b := 0 + (j : Int)) kr0 kr1 jr0 jr1
              refine ⟨rfl, _, rfl, _, rfl, ta, _, _, .ref ra2, rfl, rfl, SqT.of y1, y2, _, rfl, ra2, _, _, _, rfl, rfl, SqT.of y3, y4, _, rfl, _, rfl, ta, _, _, .ref ra3, rfl, rfl, SqT.of z1, z2, _, rfl, ra3, _, _, _, rfl, rfl, SqT.of z3, z4, rfl, _, rfl, ?_⟩
              rw [M.comm _ _ jr0 jr1 kr0 kr1, decI, decide_eq_true rfl]
              exact iteF ⟨p1, p2⟩
            · rintro H14 ⟨p1, p2⟩
              refine ⟨by show 0 ≤ sizeLine; omega, fun nl hnl => ?_⟩
              have s15 : Same H14 (upd H14 nl (.lst [])) := same_upd hnl
              have v15 : upd H14 nl (.lst []) nl = some (.lst []) := upd_same
              generalize upd H14 nl (.lst []) = H15 at s15 v15 ⊢
              refine ⟨.list [], .list [], .lst (SqL.of (s15 _ _ p1)) .nil, .lst (SqL.of v15) .nil, rfl, rfl, _, rfl, ?_⟩
              rw [show PyData.eqv (.list []) (.list []) = true from rfl]
              have s1315 := p2.trans s15
              exact iteF ⟨as ++ [tt], _, rfl, s1315 _ _ d13, paired_mono (fun a r h => s1315 _ _ h) pr13, fun b o hb hn => s1315 _ _ (kb13 _ _ hb hn)⟩
        · rintro σ' H10 ⟨as, w13, rfl, d1, d2, kb10⟩
          rw [en, List.take_length] at d2
          exact hnx _ _ ⟨as, w13, rfl, d1, d2, kb10⟩
      · rintro _ H10 ⟨as, w13, rfl, d1, d2, kb10⟩
        have tk10 : Tk H4 H10 := tk9.trans (Tk.kbl kb10 v9)
        obtain ⟨z1, z2, z3⟩ := paired_zip d2
        have el : as.length = tab.length := by rw [Paired.length d2, List.length_map]
        have el2 : (as.zip (tab.map (rowB lost))).length = tab.length := by
          have := congrArg List.length z1
          rw [List.length_map] at this
          omega
        have rp10 : RowP H10 p a := by
          obtain ⟨x, y, z, e, e2⟩ := rp8
          exact ⟨x, y, z, kb10 _ _ (s9 _ _ e) hprl, e2⟩
        have kp10 : Kb p H4 H10 := fun b o hb hn => by
          have n1 : b ≠ se := ne_of_none hb hse
          have h8 := s8 _ _ (kb _ _ hb n1)
          exact kb10 _ _ (s9 _ _ h8) (ne_of_none h8 hrl)
        dsimp only [sg]
        refine ⟨_, rfl, rl, as.zip (tab.map (rowB lost)), rfl, SqL.of ?_, fun pp hpp => SqT.of (z3 pp hpp), by omega, ?_, fun sa hsa => ?_⟩
        · rw [d1]
          have : (as.zip (tab.map (rowB lost))).map (fun p => V.ref p.1) = as.map V.ref := by
            have e := congrArg (List.map V.ref) z1
            rw [List.map_map] at e
            exact e
          rw [this]
        · have e := congrArg (List.map hashB) z2
          rw [List.map_map, List.map_map] at e
          rw [show (fun p : Addr × List Bool => hashB p.2) = hashB ∘ (fun p : Addr × List Bool => p.2) from rfl, e]
          exact C.nd
        · rw [el2]
          have s11 : Same H10 (upd H10 sa (SetNO w sa tab.length)) := same_upd hsa
          have e11 : upd H10 sa (SetNO w sa tab.length) sa = some (SetNO w sa tab.length) := upd_same
          generalize upd H10 sa (SetNO w sa tab.length) = H11 at s11 e11 ⊢
          refine ⟨sa, tab.length, rfl, e11, by omega, _, rfl, rfl, _, rfl, ?_⟩
          rw [decI, decide_eq_true rfl]
          refine iteF ?_
          dsimp only [tNext]
          have k11 : Kb p H4 H11 := kp10.trans (Kb.of s11)
          have r11 : RowAt K H11 p a ns := r4.kb k11 (rp10.same s11)
          refine ⟨_, rfl, _, rfl, p, a, ns, tab.length, rfl, r11, hns, hpos, by omega, fun v1 H12 hv1 b12 r12 => ?_⟩
          refine ⟨_, rfl, _, rfl, p, a, ns, tab.length, rfl, r12, hns, hpos, by omega, fun v2 H13 hv2 b13 r13 => ?_⟩
          refine ⟨_, rfl, _, rfl, p, a, ns, tab.length, rfl, r13, hns, hpos, by omega, fun v3 H14 hv3 b14 r14 => ?_⟩
          refine ⟨by show 3 ≤ sizeLine; omega, fun tp htp => ?_⟩
          refine ⟨tp, _, rfl, SqT.of upd_same, rfl, _, _, rfl, _, _, rfl, _, _, rfl, rfl, ?_⟩
          dsimp only [gName, List.set]
          have htab : TabAt (upd H14 tp (.tup [.int (v1 : Int), .int (v2 : Int), .int (v3 : Int)])) ta tab := by
            refine ht.keep fun b xs e => ?_
            have e14 : H14 b = some (.tup xs) := by
              have n : b ≠ p := by
                obtain ⟨x, y, z, e2, _⟩ := r4.p
                exact ne_of e e2 (fun z => nomatch z)
              rw [b14 b n, b13 b n, b12 b n]
              exact k11 _ _ e n
            rw [upd_ne (ne_of_none e14 htp)]
            exact e14
          generalize upd H14 tp (.tup [.int (v1 : Int), .int (v2 : Int), .int (v3 : Int)]) = H15 at htab ⊢
          have a1 : 0 ≤ (v1 : Int) := by omega
          have a2 : (v1 : Int) < (tab.length : Int) := by omega
          have a3 : 0 ≤ (v2 : Int) := by omega
          have a4 : (v2 : Int) < (tab.length : Int) := by omega
          have a5 : 0 ≤ (v3 : Int) := by omega
          have a6 : (v3 : Int) < (tab.length : Int) := by omega
          obtain ⟨R1, q1, w1, x1, x2, x3, x4⟩ := tab_at htab M a1 a2 a3 a4
          obtain ⟨R2, q2, w2, y1, y2, y3, y4⟩ := tab_at htab M (M.rng a1 a2 a3 a4).1 (M.rng a1 a2 a3 a4).2 a5 a6
          obtain ⟨R3, q3, w3, u1, u2, u3, u4⟩ := tab_at htab M a3 a4 a5 a6
          obtain ⟨R4, q5, w5, t1, t2, t3, t4⟩ := tab_at htab M a1 a2 (M.rng a3 a4 a5 a6).1 (M.rng a3 a4 a5 a6).2
          refine ⟨_, rfl, _, rfl, _, rfl, ta, _, _, .ref q1, rfl, rfl, SqT.of x1, x2, _, rfl, q1, _, _, _, rfl, rfl, SqT.of x3, x4, ta, _, _, .ref q2, rfl, rfl, SqT.of y1, y2, _, rfl, q2, _, _, _, rfl, rfl, SqT.of y3, y4,
            _, rfl, _, rfl, ta, _, _, .ref q5, rfl, rfl, SqT.of t1, t2, _, rfl, _, rfl, ta, _, _, .ref q3, rfl, rfl, SqT.of u1, u2, _, rfl, q3, _, _, _, rfl, rfl, SqT.of u3, u4, q5, _, _, _, rfl, rfl, SqT.of t3, t4, rfl, ?_⟩
          rw [M.assoc _ _ _ a1 a2 a3 a4 a5 a6, decide_eq_true rfl]
          exact q _
end
end QT
set_option Elab.async false
set_option linter.all false
set_option maxRecDepth 100000
set_option maxHeartbeats 4000000
namespace QT
open PySem PySem.Spec PyProof.Rows L2
theorem facts {P : Program} {w : World} {K : PySem.W.Frag} {h : Heap} {mg : Str → Option Value} {f : Addr} (X : K.In h) (G : h.Ns mainGlobals mg) (hfa : mg ("law" : Str) = some (.ref f)) (c : He.SaysD fcs fns K) :
    ∃ fd : FuncData, (∀ (s : Shared) (v : Value), BindsTo s fd ⟨[v], []⟩ [("_law_script", v)]) ∧ ∀ base : Heap, K.In base → base.Ns mainGlobals mg → FnOk P w K mg base CX0 35 f fd ["_law_script"] (spLaw K) := by
  have T : Tx mg := ⟨He.free_ok X G (c.fact 27 (f := .free "isinstance") rfl), He.free_ok X G (c.fact 28 (f := .free "int") rfl), He.free_ok X G (c.fact 29 (f := .free "bool") rfl), He.free_ok X G (c.fact 30 (f := .free "tuple") rfl), He.free_ok X G (c.fact 31 (f := .free "len") rfl), He.free_ok X G (c.fact 32 (f := .free "all") rfl), He.free_ok X G (c.fact 33 (f := .free "any") rfl), He.free_ok X G (c.fact 34 (f := .free "enumerate") rfl), He.free_ok X G (c.fact 35 (f := .free "range") rfl), He.free_ok X G (c.fact 36 (f := .free "sorted") rfl), He.free_ok X G (c.fact 37 (f := .free "set") rfl),
    He.int_ok X G (c.fact 22 (f := .int "MOST_DIGITS" 6) rfl), He.int_ok X G (c.fact 23 (f := .int "MOST_OPTIONS" 60) rfl), He.int_ok X G (c.fact 24 (f := .int "MOST_MOST" 6) rfl), He.int_ok X G (c.fact 25 (f := .int "MOST_ELEMENTS" 60) rfl), He.int_ok X G (c.fact 26 (f := .int "MOST_PAIRS" 20000) rfl)⟩
  obtain ⟨fd_is_int, F_is_int⟩ : ∃ fd, FnP K "is_int" sIsInt (He.ga K "is_int") fd := c.def_ 0 (d := gD "is_int" sIsInt) rfl
  have b_is_int : Binds K fd_is_int ["value"] [] := F_is_int.bindsN fun _ _ _ _ _ _ us hl => match us, hl with | [_], _ => rfl
  obtain ⟨fd_is_in, F_is_in⟩ : ∃ fd, FnP K "is_in" sIsIn (He.ga K "is_in") fd := c.def_ 1 (d := gD "is_in" sIsIn) rfl
  have b_is_in : Binds K fd_is_in ["value", "least", "most"] [] := F_is_in.bindsN fun _ _ _ _ _ _ us hl => match us, hl with | [_, _, _], _ => rfl
  obtain ⟨fd_need_number, F_need_number⟩ : ∃ fd, FnP K "need_number" sNeedNumber (He.ga K "need_number") fd := c.def_ 2 (d := gD "need_number" sNeedNumber) rfl
  have b_need_number : Binds K fd_need_number ["value", "least", "most"] [] := F_need_number.bindsN fun _ _ _ _ _ _ us hl => match us, hl with | [_, _, _], _ => rfl
  obtain ⟨fd_need_rule, F_need_rule⟩ : ∃ fd, FnP K "need_rule" sNeedRule (He.ga K "need_rule") fd := c.def_ 3 (d := gD "need_rule" sNeedRule) rfl
  have b_need_rule : Binds K fd_need_rule ["value"] [] := F_need_rule.bindsN fun _ _ _ _ _ _ us hl => match us, hl with | [_], _ => rfl
  obtain ⟨fd_heap_options, F_heap_options⟩ : ∃ fd, FnP K "heap_options" sOptions (He.ga K "heap_options") fd := c.def_ 4 (d := gD "heap_options" sOptions) rfl
  have b_heap_options : Binds K fd_heap_options ["rule", "size"] [] := F_heap_options.bindsN fun _ _ _ _ _ _ us hl => match us, hl with | [_, _], _ => rfl
  obtain ⟨fd_Late_init, F_Late_init⟩ : ∃ fd, FnM K "__init__" "Late.__init__" sLateInit (He.ma K (He.ga K "Late") "__init__") fd := c.def_ 5 (d := mD "Late" "__init__" "Late.__init__" sLateInit) rfl
  have b_Late_init : Binds K fd_Late_init ["self", "rule", "most"] [] := F_Late_init.bindsN fun _ _ _ _ _ _ us hl => match us, hl with | [_, _, _], _ => rfl
  obtain ⟨fd_Late_loses, F_Late_loses⟩ : ∃ fd, FnM K "loses" "Late.loses" sLoses (He.ma K (He.ga K "Late") "loses") fd := c.def_ 6 (d := mD "Late" "loses" "Late.loses" sLoses) rfl
  have b_Late_loses : Binds K fd_Late_loses ["self", "heaps"] [] := F_Late_loses.bindsN fun _ _ _ _ _ _ us hl => match us, hl with | [_, _], _ => rfl
  obtain ⟨fd_image_of, F_image_of⟩ : ∃ fd, FnP K "image_of" sImage (He.ga K "image_of") fd := c.def_ 7 (d := gD "image_of" sImage) rfl
  have b_image_of : Binds K fd_image_of ["table", "images", "heaps"] [] := F_image_of.bindsN fun _ _ _ _ _ _ us hl => match us, hl with | [_, _, _], _ => rfl
  obtain ⟨fd_pairs_of, F_pairs_of⟩ : ∃ fd, FnP K "pairs_of" sPairs (He.ga K "pairs_of") fd := c.def_ 8 (d := gD "pairs_of" sPairs) rfl
  have b_pairs_of : Binds K fd_pairs_of ["late", "most", "table", "images"] [] := F_pairs_of.bindsN fun _ _ _ _ _ _ us hl => match us, hl with | [_, _, _, _], _ => rfl
  obtain ⟨fd_first_fault, F_first_fault⟩ : ∃ fd, FnP K "first_fault" sFault (He.ga K "first_fault") fd := c.def_ 9 (d := gD "first_fault" sFault) rfl
  have b_first_fault : Binds K fd_first_fault ["found", "lost"] [] := F_first_fault.bindsN fun _ _ _ _ _ _ us hl => match us, hl with | [_, _], _ => rfl
  obtain ⟨fd_is_table, F_is_table⟩ : ∃ fd, FnP K "is_table" sTable (He.ga K "is_table") fd := c.def_ 10 (d := gD "is_table" sTable) rfl
  have b_is_table : Binds K fd_is_table ["value"] [] := F_is_table.bindsN fun _ _ _ _ _ _ us hl => match us, hl with | [_], _ => rfl
  obtain ⟨fd_is_shape, F_is_shape⟩ : ∃ fd, FnP K "is_shape" sShape (He.ga K "is_shape") fd := c.def_ 11 (d := gD "is_shape" sShape) rfl
  have b_is_shape : Binds K fd_is_shape ["most", "value"] [] := F_is_shape.bindsN fun _ _ _ _ _ _ us hl => match us, hl with | [_, _], _ => rfl
  obtain ⟨fd_are_apart, F_are_apart⟩ : ∃ fd, FnP K "are_apart" sApart (He.ga K "are_apart") fd := c.def_ 12 (d := gD "are_apart" sApart) rfl
  have b_are_apart : Binds K fd_are_apart ["table", "lost"] [] := F_are_apart.bindsN fun _ _ _ _ _ _ us hl => match us, hl with | [_, _], _ => rfl
  obtain ⟨fd_shows_quotient, F_shows_quotient⟩ : ∃ fd, FnP K "shows_quotient" sShows (He.ga K "shows_quotient") fd := c.def_ 13 (d := gD "shows_quotient" sShows) rfl
  have b_shows_quotient : Binds K fd_shows_quotient ["rule", "most", "value"] [] := F_shows_quotient.bindsN fun _ _ _ _ _ _ us hl => match us, hl with | [_, _, _], _ => rfl
  obtain ⟨fd_Search_init, F_Search_init⟩ : ∃ fd, FnM K "__init__" "Search.__init__" sSrInit (He.ma K (He.ga K "Search") "__init__") fd := c.def_ 14 (d := mD "Search" "__init__" "Search.__init__" sSrInit) rfl
  have b_Search_init : Binds K fd_Search_init ["self", "rule", "most"] [] := F_Search_init.bindsN fun _ _ _ _ _ _ us hl => match us, hl with | [_, _, _], _ => rfl
  obtain ⟨fd_Search_sign, F_Search_sign⟩ : ∃ fd, FnM K "sign" "Search.sign" sSign (He.ma K (He.ga K "Search") "sign") fd := c.def_ 15 (d := mD "Search" "sign" "Search.sign" sSign) rfl
  have b_Search_sign : Binds K fd_Search_sign ["self", "heaps"] [] := F_Search_sign.bindsN fun _ _ _ _ _ _ us hl => match us, hl with | [_, _], _ => rfl
  obtain ⟨fd_Search_spread, F_Search_spread⟩ : ∃ fd, FnM K "spread" "Search.spread" sSpread (He.ma K (He.ga K "Search") "spread") fd := c.def_ 16 (d := mD "Search" "spread" "Search.spread" sSpread) rfl
  have b_Search_spread : Binds K fd_Search_spread ["self"] [] := F_Search_spread.bindsN fun _ _ _ _ _ _ us hl => match us, hl with | [_], _ => rfl
  obtain ⟨fd_Search_place, F_Search_place⟩ : ∃ fd, FnM K "place" "Search.place" sPlace (He.ma K (He.ga K "Search") "place") fd := c.def_ 17 (d := mD "Search" "place" "Search.place" sPlace) rfl
  have b_Search_place : Binds K fd_Search_place ["self", "heaps"] [] := F_Search_place.bindsN fun _ _ _ _ _ _ us hl => match us, hl with | [_, _], _ => rfl
  obtain ⟨fd_Search_table, F_Search_table⟩ : ∃ fd, FnM K "table" "Search.table" sTbl (He.ma K (He.ga K "Search") "table") fd := c.def_ 18 (d := mD "Search" "table" "Search.table" sTbl) rfl
  have b_Search_table : Binds K fd_Search_table ["self"] [] := F_Search_table.bindsN fun _ _ _ _ _ _ us hl => match us, hl with | [_], _ => rfl
  obtain ⟨fd_Search_widen, F_Search_widen⟩ : ∃ fd, FnM K "widen" "Search.widen" sWiden (He.ma K (He.ga K "Search") "widen") fd := c.def_ 19 (d := mD "Search" "widen" "Search.widen" sWiden) rfl
  have b_Search_widen : Binds K fd_Search_widen ["self", "some"] [] := F_Search_widen.bindsN fun _ _ _ _ _ _ us hl => match us, hl with | [_, _], _ => rfl
  obtain ⟨fd_parts_of, F_parts_of⟩ : ∃ fd, FnP K "parts_of" sParts (He.ga K "parts_of") fd := c.def_ 21 (d := gD "parts_of" sParts) rfl
  have b_parts_of : Binds K fd_parts_of ["heaps"] [] := F_parts_of.bindsN fun _ _ _ _ _ _ us hl => match us, hl with | [_], _ => rfl
  obtain ⟨fd_tried, F_tried⟩ : ∃ fd, FnP K "tried" sTried (He.ga K "tried") fd := c.def_ 22 (d := gD "tried" sTried) rfl
  have b_tried : Binds K fd_tried ["search"] [] := F_tried.bindsN fun _ _ _ _ _ _ us hl => match us, hl with | [_], _ => rfl
  obtain ⟨fd_quotient, F_quotient⟩ : ∃ fd, FnP K "quotient" sQuot (He.ga K "quotient") fd := c.def_ 23 (d := gD "quotient" sQuot) rfl
  have b_quotient : Binds K fd_quotient ["rule", "most"] [] := F_quotient.bindsN fun _ _ _ _ _ _ us hl => match us, hl with | [_, _], _ => rfl
  obtain ⟨fd__law_taken, F__law_taken⟩ : ∃ fd, FnP K "_law_taken" sTaken (He.ga K "_law_taken") fd := c.def_ 24 (d := gD "_law_taken" sTaken) rfl
  have b__law_taken : Binds K fd__law_taken ["_law_row", "_law_many"] [] := F__law_taken.bindsN fun _ _ _ _ _ _ us hl => match us, hl with | [_, _], _ => rfl
  obtain ⟨fd__law_small_rule, F__law_small_rule⟩ : ∃ fd, FnP K "_law_small_rule" sSmall (He.ga K "_law_small_rule") fd := c.def_ 25 (d := gD "_law_small_rule" sSmall) rfl
  have b__law_small_rule : Binds K fd__law_small_rule ["_law_row"] [] := F__law_small_rule.bindsN fun _ _ _ _ _ _ us hl => match us, hl with | [_], _ => rfl
  obtain ⟨fd__law_lists_to, F__law_lists_to⟩ : ∃ fd, FnP K "_law_lists_to" sLists (He.ga K "_law_lists_to") fd := c.def_ 26 (d := gD "_law_lists_to" sLists) rfl
  have b__law_lists_to : Binds K fd__law_lists_to ["_law_most", "_law_many"] [] := F__law_lists_to.bindsN fun _ _ _ _ _ _ us hl => match us, hl with | [_, _], _ => rfl
  obtain ⟨fd__law_image, F__law_image⟩ : ∃ fd, FnP K "_law_image" sLawImage (He.ga K "_law_image") fd := c.def_ 27 (d := gD "_law_image" sLawImage) rfl
  have b__law_image : Binds K fd__law_image ["_law_value", "_law_heaps"] [] := F__law_image.bindsN fun _ _ _ _ _ _ us hl => match us, hl with | [_, _], _ => rfl
  obtain ⟨fd_law, F_law⟩ : ∃ fd, FnP K "law" sLaw (He.ga K "law") fd := c.def_ 28 (d := gD "law" sLaw) rfl
  have g_is_int : mg "is_int" = some (.ref (He.ga K "is_int")) := He.glo_ok X G (c.fact 0 (f := .glo "is_int") rfl)
  have g_is_in : mg "is_in" = some (.ref (He.ga K "is_in")) := He.glo_ok X G (c.fact 1 (f := .glo "is_in") rfl)
  have g_need_number : mg "need_number" = some (.ref (He.ga K "need_number")) := He.glo_ok X G (c.fact 2 (f := .glo "need_number") rfl)
  have g_need_rule : mg "need_rule" = some (.ref (He.ga K "need_rule")) := He.glo_ok X G (c.fact 3 (f := .glo "need_rule") rfl)
  have g_heap_options : mg "heap_options" = some (.ref (He.ga K "heap_options")) := He.glo_ok X G (c.fact 4 (f := .glo "heap_options") rfl)
  have g_image_of : mg "image_of" = some (.ref (He.ga K "image_of")) := He.glo_ok X G (c.fact 5 (f := .glo "image_of") rfl)
  have g_pairs_of : mg "pairs_of" = some (.ref (He.ga K "pairs_of")) := He.glo_ok X G (c.fact 6 (f := .glo "pairs_of") rfl)
  have g_first_fault : mg "first_fault" = some (.ref (He.ga K "first_fault")) := He.glo_ok X G (c.fact 7 (f := .glo "first_fault") rfl)
  have g_is_table : mg "is_table" = some (.ref (He.ga K "is_table")) := He.glo_ok X G (c.fact 8 (f := .glo "is_table") rfl)
  have g_is_shape : mg "is_shape" = some (.ref (He.ga K "is_shape")) := He.glo_ok X G (c.fact 9 (f := .glo "is_shape") rfl)
  have g_are_apart : mg "are_apart" = some (.ref (He.ga K "are_apart")) := He.glo_ok X G (c.fact 10 (f := .glo "are_apart") rfl)
  have g_shows_quotient : mg "shows_quotient" = some (.ref (He.ga K "shows_quotient")) := He.glo_ok X G (c.fact 11 (f := .glo "shows_quotient") rfl)
  have g_parts_of : mg "parts_of" = some (.ref (He.ga K "parts_of")) := He.glo_ok X G (c.fact 12 (f := .glo "parts_of") rfl)
  have g_tried : mg "tried" = some (.ref (He.ga K "tried")) := He.glo_ok X G (c.fact 13 (f := .glo "tried") rfl)
  have g_quotient : mg "quotient" = some (.ref (He.ga K "quotient")) := He.glo_ok X G (c.fact 14 (f := .glo "quotient") rfl)
  have g__law_taken : mg "_law_taken" = some (.ref (He.ga K "_law_taken")) := He.glo_ok X G (c.fact 15 (f := .glo "_law_taken") rfl)
  have g__law_small_rule : mg "_law_small_rule" = some (.ref (He.ga K "_law_small_rule")) := He.glo_ok X G (c.fact 16 (f := .glo "_law_small_rule") rfl)
  have g__law_lists_to : mg "_law_lists_to" = some (.ref (He.ga K "_law_lists_to")) := He.glo_ok X G (c.fact 17 (f := .glo "_law_lists_to") rfl)
  have g__law_image : mg "_law_image" = some (.ref (He.ga K "_law_image")) := He.glo_ok X G (c.fact 18 (f := .glo "_law_image") rfl)
  have g_law : mg "law" = some (.ref (He.ga K "law")) := He.glo_ok X G (c.fact 19 (f := .glo "law") rfl)
  have g_Late : mg "Late" = some (.ref (He.ga K "Late")) := He.glo_ok X G (c.fact 20 (f := .glo "Late") rfl)
  have g_Search : mg "Search" = some (.ref (He.ga K "Search")) := He.glo_ok X G (c.fact 21 (f := .glo "Search") rfl)
  have TL0 : TL K (He.ga K "Late") := ⟨He.cls_ok (c.fact 38 (f := .cls "Late") rfl), He.noat_ok (c.fact 39 (f := .noat "Late" "moves") rfl), He.noat_ok (c.fact 40 (f := .noat "Late" "known") rfl)⟩
  have M_loses : Meth K (He.ga K "Late") "loses" (He.ma K (He.ga K "Late") "loses") := He.meth_ok (c.fact 41 (f := .meth "Late" "loses") rfl)
  have K_Late : Mk K (He.ga K "Late") (He.ma K (He.ga K "Late") "__init__") := He.mkr_ok (c.fact 42 (f := .mkr "Late") rfl)
  have TS0 : TS K (He.ga K "Search") := ⟨He.cls_ok (c.fact 43 (f := .cls "Search") rfl), He.noat_ok (c.fact 44 (f := .noat "Search" "late") rfl), He.noat_ok (c.fact 45 (f := .noat "Search" "most") rfl), He.noat_ok (c.fact 46 (f := .noat "Search" "tests") rfl), He.noat_ok (c.fact 47 (f := .noat "Search" "reps") rfl), He.noat_ok (c.fact 48 (f := .noat "Search" "places") rfl)⟩
  have M_sign : Meth K (He.ga K "Search") "sign" (He.ma K (He.ga K "Search") "sign") := He.meth_ok (c.fact 49 (f := .meth "Search" "sign") rfl)
  have M_spread : Meth K (He.ga K "Search") "spread" (He.ma K (He.ga K "Search") "spread") := He.meth_ok (c.fact 50 (f := .meth "Search" "spread") rfl)
  have M_place : Meth K (He.ga K "Search") "place" (He.ma K (He.ga K "Search") "place") := He.meth_ok (c.fact 51 (f := .meth "Search" "place") rfl)
  have M_table : Meth K (He.ga K "Search") "table" (He.ma K (He.ga K "Search") "table") := He.meth_ok (c.fact 52 (f := .meth "Search" "table") rfl)
  have M_widen : Meth K (He.ga K "Search") "widen" (He.ma K (He.ga K "Search") "widen") := He.meth_ok (c.fact 53 (f := .meth "Search" "widen") rfl)
  have K_Search : Mk K (He.ga K "Search") (He.ma K (He.ga K "Search") "__init__") := He.mkr_ok (c.fact 55 (f := .mkr "Search") rfl)
  have e := hfa.symm.trans g_law
  cases e
  have bb := FunD.bindsA (ps := ["_law_script"]) F_law fun _ _ _ _ _ _ us hl => match us, hl with | [_], _ => rfl
  refine ⟨fd_law, fun s v => bb s [v] rfl, fun base _ _ => ?_⟩
  have c_is_int : Cal P w K mg base 1 "is_int" ["value"] spIsInt (He.ga K "is_int") fd_is_int := ⟨ok_isInt F_is_int T, g_is_int, F_is_int.kp, b_is_int⟩
  have c_is_in : Cal P w K mg base 2 "is_in" ["value", "least", "most"] spIsIn (He.ga K "is_in") fd_is_in := ⟨ok_isIn F_is_in T c_is_int, g_is_in, F_is_in.kp, b_is_in⟩
  have c_need_number : Cal P w K mg base 3 "need_number" ["value", "least", "most"] spNeedNumber (He.ga K "need_number") fd_need_number := ⟨ok_needNumber F_need_number c_is_in, g_need_number, F_need_number.kp, b_need_number⟩
  have c_need_rule : Cal P w K mg base 3 "need_rule" ["value"] (spNeedRule K) (He.ga K "need_rule") fd_need_rule := ⟨ok_needRule F_need_rule T c_is_in, g_need_rule, F_need_rule.kp, b_need_rule⟩
  have c_heap_options : Cal P w K mg base 4 "heap_options" ["rule", "size"] (spOptions K) (He.ga K "heap_options") fd_heap_options := ⟨ok_options F_heap_options T c_need_rule c_need_number, g_heap_options, F_heap_options.kp, b_heap_options⟩
  have c_Late : CalK P w K mg base 5 "Late" (He.ga K "Late") ["self", "rule", "most"] (spLateInit K (He.ga K "Late")) (He.ma K (He.ga K "Late") "__init__") fd_Late_init := ⟨ok_lateInit F_Late_init T TL0 c_heap_options, K_Late, g_Late, b_Late_init⟩
  have c_loses : CalM P w K mg base 29 (He.ga K "Late") "loses" ["self", "heaps"] (spLosesX (He.ga K "Late")) (He.ma K (He.ga K "Late") "loses") fd_Late_loses := ⟨ok_losesX F_Late_loses T TL0 M_loses b_Late_loses, M_loses, b_Late_loses⟩
  have c_image_of : Cal P w K mg base 1 "image_of" ["table", "images", "heaps"] spImage (He.ga K "image_of") fd_image_of := ⟨ok_image F_image_of, g_image_of, F_image_of.kp, b_image_of⟩
  have c_pairs_of : Cal P w K mg base 2 "pairs_of" ["late", "most", "table", "images"] (spPairsX P w (He.ga K "Late")) (He.ga K "pairs_of") fd_pairs_of := ⟨ok_pairsX F_pairs_of T TL0 c_image_of, g_pairs_of, F_pairs_of.kp, b_pairs_of⟩
  have c_first_fault : Cal P w K mg base 1 "first_fault" ["found", "lost"] (spFault P w) (He.ga K "first_fault") fd_first_fault := ⟨ok_fault F_first_fault T, g_first_fault, F_first_fault.kp, b_first_fault⟩
  have c_is_table : Cal P w K mg base 3 "is_table" ["value"] spTable (He.ga K "is_table") fd_is_table := ⟨ok_table F_is_table T c_is_in, g_is_table, F_is_table.kp, b_is_table⟩
  have c_is_shape : Cal P w K mg base 4 "is_shape" ["most", "value"] spShape (He.ga K "is_shape") fd_is_shape := ⟨ok_shape F_is_shape T c_is_in c_is_table, g_is_shape, F_is_shape.kp, b_is_shape⟩
  have c_are_apart : Cal P w K mg base 1 "are_apart" ["table", "lost"] spApart (He.ga K "are_apart") fd_are_apart := ⟨ok_apart F_are_apart T, g_are_apart, F_are_apart.kp, b_are_apart⟩
  have c_shows_quotient : Cal P w K mg base 7 "shows_quotient" ["rule", "most", "value"] (spShows K) (He.ga K "shows_quotient") fd_shows_quotient := ⟨ok_shows F_shows_quotient T c_need_rule c_need_number c_is_shape c_are_apart c_pairs_of c_Late c_first_fault, g_shows_quotient, F_shows_quotient.kp, b_shows_quotient⟩
  have c_Search : CalK P w K mg base 7 "Search" (He.ga K "Search") ["self", "rule", "most"] (spSrInit K (He.ga K "Late") (He.ga K "Search")) (He.ma K (He.ga K "Search") "__init__") fd_Search_init := ⟨ok_srInit F_Search_init T TS0 c_Late, K_Search, g_Search, b_Search_init⟩
  have c_sign : CalM P w K mg base 30 (He.ga K "Search") "sign" ["self", "heaps"] (spSignX (He.ga K "Late") (He.ga K "Search")) (He.ma K (He.ga K "Search") "sign") fd_Search_sign := ⟨ok_signX F_Search_sign T TL0 TS0 c_loses, M_sign, b_Search_sign⟩
  have c_spread : CalM P w K mg base 31 (He.ga K "Search") "spread" ["self"] (spSpreadX P w (He.ga K "Late") (He.ga K "Search")) (He.ma K (He.ga K "Search") "spread") fd_Search_spread := ⟨ok_spreadX F_Search_spread T TS0 c_sign, M_spread, b_Search_spread⟩
  have c_place : CalM P w K mg base 31 (He.ga K "Search") "place" ["self", "heaps"] (spPlaceX P w (He.ga K "Late") (He.ga K "Search")) (He.ma K (He.ga K "Search") "place") fd_Search_place := ⟨ok_placeX F_Search_place T TS0 c_sign, M_place, b_Search_place⟩
  have c_table : CalM P w K mg base 32 (He.ga K "Search") "table" ["self"] (spTblX P w (He.ga K "Late") (He.ga K "Search")) (He.ma K (He.ga K "Search") "table") fd_Search_table := ⟨ok_tblX F_Search_table T TS0 c_place, M_table, b_Search_table⟩
  have c_widen : CalM P w K mg base 1 (He.ga K "Search") "widen" ["self", "some"] (spWiden (He.ga K "Search")) (He.ma K (He.ga K "Search") "widen") fd_Search_widen := ⟨ok_widen F_Search_widen T TS0, M_widen, b_Search_widen⟩
  have c_parts_of : Cal P w K mg base 1 "parts_of" ["heaps"] spParts (He.ga K "parts_of") fd_parts_of := ⟨ok_parts F_parts_of T, g_parts_of, F_parts_of.kp, b_parts_of⟩
  have c_tried : Cal P w K mg base 33 "tried" ["search"] (spTriedX P w (He.ga K "Late") (He.ga K "Search")) (He.ga K "tried") fd_tried := ⟨ok_triedX F_tried T TL0 TS0 c_table c_is_table c_place c_loses c_pairs_of c_first_fault, g_tried, F_tried.kp, b_tried⟩
  have c_quotient : Cal P w K mg base 34 "quotient" ["rule", "most"] (spQuot K) (He.ga K "quotient") fd_quotient := ⟨ok_quot F_quotient T TS0 c_need_rule c_need_number c_Search c_spread c_tried c_parts_of c_widen, g_quotient, F_quotient.kp, b_quotient⟩
  have c__law_taken : Cal P w K mg base 1 "_law_taken" ["_law_row", "_law_many"] (spTaken K) (He.ga K "_law_taken") fd__law_taken := ⟨ok_taken F__law_taken T, g__law_taken, F__law_taken.kp, b__law_taken⟩
  have c__law_small_rule : Cal P w K mg base 2 "_law_small_rule" ["_law_row"] (spSmall K) (He.ga K "_law_small_rule") fd__law_small_rule := ⟨ok_small F__law_small_rule T c__law_taken, g__law_small_rule, F__law_small_rule.kp, b__law_small_rule⟩
  have c__law_lists_to : Cal P w K mg base 1 "_law_lists_to" ["_law_most", "_law_many"] spLists (He.ga K "_law_lists_to") fd__law_lists_to := ⟨ok_lists F__law_lists_to T, g__law_lists_to, F__law_lists_to.kp, b__law_lists_to⟩
  have c__law_image : Cal P w K mg base 1 "_law_image" ["_law_value", "_law_heaps"] spLawImage (He.ga K "_law_image") fd__law_image := ⟨ok_lawImage F__law_image, g__law_image, F__law_image.kp, b__law_image⟩
  exact ok_law F_law T c__law_taken c__law_small_rule c_quotient c__law_lists_to c__law_image c_shows_quotient
end QT
open PySem PySem.W PySem.Calls PyProof.Rows
theorem PySem.Challenge.cw_thermogames_k69_whole_elements_of_quotie_holds : PySem.Challenge.rw_thermogames_k69_whole_elements_of_quotie.Holds := by
  w_on; o_law
  refine HandSHeadRun.head_any (r := OpenLaw.row PySem.Challenge.rw_thermogames_k69_whole_elements_of_quotie) (q := view (OpenLaw.row PySem.Challenge.rw_thermogames_k69_whole_elements_of_quotie).prog [35]) (H := QT.hk) (ob := QT.ob) (M := 4000) (loose := QT.loose) (d := HandSHeadRun.topDef (OpenLaw.row PySem.Challenge.rw_thermogames_k69_whole_elements_of_quotie).prog 35) (kwd := []) QT.ob_eq
    (by kernel_rfl) (fun s => by kernel_rfl) QT.run (by kernel_rfl) (by kernel_rfl) (by kernel_rfl) (by rfl) (by first | assumption | decide +kernel) (by decide +kernel) ⟨rfl, rfl, rfl, rfl, rfl, by decide +kernel⟩ ?hw ?hc
  case hw => w_witness2
  case hc =>
    refine L2.walk_ofE (l := PySem.Challenge.rw_thermogames_k69_whole_elements_of_quotie) (n := 63) (k := 35) (x := "_law_script") (CX := L2.CX0) rfl (by decide) (by kernel_rfl) ⟨rfl, by decide, by decide⟩ ?F (fun _ _ _ _ z => z)
    intro w mg fa h Y G hmg0
    obtain ⟨K, KX, c⟩ := Y
    have hmg : mg ("law" : PySem.Str) = some (.ref fa) := by
      have e : (HandSHeadRun.topDef (OpenLaw.row PySem.Challenge.rw_thermogames_k69_whole_elements_of_quotie).prog 35).name = ("law" : PySem.Str) := by kernel_rfl
      rw [← e]
      exact hmg0
    obtain ⟨fd, hb, hF⟩ := QT.facts (P := (PySem.Challenge.rw_thermogames_k69_whole_elements_of_quotie).prog) (w := w) KX G hmg c
    exact ⟨K, fd, QT.spLaw K, KX, hb, fun H a ns hl _ hS => ⟨a, ns, rfl, hS, hl, fun _ => rfl⟩, hF⟩
