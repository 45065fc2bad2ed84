import PyProof.Rows.All
import Wide.All
import OpenK.AllK
import Wide.FinOn
import KE.KStateDown
import HandS.ForMost
import HandS.Defaults
import HandS.Codes
import HandS.Head0
import HandS.Head1
import HandS.Head2
import HandS.HeadEnd
import HandS.HeadHook1
import HandS.HeadHook2
import PySem.Challenge.RW_fullbelts_k10_whole_wanted_by_all_routes
import PyProof.Draws
import PyProof.EnumMake
import HandS.Walk
import HandS.GenYield
import PyProof.SetRoads
import PyProof.Rows.SortStr
import HandS.Set
import HandS.SetBool
import KE.KSortTupG
import KE.KSortTupUse
import HandS.Sort
import HandS.Evl
import HandS.Steps
import HandS.IsInst
import HandS.Deep
import HandS.TupAny
import HandS.Conv
import HandS.Flow
import HandS.Wide
set_option Elab.async false
set_option linter.all false
set_option maxRecDepth 100000
set_option maxHeartbeats 0
namespace FB
open PySem PySem.Spec PyProof.Rows L2
def top (i : Nat) : Stmt := PySem.Challenge.pw_fullbelts_k10_whole_wanted_by_all_routes.main.body.getD i (.Pass ⟨0, 0, 0, 0⟩)
abbrev s_is_integer : Stmt := top 8
abbrev s_is_name : Stmt := top 9
abbrev s_is_index : Stmt := top 10
abbrev s_check_place : Stmt := top 11
abbrev s_check_name : Stmt := top 12
abbrev s_goals_of : Stmt := top 14
abbrev s_reads_of : Stmt := top 15
abbrev s_made_by : Stmt := top 16
abbrev s_ways_of : Stmt := top 17
abbrev s_places_on : Stmt := top 18
abbrev s_routes_without : Stmt := top 19
abbrev s_routes_from_first : Stmt := top 20
abbrev s_reached_flags : Stmt := top 21
abbrev s_reached : Stmt := top 22
abbrev s_leaves_none : Stmt := top 23
abbrev s_wants_all : Stmt := top 25
abbrev s_wanted_of : Stmt := top 26
abbrev s_wanted : Stmt := top 27
abbrev s_want_route : Stmt := top 28
abbrev s_is_want_route : Stmt := top 29
abbrev s_are_places : Stmt := top 33
abbrev s_are_reads : Stmt := top 34
abbrev s_is_make : Stmt := top 35
abbrev s_is_step : Stmt := top 36
abbrev s_names_in : Stmt := top 37
abbrev s_check_steps : Stmt := top 38
abbrev s_law_tape : Stmt := top 41
abbrev s_law_pick : Stmt := top 42
abbrev s_law_names : Stmt := top 43
abbrev s_law_goal : Stmt := top 44
abbrev s_law_step : Stmt := top 45
abbrev s_law_steps : Stmt := top 46
abbrev s_law_goals : Stmt := top 47
abbrev s_law_reads : Stmt := top 48
abbrev s_law_spread : Stmt := top 49
abbrev s_law_faults : Stmt := top 50
abbrev s_law_mended : Stmt := top 51
abbrev s_law_leaves : Stmt := top 52
abbrev s_law_routes : Stmt := top 53
abbrev s_law : Stmt := top 54
abbrev s_init : Stmt := inClass (top 39) 0
abbrev datum (x : Str) (st : Stmt) : He.DefD := ⟨(x, none), x, x, defArgs st, defBody st, defScope st, [], []⟩
def dInit : He.DefD := ⟨("Program", some "__init__"), "__init__", "Program.__init__", defArgs s_init, defBody s_init, defScope s_init, [], []⟩
def fn : List He.DefD := [datum "is_integer" s_is_integer, datum "is_name" s_is_name, datum "is_index" s_is_index, datum "check_place" s_check_place, datum "check_name" s_check_name, datum "goals_of" s_goals_of, datum "reads_of" s_reads_of, datum "made_by" s_made_by, datum "ways_of" s_ways_of, datum "places_on" s_places_on, datum "routes_without" s_routes_without, datum "routes_from_first" s_routes_from_first, datum "reached_flags" s_reached_flags, datum "reached" s_reached, datum "leaves_none" s_leaves_none, datum "wants_all" s_wants_all, datum "wanted_of" s_wanted_of, datum "wanted" s_wanted, datum "want_route" s_want_route, datum "is_want_route" s_is_want_route, datum "are_places" s_are_places, datum "are_reads" s_are_reads, datum "is_make" s_is_make, datum "is_step" s_is_step, datum "names_in" s_names_in, datum "check_steps" s_check_steps, datum "_law_tape" s_law_tape, datum "_law_pick" s_law_pick, datum "_law_names" s_law_names, datum "_law_goal" s_law_goal, datum "_law_step" s_law_step, datum "_law_steps" s_law_steps, datum "_law_goals" s_law_goals, datum "_law_reads" s_law_reads, datum "_law_spread" s_law_spread, datum "_law_faults" s_law_faults, datum "_law_mended" s_law_mended, datum "_law_leaves" s_law_leaves, datum "_law_routes" s_law_routes, datum "law" s_law, dInit]
def fa : List He.Fa := [.glo "is_integer", .glo "is_name", .glo "is_index", .glo "check_place", .glo "check_name", .glo "goals_of", .glo "reads_of", .glo "made_by", .glo "ways_of", .glo "places_on", .glo "routes_without", .glo "routes_from_first", .glo "reached_flags", .glo "reached", .glo "leaves_none", .glo "wants_all", .glo "wanted_of", .glo "wanted", .glo "want_route", .glo "is_want_route", .glo "are_places", .glo "are_reads", .glo "is_make", .glo "is_step", .glo "names_in", .glo "check_steps", .glo "_law_tape", .glo "_law_pick", .glo "_law_names", .glo "_law_goal", .glo "_law_step", .glo "_law_steps", .glo "_law_goals", .glo "_law_reads", .glo "_law_spread", .glo "_law_faults", .glo "_law_mended", .glo "_law_leaves", .glo "_law_routes", .glo "law", .free "isinstance", .free "int", .free "bool", .free "str", .free "len", .free "all", .free "tuple", .free "list", .free "sorted", .free "enumerate", .free "range", .free "min", .str "LETTERS" "abcdefghijklmnopqrstuvwxyz", .int "MOST_LETTERS" 8, .int "MOST_STEPS" 40, .int "MOST_NAMES" 12, .glo "Program", .cls "Program", .noat "Program" "steps", .noat "Program" "kept_steps", .noat "Program" "kept_facts", .mkr "Program"]
abbrev R : PySem.W.OpenRow := PySem.W.OpenLaw.row PySem.Challenge.rw_fullbelts_k10_whole_wanted_by_all_routes
abbrev hk : PySem.W.Hook := He.hookD 5 fa fn
def ob (s : PySem.W.SharedT) : He.AlD := He.obsDG 5 fa fn (HandSHeadRun.getT s)
theorem ob_eq (s : PySem.W.SharedT) : ob s = hk.obs s.abs := He.obsDG_eq (HandSHeadRun.getT_eq s)
def namesA : List Str := ["BeltsError", "BadProgram", "NoPlace", "NoName", "is_integer", "is_name", "is_index", "check_place", "check_name", "goals_of", "reads_of", "made_by", "ways_of", "places_on", "routes_without", "routes_from_first", "reached_flags", "reached", "leaves_none", "wants_all", "wanted_of", "wanted", "want_route", "is_want_route", "are_places", "are_reads", "is_make", "is_step", "names_in", "check_steps"]
def namesB : List Str := ["Program", "_law_tape", "_law_pick", "_law_names", "_law_goal", "_law_step", "_law_steps", "_law_goals", "_law_reads", "_law_spread", "_law_faults", "_law_mended", "_law_leaves", "_law_routes", "LETTERS", "MOST_LETTERS", "MOST_STEPS", "MOST_NAMES"]
def names : List Str := namesA ++ namesB
theorem run (w : World) : HandSHeadRun.RunEq R (PySem.W.view R.prog [54]) hk ob 6000 names w := by
  intro os
  kernel_rfl
end FB
set_option Elab.async false
set_option linter.all false
set_option maxRecDepth 100000
set_option maxHeartbeats 4000000
/-! An own rule: enumerate over a tuple. -/
namespace FB
open PySem PySem.Spec PyProof.Rows L2
section
variable {prog : Program} {w : World} {A : Around} {E : Value → Shared → Prop} {s : Shared}
theorem drawsTup (hh : A.handled = none) (it t : Addr) (hne : t ≠ it) (items : Array Value) :
    Draws prog w A it [it, t] items.size (fun i v => items[i]? = some v) (fun i h => IsTupIter h it t i ∧ IsTup h t items) where
  live := fun _ _ st => by
    obtain ⟨o, ho, _⟩ := st.1
    exact ⟨o, ho⟩
  frame := fun _ _ _ st hk => by
    obtain ⟨⟨o, ho, r⟩, ⟨o2, ho2, r2⟩⟩ := st
    exact ⟨⟨o, hk it (by simp) o ho, r⟩, ⟨o2, hk t (by simp) o2 ho2, r2⟩⟩
  item := fun i s Q E hi st hQ => by
    unfold Builtin.SmallTypes.nextOf
    refine wpAny_bind (special_tup_item st.1 st.2 (x := items[i]) (by simp [hi]) fun h' hit' hs' => ?_)
    exact wpAny_pure (hQ _ h' s.toks (by simp [hi]) ⟨hit', st.2.extBut hs'.extBut hne⟩ hs')
  done := fun s Q E st hE => by
    unfold Builtin.SmallTypes.nextOf
    refine wpAny_bind (special_tup_end hh st.1 st.2 (by simp) fun e h' hx hs' => ?_)
    obtain ⟨b, o, vs, rfl, ho, hc, _⟩ := hx
    exact hE h' b hs' ⟨o, ho, hc⟩
theorem newEnumTup (l : Addr) (items : Array Value) (c : Obj) (hc : c.cls = .type "tuple") (n : Nat) (hd : c.data = .seq items n) :
    Meets (Builtin.«enumerate.__new__» ⟨[.type "enumerate", .ref l], []⟩) (fun _ R s => s.heap.get? l = some c ∧
      R (.ok (.ret (.ref (s.heap.push { cls := .type "tuple_iterator", data := .fields #[.ref l, .int 0 0] }).objs.size)))
        { s with heap := (s.heap.push { cls := .type "tuple_iterator", data := .fields #[.ref l, .int 0 0] }).push { cls := .type "enumerate", data := .fields #[.none, .bool false, .ref s.heap.objs.size, rawInt 0, .none, .none] } }) :=
  .of_wp fun prog w A R s h => by
    obtain ⟨hp, g, d, tk, os⟩ := s
    obtain ⟨hl, h⟩ := h
    have hsub := sub_enumerate
    have hT : IsTup (Shared.heap ⟨hp, g, d, tk, os⟩) l items := ⟨c, hl, hc, n, hd⟩
    wp_walk
    refine wpAny_stack_any fun st => wpAny_pure ?_
    split
    · rename_i c' _ _ _ _ _
      cases (c' == Value.type "enumerate")
      · wp_walk using iter_tuple hT
        exact ⟨_, rfl, h⟩
      · wp_walk using iter_tuple hT
        exact ⟨_, rfl, h⟩
    · wp_walk using iter_tuple hT
      exact ⟨_, rfl, h⟩
theorem callEnumTup {l : Addr} {items : Array Value} {Q : Value → Shared → Prop} (hL : IsTup s.heap l items)
    (h : ∀ h', IsEnum h' (s.heap.objs.size + 1) s.heap.objs.size 0 .none → IsTupIter h' s.heap.objs.size l 0 → h'.objs.size = s.heap.objs.size + 2 →
      (∀ b o, s.heap.get? b = some o → h'.get? b = some o) → Q (.ref (s.heap.objs.size + 1)) { s with heap := h' }) :
    wpAny (model prog w) A (call (.type "enumerate") [.ref l]) Q E s := by
  obtain ⟨c, hl, hc, n, hd⟩ := hL
  refine callType_new F.called_enumerate (by decide) (F.typeCall_enumerate_1 _) (F.newCall_enumerate_1 _) (fun obj => F.args_object_init_2 obj _) F.entry_enumerate_new
    (newEnumTup l items c hc n hd) ⟨hl, ?_⟩
  generalize hG : s.heap.push { cls := .type "tuple_iterator", data := .fields #[.ref l, .int 0 0] } = G
  have z1 : G.objs.size = s.heap.objs.size + 1 := by
    rw [← hG]
    exact Heap.size_push ..
  have g1 : G.get? s.heap.objs.size = some { cls := .type "tuple_iterator", data := .fields #[.ref l, .int 0 0] } := by
    rw [← hG]
    exact Heap.get?_push_size _ rfl
  have k1 : ∀ b o, s.heap.get? b = some o → G.get? b = some o := fun b o e => by
    rw [← hG]
    exact Heap.get?_push_of_some _ e
  show _ ∧ _
  have he := Heap.get?_push_size G (o := { cls := .type "enumerate", data := .fields #[.none, .bool false, .ref s.heap.objs.size, rawInt 0, .none, .none] }) rfl
  rw [z1] at he ⊢
  exact ⟨⟨_, he, rfl⟩, h _ he ⟨_, Heap.get?_push_of_some _ g1, rfl, rfl⟩ (by rw [Heap.size_push, z1]) fun b o x => Heap.get?_push_of_some _ (k1 b o x)⟩
end
/-- the tuple at a, each item in a new pair -/
def ItE (K : PySem.W.Frag) (a : Addr) : It :=
  ⟨fun i H => ∃ (xs : List V) (x : V), SqT K H a xs ∧ xs[i]? = some x, fun i H v H' => ∃ T x, v = .ref T ∧ H T = none ∧ H' = upd H T (.tup [.int (i : Nat), x]) ∧ ∀ xs, SqT K H a xs → xs[i]? = some x, fun i H => ∃ xs : List V, SqT K H a xs ∧ xs.length ≤ i⟩
theorem turnEnumTup {P : Program} {w : World} {K : PySem.W.Frag} {elts : List Expr} {kk : Nat} {tpos : Pos} (a e it : Addr) :
    Turn P w K (.Tuple elts kk tpos) (ItE K a) [e, it] e (fun i h => (∃ old, IsEnum h e it ((i : Nat) : Int) old) ∧ IsTupIter h it a i ∧ e ≠ it) where
  mem := by simp
  obj := fun i h st b hb => by
    obtain ⟨⟨old, he⟩, ⟨o, ho, hc, hd⟩, _⟩ := st
    have e' : b = e ∨ b = it := by simpa using hb
    rcases e' with z | z
    · subst z
      exact ⟨_, he, fun v q => nomatch q⟩
    · subst z
      exact ⟨o, ho, fun v q => by rw [hd] at q; cases q⟩
  keep := fun i h h' st k => by
    obtain ⟨⟨old, he⟩, ⟨o, ho, r⟩, hne⟩ := st
    exact ⟨⟨old, k e (by simp) _ he⟩, ⟨o, k it (by simp) o ho, r⟩, hne⟩
  item := by
    intro X hP hw hK hc i pins s σ H E I hf st hg
    subst hP hw hK
    obtain ⟨⟨old, he⟩, hit, hne⟩ := st
    obtain ⟨xs, x, hq, hx⟩ := hg
    obtain ⟨its, rv, p, hz⟩ := I.tuple hq
    obtain ⟨u, hu, ru⟩ := rv.get hx
    have p : IsTup s.heap a its.toArray := p
    have hel : e < s.heap.objs.size := Heap.lt_size he
    have hil : it < s.heap.objs.size := by
      obtain ⟨_, q, _⟩ := hit
      exact Heap.lt_size q
    have hai : a ≠ it := fun z => by
      obtain ⟨o, ho, hc, _⟩ := p
      obtain ⟨o2, ho2, hc2, _⟩ := hit
      rw [z, ho2] at ho
      cases ho
      rw [hc2] at hc
      exact absurd hc (by decide)
    have hea : e ≠ a := fun z => by
      obtain ⟨o, ho, hc, _⟩ := p
      rw [← z, show s.heap.get? e = _ from he] at ho
      cases ho
      exact absurd (show Value.type "enumerate" = Value.type "tuple" from hc) (by decide)
    have hlt : i < its.toArray.size := by
      have := (List.getElem?_eq_some_iff.mp hu).1
      simpa using this
    refine wpAny_pyNext_enum_itemD (drawsTup (prog := X.prog) (w := X.w) (A := X.A.in1) (I.ok.hd hc) it a hai its.toArray) he ⟨hit, p⟩ hlt hne (by simp [hne, hea]) fun y h' tk hy ho hst' hT hsz hk => ?_
    have hyu : y = u := by
      have q : its[i]? = some y := by simpa using hy
      rw [hu] at q
      exact (Option.some.inj q).symm
    subst hyu
    refine ⟨_, rfl, wpAny_letOwnedTupleGo_enum (s := { s with heap := h', toks := tk + 1 }) ho fun h'' he' sb => ?_⟩
    have hT2 : h''.get? s.heap.objs.size = some { cls := .type "tuple", data := .seq #[.int i tk, y] } := (sb.2 _ (Nat.ne_of_gt hel)).trans hT
    have new : ObjOk X.prog X.w (upd H s.heap.objs.size (.tup [.int (i : Nat), x])) h'' s.heap.objs.size (.tup [.int (i : Nat), x]) :=
      ⟨by show 2 ≤ sizeLine; decide, [.int i tk, y], .cons ⟨_, rfl⟩ (.cons ru .nil), ⟨_, hT2, rfl, _, rfl⟩⟩
    have I1 : Inv X pins σ (upd H s.heap.objs.size (.tup [.int (i : Nat), x])) { s with heap := h'', toks := tk + 1 } :=
      I.turnedNew (ch := [e, it]) (fun b ob hb q => (sb.2 b (fun z => hb (by simp [z]))).trans (hk b ob (fun z => hb (by simp [z])) (fun z => hb (by simp [z])) q)) hf (Nat.le_refl _) new
    refine ⟨.ref s.heap.objs.size, _, I1, rfl, ⟨_, x, rfl, I.hok.fresh (Nat.le_refl _), rfl, fun ys hy => by rw [I.tuple_inj hy hq]; exact hx⟩, ⟨⟨y, ?_⟩, ?_, hne⟩, fun b hb => ?_⟩
    · have e1 : ((i + 1 : Nat) : Int) = (i : Int) + 1 := by omega
      rw [e1]
      exact he'
    · obtain ⟨o, ho2, r⟩ := hst'.1
      exact ⟨o, (sb.2 it (Ne.symm hne)).trans ho2, r⟩
    · have hb' : b < s.heap.objs.size := by
        have e' : b = e ∨ b = it := by simpa using hb
        rcases e' with z | z
        · rw [z]; exact hel
        · rw [z]; exact hil
      rw [upd_ne (Nat.ne_of_lt hb')]
      exact (hf b hb).1
  done := by
    intro X hP hw hK hc i pins s σ H E I hf st hg
    subst hP hw hK
    obtain ⟨⟨old, he⟩, hit, hne⟩ := st
    obtain ⟨xs, hq, hx⟩ := hg
    obtain ⟨its, rv, p, hz⟩ := I.tuple hq
    have p : IsTup s.heap a its.toArray := p
    obtain ⟨f0, f1, f2, f3, f4, f5⟩ := hf it (by simp)
    have hl := rv.length
    have hai : a ≠ it := fun z => by
      obtain ⟨o, ho, hc, _⟩ := p
      obtain ⟨o2, ho2, hc2, _⟩ := hit
      rw [z, ho2] at ho
      cases ho
      rw [hc2] at hc
      exact absurd hc (by decide)
    -- the iterator may stand beyond the end: its own end says the same
    have hT : s.TypeIs (.ref e) "enumerate" := ⟨_, he, rfl⟩
    unfold pyNext
    refine wpAny_bind (wpAny_attempt (wpAny_callSpecial?_slot (name := Str.ofString "__next__") hT F.slot_enumerate_next
      (wpAny_call_entry F.slot_enumerate_next hT F.entry_enumerate_next ?_ (F.args_enumerate_next_1 _))))
    show wpAny _ _ (field (.ref e) 2 >>= _) _ _ _
    refine wpAny_bind (wpAny_field he rfl (x := .ref it) rfl ?_)
    unfold Builtin.SmallTypes.nextOf
    refine wpAny_bind (wpAny_bind (special_tup_end (A := X.A.in1) (I.ok.hd hc) hit p (by simp; omega) fun x h' hx' eb => ?_))
    obtain ⟨b, o, vs, rfl, ho, hc, _⟩ := hx'
    refine wpAny_bind (wpAny_isInstance (T := "StopIteration") (b := true) ⟨o, ho, hc⟩ isSubtype_stop ?_)
    exact wpAny_pure ⟨rfl, I.turned (t' := s.toks) (fun b o hb e => eb b o hb e) f0 f1 f3 f4 f5⟩
  self := fun A i s Q E st h => by
    obtain ⟨⟨_, he⟩, _⟩ := st
    exact wpAny_pyIter_enum he h
def iEnumT (K : PySem.W.Frag) (ta : TA) : TI := fun σ H R => ta σ H fun vs H1 => ∃ a xs, vs = [.ref a] ∧ SqT K H1 a xs ∧ R (ItE K a) H1
theorem pi_enumT {X : Cx} {e : Expr} {ta : TA} {p pos tpos : Pos} {elts : List Expr} {kk : Nat} (hg : Gl X "enumerate") (hm : X.mg "enumerate" = none) (ha : PA X [e] ta) (hs : starEach [e] X.env = [(false, eval e X.env)] := by rfl) :
    PI X (.Tuple elts kk tpos) (.Call (.Name "enumerate" p) [e] [] pos) (iEnumT X.K ta) := by
  refine ⟨fun pins s σ H R I h => ?_⟩
  refine Call_ (ld_blt I hg hm boot_enumerate (PyProof.Rows.callWith_type1 (thn (ha.run pos pins s σ H _ I h) fun us s1 ⟨vs, H1, I1, r1, q1⟩ => ?_) hs rfl))
  obtain ⟨a, xs, ex, hq, q⟩ := q1
  subst ex
  cases r1 with
  | cons r rr =>
    cases rr
    cases r
    obtain ⟨its, rv, p', hz⟩ := I1.tuple hq
    refine callEnumTup (show IsTup s1.heap a its.toArray from p') fun h' he hit hsz hk => wpAny_pyIter_enum he ?_
    have I2 : Inv X pins σ H1 { s1 with heap := h' } := I1.kept (t' := s1.toks) hk
    refine ⟨s1.heap.objs.size + 1, [s1.heap.objs.size + 1, s1.heap.objs.size], _, _, H1, rfl, I2, turnEnumTup a (s1.heap.objs.size + 1) s1.heap.objs.size, ⟨⟨.none, he⟩, hit, Nat.succ_ne_self _⟩, fun b hb => ?_, q⟩
    have e' : b = s1.heap.objs.size + 1 ∨ b = s1.heap.objs.size := by simpa using hb
    have hle : s1.heap.objs.size ≤ b := by
      rcases e' with z | z
      · rw [z]; exact Nat.le_add_right _ _
      · rw [z]; exact Nat.le_refl _
    exact I1.fpOk hle (I1.hok.fresh hle)
theorem walkEnumT {K : PySem.W.Frag} {a : Addr} {xs : List V} : Walk (ItE K a) xs.length (fun H => SqT K H a xs) (YPair (fun i => some (.int (i : Nat))) (fun i => xs[i]?)) := by
  refine ⟨fun i _ hi q => ⟨xs, xs[i], q, by simp [hi]⟩, fun _ q => ⟨xs, q, Nat.le_refl _⟩, fun i H v H' _ q y => ?_⟩
  obtain ⟨T, x, h1, h2, h3, h4⟩ := y
  exact ⟨T, .int (i : Nat), x, h1, h2, h3, rfl, h4 xs q⟩
end FB
set_option Elab.async false
set_option linter.all false
set_option maxRecDepth 100000
set_option maxHeartbeats 4000000
/-! Own rules: sets of texts that can be walked; add, len, sorted; the set comprehension with one for and with two. -/
namespace FB
open PySem PySem.Spec PyProof.Rows L2

/-! ### a set of one kind of keys whose table can be walked -/
section
variable {prog : Program} {w : World} {κ : Type} [DecidableEq κ] (knd : PySem.KeyKind prog w κ)
def SetW (h : Heap) (a : Addr) (S : κ → Bool) (n : Nat) : Prop :=
  ∃ o es ep t, h.get? a = some o ∧ o.ExactSet ∧ o.data = .set es ep t ∧ ElemsOf knd es.toList ∧ (∀ k, S k = true ↔ ∃ e ∈ es.toList, knd.is k e.2 = true) ∧
    es.size < scanBound ∧ t.fits es.size = true ∧ es.size = n ∧ Ris t.place.toList ∧ (w.params.followText "set-order" = true ∨ t.led = true)
variable {knd} {h h' : Heap} {a : Addr} {S : κ → Bool} {n : Nat} {A : Around} {E : Value → Shared → Prop} {s : Shared}
theorem SetW.at (R : SetW knd h a S n) (k : ∀ o, h.get? a = some o → h'.get? a = some o) : SetW knd h' a S n := by
  obtain ⟨o, es, ep, t, ho, r⟩ := R
  exact ⟨o, es, ep, t, k o ho, r⟩
theorem SetW.setOf (R : SetW knd h a S n) : h.SetOf knd a S n := by
  obtain ⟨o, es, ep, t, ho, hx, hd, g, hm, hb, hf, hn, _⟩ := R
  exact ⟨o, es, ep, t, ho, hx, hd, g, hm, hb, hf, hn⟩
theorem SetW.fresh (h : Heap) : SetW knd (h.push { cls := .type "set", dict := none, data := .set #[] 0 (.fresh 0 0 (!w.params.followText "set-order")) }) h.objs.size (fun _ => false) 0 := by
  refine ⟨_, #[], 0, _, Heap.get?_push_size _ rfl, ⟨rfl, rfl, rfl⟩, rfl, (fun e he => by simp at he), (fun k => by simp), (by decide), (by rfl), rfl, List.Pairwise.nil, ?_⟩
  cases q : w.params.followText "set-order" with
  | true => exact .inl rfl
  | false => exact .inr rfl
theorem putAt {o : Obj} {es es' : Array (Int × Value)} {ep : Nat} {t t' : SetTable} (ho : h.get? a = some o) (hd : o.data = .set es ep t) :
    (h.update a (Obj.putSet es' t')).get? a = some { o with data := .set es' (ep + 1) t' } := by
  have q := Heap.get?_update_self (Obj.putSet es' t') ho (by rw [putSet_of es' t' hd]; rfl)
  rw [putSet_of es' t' hd] at q
  exact q
/-- the end of an add: the store, and the table laid anew where it is too full -/
theorem addEnd {g : Bool → Sem Unit} (hg : ∀ (b : Bool) (s₁ : Shared) (Q' : Unit → Shared → Prop), Q' () s₁ → wpAny (model prog w) A (g b) Q' E s₁)
    {o : Obj} {es : Array (Int × Value)} {ep : Nat} {t : SetTable} (ho : s.heap.get? a = some o) (hex : o.ExactSet) (hd : o.data = .set es ep t)
    {es1 : Array (Int × Value)} {t2 : SetTable} {S' : κ → Bool} (g1 : ElemsOf knd es1.toList) (m1 : ∀ k, S' k = true ↔ ∃ e ∈ es1.toList, knd.is k e.2 = true)
    (hb1 : es1.size < scanBound) (hf2 : t2.fits es1.size = true) (hr : Ris t2.place.toList) (hl : w.params.followText "set-order" = true ∨ t2.led = true) {wasDummy : Bool} {R : Option Bool → Shared → Prop}
    (hR : ∀ h', Heap.SameBut a s.heap h' → SetW knd h' a S' es1.size → R (some true) { s with heap := h' }) :
    wpAny (model prog w) A (do
        storeSet a es1 t2
        if (!wasDummy && t2.tooFull) = true then do
            g (relayAll t2 es1 (SetTable.grown es1.size)).2.2
            storeSet a (relayAll t2 es1 (SetTable.grown es1.size)).1 (relayAll t2 es1 (SetTable.grown es1.size)).2.1
            pure (some true)
          else pure (some true)) R E s := by
  refine wpAny_bind (wpAny_storeSet_of ho hd ?_ (fits_of_scanBound hb1))
  have ho1 := putAt (es' := es1) (t' := t2) ho hd
  have sb1 := Heap.SameBut.update s.heap a (Obj.putSet es1 t2)
  split
  · have pm := relayAll_perm t2 es1 (SetTable.grown es1.size)
    have hf3 := relayAll_fits t2 es1 (SetTable.grown es1.size)
    have hr3 := relayAll_ris t2 es1 (SetTable.grown es1.size)
    have hl3 := relayAll_led t2 es1 (SetTable.grown es1.size)
    generalize relayAll t2 es1 (SetTable.grown es1.size) = Z at pm hf3 hr3 hl3 ⊢
    obtain ⟨es2, t3, gave⟩ := Z
    dsimp only at pm hf3 hr3 hl3 ⊢
    have hsz : es2.size = es1.size := by rw [← Array.length_toList, pm.length_eq, Array.length_toList]
    have hb2 : es2.size < scanBound := by rw [hsz]; exact hb1
    refine wpAny_bind (hg _ _ _ (wpAny_bind (wpAny_storeSet_of ho1 rfl ?_ (fits_of_scanBound hb2))))
    refine wpAny_pure (hR _ (sb1.trans (Heap.SameBut.update _ a _)) ?_)
    refine ⟨_, es2, _, t3, putAt (es' := es2) (t' := t3) ho1 rfl, hex, rfl, g1.perm pm, fun k => (m1 k).trans ⟨fun z => ?_, fun z => ?_⟩, hb2, hf3, hsz, hr3, hl.imp id fun z => by rw [hl3]; exact z⟩
    · obtain ⟨e, he, q⟩ := z
      exact ⟨e, pm.mem_iff.mpr he, q⟩
    · obtain ⟨e, he, q⟩ := z
      exact ⟨e, pm.mem_iff.mp he, q⟩
  · exact wpAny_pure (hR _ sb1 ⟨_, es1, _, t2, ho1, hex, rfl, g1, m1, hb1, hf2, rfl, hr, hl⟩)
theorem SetW.addHashed {k : κ} {x : Value} {Q : Bool → Shared → Prop} (hkey : knd.is k x = true) (hsc : x.scannable = true) (R : SetW knd s.heap a S n) (room : n + 1 < scanBound)
    (hQ : ∀ h' b n', Heap.SameBut a s.heap h' → n' ≤ n + 1 → SetW knd h' a (fun j => S j || decide (j = k)) n' → Q b { s with heap := h' }) :
    wpAny (model prog w) A (setAddHashed a x (knd.hash k)) Q E s := by
  obtain ⟨o, es, ep, t, ho, hex, hd, hel, hm, hb, hf, hn, hr, hl⟩ := R
  unfold setAddHashed setAddHashedIn
  refine wpAny_holding (wpAny_bind (wpAny_setState_of ho hd hf ?_))
  dsimp only
  rw [byScan_of hsc hb hel]
  simp only [↓reduceIte]
  unfold setAddByScan
  refine wpAny_bind (wpAny_bind (wpAny_rule (wpAny_bind (wpAny_setScan_of hkey ho hd hf hel ?_))))
  cases hfi : List.findIdx? (fun e => knd.is k e.2) es.toList with
  | some j =>
    dsimp only
    obtain ⟨hj, pj, _⟩ := List.findIdx?_eq_some_iff_getElem.mp hfi
    have hSk : S k = true := (hm k).2 ⟨es.toList[j], List.getElem_mem hj, pj⟩
    refine wpAny_pure (wpAny_pure (hQ s.heap _ n (Heap.SameBut.refl a s.heap) (Nat.le_succ n) ⟨o, es, ep, t, ho, hex, hd, hel, fun i => ?_, hb, hf, hn, hr, hl⟩))
    rw [Bool.or_eq_true, decide_eq_true_eq, ← hm i]
    exact ⟨fun z => z.elim id (fun e => by rw [e]; exact hSk), .inl⟩
  | none =>
    dsimp only
    have hgw : ∀ (b : Bool) {s₁ : Shared} {Q' : Unit → Shared → Prop}, Q' () s₁ → wpAny (model prog w) A (match b with | true => rule "set.scan.the-table-gave-way" | false => pure ()) Q' E s₁ := by
      intro b s₁ Q' q
      cases b with
      | true => exact wpAny_rule q
      | false => exact wpAny_pure q
    have pm := layNew_perm t es (knd.hash k) x
    have hf1 := layNew_fits t es (knd.hash k) x
    have hr1 := layNew_ris t es (knd.hash k) x hr
    have hl1 := layNew_led t es (knd.hash k) x
    generalize layNew t es (knd.hash k) x = Z at pm hf1 hr1 hl1 ⊢
    obtain ⟨es1, t1, wasDummy, gave⟩ := Z
    dsimp only at pm hf1 hr1 hl1 ⊢
    rw [Array.toList_push] at pm
    have g1 : ElemsOf knd es1.toList := (hel.push hkey hsc).perm pm
    have m1 : ∀ i, (S i || decide (i = k)) = true ↔ ∃ e ∈ es1.toList, knd.is i e.2 = true := mem_push_iff hkey hm pm
    have hsz : es1.size = n + 1 := by rw [← Array.length_toList, pm.length_eq, List.length_append, Array.length_toList, hn]; rfl
    have hb1 : es1.size < scanBound := by rw [hsz]; exact room
    have hled : w.params.followText "set-order" = true ∨ t1.led = true := hl.imp id fun z => by rw [hl1]; exact z
    refine wpAny_bind (hgw _ ?_)
    split
    · refine wpAny_bind ?_
      rw [hashByValue_scannable 8 hsc]
      refine wpAny_pure (addEnd ?_ ho hex hd g1 m1 hb1 ?_ ?_ ?_ fun h' sb r => ?_)
      · intro b s₁ Q' q
        cases b with
        | true => exact wpAny_rule q
        | false => exact wpAny_pure q
      · split <;> first | exact hf1 | exact SetTable.fits_plain_off hf1
      · split <;> exact hr1
      · split <;> exact hled
      · dsimp only
        exact wpAny_pure (hQ h' _ _ sb (Nat.le_of_eq hsz) r)
    · refine wpAny_bind (wpAny_pure ?_)
      simp only [↓reduceIte]
      refine addEnd ?_ ho hex hd g1 m1 hb1 hf1 hr1 hled fun h' sb r => ?_
      · intro b s₁ Q' q
        cases b with
        | true => exact wpAny_rule q
        | false => exact wpAny_pure q
      · dsimp only
        exact wpAny_pure (hQ h' _ _ sb (Nat.le_of_eq hsz) r)
theorem SetW.add {k : κ} {x : Value} {Q : Value → Shared → Prop} (hkey : knd.is k x = true) (hsc : x.scannable = true) (R : SetW knd s.heap a S n) (room : n + 1 < scanBound)
    (hQ : ∀ h' n', Heap.SameBut a s.heap h' → n' ≤ n + 1 → SetW knd h' a (fun j => S j || decide (j = k)) n' → Q .none { s with heap := h', toks := s.toks + 1 }) :
    wpAny (model prog w) A (call (.builtin "set.add") [.ref a, x]) Q E s := by
  refine wpAny_call_entry F.slot_set_add R.setOf.typeIs F.entry_set_add ?_ (F.args_set_add_2 _ _)
  unfold Builtin.«set.add» Builtin.Frozenset.oneOther
  simp only [List.isEmpty_nil, bind_assoc]
  unfold Builtin.Frozenset.addrOf setAdd
  refine wpAny_bind (wpAny_pure ?_)
  try dsimp only
  refine wpAny_bind (wpAny_pure ?_)
  try dsimp only
  refine wpAny_bind (wpAny_holding (wpAny_bind (knd.pyHash hkey ?_)))
  refine SetW.addHashed (s := { s with toks := s.toks + 1 }) hkey hsc R room fun h' b n' sb hn' r => ?_
  show wpAny _ _ (ret Value.none) _ _ _
  exact wpAny_pure ⟨_, rfl, hQ h' n' sb hn' r⟩
end

/-! ### texts -/
abbrev txK (P : Program) (w : World) : PySem.KeyKind P w Str := PySem.strKind P w
theorem txIs (P : Program) (w : World) (k : Str) (t : Tok) : (txK P w).is k (.str k t) = true := by
  show Value.isStrOf k (.str k t) = true
  simp [Value.isStrOf]
/-- the set of texts at a -/
def SetT (P : Program) (w : World) (a : Addr) (S : Str → Bool) (n : Nat) : HO := .ext fun h => SetW (txK P w) h a S n
theorem setT_new {w : World} {P : Program} {H : Hp} {h : Heap} {a : Addr} {S : Str → Bool} {n : Nat} (R : SetW (txK P w) h a S n) : ObjOk P w H h a (SetT P w a S n) := by
  have ⟨o, _, _, _, ho, _⟩ := R
  exact ⟨R, ⟨o, ho⟩, fun h1 h2 p k => SetW.at p k⟩
section
variable {X : Cx}
theorem setT_get {pins : List (Addr × Obj)} {σ : L2.St} {H : Hp} {s : Shared} {a : Addr} {S : Str → Bool} {n : Nat} (I : Inv X pins σ H s) (ha : H a = some (SetT X.prog X.w a S n)) : SetW (txK X.prog X.w) s.heap a S n := (I.hok a _ ha).1
theorem addT_ok {pins : List (Addr × Obj)} {σ : L2.St} {H : Hp} {s : Shared} {E : Value → Shared → Prop} {D : Addr} {S : Str → Bool} {n : Nat} {y : Str} {t : Tok} {Q : Value → Shared → Prop} (I : Inv X pins σ H s) (hD : H D = some (SetT X.prog X.w D S n)) (room : n + 1 < scanBound)
    (h : ∀ s' n', n' ≤ n + 1 → Inv X pins σ (upd H D (SetT X.prog X.w D (fun j => S j || decide (j = y)) n')) s' → Q .none s') : wpAny (model X.prog X.w) X.A (call (.builtin "set.add") [.ref D, .str y t]) Q E s := by
  refine SetW.add (txIs _ _ y t) rfl (setT_get I hD) room fun h' n' sb hn' new => ?_
  have he : ∃ u, h'.get? D = some u := by
    have ⟨o, _, _, _, ho, _⟩ := new
    exact ⟨o, ho⟩
  exact h _ n' hn' (I.write (e := D) (t' := s.toks + 1) (by rw [hD]; trivial) (.inl rfl) (fun b u hb hu => (sb.2 b hb).trans hu) he (setT_new new))
/-- len(set) -/
def rLenST (P : Program) (w : World) : List V → Hp → VK → Prop := fun vs H Q => ∃ (a : Addr) (S : Str → Bool) (n : Nat), vs = [V.ref a] ∧ H a = some (SetT P w a S n) ∧ Q (.int n) H
theorem cr_lenST : CallR X (.builtin "len") (rLenST X.prog X.w) := by
  intro pins s σ H vs us Q I r h
  obtain ⟨a, S, n, rfl, ha, q⟩ := h
  obtain ⟨o, es, ep, t, ho, hx, hd, g, hm, hb, hf, hn, _⟩ := setT_get I ha
  rw [Vals.ref1 r]
  refine call_len_set ho hx hd hf (by have h1 : scanBound = 4096 := rfl; omega) ⟨.int n, H, I.tok _, ⟨_, by rw [hn]⟩, q⟩
theorem strs_of : ∀ (l : List Value), (∀ v ∈ l, ∃ k tk, v = Value.str k tk) → ∃ ss, StrsAre l ss
  | [], _ => ⟨[], .nil⟩
  | v :: l, h => by
    obtain ⟨k, tk, rfl⟩ := h v List.mem_cons_self
    obtain ⟨ss, q⟩ := strs_of l fun u hu => h u (List.mem_cons_of_mem _ hu)
    exact ⟨k :: ss, .cons k tk q⟩
theorem strs_mem : ∀ {l : List Value} {ss : List Str}, StrsAre l ss → ∀ k, k ∈ ss ↔ ∃ t, Value.str k t ∈ l
  | _, _, .nil, k => by simp
  | _, _, .cons x t q, k => by
    rw [List.mem_cons, strs_mem q k]
    constructor
    · rintro (rfl | ⟨u, hu⟩)
      · exact ⟨t, List.mem_cons_self⟩
      · exact ⟨u, List.mem_cons_of_mem _ hu⟩
    · rintro ⟨u, hu⟩
      rcases List.mem_cons.mp hu with e | e
      · cases e
        exact .inl rfl
      · exact .inr ⟨u, e⟩
theorem strs_len : ∀ {l : List Value} {ss : List Str}, StrsAre l ss → ss.length = l.length
  | _, _, .nil => rfl
  | _, _, .cons x t q => by rw [List.length_cons, List.length_cons, strs_len q]
/-- sorted(set), fewer than 64 members -/
def rSortST (P : Program) (w : World) : List V → Hp → VK → Prop := fun vs H Q => ∃ (a : Addr) (S : Str → Bool) (n : Nat), vs = [V.ref a] ∧ H a = some (SetT P w a S n) ∧ n < 64 ∧
  ∀ (ys : List Str) (p : Addr), (∀ k : Str, k ∈ ys ↔ S k = true) → ys.length = n → H p = none → Q (.ref p) (upd H p (.lst (ys.map V.str)))
theorem cr_sortST (hc : X.calm = true) : CallR X (.builtin "sorted") (rSortST X.prog X.w) := by
  intro pins s σ H vs us Q I r h
  obtain ⟨a, S, n, rfl, ha, h64, q⟩ := h
  obtain ⟨o, es, ep, t, ho, hex, hd, hel, hm, hb, hf, hn, hr, hl⟩ := setT_get I ha
  rw [Vals.ref1 r]
  refine Calls.call_function_entry kind_sorted plain_sorted entry_sorted (args_sorted1 _) ?_
  unfold Builtin.«sorted»
  refine wpAny_bind (m := checkCount "sorted" 1 1 _) (wpAny_pure ?_)
  refine wpAny_bind (collect_set (A := X.A.in1) (I.ok.hd hc) ⟨o, ho, hex.1, hd⟩ hf hb hr hl fun s1 vs k1 hz g1 o1 pm => ?_)
  have hvl : vs.length = n := by rw [pm.length_eq, List.length_map, Array.length_toList]; exact hn
  have shape : ∀ v ∈ vs, ∃ k tk, v = Value.str k tk := fun v hv => by
    obtain ⟨e, he, q⟩ := List.mem_map.mp (pm.mem_iff.mp hv)
    obtain ⟨⟨k, hk, _⟩, _⟩ := hel e he
    obtain ⟨tk, z⟩ := Value.isStrOf_shape (show Value.isStrOf k e.2 = true from hk)
    exact ⟨k, tk, by rw [← q]; exact z⟩
  obtain ⟨ss, hS⟩ := strs_of vs shape
  refine wpAny_bind (wpAny_newList ?_ (by rw [hvl, sizeLine_eq]; omega))
  have hoL : (s1.heap.push (seqObj "list" vs.toArray 0)).get? s1.heap.objs.size = some (seqObj "list" vs.toArray 0) := Heap.get?_push_size _ rfl
  refine wpAny_bind (wpAny_holding (wpAny_call_entry slot_list_sort ⟨_, hoL, rfl⟩ entry_list_sort (list_sort_treeK (κ := PyProof.Rows.strKind) strKind_oneLt hoL hS.keysOf (fun v₁ v₂ rest e => keyKind_strs (by rw [← e]; exact hS)) (by rw [hvl]; exact h64) fun st' hp hs => ⟨_, rfl, ?_⟩) (args_list_sort _)))
  obtain ⟨ys, a1, a2, a3⟩ := sorted_out_str hS hp hs
  generalize (arrOf st').map (·.2) = out at a1 ⊢
  obtain ⟨c, hc2⟩ := sortedHeap_at (vs := vs) (out := out) hoL
  have kk : ∀ b u, s.heap.get? b = some u → (sortedHeap (s1.heap.push (seqObj "list" vs.toArray 0)) s1.heap.objs.size vs out).get? b = some u := fun b u e => by
    have q := k1 b u e
    have hlt := Heap.lt_size q
    rw [sortedHeap_old (Nat.ne_of_lt hlt) (by rw [size_push']; exact Nat.lt_succ_of_lt hlt)]
    exact Heap.get?_push_of_some _ q
  have hlen : ys.length = n := by rw [a2.length_eq, strs_len hS, hvl]
  have hn2 : H s1.heap.objs.size = none := I.hok.fresh hz
  have hz2 : (ys.map V.str).length ≤ sizeLine := by rw [List.length_map, hlen, sizeLine_eq]; omega
  have J : Inv X pins σ (upd H s1.heap.objs.size (.lst (ys.map V.str))) { s1 with heap := sortedHeap (s1.heap.push (seqObj "list" vs.toArray 0)) s1.heap.objs.size vs out } :=
    I.call' (ch := []) o1 (Un.laid kk hz hn2) (I.hok.laid kk hz ⟨hz2, out.toList, c, vals_of_strs a1, hc2⟩) (by rw [show ({ s1 with heap := sortedHeap (s1.heap.push (seqObj "list" vs.toArray 0)) s1.heap.objs.size vs out } : Shared).gens = s1.gens from rfl, g1]; exact I.bare) (fun _ z => nomatch z)
  refine wpAny_pure ⟨_, rfl, ⟨.ref s1.heap.objs.size, _, J, rfl, q ys _ (fun k => ?_) hlen hn2⟩⟩
  rw [a2.mem_iff, strs_mem hS k, hm k]
  constructor
  · rintro ⟨tk, hk⟩
    obtain ⟨e, he, q⟩ := List.mem_map.mp (pm.mem_iff.mp hk)
    exact ⟨e, he, by rw [q]; exact txIs _ _ k tk⟩
  · rintro ⟨e, he, hk⟩
    obtain ⟨tk, z⟩ := Value.isStrOf_shape (show Value.isStrOf k e.2 = true from hk)
    exact ⟨tk, pm.mem_iff.mpr (List.mem_map.mpr ⟨e, he, z⟩)⟩
end
end FB
set_option Elab.async false
set_option linter.all false
set_option maxRecDepth 100000
set_option maxHeartbeats 4000000
/-! Own rules: the set comprehension over texts, one for (pe_scT) and two (pe_scT2). -/
namespace FB
open PySem PySem.Spec PyProof.Rows L2
section
variable {prog : Program} {w : World} {A : Around} {R : Result → Shared → Prop} {s : Shared} {elt t0 i0 t1 i1 : Expr} {ifs0 ifs1 : List Expr} {scope : Scope} {pos : Pos} {it acc : Value} {env : Env}
abbrev sc2 (elt t0 i0 t1 i1 : Expr) (ifs0 ifs1 : List Expr) (scope : Scope) (pos : Pos) : Expr := .SetComp elt [⟨t0, i0, ifs0, 0⟩, ⟨t1, i1, ifs1, 0⟩] scope pos
abbrev ifsOf (ifs : List Expr) (env : Env) : Sem Bool := forIn ifs true fun c r => if r = true then do let ok ← isTrue c env (eval c env); pure (ForInStep.yield ok) else pure (ForInStep.yield r)
/-- what is raised in the block leaves it -/
abbrev outB (prog : Program) (w : World) (A : Around) (env : Env) (R : Result → Shared → Prop) : Value → Shared → Prop := notedBy (model prog w) A env fun e s' => R (.error e) s'
theorem sc2_outer (hs : ∀ x, foldedSetIterable i1 env x = pure x) (I : Nat → Shared → Prop)
    (turn : ∀ n s, I n s → wpAny (model prog w) A (pyNext it) (fun r s₁ => match r with
      | none => R (.ok .next) s₁
      | some v => wpAny (model prog w) A (letOwnedTupleGo t0 it v) (fun _ s₁' => wpAny (model prog w) A (assign t0 env v) (fun _ s₂ =>
          wpAny (model prog w) A (ifsOf ifs0 env) (fun ok s₃ =>
            if ok = true then wpAny (model prog w) A (eval i1 env) (fun x s₄ => wpAny (model prog w) A (pyIter x) (fun it1 s₅ =>
              codeAny (model prog w) A (.compStart (sc2 elt t0 i0 t1 i1 ifs0 ifs1 scope pos) 1 it1 acc env) (fun r s' => match r with
                | .ok _ => ∃ m, m < n ∧ I m s'
                | .error _ => False) s₅) (outB prog w A env R) s₄) (outB prog w A env R) s₃
            else ∃ m, m < n ∧ I m s₃) (outB prog w A env R) s₂) (outB prog w A env R) s₁') (outB prog w A env R) s₁) (outB prog w A env R) s)
    (n : Nat) (h : I n s) : codeAny (model prog w) A (.compLoop (sc2 elt t0 i0 t1 i1 ifs0 ifs1 scope pos) 0 it acc env) R s := by
  refine codeAny_loop rfl I (fun n s hI => ?_) n h
  show wpAny _ A ((compTurn (sc2 elt t0 i0 t1 i1 ifs0 ifs1 scope pos) 0 it acc env).onRaise (fun x => do noteFrame x env; theTreesLotGoes x)) _ _ s
  refine wpAny_noted ?_
  have eT : compTurn (sc2 elt t0 i0 t1 i1 ifs0 ifs1 scope pos) 0 it acc env = (do
      standAt i0.pos
      match ← pyNext it with
      | none => pure (.done .next)
      | some v =>
        letOwnedTupleGo t0 it v
        assign t0 env v
        let mut ok := true
        for c in ifs0 do
          if ok then ok ← isTrue c env (eval c env)
        if ok then
          let x ← eval i1 env
          standAt i1.pos
          let x ← foldedSetIterable i1 env x
          let _ ← runOwn (.compStart (sc2 elt t0 i0 t1 i1 ifs0 ifs1 scope pos) 1 (← holding [x] (pyIter x)) acc env) env
        again (.compLoop (sc2 elt t0 i0 t1 i1 ifs0 ifs1 scope pos) 0 it acc env)) := by rfl
  rw [eT]
  refine wpAny_bind (wpAny_standAt (wpAny_bind (wpAny_mono (turn n s hI) (fun r s₁ h₁ => ?_) fun _ _ h' => h')))
  cases r with
  | none => exact wpAny_pure h₁
  | some v =>
    refine wpAny_bind (wpAny_mono h₁ (fun _ s₁' h₁' => ?_) fun _ _ h' => h')
    refine wpAny_bind (wpAny_mono h₁' (fun _ s₂ h₂ => wpAny_bind (wpAny_mono h₂ (fun ok s₃ h₃ => ?_) fun _ _ h' => h')) fun _ _ h' => h')
    cases ok with
    | false => exact wpAny_pure ⟨rfl, h₃⟩
    | true =>
      refine wpAny_bind (wpAny_mono h₃ (fun x s₄ h₄ => ?_) fun _ _ h' => h')
      refine wpAny_bind (wpAny_standAt (wpAny_bind (wpAny_of_eq (hs x) (wpAny_bind (wpAny_holding (wpAny_mono h₄ (fun it1 s₅ h₅ => ?_) fun _ _ h' => h'))))))
      refine wpAny_bind (wpAny_runOwn ?_)
      rw [Around.mark_none]
      refine codeAny_mono h₅ fun r s' hr => ?_
      cases r with
      | ok f =>
        first
          | exact wpAny_pure ⟨rfl, hr⟩
          | exact wpAny_bind (wpAny_pure (wpAny_pure ⟨rfl, hr⟩))
      | error e => exact hr.elim
theorem sc2_inner (I : Nat → Shared → Prop)
    (turn : ∀ n s, I n s → wpAny (model prog w) A (pyNext it) (fun r s₁ => match r with
      | none => R (.ok .next) s₁
      | some v => wpAny (model prog w) A (letOwnedTupleGo t1 it v) (fun _ s₁' => wpAny (model prog w) A (assign t1 env v) (fun _ s₂ =>
          wpAny (model prog w) A (ifsOf ifs1 env) (fun ok s₃ =>
            if ok = true then wpAny (model prog w) A (eval elt env) (fun x s₄ =>
              wpAny (model prog w) A (call (.builtin "set.add") [acc, x]) (fun _ s₅ => ∃ m, m < n ∧ I m s₅) (outB prog w A env R) s₄) (outB prog w A env R) s₃
            else ∃ m, m < n ∧ I m s₃) (outB prog w A env R) s₂) (outB prog w A env R) s₁') (outB prog w A env R) s₁) (outB prog w A env R) s)
    (n : Nat) (h : I n s) : codeAny (model prog w) A (.compLoop (sc2 elt t0 i0 t1 i1 ifs0 ifs1 scope pos) 1 it acc env) R s := by
  refine codeAny_loop rfl I (fun n s hI => ?_) n h
  show wpAny _ A ((compTurn (sc2 elt t0 i0 t1 i1 ifs0 ifs1 scope pos) 1 it acc env).onRaise (fun x => do noteFrame x env; theTreesLotGoes x)) _ _ s
  refine wpAny_noted ?_
  have eT : compTurn (sc2 elt t0 i0 t1 i1 ifs0 ifs1 scope pos) 1 it acc env = (do
      standAt i1.pos
      match ← pyNext it with
      | none => pure (.done .next)
      | some v =>
        letOwnedTupleGo t1 it v
        assign t1 env v
        let mut ok := true
        for c in ifs1 do
          if ok then ok ← isTrue c env (eval c env)
        if ok then
          (do let v ← eval elt env; standAt elt.pos; let _ ← call (.builtin "set.add") [acc, v])
        again (.compLoop (sc2 elt t0 i0 t1 i1 ifs0 ifs1 scope pos) 1 it acc env)) := by rfl
  rw [eT]
  refine wpAny_bind (wpAny_standAt (wpAny_bind (wpAny_mono (turn n s hI) (fun r s₁ h₁ => ?_) fun _ _ h' => h')))
  cases r with
  | none => exact wpAny_pure h₁
  | some v =>
    refine wpAny_bind (wpAny_mono h₁ (fun _ s₁' h₁' => ?_) fun _ _ h' => h')
    refine wpAny_bind (wpAny_mono h₁' (fun _ s₂ h₂ => wpAny_bind (wpAny_mono h₂ (fun ok s₃ h₃ => ?_) fun _ _ h' => h')) fun _ _ h' => h')
    cases ok with
    | false => exact wpAny_pure ⟨rfl, h₃⟩
    | true =>
      exact wpAny_bind (wpAny_bind (wpAny_mono h₃ (fun x s₄ h₄ => wpAny_bind (wpAny_standAt (wpAny_bind (wpAny_mono h₄ (fun _ s₅ h₅ => wpAny_pure (wpAny_pure ⟨rfl, h₅⟩)) fun _ _ h' => h')))) fun _ _ h' => h'))
theorem sc2_start (h0 : codeAny (model prog w) A (.compLoop (sc2 elt t0 i0 t1 i1 ifs0 ifs1 scope pos) 1 it acc env) R s)
    (h : wpAny (model prog w) A (pyIter it) (fun it' s' => codeAny (model prog w) A (.compLoop (sc2 elt t0 i0 t1 i1 ifs0 ifs1 scope pos) 1 it' acc env) R s') (outB prog w A env R) s) :
    codeAny (model prog w) A (.compStart (sc2 elt t0 i0 t1 i1 ifs0 ifs1 scope pos) 1 it acc env) R s := by
  refine codeAny_of_tree ?_
  show wpAny _ _ ((compStart (sc2 elt t0 i0 t1 i1 ifs0 ifs1 scope pos) 1 it acc env).onRaise (fun x => do noteFrame x env; standAt theWindowsPlace)) _ _ s
  refine wpAny_notedAt ?_
  unfold compStart
  show wpAny _ _ (ask >>= _) _ _ s
  refine wpAny_bind (wpAny_askSetting (wpAny_ite ?_))
  split
  · first
      | exact wpAny_bind (wpAny_pure (wpAny_pure (And.intro rfl h0)))
      | exact wpAny_pure (And.intro rfl h0)
  · first
      | exact wpAny_bind (wpAny_rule (wpAny_bind (wpAny_standAt (wpAny_bind (wpAny_mono h (fun it' s' h' => wpAny_pure (And.intro rfl h')) fun _ _ x => x)))))
      | (refine wpAny_bind (wpAny_rule ?_); show wpAny _ _ (standAt i1.pos >>= _) _ _ s; exact wpAny_bind (wpAny_standAt (wpAny_bind (wpAny_mono h (fun it' s' h' => wpAny_pure (And.intro rfl h')) fun _ _ x => x))))
end

section
variable {X : Cx}
/-- the empty set of texts at D -/
abbrev mtT (X : Cx) (D : Addr) : HO := SetT X.prog X.w D (fun _ => false) 0
/-- one text more in the set at D, told in the heap behind it -/
def putT (P : Program) (w : World) (D : Addr) (Nx : Hp → Prop) : VK := fun y H => ∃ (c : Str) (S : Str → Bool) (n : Nat), y = .str c ∧ H D = some (SetT P w D S n) ∧ n + 1 < scanBound ∧
  ∀ n', n' ≤ n + 1 → Nx (upd H D (SetT P w D (fun j => S j || decide (j = c)) n'))
abbrev Blk (X : Cx) (scope : Scope) (P : Cx → Prop) : Prop := ∀ (s : Shared) (H : Hp) (C : Addr) (cl : List (PySem.Str × Addr)) (fp : List Addr), P (X.blk s H scope (compEnvC scope cl C X.env) fp)
def tScT (X : Cx) (wi : TI) (g : TG) (tt : TT) (te : TE) (vs : List Nat) : TE := fun σ H Q => wi σ H fun J H1 => ∀ D, H1 D = none → ∃ W : Nat → Nat → Hp → Prop, (∃ m, W 0 m (upd H1 D (mtT X D))) ∧ ∀ i m H, W i m H →
  (J.stop i H ∧ Q (.ref D) H) ∨ (J.go i H ∧ ∃ Nx : Hp → Prop, (∀ H', Nx H' → ∃ m', m' < m ∧ W (i + 1) m' H') ∧ ∀ x H', J.yld i H x H' → g x (wipe σ vs) H' fun σ2 H2 => wipe σ2 vs = wipe σ vs ∧ tt σ2 H2 fun b H3 =>
    if b = true then te σ2 H3 (putT X.prog X.w D Nx) else Nx H3)
def tScT2 (X : Cx) (wi : TI) (g : TG) (tt : TT) (wi1 : TI) (g1 : TG) (tt1 : TT) (te : TE) (vs vs1 : List Nat) : TE := fun σ H Q => wi σ H fun J H1 => ∀ D, H1 D = none → ∃ W : Nat → Nat → Hp → Prop, (∃ m, W 0 m (upd H1 D (mtT X D))) ∧ ∀ i m H, W i m H →
  (J.stop i H ∧ Q (.ref D) H) ∨ (J.go i H ∧ ∃ Nx : Hp → Prop, (∀ H', Nx H' → ∃ m', m' < m ∧ W (i + 1) m' H') ∧ ∀ x H', J.yld i H x H' → g x (wipe σ vs) H' fun σ2 H2 => wipe σ2 vs = wipe σ vs ∧ tt σ2 H2 fun b H3 =>
    if b = true then wi1 σ2 H3 fun J1 H4 => ∃ W1 : Nat → Nat → Hp → Prop, (∃ m, W1 0 m H4) ∧ ∀ j k H, W1 j k H →
      (J1.stop j H ∧ Nx H) ∨ (J1.go j H ∧ ∃ Nx1 : Hp → Prop, (∀ H', Nx1 H' → ∃ k', k' < k ∧ W1 (j + 1) k' H') ∧ ∀ x H', J1.yld j H x H' → g1 x (wipe σ2 vs1) H' fun σ3 H5 => wipe σ3 vs1 = wipe σ2 vs1 ∧ tt1 σ3 H5 fun b H6 =>
        if b = true then te σ3 H6 (putT X.prog X.w D Nx1) else Nx1 H6)
    else Nx H3)
theorem scT_core {pins : List (Addr × Obj)} {s : Shared} {σ : L2.St} {H : Hp} {Q : VK} {elt tg iter : Expr} {ifs : List Expr} {scope : Scope} {own : List (PySem.Str × Nat)} {pos pos' : Pos} {wi : TI} {g : TG} {tt : TT} {te : TE} {use : Option (Value → Sem Unit)} {Qf : Value → Shared → Prop}
    (hc : X.calm = true) (hN : X.N.Nodup) (I : Inv X pins σ H s) (hi : PI X tg iter wi) (ok : BlkOk X.N X.env.scope scope own)
    (hg : Blk X scope fun Z => PG Z tg g) (ht : Blk X scope fun Z => PTs Z ifs tt) (he : Blk X scope fun Z => PE Z elt te) (hs : ∀ x, foldedSetIterable iter X.env x = pure x)
    (h : tScT X wi g tt te (own.map (·.2)) σ H Q)
    (hRR : ∀ D C s' m H', Inv X pins σ H' s' → Q (.ref D) H' → s'.heap.Ns C m → FpOk X pins H' C → compPost (model X.prog X.w) X.A X.xe use Qf (.ref D) C (.ok .next) s') :
    wpAny (model X.prog X.w) X.A (comprehension (.SetComp elt [⟨tg, iter, ifs, 0⟩] scope pos) scope X.env pos' (newSet (.type "set")) false (eval iter X.env) use) Qf X.xe s := by
  have hfree : ∀ y ∈ scope.names, y.2 = .free → ∃ c, X.env.cells.lookup y.1 = some c := fun y hy e => by
    rcases ok.free y hy e with k | k
    · exact I.ok.has _ (.inl k)
    · exact I.ok.has _ (.inr k)
  refine wpAny_comprehension_free (use := use) rfl hs (closure_ok hfree) ok.kind (fun y hy e => by rw [ok.uniq y hy, e])
    (thn (hi.run pins s σ H _ I h) fun xv s1 hx => thn hx fun itv s2 h2 => ?_)
  obtain ⟨it, fp, tn, J, H2, e, I2, T, st2, f2, q⟩ := h2
  subst e
  refine PpSet.newSet_ok (newEnv_comp ?_)
  generalize hD : s2.heap.objs.size = D
  have hDn : H2 D = none := I2.hok.fresh (Nat.le_of_eq hD)
  obtain ⟨W, ⟨m0, w0⟩, turn⟩ := q D hDn
  generalize hs3 : ({ s2 with heap := s2.heap.push { cls := .type "set", dict := none, data := .set #[] 0 (.fresh 0 0 (!X.w.params.followText "set-order")) } } : Shared) = s3
  have I3 : Inv X pins σ (upd H2 D (mtT X D)) s3 := by
    rw [← hs3]
    refine I2.laid (t' := s2.toks) (fun b o e => Heap.get?_push_of_some _ e) (Nat.le_of_eq hD) ?_
    rw [← hD]
    exact setT_new (SetW.fresh s2.heap)
  have h3 : s3.heap = s2.heap.push { cls := .type "set", dict := none, data := .set #[] 0 (.fresh 0 0 (!X.w.params.followText "set-order")) } := by rw [← hs3]
  have sz : ∀ b ∈ fp, b < s2.heap.objs.size := fun b hb => by
    obtain ⟨o, e, _⟩ := T.obj _ _ st2 b hb
    exact Heap.lt_size e
  have f3 : ∀ b ∈ fp, FpOk X pins (upd H2 D (mtT X D)) b ∧ b < s3.heap.objs.size := fun b hb => by
    have hlt := sz b hb
    refine ⟨⟨?_, (f2 b hb).2⟩, by rw [h3, Heap.size_push]; exact Nat.lt_succ_of_lt hlt⟩
    rw [upd_ne (by rw [← hD]; exact Nat.ne_of_lt hlt)]
    exact (f2 b hb).1
  have st3 : tn 0 s3.heap := T.keep _ _ _ st2 fun b _ o e => by rw [h3]; exact Heap.get?_push_of_some _ e
  have I4 := block_start I3 ok hN f3
  generalize hcl : cellsFrom (s3.heap.objs.size + 1) scope.names (cloFrom X.env.cells scope.names []) = cl at I4 ⊢
  have pg := hg s3 (upd H2 D (mtT X D)) s3.heap.objs.size cl fp
  have pt := ht s3 (upd H2 D (mtT X D)) s3.heap.objs.size cl fp
  have pe := he s3 (upd H2 D (mtT X D)) s3.heap.objs.size cl fp
  show codeAny _ _ (.compStart (.SetComp elt [⟨tg, iter, ifs, 0⟩] scope pos) 0 (.ref it) (.ref D) (compEnvC scope cl s3.heap.objs.size X.env)) (compPost (model X.prog X.w) X.A X.xe use Qf (.ref D) s3.heap.objs.size) { s3 with heap := pushCells (s3.heap.push { cls := .type "dict", data := .dict #[] }) scope.names }
  have nfp : ∀ b ∈ fp, (upd H2 D (mtT X D)) b = none := fun b hb => (f3 b hb).1.1
  generalize hce : compEnvC scope cl s3.heap.objs.size X.env = ce at I4 pg pt pe ⊢
  have cL : ce.locals = s3.heap.objs.size := by subst hce; rfl
  generalize hH3 : upd H2 D (mtT X D) = H3 at I3 I4 pg pt pe w0 nfp f3
  generalize hs4 : ({ s3 with heap := pushCells (s3.heap.push { cls := .type "dict", data := .dict #[] }) scope.names } : Shared) = s4 at I4 ⊢
  have st4 : tn 0 s4.heap := T.keep _ _ _ st3 fun b _ o e => by rw [← hs4]; exact pushCells_keeps _ _ _ _ (Heap.get?_push_of_some _ e)
  have stat : ∀ {σ' : L2.St} {H' : Hp} {s' : Shared}, Inv (X.blk s3 H3 scope ce fp) [] σ' H' s' → (∀ b ∈ fp, H' b = none) → ∀ b ∈ fp, FpOk (X.blk s3 H3 scope ce fp) [] H' b := fun {σ' H' s'} I' hn b hb =>
    ⟨hn b hb, (I'.ok.exf b hb).1, I'.ok.exfs b hb, .inl hb, fun x c e => (I'.ok.exf b hb).2 x c e, fun p hp => absurd (show p ∈ ([] : List (Addr × Obj)) ++ [] from hp) (by simp)⟩
  have loop : codeAny (model X.prog X.w) X.A (.compLoop (.SetComp elt [⟨tg, iter, ifs, 0⟩] scope pos) 0 (.ref it) (.ref D) ce) (compPost (model X.prog X.w) X.A X.xe use Qf (.ref D) s3.heap.objs.size) s4 := by
    refine PpSet.compLoopS_any (fun n s' => ∃ i H', Inv (X.blk s3 H3 scope ce fp) [] (wipe σ (own.map (·.2))) H' s' ∧ tn i s'.heap ∧ (∀ b ∈ fp, H' b = none) ∧ W i n H') ?_ m0 ⟨0, H3, I4, st4, nfp, w0⟩
    rintro n s5 ⟨i, H5, I5, st5, n5, w5⟩
    rcases turn i n H5 w5 with ⟨stop, qq⟩ | ⟨go, Nx, hNx, step⟩
    · refine thnF (T.done (X.blk s3 H3 scope ce fp) rfl rfl rfl hc i [] s5 _ H5 (fun _ _ => False) I5 (stat I5 n5) st5 stop) fun r s6 ⟨hr, I6⟩ => ?_
      subst hr
      have I7 : Inv X pins σ H5 s6 := I3.call' (ch := fp) I6.os I6.base I6.hok I6.bare fun b hb => ⟨(f3 b hb).1.2.2.2.1, (f3 b hb).1.2.1, (f3 b hb).1.2.2.2.2.1, (f3 b hb).1.2.2.2.2.2⟩
      have nC : H5 s3.heap.objs.size = none := by
        have z : H5 ce.locals = none := I6.free
        rw [cL] at z
        exact z
      obtain ⟨m, hn, _⟩ := I6.loc
      have hn : s6.heap.Ns ce.locals m := hn
      rw [cL] at hn
      exact hRR D s3.heap.objs.size s6 m H5 I7 qq hn (I3.fpOk (Nat.le_refl _) nC)
    · refine thnF (T.item (X.blk s3 H3 scope ce fp) rfl rfl rfl hc i [] s5 _ H5 (fun _ _ => False) I5 (stat I5 n5) st5 go) fun r s6 ⟨u, hr, h6⟩ => ?_
      subst hr
      refine thnF h6 fun _ s7 ⟨x, H7, I7, r7, y7, st7, n7⟩ => ?_
      have I7' := I7.pinned (stat I7 n7) (T.obj _ _ st7)
      refine thnF (pg.run _ s7 _ H7 x u _ I7' r7 (step x H7 y7)) fun _ s8 ⟨σ8, H8, I8, hw8, q8⟩ => ?_
      refine thnF (pt.run _ s8 σ8 H8 _ I8 q8) fun b s9 ⟨H9, I9, q9⟩ => ?_
      have fin : ∀ {σ9 : L2.St} {s' : Shared} {H' : Hp}, Inv (X.blk s3 H3 scope ce fp) ([] ++ pinsAt fp s7.heap) σ9 H' s' → (wipe σ (own.map (·.2))).length = σ9.length → (∀ (j : Nat) v, (wipe σ (own.map (·.2)))[j]? = some (some v) → σ9[j]? = some (some v)) → Nx H' →
          ∃ m, m < n ∧ ∃ i H', Inv (X.blk s3 H3 scope ce fp) [] (wipe σ (own.map (·.2))) H' s' ∧ tn i s'.heap ∧ (∀ b ∈ fp, H' b = none) ∧ W i m H' := fun {σ9 s' H'} I' hl hk nx => by
        obtain ⟨m', hm, w'⟩ := hNx H' nx
        have pin' : ∀ b ∈ fp, ∀ o, s7.heap.get? b = some o → s'.heap.get? b = some o ∧ H' b = none := fun b hb o e =>
          let z := I'.pin (b, o) (List.mem_append_right _ (List.mem_append_right _ (mem_pinsAt hb e)))
          ⟨z.1, z.2.1⟩
        refine ⟨m', hm, i + 1, H', (I'.unpinned (pins := [])).weak hl hk, T.keep _ _ _ st7 fun b hb o e => (pin' b hb o e).1, fun b hb => ?_, w'⟩
        obtain ⟨o, e, _⟩ := T.obj _ _ st7 b hb
        exact (pin' b hb o e).2
      have hl8 : (wipe σ (own.map (·.2))).length = σ8.length := by rw [← hw8, wipe_length]
      have hk8 : ∀ (j : Nat) v, (wipe σ (own.map (·.2)))[j]? = some (some v) → σ8[j]? = some (some v) := fun j v e => by
        rw [← hw8] at e
        exact (wipe_some e).1
      cases b with
      | false =>
        simp only [Bool.false_eq_true, if_false] at q9 ⊢
        exact fin I9 hl8 hk8 q9
      | true =>
        simp only [if_true] at q9 ⊢
        refine thnF (pe.run _ s9 σ8 H9 _ I9 q9) fun z s10 ⟨yv, H10, I10, r10, c, S0, n0, ey, hD10, hz10, nx⟩ => ?_
        subst ey
        obtain ⟨tk, rfl⟩ : ∃ tk, z = Value.str c tk := r10
        exact addT_ok (X := X.blk s3 H3 scope ce fp) I10 hD10 hz10 fun s11 n' hn' I11 => fin I11 hl8 hk8 (nx n' hn')
  exact PpSet.codeAny_compStart_set loop (T.self X.A 0 _ _ _ st4 loop)
theorem scT2_core {pins : List (Addr × Obj)} {s : Shared} {σ : L2.St} {H : Hp} {Q : VK} {elt tg iter tg1 iter1 : Expr} {ifs ifs1 : List Expr} {scope : Scope} {own : List (PySem.Str × Nat)} {vs1 : List Nat} {pos pos' : Pos} {wi wi1 : TI} {g g1 : TG} {tt tt1 : TT} {te : TE} {use : Option (Value → Sem Unit)} {Qf : Value → Shared → Prop}
    (hc : X.calm = true) (hN : X.N.Nodup) (I : Inv X pins σ H s) (hi : PI X tg iter wi) (ok : BlkOk X.N X.env.scope scope own)
    (hg : Blk X scope fun Z => PG Z tg g) (ht : Blk X scope fun Z => PTs Z ifs tt) (he : Blk X scope fun Z => PE Z elt te) (hs : ∀ x, foldedSetIterable iter X.env x = pure x) (hv : ∀ i ∈ vs1, i ∈ own.map (·.2))
    (hi1 : Blk X scope fun Z => PI Z tg1 iter1 wi1) (hg1 : Blk X scope fun Z => PG Z tg1 g1) (ht1 : Blk X scope fun Z => PTs Z ifs1 tt1) (hs1 : ∀ env x, foldedSetIterable iter1 env x = pure x)
    (h : tScT2 X wi g tt wi1 g1 tt1 te (own.map (·.2)) vs1 σ H Q)
    (hRR : ∀ D C s' m H', Inv X pins σ H' s' → Q (.ref D) H' → s'.heap.Ns C m → FpOk X pins H' C → compPost (model X.prog X.w) X.A X.xe use Qf (.ref D) C (.ok .next) s') :
    wpAny (model X.prog X.w) X.A (comprehension (sc2 elt tg iter tg1 iter1 ifs ifs1 scope pos) scope X.env pos' (newSet (.type "set")) false (eval iter X.env) use) Qf X.xe s := by
  have hfree : ∀ y ∈ scope.names, y.2 = .free → ∃ c, X.env.cells.lookup y.1 = some c := fun y hy e => by
    rcases ok.free y hy e with k | k
    · exact I.ok.has _ (.inl k)
    · exact I.ok.has _ (.inr k)
  refine wpAny_comprehension_free (use := use) rfl hs (closure_ok hfree) ok.kind (fun y hy e => by rw [ok.uniq y hy, e])
    (thn (hi.run pins s σ H _ I h) fun xv s1 hx => thn hx fun itv s2 h2 => ?_)
  obtain ⟨it, fp, tn, J, H2, e, I2, T, st2, f2, q⟩ := h2
  subst e
  refine PpSet.newSet_ok (newEnv_comp ?_)
  generalize hD : s2.heap.objs.size = D
  have hDn : H2 D = none := I2.hok.fresh (Nat.le_of_eq hD)
  obtain ⟨W, ⟨m0, w0⟩, turn⟩ := q D hDn
  generalize hs3 : ({ s2 with heap := s2.heap.push { cls := .type "set", dict := none, data := .set #[] 0 (.fresh 0 0 (!X.w.params.followText "set-order")) } } : Shared) = s3
  have I3 : Inv X pins σ (upd H2 D (mtT X D)) s3 := by
    rw [← hs3]
    refine I2.laid (t' := s2.toks) (fun b o e => Heap.get?_push_of_some _ e) (Nat.le_of_eq hD) ?_
    rw [← hD]
    exact setT_new (SetW.fresh s2.heap)
  have h3 : s3.heap = s2.heap.push { cls := .type "set", dict := none, data := .set #[] 0 (.fresh 0 0 (!X.w.params.followText "set-order")) } := by rw [← hs3]
  have sz : ∀ b ∈ fp, b < s2.heap.objs.size := fun b hb => by
    obtain ⟨o, e, _⟩ := T.obj _ _ st2 b hb
    exact Heap.lt_size e
  have f3 : ∀ b ∈ fp, FpOk X pins (upd H2 D (mtT X D)) b ∧ b < s3.heap.objs.size := fun b hb => by
    have hlt := sz b hb
    refine ⟨⟨?_, (f2 b hb).2⟩, by rw [h3, Heap.size_push]; exact Nat.lt_succ_of_lt hlt⟩
    rw [upd_ne (by rw [← hD]; exact Nat.ne_of_lt hlt)]
    exact (f2 b hb).1
  have st3 : tn 0 s3.heap := T.keep _ _ _ st2 fun b _ o e => by rw [h3]; exact Heap.get?_push_of_some _ e
  have I4 := block_start I3 ok hN f3
  generalize hcl : cellsFrom (s3.heap.objs.size + 1) scope.names (cloFrom X.env.cells scope.names []) = cl at I4 ⊢
  have pg := hg s3 (upd H2 D (mtT X D)) s3.heap.objs.size cl fp
  have pt := ht s3 (upd H2 D (mtT X D)) s3.heap.objs.size cl fp
  have pe := he s3 (upd H2 D (mtT X D)) s3.heap.objs.size cl fp
  have pi1 := hi1 s3 (upd H2 D (mtT X D)) s3.heap.objs.size cl fp
  have pg1 := hg1 s3 (upd H2 D (mtT X D)) s3.heap.objs.size cl fp
  have pt1 := ht1 s3 (upd H2 D (mtT X D)) s3.heap.objs.size cl fp
  show codeAny _ _ (.compStart (sc2 elt tg iter tg1 iter1 ifs ifs1 scope pos) 0 (.ref it) (.ref D) (compEnvC scope cl s3.heap.objs.size X.env)) (compPost (model X.prog X.w) X.A X.xe use Qf (.ref D) s3.heap.objs.size) { s3 with heap := pushCells (s3.heap.push { cls := .type "dict", data := .dict #[] }) scope.names }
  have nfp : ∀ b ∈ fp, (upd H2 D (mtT X D)) b = none := fun b hb => (f3 b hb).1.1
  generalize hce : compEnvC scope cl s3.heap.objs.size X.env = ce at I4 pg pt pe pi1 pg1 pt1 ⊢
  have cL : ce.locals = s3.heap.objs.size := by subst hce; rfl
  generalize hH3 : upd H2 D (mtT X D) = H3 at I3 I4 pg pt pe pi1 pg1 pt1 w0 nfp f3
  generalize hs4 : ({ s3 with heap := pushCells (s3.heap.push { cls := .type "dict", data := .dict #[] }) scope.names } : Shared) = s4 at I4 ⊢
  have st4 : tn 0 s4.heap := T.keep _ _ _ st3 fun b _ o e => by rw [← hs4]; exact pushCells_keeps _ _ _ _ (Heap.get?_push_of_some _ e)
  have stat : ∀ {σ' : L2.St} {H' : Hp} {s' : Shared}, Inv (X.blk s3 H3 scope ce fp) [] σ' H' s' → (∀ b ∈ fp, H' b = none) → ∀ b ∈ fp, FpOk (X.blk s3 H3 scope ce fp) [] H' b := fun {σ' H' s'} I' hn b hb =>
    ⟨hn b hb, (I'.ok.exf b hb).1, I'.ok.exfs b hb, .inl hb, fun x c e => (I'.ok.exf b hb).2 x c e, fun p hp => absurd (show p ∈ ([] : List (Addr × Obj)) ++ [] from hp) (by simp)⟩
  have loop : codeAny (model X.prog X.w) X.A (.compLoop (sc2 elt tg iter tg1 iter1 ifs ifs1 scope pos) 0 (.ref it) (.ref D) ce) (compPost (model X.prog X.w) X.A X.xe use Qf (.ref D) s3.heap.objs.size) s4 := by
    refine sc2_outer (hs1 ce) (fun n s' => ∃ i H', Inv (X.blk s3 H3 scope ce fp) [] (wipe σ (own.map (·.2))) H' s' ∧ tn i s'.heap ∧ (∀ b ∈ fp, H' b = none) ∧ W i n H') ?_ m0 ⟨0, H3, I4, st4, nfp, w0⟩
    rintro n s5 ⟨i, H5, I5, st5, n5, w5⟩
    rcases turn i n H5 w5 with ⟨stop, qq⟩ | ⟨go, Nx, hNx, step⟩
    · refine thnF (T.done (X.blk s3 H3 scope ce fp) rfl rfl rfl hc i [] s5 _ H5 (fun _ _ => False) I5 (stat I5 n5) st5 stop) fun r s6 ⟨hr, I6⟩ => ?_
      subst hr
      have I7 : Inv X pins σ H5 s6 := I3.call' (ch := fp) I6.os I6.base I6.hok I6.bare fun b hb => ⟨(f3 b hb).1.2.2.2.1, (f3 b hb).1.2.1, (f3 b hb).1.2.2.2.2.1, (f3 b hb).1.2.2.2.2.2⟩
      have nC : H5 s3.heap.objs.size = none := by
        have z : H5 ce.locals = none := I6.free
        rw [cL] at z
        exact z
      obtain ⟨m, hn, _⟩ := I6.loc
      have hn : s6.heap.Ns ce.locals m := hn
      rw [cL] at hn
      exact hRR D s3.heap.objs.size s6 m H5 I7 qq hn (I3.fpOk (Nat.le_refl _) nC)
    · refine thnF (T.item (X.blk s3 H3 scope ce fp) rfl rfl rfl hc i [] s5 _ H5 (fun _ _ => False) I5 (stat I5 n5) st5 go) fun r s6 ⟨u, hr, h6⟩ => ?_
      subst hr
      refine thnF h6 fun _ s7 ⟨x, H7, I7, r7, y7, st7, n7⟩ => ?_
      have I7' := I7.pinned (stat I7 n7) (T.obj _ _ st7)
      refine thnF (pg.run _ s7 _ H7 x u _ I7' r7 (step x H7 y7)) fun _ s8 ⟨σ8, H8, I8, hw8, q8⟩ => ?_
      refine thnF (pt.run _ s8 σ8 H8 _ I8 q8) fun b s9 ⟨H9, I9, q9⟩ => ?_
      have fin : ∀ {σ9 : L2.St} {s' : Shared} {H' : Hp}, Inv (X.blk s3 H3 scope ce fp) ([] ++ pinsAt fp s7.heap) σ9 H' s' → (wipe σ (own.map (·.2))).length = σ9.length → (∀ (j : Nat) v, (wipe σ (own.map (·.2)))[j]? = some (some v) → σ9[j]? = some (some v)) → Nx H' →
          ∃ m, m < n ∧ ∃ i H', Inv (X.blk s3 H3 scope ce fp) [] (wipe σ (own.map (·.2))) H' s' ∧ tn i s'.heap ∧ (∀ b ∈ fp, H' b = none) ∧ W i m H' := fun {σ9 s' H'} I' hl hk nx => by
        obtain ⟨m', hm, w'⟩ := hNx H' nx
        have pin' : ∀ b ∈ fp, ∀ o, s7.heap.get? b = some o → s'.heap.get? b = some o ∧ H' b = none := fun b hb o e =>
          let z := I'.pin (b, o) (List.mem_append_right _ (List.mem_append_right _ (mem_pinsAt hb e)))
          ⟨z.1, z.2.1⟩
        refine ⟨m', hm, i + 1, H', (I'.unpinned (pins := [])).weak hl hk, T.keep _ _ _ st7 fun b hb o e => (pin' b hb o e).1, fun b hb => ?_, w'⟩
        obtain ⟨o, e, _⟩ := T.obj _ _ st7 b hb
        exact (pin' b hb o e).2
      have hl8 : (wipe σ (own.map (·.2))).length = σ8.length := by rw [← hw8, wipe_length]
      have hk8 : ∀ (j : Nat) v, (wipe σ (own.map (·.2)))[j]? = some (some v) → σ8[j]? = some (some v) := fun j v e => by
        rw [← hw8] at e
        exact (wipe_some e).1
      cases b with
      | false =>
        simp only [Bool.false_eq_true, if_false] at q9 ⊢
        exact fin I9 hl8 hk8 q9
      | true =>
        simp only [if_true] at q9 ⊢
        have hk9 : ∀ (j : Nat) v, (wipe σ (own.map (·.2)))[j]? = some (some v) → (wipe σ8 vs1)[j]? = some (some v) := fun j v e => by
          rw [← hw8] at e
          obtain ⟨e1, e2⟩ := wipe_some e
          rw [wipe_out fun z => e2 (hv j z)]
          exact e1
        refine thnF (pi1.run _ s9 σ8 H9 _ I9 q9) fun xv s10 hx => thnF hx fun itv s11 h11 => ?_
        obtain ⟨it1, fp1, tn1, J1, H11, e1, I11, T1, st11, f11, W1, ⟨m1, w1⟩, turn1⟩ := h11
        subst e1
        have stat1 : ∀ {H' : Hp}, (∀ b ∈ fp1, H' b = none) → ∀ b ∈ fp1, FpOk (X.blk s3 H3 scope ce fp) ([] ++ pinsAt fp s7.heap) H' b := fun hn b hb => ⟨hn b hb, (f11 b hb).2⟩
        have loop1 : codeAny (model X.prog X.w) X.A (.compLoop (sc2 elt tg iter tg1 iter1 ifs ifs1 scope pos) 1 (.ref it1) (.ref D) ce)
            (fun r s' => match r with
              | .ok _ => ∃ m, m < n ∧ ∃ i H', Inv (X.blk s3 H3 scope ce fp) [] (wipe σ (own.map (·.2))) H' s' ∧ tn i s'.heap ∧ (∀ b ∈ fp, H' b = none) ∧ W i m H'
              | .error _ => False) s11 := by
          refine sc2_inner (fun k s' => ∃ j H', Inv (X.blk s3 H3 scope ce fp) ([] ++ pinsAt fp s7.heap) (wipe σ8 vs1) H' s' ∧ tn1 j s'.heap ∧ (∀ b ∈ fp1, H' b = none) ∧ W1 j k H') ?_ m1 ⟨0, H11, I11.weak (wipe_length _ _) (fun j v e => (wipe_some e).1), st11, fun b hb => (f11 b hb).1, w1⟩
          rintro k s12 ⟨j, H12, I12, st12, n12, w12⟩
          rcases turn1 j k H12 w12 with ⟨stop1, nx1⟩ | ⟨go1, Nx1, hNx1, step1⟩
          · refine thnF (T1.done (X.blk s3 H3 scope ce fp) rfl rfl rfl hc j _ s12 (wipe σ8 vs1) H12 (fun _ _ => False) I12 (stat1 n12) st12 stop1) fun r s13 ⟨hr, I13⟩ => ?_
            subst hr
            exact fin I13 (hl8.trans (wipe_length σ8 vs1).symm) hk9 nx1
          · refine thnF (T1.item (X.blk s3 H3 scope ce fp) rfl rfl rfl hc j _ s12 (wipe σ8 vs1) H12 (fun _ _ => False) I12 (stat1 n12) st12 go1) fun r s13 ⟨u1, hr, h13⟩ => ?_
            subst hr
            refine thnF h13 fun _ s14 ⟨x1, H14, I14, r14, y14, st14, n14⟩ => ?_
            have I14' := I14.pinned (stat1 n14) (T1.obj _ _ st14)
            refine thnF (pg1.run _ s14 (wipe σ8 vs1) H14 x1 u1 _ I14' r14 (step1 x1 H14 y14)) fun _ s15 ⟨σ15, H15, I15, hw15, q15⟩ => ?_
            refine thnF (pt1.run _ s15 σ15 H15 _ I15 q15) fun b1 s16 ⟨H16, I16, q16⟩ => ?_
            have fin1 : ∀ {s' : Shared} {H' : Hp}, Inv (X.blk s3 H3 scope ce fp) (([] ++ pinsAt fp s7.heap) ++ pinsAt fp1 s14.heap) σ15 H' s' → Nx1 H' → ∃ m, m < k ∧ ∃ j H', Inv (X.blk s3 H3 scope ce fp) ([] ++ pinsAt fp s7.heap) (wipe σ8 vs1) H' s' ∧ tn1 j s'.heap ∧ (∀ b ∈ fp1, H' b = none) ∧ W1 j m H' := fun {s' H'} I' nx => by
              obtain ⟨m', hm, w'⟩ := hNx1 H' nx
              have pin' : ∀ b ∈ fp1, ∀ o, s14.heap.get? b = some o → s'.heap.get? b = some o ∧ H' b = none := fun b hb o e =>
                let z := I'.pin (b, o) (List.mem_append_right _ (List.mem_append_right _ (mem_pinsAt hb e)))
                ⟨z.1, z.2.1⟩
              refine ⟨m', hm, j + 1, H', I'.unpinned.weak (by rw [← hw15, wipe_length]) (fun j v e => by rw [← hw15] at e; exact (wipe_some e).1), T1.keep _ _ _ st14 fun b hb o e => (pin' b hb o e).1, fun b hb => ?_, w'⟩
              obtain ⟨o, e, _⟩ := T1.obj _ _ st14 b hb
              exact (pin' b hb o e).2
            cases b1 with
            | false =>
              simp only [Bool.false_eq_true, if_false] at q16 ⊢
              exact fin1 I16 q16
            | true =>
              simp only [if_true] at q16 ⊢
              refine thnF (pe.run _ s16 σ15 H16 _ I16 q16) fun z s17 ⟨yv, H17, I17, r17, c, S0, n0, ey, hD17, hz17, nx⟩ => ?_
              subst ey
              obtain ⟨tk, rfl⟩ : ∃ tk, z = Value.str c tk := r17
              exact addT_ok (X := X.blk s3 H3 scope ce fp) I17 hD17 hz17 fun s18 n' hn' I18 => fin1 I18 (nx n' hn')
        exact sc2_start loop1 (T1.self X.A 0 _ _ _ st11 loop1)
  exact PpSet.codeAny_compStart_set loop (T.self X.A 0 _ _ _ st4 loop)
theorem pe_scT {elt tg iter : Expr} {ifs : List Expr} {scope : Scope} {own : List (PySem.Str × Nat)} {pos : Pos} {wi : TI} {g : TG} {tt : TT} {te : TE} (hc : X.calm = true) (hN : X.N.Nodup) (hi : PI X tg iter wi) (ok : BlkOk X.N X.env.scope scope own)
    (hg : Blk X scope fun Z => PG Z tg g) (ht : Blk X scope fun Z => PTs Z ifs tt) (he : Blk X scope fun Z => PE Z elt te) (hs : ∀ x, foldedSetIterable iter X.env x = pure x := by intro _; rfl) :
    PE X (.SetComp elt [⟨tg, iter, ifs, 0⟩] scope pos) (tScT X wi g tt te (own.map (·.2))) := by
  refine ⟨fun pins s σ H Q I h => ?_⟩
  rw [PpSet.eval_SetComp]
  refine scT_core hc hN I hi ok hg ht he hs h fun D C s' m H' I' q hn f => ⟨m, hn, fun h'' sb => ?_⟩
  obtain ⟨f0, f1, f2, f3, f4, f5⟩ := f
  exact ⟨.ref D, H', I'.turned (t' := s'.toks) (fun b o hb e => (sb.2 b hb).trans e) f0 f1 f3 f4 f5, rfl, q⟩
theorem pe_scT2 {elt tg iter tg1 iter1 : Expr} {ifs ifs1 : List Expr} {scope : Scope} {own : List (PySem.Str × Nat)} {vs1 : List Nat} {pos : Pos} {wi wi1 : TI} {g g1 : TG} {tt tt1 : TT} {te : TE} (hc : X.calm = true) (hN : X.N.Nodup) (hi : PI X tg iter wi) (ok : BlkOk X.N X.env.scope scope own)
    (hv : ∀ i ∈ vs1, i ∈ own.map (·.2)) (hg : Blk X scope fun Z => PG Z tg g) (ht : Blk X scope fun Z => PTs Z ifs tt) (hi1 : Blk X scope fun Z => PI Z tg1 iter1 wi1) (hg1 : Blk X scope fun Z => PG Z tg1 g1) (ht1 : Blk X scope fun Z => PTs Z ifs1 tt1)
    (he : Blk X scope fun Z => PE Z elt te) (hs : ∀ x, foldedSetIterable iter X.env x = pure x := by intro _; rfl) (hs1 : ∀ env x, foldedSetIterable iter1 env x = pure x := by intro _ _; rfl) :
    PE X (.SetComp elt [⟨tg, iter, ifs, 0⟩, ⟨tg1, iter1, ifs1, 0⟩] scope pos) (tScT2 X wi g tt wi1 g1 tt1 te (own.map (·.2)) vs1) := by
  refine ⟨fun pins s σ H Q I h => ?_⟩
  rw [PpSet.eval_SetComp]
  refine scT2_core hc hN I hi ok hg ht he hs hv hi1 hg1 ht1 hs1 h fun D C s' m H' I' q hn f => ⟨m, hn, fun h'' sb => ?_⟩
  obtain ⟨f0, f1, f2, f3, f4, f5⟩ := f
  exact ⟨.ref D, H', I'.turned (t' := s'.toks) (fun b o hb e => (sb.2 b hb).trans e) f0 f1 f3 f4 f5, rfl, q⟩
end
end FB
set_option Elab.async false
set_option linter.all false
set_option maxRecDepth 100000
set_option maxHeartbeats 4000000
/-! An own rule: sorted of a list of pairs (int, text). -/
namespace FB
open PySem PySem.Spec PyProof.Rows PyProof.Rows.G L2
/-- some arrangement of the list -/
def rSortPr (K : PySem.W.Frag) : List V → Hp → VK → Prop := fun vs H Q => ∃ a xs, vs = [V.ref a] ∧ SqL K H a xs ∧ (∀ x ∈ xs, ∃ t i z, x = V.ref t ∧ H t = some (.tup [.int i, .str z])) ∧
  ∀ ys p, ys.Perm xs → H p = none → Q (.ref p) (upd H p (.lst ys))
theorem tupsAll {h : Heap} : ∀ {vs : List Value}, (∀ v ∈ vs, ∃ a o xs n i t x u, v = Value.ref a ∧ h.get? a = some o ∧ o.cls = .type "tuple" ∧ o.data = .seq xs n ∧ xs.toList = [Value.int i t, Value.str x u]) → ∃ fs, TupsOf h G.sh1 vs fs
  | [], _ => ⟨[], .nil⟩
  | v :: vs, H => by
    obtain ⟨fs, q⟩ := tupsAll (vs := vs) fun u hu => H u (List.mem_cons_of_mem _ hu)
    obtain ⟨a, o, xs, n, i, t, x, u, rfl, ho, hc, hd, hx⟩ := H v List.mem_cons_self
    refine ⟨Value.int i t :: fs, .cons ⟨a, o, xs, n, rfl, ho, hc, hd, ?_, fun _ => ⟨i, t, rfl⟩, fun z => absurd z (by decide)⟩ q⟩
    rw [← Array.getElem?_toList, hx]
    rfl
variable {X : Cx}
theorem cr_sortPr : CallR X (.builtin "sorted") (rSortPr X.K) := by
  intro pins s σ H vs us Q I r h
  obtain ⟨a, xs, rfl, hs, hx, q⟩ := h
  obtain ⟨its, rv, hl, hz⟩ := I.list hs
  obtain ⟨u, rfl, ru⟩ := vals1 r
  obtain rfl : u = Value.ref a := ru
  obtain ⟨e1, e2⟩ := refs_back rv fun x m => by
    obtain ⟨t, _, _, e, _⟩ := hx x m
    exact ⟨t, e⟩
  have shape : ∀ v ∈ its, ∃ a o xs n i t x u, v = Value.ref a ∧ s.heap.get? a = some o ∧ o.cls = .type "tuple" ∧ o.data = .seq xs n ∧ xs.toList = [Value.int i t, Value.str x u] := fun v hv => by
    obtain ⟨t, rfl⟩ := e2 v hv
    have hm : V.ref t ∈ xs := by rw [e1]; exact List.mem_map.mpr ⟨_, hv, rfl⟩
    obtain ⟨t', i, z, e, ht⟩ := hx _ hm
    cases e
    obtain ⟨_, its2, r2, o, ho, hc, n, hd⟩ := I.hok _ _ ht
    obtain ⟨u1, u2, rfl, ri, rj⟩ := vals2 r2
    obtain ⟨t1, rfl⟩ := ri
    obtain ⟨t2, rfl⟩ := rj
    exact ⟨t, o, _, n, i, t1, z, t2, rfl, ho, hc, hd, rfl⟩
  obtain ⟨fs, hT⟩ := tupsAll shape
  refine G.sorted_tups hl.isList hT (fun v hv => ?_) (by rw [← rv.length]; exact hz) fun st' hp _ _ => ?_
  · obtain ⟨a, o, xs, n, i, t, x, u, rfl, ho, hc, hd, hx⟩ := shape v hv
    refine ⟨[Sum.inl i, Sum.inr x.cps.toList], G.tupKeyC_of ho hc hd ?_⟩
    rw [hx]
    exact G.two_items (t := t) (u := u) rfl
  · have hl2 : (arrOf st').toList.Perm (its.zip its) := by rw [← pairsOf_toList]; exact Array.perm_iff_toList_perm.mp hp
    have hout : ((arrOf st').map (·.2)).toList.Perm its := by
      rw [Array.toList_map]
      have z := hl2.map (·.2)
      rw [List.map_snd_zip (Nat.le_refl _)] at z
      exact z
    obtain ⟨c, hc⟩ := sortedAll_at s.heap its ((arrOf st').map (·.2))
    generalize (arrOf st').map (·.2) = out at hout hc ⊢
    have h3 : ∀ u ∈ out.toList, ∃ a, u = Value.ref a := fun u hu => e2 u (hout.mem_iff.mp hu)
    refine ⟨.ref _, upd H (s.heap.objs.size + 1) (.lst (out.toList.map backV)), I.laid (t' := s.toks) (fun _ _ => sortedAll_old) (Nat.le_succ _) ⟨?_, out.toList, c, vals_back h3, hc⟩, rfl, q _ _ ?_ (I.hok.fresh (Nat.le_succ _))⟩
    · rw [List.length_map, hout.length_eq, ← rv.length]
      exact hz
    · rw [e1]
      exact hout.map backV
end FB
set_option Elab.async false
set_option linter.all false
set_option maxRecDepth 100000
set_option maxHeartbeats 4000000
/-! What the top has left, by names (printed by wip/gen.py's genbase). -/
namespace FB
open PySem PySem.Spec PyProof.Rows L2
open C8 (Cal Mak)
structure Tx (K : PySem.W.Frag) (mg : Str → Option Value) : Prop where
  ex : ∃ h : Heap, K.In h ∧ h.Ns mainGlobals mg
  says : He.SaysD fa fn K
section
variable {K : PySem.W.Frag} {mg : Str → Option Value}
theorem Tx.freeOf (T : Tx K mg) (i : Nat) {x : Str} (h : fa[i]? = some (.free x)) : mg x = none := by
  obtain ⟨_, X, G⟩ := T.ex
  exact He.free_ok X G (T.says.fact i h)
theorem Tx.gloOf (T : Tx K mg) (i : Nat) {x : Str} (h : fa[i]? = some (.glo x)) : mg x = some (.ref (He.ga K x)) := by
  obtain ⟨_, X, G⟩ := T.ex
  exact He.glo_ok X G (T.says.fact i h)
theorem Tx.f_isinstance (T : Tx K mg) : mg "isinstance" = none := T.freeOf 40 rfl
theorem Tx.f_int (T : Tx K mg) : mg "int" = none := T.freeOf 41 rfl
theorem Tx.f_bool (T : Tx K mg) : mg "bool" = none := T.freeOf 42 rfl
theorem Tx.f_str (T : Tx K mg) : mg "str" = none := T.freeOf 43 rfl
theorem Tx.f_len (T : Tx K mg) : mg "len" = none := T.freeOf 44 rfl
theorem Tx.f_all (T : Tx K mg) : mg "all" = none := T.freeOf 45 rfl
theorem Tx.f_tuple (T : Tx K mg) : mg "tuple" = none := T.freeOf 46 rfl
theorem Tx.f_list (T : Tx K mg) : mg "list" = none := T.freeOf 47 rfl
theorem Tx.f_sorted (T : Tx K mg) : mg "sorted" = none := T.freeOf 48 rfl
theorem Tx.f_enumerate (T : Tx K mg) : mg "enumerate" = none := T.freeOf 49 rfl
theorem Tx.f_range (T : Tx K mg) : mg "range" = none := T.freeOf 50 rfl
theorem Tx.f_min (T : Tx K mg) : mg "min" = none := T.freeOf 51 rfl
def abc : Str := "abcdefghijklmnopqrstuvwxyz"
theorem Tx.gLETTERS (T : Tx K mg) : ∃ u, mg "LETTERS" = some u ∧ RelV (.str abc) u := by
  obtain ⟨_, X, G⟩ := T.ex
  obtain ⟨t, e⟩ := He.str_ok X G (T.says.fact (f := .str "LETTERS" "abcdefghijklmnopqrstuvwxyz") 52 rfl)
  exact ⟨_, e, t, rfl⟩
theorem Tx.gMOST_LETTERS (T : Tx K mg) : ∃ u, mg "MOST_LETTERS" = some u ∧ RelV (.int 8) u := by
  obtain ⟨_, X, G⟩ := T.ex
  obtain ⟨t, e⟩ := He.int_ok X G (T.says.fact (f := .int "MOST_LETTERS" 8) 53 rfl)
  exact ⟨_, e, t, rfl⟩
theorem Tx.gMOST_STEPS (T : Tx K mg) : ∃ u, mg "MOST_STEPS" = some u ∧ RelV (.int 40) u := by
  obtain ⟨_, X, G⟩ := T.ex
  obtain ⟨t, e⟩ := He.int_ok X G (T.says.fact (f := .int "MOST_STEPS" 40) 54 rfl)
  exact ⟨_, e, t, rfl⟩
theorem Tx.gMOST_NAMES (T : Tx K mg) : ∃ u, mg "MOST_NAMES" = some u ∧ RelV (.int 12) u := by
  obtain ⟨_, X, G⟩ := T.ex
  obtain ⟨t, e⟩ := He.int_ok X G (T.says.fact (f := .int "MOST_NAMES" 12) 55 rfl)
  exact ⟨_, e, t, rfl⟩
/-- the class Program -/
abbrev CP (K : PySem.W.Frag) : Addr := He.ga K "Program"
theorem Tx.mgP (T : Tx K mg) : mg "Program" = some (.ref (CP K)) := T.gloOf 56 rfl
theorem Tx.cls (T : Tx K mg) : Cls K (CP K) := He.cls_ok (T.says.fact (f := .cls "Program") 57 rfl)
theorem Tx.nS (T : Tx K mg) : NoAttr K (CP K) "steps" := He.noat_ok (T.says.fact (f := .noat "Program" "steps") 58 rfl)
theorem Tx.nK (T : Tx K mg) : NoAttr K (CP K) "kept_steps" := He.noat_ok (T.says.fact (f := .noat "Program" "kept_steps") 59 rfl)
theorem Tx.nF (T : Tx K mg) : NoAttr K (CP K) "kept_facts" := He.noat_ok (T.says.fact (f := .noat "Program" "kept_facts") 60 rfl)
theorem Tx.mkP (T : Tx K mg) : Mk K (CP K) (He.ma K (CP K) "__init__") := He.mkr_ok (T.says.fact (f := .mkr "Program") 61 rfl)
section
variable {P : Program} {w : World} {base : Heap}
/-- how the arguments of a def without defaults bind -/
abbrev BindsOf (x : Str) (qual : Str) (st : Stmt) (ps : List Str) : Prop := ∀ (kV doc pm : Value) (an : Option Addr) (cdv ct : Value) (us : List Value), us.length = ps.length →
  bindArgs (PySem.W.fnOf x qual (defArgs st) (defBody st) (defScope st) .none kV doc pm an cdv ct) ⟨us, []⟩ = pure (ps.zip us)
/-- the promise of a def, by its body -/
theorem calOf (T : Tx K mg) (i : Nat) {x : Str} {st : Stmt} {N ps : List Str} {k : Nat} {sp : Sp} (hd : fn[i]? = some (datum x st)) (hg : fa[i]? = some (.glo x)) (S : FnScope N ps (defScope st)) (hb : BindsOf x x st ps)
    (len : ∀ vs H Q E, sp vs H Q E → vs.length = ps.length)
    (hbody : ∀ (cdv : Value) (A : Around) (outer : List Env) (s : Shared) (H : Hp) (vs : List V) (Q : VK) (E : XK), Room k (A.deeper (envOfC x (defScope st) s.heap.objs.size (He.ga K x) cdv)) → sp vs H Q E →
      ∃ t, PSs (cxOf C8.CX0 P w K mg base N x (defScope st) (He.ga K x) cdv A outer s H E).nox (defBody st) t ∧ t { nx := fun _ H' => Q .non H', rt := Q } (start N vs) H) : Cal P w K mg base (k + 1) x sp [] := by
  obtain ⟨fd, F⟩ := T.says.def_ i hd
  have F : FunD K x x (defArgs st) (defBody st) (defScope st) [] [] (He.ga K x) fd := F
  refine ⟨_, fd, ps, [], F.ok S len fun cdv A outer s H vs Q E hr h => ?_, T.gloOf i hg, F.kp, F.bindsN hb, .nil⟩
  obtain ⟨t, h1, h2⟩ := hbody cdv A outer s H vs Q E hr h
  exact ⟨t, h1.nox, h2⟩
/-- __init__ -/
theorem makOf (T : Tx K mg) {N : List Str} {k : Nat} {sp : Sp} (S : FnScope N ["self", "steps"] (defScope s_init)) (len : ∀ vs H Q E, sp vs H Q E → vs.length = 2)
    (hbody : ∀ (cdv : Value) (A : Around) (outer : List Env) (s : Shared) (H : Hp) (vs : List V) (Q : VK) (E : XK), Room k (A.deeper (envOfC "Program.__init__" (defScope s_init) s.heap.objs.size (He.ma K (CP K) "__init__") cdv)) → sp vs H Q E →
      ∃ t, PSs (cxOf C8.CX0 P w K mg base N "Program.__init__" (defScope s_init) (He.ma K (CP K) "__init__") cdv A outer s H E).nox (defBody s_init) t ∧ t { nx := fun _ H' => Q .non H', rt := Q } (start N vs) H) :
    Mak P w K mg base (k + 1) "Program" (CP K) sp [] := by
  obtain ⟨fd, F⟩ := T.says.def_ (d := dInit) 40 rfl
  have F : FunD K "__init__" "Program.__init__" (defArgs s_init) (defBody s_init) (defScope s_init) [] [] (He.ma K (CP K) "__init__") fd := F
  refine ⟨_, fd, ["self", "steps"], [], T.mkP, F.ok S len fun cdv A outer s H vs Q E hr h => ?_, T.mgP, F.bindsN (fun _ _ _ _ _ _ us hl => match us, hl with | [_, _], _ => rfl), .nil⟩
  obtain ⟨t, h1, h2⟩ := hbody cdv A outer s H vs Q E hr h
  exact ⟨t, h1.nox, h2⟩
end
end
end FB
set_option Elab.async false
set_option linter.all false
set_option maxRecDepth 100000
set_option maxHeartbeats 4000000
/-! Rules with the written part K by name: they fit within the block of a comprehension. -/
namespace FB
open PySem PySem.Spec PyProof.Rows L2
open C8 (Cal Mak pe_c pe_mk pe_gc)
def rTupS (K : PySem.W.Frag) : List V → Hp → VK → Prop := fun xs H Q => ∃ p ys, xs = [.ref p] ∧ ((SqL K H p ys ∧ ∀ l, H l = none → Q (.ref l) (upd H l (.tup ys))) ∨ (SqT K H p ys ∧ Q (.ref p) H))
def rMin2 : List V → Hp → VK → Prop := fun xs H Q => ∃ i j, xs = [.int i, .int j] ∧ Q (.int (if j < i then j else i)) H
def rInt1 : List V → Hp → VK → Prop := fun xs H Q => (∃ i, xs = [.int i] ∧ Q (.int i) H) ∨ ∃ k, xs = [.bl k] ∧ Q (.int (if k then 1 else 0)) H
def rLenTx : List V → Hp → VK → Prop := fun xs H Q => ∃ z, xs = [.str z] ∧ z.length ≤ sizeLine ∧ Q (.int z.length) H
def rInSg : R2 := fun x y H Q => ∃ (c : Nat) (z : Str), x = .str ⟨#[c]⟩ ∧ y = .str z ∧ Q (.bl (decide (c ∈ z.cps.toList))) H
def rAddTx : R2 := fun x y H Q => ∃ i j, x = .str i ∧ y = .str j ∧ i.length + j.length ≤ sizeLine ∧ Q (.str (i ++ j)) H
section
variable {X : Cx} {K : PySem.W.Frag}
theorem xc_tup (hK : X.K = K := by rfl) : CallR X (.type "tuple") (rTupS K) := by
  subst hK
  exact call_tuple_of
theorem xc_list (hK : X.K = K := by rfl) : CallR X (.type "list") (Evl.rListS K) := by
  subst hK
  exact call_list_of
theorem xc_len (hK : X.K = K := by rfl) : CallR X (.builtin "len") (Evl.rLenS K) := by
  subst hK
  exact call_len_seq
theorem xc_lenT : CallR X (.builtin "len") rLenTx := call_len_str
theorem xc_int : CallR X (.type "int") rInt1 := call_int1
theorem xc_min (hc : X.calm = true) : CallR X (.builtin "min") rMin2 := call_min2 hc
theorem xc_all (hc : X.calm = true) (hK : X.K = K := by rfl) : CallR X (.builtin "all") (rAll K) := by
  subst hK
  exact cr_all hc
theorem xc_isi (hK : X.K = K := by rfl) : CallR X (.builtin "isinstance") (rIsi K) := by
  subst hK
  exact call_isi
theorem xc_sortS (hK : X.K = K := by rfl) : CallR X (.builtin "sorted") (rSortedS K) := by
  subst hK
  exact cr_sortedS
theorem xc_sortI (hK : X.K = K := by rfl) : CallR X (.builtin "sorted") (rSorted K) := by
  subst hK
  exact cr_sorted
theorem xc_sortP (hK : X.K = K := by rfl) : CallR X (.builtin "sorted") (rSortPr K) := by
  subst hK
  exact cr_sortPr
theorem xi_list (hK : X.K = K := by rfl) : IxR X (rIxL K) := by
  subst hK
  exact ix_list
theorem xi_tup (hK : X.K = K := by rfl) : IxR X (rIxT K) := by
  subst hK
  exact ix_tup
theorem xs_list (hK : X.K = K := by rfl) : SlR X (rSlL K) := by
  subst hK
  exact sl_list
theorem xo_in (hK : X.K = K := by rfl) : OpR X (compareOp .In) (rIn K false) := by
  subst hK
  exact op_in_seq
theorem xo_notIn (hK : X.K = K := by rfl) : OpR X (compareOp .NotIn) (rIn K true) := by
  subst hK
  exact op_notIn_seq
theorem xo_catA (hK : X.K = K := by rfl) : OpR X (binaryOp .Add) (rCatA K) := by
  subst hK
  exact op_catA
theorem xo_inSg : OpR X (compareOp .In) rInSg := op_in_sign
theorem xo_addTx : OpR X (binaryOp .Add) rAddTx := op_add_str
theorem xo_inD (hu : X.A.units + 65 < cLine) (hK : X.K = K := by rfl) : OpR X (compareOp .In) (rInD K) := by
  subst hK
  exact op_inD hu
variable {e : Expr} {f : Str} {pos : Pos} {ta : TE}
theorem x_fld (he : PE X e ta) (hK : X.K = K := by rfl) (hb : attributeBase e f X.env (eval e X.env) = eval e X.env := by rfl) : PE X (.Attribute e f pos) (tFld K ta f) := by
  subst hK
  exact pe_fld he hb
variable {tg l : Expr}
theorem x_list (he : PE X l ta) (hK : X.K = K := by rfl) : PI X tg l (iList K ta) := by
  subst hK
  exact pi_list he
theorem x_tup (he : PE X l ta) (hK : X.K = K := by rfl) : PI X tg l (iTup K ta) := by
  subst hK
  exact pi_tup he
end
end FB
set_option Elab.async false
set_option linter.all false
set_option maxRecDepth 100000
set_option maxHeartbeats 4000000
/-! Readings by what they evaluate to, with a result told by a predicate (EP). -/
namespace FB
open PySem PySem.Spec PyProof.Rows L2 Evl
abbrev Sg := L2.St
def EP (te : TE) (σ : Sg) (H : Hp) (P : V → Hp → Prop) : Prop := ∀ H1, Ex H H1 → ∀ Q : VK, (∀ v H2, Ex H1 H2 → P v H2 → Q v H2) → te σ H1 Q
def SpP (sp : Sp) (vs : List V) (H : Hp) (P : V → Hp → Prop) : Prop := ∀ H1, Ex H H1 → ∀ Q : VK, (∀ v H2, Ex H1 H2 → P v H2 → Q v H2) → ∀ E : XK, sp vs H1 Q E
section
variable {K : PySem.W.Frag} {σ : Sg} {H H' : Hp} {ta tb te tx : TE} {t u : TT} {x y z v : V} {r : R2} {P P' : V → Hp → Prop} {D : Ends} {tu tw tz : TS} {g : TG}
theorem EP.mono (e : Ex H H') (h : EP te σ H P) : EP te σ H' P := fun H1 a Q q => h H1 (e.trans a) Q q
theorem EP.imp (h : EP te σ H P) (k : ∀ v H1, Ex H H1 → P v H1 → P' v H1) : EP te σ H P' := fun H1 e Q q => h H1 e Q fun v H2 e2 p => q v H2 e2 (k v H2 (e.trans e2) p)
theorem ep_of (h : Ev te σ H v) : EP te σ H fun x _ => x = v := fun H1 e Q q => h H1 e Q fun H2 e2 => q v H2 e2 rfl
theorem ep_L {xs : List V} (h : EvL te σ H xs) : EP te σ H fun x H1 => ∃ p, x = .ref p ∧ H1 p = some (.lst xs) := fun H1 e Q q => h H1 e Q fun p H2 _ e2 hp => q _ H2 e2 ⟨p, rfl, hp⟩
theorem ep_U {xs : List V} (h : EvU te σ H xs) : EP te σ H fun x H1 => ∃ p, x = .ref p ∧ H1 p = some (.tup xs) := fun H1 e Q q => h H1 e Q fun p H2 _ e2 hp => q _ H2 e2 ⟨p, rfl, hp⟩
theorem ep_call {sp : Sp} {dvs vs : List V} {E : XK} {ta : TA} (h : EvA ta σ H vs) (hs : SpP sp (vs ++ dvs) H P) : EP (tCall sp dvs E ta) σ H P := fun H1 e Q q =>
  h H1 e _ fun H2 e2 => hs H2 (e.trans e2) Q (fun v H3 e3 => q v H3 (e2.trans e3)) E
/-- a call or a built-in of one argument told by a predicate -/
theorem ep_cb1 {r : List V → Hp → VK → Prop} (h : EP te σ H P) (hr : ∀ v H1, Ex H H1 → P v H1 → ∀ Q : VK, (∀ z H2, Ex H1 H2 → P' z H2 → Q z H2) → r [v] H1 Q) : EP (tCB r (tCons te tNil)) σ H P' := fun H1 e Q q =>
  h H1 e _ fun v H2 e2 p => hr v H2 (e.trans e2) p Q fun z H3 e3 => q z H3 (e2.trans e3)
theorem ev_cb1 {r : List V → Hp → VK → Prop} (h : EP te σ H P) (hr : ∀ v H1, Ex H H1 → P v H1 → ∀ Q : VK, (∀ H2, Ex H1 H2 → Q z H2) → r [v] H1 Q) : Ev (tCB r (tCons te tNil)) σ H z := fun H1 e Q q =>
  h H1 e _ fun v H2 e2 p => hr v H2 (e.trans e2) p Q fun H3 e3 => q H3 (e2.trans e3)
theorem el_cb1 {r : List V → Hp → VK → Prop} {xs : List V} (h : EP te σ H P) (hr : ∀ v H1, Ex H H1 → P v H1 → ∀ Q : VK, (∀ p H2, H1 p = none → Ex H1 H2 → H2 p = some (.lst xs) → Q (.ref p) H2) → r [v] H1 Q) : EvL (tCB r (tCons te tNil)) σ H xs := fun H1 e Q q =>
  h H1 e _ fun v H2 e2 p => hr v H2 (e.trans e2) p Q fun p H3 hp e3 h3 => q p H3 (fresh_back e2 hp) (e2.trans e3) h3
theorem eu_cb1 {r : List V → Hp → VK → Prop} {xs : List V} (h : EP te σ H P) (hr : ∀ v H1, Ex H H1 → P v H1 → ∀ Q : VK, (∀ p H2, H1 p = none → Ex H1 H2 → H2 p = some (.tup xs) → Q (.ref p) H2) → r [v] H1 Q) : EvU (tCB r (tCons te tNil)) σ H xs := fun H1 e Q q =>
  h H1 e _ fun v H2 e2 p => hr v H2 (e.trans e2) p Q fun p H3 hp e3 h3 => q p H3 (fresh_back e2 hp) (e2.trans e3) h3
/-- list(e), tuple(e) of what is a list or a tuple of xs -/
theorem el_listP {xs : List V} (h : EP te σ H P) (hp : ∀ v H1, Ex H H1 → P v H1 → ∃ p, v = .ref p ∧ (SqL K H1 p xs ∨ SqT K H1 p xs)) : EvL (tCB (rListS K) (tCons te tNil)) σ H xs :=
  el_cb1 h fun v H1 e p Q q => by
    obtain ⟨a, rfl, hs⟩ := hp v H1 e p
    exact ⟨a, xs, rfl, hs, fun l hl => q l _ hl (Ex.new hl) upd_same⟩
theorem eu_tupL {xs : List V} (h : EvL te σ H xs) : EvU (tCB (rTupS K) (tCons te tNil)) σ H xs :=
  eu_cb1 (ep_L h) fun v H1 e p Q q => by
    obtain ⟨a, rfl, hs⟩ := p
    exact ⟨a, xs, rfl, .inl ⟨sq_of hs, fun l hl => q l _ hl (Ex.new hl) upd_same⟩⟩
theorem ev_all {bs : List Bool} (h : EvL te σ H (bs.map V.bl)) : Ev (tCB (rAll K) (tCons te tNil)) σ H (.bl (bs.all id)) :=
  ev_cb1 (ep_L h) fun v H1 e p Q q => by
    obtain ⟨a, rfl, hs⟩ := p
    exact ⟨a, bs, rfl, sq_of hs, q H1 (Ex.refl H1)⟩
theorem ev_lenE {a : Addr} {xs : List V} (ha : Ev ta σ H (.ref a)) (h : SqL K H a xs ∨ SqT K H a xs) : Ev (tCB (rLenS K) (tCons ta tNil)) σ H (.int (xs.length : Int)) := fun H1 e Q q =>
  ha H1 e _ fun H2 e2 => ⟨a, xs, rfl, h.imp (ex_l (e.trans e2)) (ex_t (e.trans e2)), q H2 e2⟩
theorem ev_lenTx {w : Str} (ha : Ev ta σ H (.str w)) (h : w.length ≤ 100000) : Ev (tCB rLenTx (tCons ta tNil)) σ H (.int (w.length : Int)) := fun H1 e Q q =>
  ha H1 e _ fun H2 e2 => ⟨w, rfl, sz_of h, q H2 e2⟩
/-- x in what is a tuple or a list of flat things -/
theorem ev_inP {neg : Bool} {xs : List V} (ha : Ev ta σ H x) (hb : EP tb σ H P) (hp : ∀ v H1, Ex H H1 → P v H1 → ∃ p, v = .ref p ∧ (SqL K H1 p xs ∨ SqT K H1 p xs)) (hx : flatV x = true) (hf : xs.all flatV = true) :
    Ev (tOp (rIn K neg) ta tb) σ H (.bl (if neg then !inV x xs else inV x xs)) := fun H1 e Q q =>
  ha H1 e _ fun H2 e2 => hb H2 (e.trans e2) _ fun v H3 e3 p => by
    obtain ⟨a, rfl, hs⟩ := hp v H3 ((e.trans e2).trans e3) p
    exact ⟨a, xs, rfl, hs, hx, hf, q H3 (e2.trans e3)⟩
theorem ev_fld {a C dx : Addr} {fs : List (Str × V)} {f : Str} (h : Ev te σ H (.ref a)) (ho : H a = some (.ins C dx fs)) (c : Cls K C) (n : NoAttr K C f) (hl : fs.lookup f = some v) : Ev (tFld K te f) σ H v := fun H1 e Q q =>
  h H1 e _ fun H2 e2 => ⟨a, C, dx, fs, v, rfl, (e.trans e2) a _ ho, c, n, hl, q H2 e2⟩
theorem ev_chain {r r' : R2} {tc : TE} {w : V} {b b' : Bool} (ha : Ev ta σ H x) (hb : Ev tb σ H y) (h1 : RV r x y H (.bl b)) (hc : b = true → Ev tc σ H w) (h2 : b = true → RV r' y w H (.bl b')) : Ev (tChain r r' ta tb tc) σ H (.bl (b && b')) := fun H1 e Q q =>
  ha H1 e _ fun H2 e2 => hb H2 (e.trans e2) _ fun H3 e3 => h1 H3 ((e.trans e2).trans e3) _ fun H4 e4 => ⟨b, rfl, by
    have e24 := (e2.trans e3).trans e4
    cases b with
    | true => exact iteT (hc rfl H4 (e.trans e24) _ fun H5 e5 => h2 rfl H5 ((e.trans e24).trans e5) Q fun H6 e6 => q H6 ((e24.trans e5).trans e6))
    | false => exact iteF (q H4 e24)⟩
theorem rv_le {i j : Int} : RV (rI0 fun i j => .bl (decide (i ≤ j))) (.int i) (.int j) H (.bl (decide (i ≤ j))) := rv_I0
theorem s_asgP {i : Nat} (h : EP te σ H P) (k : ∀ v H1, Ex H H1 → P v H1 → D.nx (σ.set i (some v)) H1) : tAsg te (gName i) D σ H := h H (Ex.refl H) _ k
theorem q_asgP {i : Nat} (h : EP te σ H P) (k : ∀ v H1, Ex H H1 → P v H1 → tz D (σ.set i (some v)) H1) : tSeq (tAsg te (gName i)) tz D σ H := h H (Ex.refl H) _ k
theorem s_retP (h : EP te σ H P) (k : ∀ v H1, Ex H H1 → P v H1 → D.rt v H1) : tRet te D σ H := h H (Ex.refl H) _ k
theorem q_ret (h : Ev te σ H v) (k : ∀ H1, Ex H H1 → D.rt v H1) : tSeq (tRet te) tz D σ H := h H (Ex.refl H) _ k
theorem q_retP (h : EP te σ H P) (k : ∀ v H1, Ex H H1 → P v H1 → D.rt v H1) : tSeq (tRet te) tz D σ H := h H (Ex.refl H) _ k
theorem s_dropP (h : EP te σ H P) (k : ∀ v H1, Ex H H1 → P v H1 → D.nx σ H1) : tDrop te D σ H := h H (Ex.refl H) _ k
theorem q_dropP (h : EP te σ H P) (k : ∀ v H1, Ex H H1 → P v H1 → tz D σ H1) : tSeq (tDrop te) tz D σ H := h H (Ex.refl H) _ k
theorem ep_if {b : Bool} (h : EvT t σ H b) (h1 : b = true → EP ta σ H P) (h2 : b = false → EP tb σ H P) : EP (tIf t ta tb) σ H P := fun H1 e Q q => h H1 e _ fun H2 e2 => by
  cases b with
  | true => exact iteT (h1 rfl H2 (e.trans e2) Q fun v H3 e3 => q v H3 (e2.trans e3))
  | false => exact iteF (h2 rfl H2 (e.trans e2) Q fun v H3 e3 => q v H3 (e2.trans e3))
theorem et_if {b : Bool} {c : TT} {a : Bool} (h : EvT c σ H a) : EvT c σ H a := h
/-- a statement's if over a test whose answer is known -/
theorem q_yes (h : EvT t σ H true) (k : ∀ H1, Ex H H1 → tu { D with nx := tz D } σ H1) : tSeq (tIfS t tu tw) tz D σ H := q_if h (fun _ => k) (fun z => Bool.noConfusion z)
theorem q_no (h : EvT t σ H false) (k : ∀ H1, Ex H H1 → tz D σ H1) : tSeq (tIfS t tu tNext) tz D σ H := q_when h (fun z => Bool.noConfusion z) (fun _ => k)
theorem q_else (h : EvT t σ H false) (k : ∀ H1, Ex H H1 → tw { D with nx := tz D } σ H1) : tSeq (tIfS t tu tw) tz D σ H := q_if h (fun z => Bool.noConfusion z) (fun _ => k)
theorem s_yes (h : EvT t σ H true) (k : ∀ H1, Ex H H1 → tu D σ H1) : tIfS t tu tw D σ H := s_if h (fun _ => k) (fun z => Bool.noConfusion z)
theorem s_no (h : EvT t σ H false) (k : ∀ H1, Ex H H1 → D.nx σ H1) : tIfS t tu tNext D σ H := s_when h (fun z => Bool.noConfusion z) (fun _ => k)
theorem s_else (h : EvT t σ H false) (k : ∀ H1, Ex H H1 → tw D σ H1) : tIfS t tu tw D σ H := s_if h (fun z => Bool.noConfusion z) (fun _ => k)
end
end FB
set_option Elab.async false
set_option linter.all false
set_option maxRecDepth 100000
set_option maxHeartbeats 4000000
/-! The data: steps as plain data, and how they stand in a heap. -/
namespace FB
open PySem PySem.Spec PyProof.Rows L2 Evl
/-! ### plain steps -/
inductive Stp where
  | mk (x : Str) (rs : List Str) (g : Nat)
  | tell (x : Str) (g : Nat)
  | test (x : Str) (gs : List Nat)
  | go (g : Nat)
  | fin
namespace Stp
def goals : Stp → List Nat
  | mk _ _ g => [g]
  | tell _ g => [g]
  | test _ gs => gs
  | go g => [g]
  | fin => []
def reads : Stp → List Str
  | mk _ rs _ => rs
  | tell x _ => [x]
  | test x _ => [x]
  | go _ => []
  | fin => []
def made : Stp → Option Str
  | mk x _ _ => some x
  | _ => none
def names : Stp → List Str
  | mk x rs _ => x :: rs
  | tell x _ => [x]
  | test x _ => [x]
  | go _ => []
  | fin => []
end Stp
/-- a name: one to eight letters -/
structure Nm (x : Str) : Prop where
  lo : 1 ≤ x.length
  hi : x.length ≤ 8
  abc : ∀ c ∈ x.cps.toList, c ∈ abc.cps.toList
/-- a right step among n places -/
def Stp.Ok (n : Nat) : Stp → Prop
  | .mk x rs g => Nm x ∧ rs.length ≤ 2 ∧ (∀ r ∈ rs, Nm r) ∧ g < n
  | .tell x g => Nm x ∧ g < n
  | .test x gs => Nm x ∧ 2 ≤ gs.length ∧ gs.length ≤ 3 ∧ ∀ g ∈ gs, g < n
  | .go g => g < n
  | .fin => True
theorem Stp.Ok.goals {n : Nat} {s : Stp} (h : s.Ok n) : ∀ g ∈ s.goals, g < n := by
  cases s with
  | mk x rs g => intro y hy; rw [show y = g by simpa [Stp.goals] using hy]; exact h.2.2.2
  | tell x g => intro y hy; rw [show y = g by simpa [Stp.goals] using hy]; exact h.2
  | test x gs => exact h.2.2.2
  | go g => intro y hy; rw [show y = g by simpa [Stp.goals] using hy]; exact h
  | fin => intro y hy; simp [Stp.goals] at hy
theorem Stp.Ok.reads {n : Nat} {s : Stp} (h : s.Ok n) : ∀ x ∈ s.reads, Nm x := by
  cases s with
  | mk x rs g => exact h.2.2.1
  | tell x g => intro y hy; rw [show y = x by simpa [Stp.reads] using hy]; exact h.1
  | test x gs => intro y hy; rw [show y = x by simpa [Stp.reads] using hy]; exact h.1
  | go g => intro y hy; simp [Stp.reads] at hy
  | fin => intro y hy; simp [Stp.reads] at hy
theorem Stp.Ok.reads_len {n : Nat} {s : Stp} (h : s.Ok n) : s.reads.length ≤ 2 := by
  cases s with
  | mk x rs g => exact h.2.1
  | tell x g => exact Nat.le_succ 1
  | test x gs => exact Nat.le_succ 1
  | go g => exact Nat.zero_le _
  | fin => exact Nat.zero_le _
theorem Stp.Ok.goals_len {n : Nat} {s : Stp} (h : s.Ok n) : s.goals.length ≤ 3 := by
  cases s with
  | mk x rs g => show 1 ≤ 3; omega
  | tell x g => show 1 ≤ 3; omega
  | test x gs => exact h.2.2.1
  | go g => show 1 ≤ 3; omega
  | fin => exact Nat.zero_le _
/-- the steps of a program of at most four places -/
structure Okp (ss : List Stp) : Prop where
  lo : 1 ≤ ss.length
  hi : ss.length ≤ 4
  ok : ∀ s ∈ ss, s.Ok ss.length
theorem Okp.at {ss : List Stp} (h : Okp ss) {i : Nat} {s : Stp} (e : ss[i]? = some s) : s.Ok ss.length := h.ok s (List.mem_of_getElem? e)

/-! ### paired lists -/
section
variable {α : Type} {R R' : V → α → Prop}
theorem prd_get : ∀ {vs : List V} {xs : List α} {i : Nat} {x : α}, Paired R vs xs → xs[i]? = some x → ∃ v, vs[i]? = some v ∧ R v x
  | _, _, _, _, .nil, e => by simp at e
  | _, _, 0, _, .cons r _, e => by
    have q : _ = _ := Option.some.inj e
    subst q
    exact ⟨_, rfl, r⟩
  | _, _, i + 1, x, .cons _ t, e => prd_get (i := i) t e
theorem prd_get' : ∀ {vs : List V} {xs : List α} {i : Nat} {v : V}, Paired R vs xs → vs[i]? = some v → ∃ x, xs[i]? = some x ∧ R v x
  | _, _, _, _, .nil, e => by simp at e
  | _, _, 0, _, .cons r _, e => by
    have q : _ = _ := Option.some.inj e
    subst q
    exact ⟨_, rfl, r⟩
  | _, _, i + 1, x, .cons _ t, e => prd_get' (i := i) t e
theorem prd_imp (k : ∀ v x, R v x → R' v x) : ∀ {vs : List V} {xs : List α}, Paired R vs xs → Paired R' vs xs
  | _, _, .nil => .nil
  | _, _, .cons r t => .cons (k _ _ r) (prd_imp k t)
theorem prd_app : ∀ {vs ws : List V} {xs ys : List α}, Paired R vs xs → Paired R ws ys → Paired R (vs ++ ws) (xs ++ ys)
  | _, _, _, _, .nil, h => h
  | _, _, _, _, .cons r t, h => .cons r (prd_app t h)
theorem prd_set {x : α} {v : V} (r : R v x) : ∀ {vs : List V} {xs : List α} (i : Nat), Paired R vs xs → Paired R (vs.set i v) (xs.set i x)
  | _, _, _, .nil => .nil
  | _, _, 0, .cons _ t => .cons r t
  | _, _, i + 1, .cons q t => .cons q (prd_set r i t)
theorem prd_take : ∀ {vs : List V} {xs : List α} (n : Nat), Paired R vs xs → Paired R (vs.take n) (xs.take n)
  | _, _, 0, _ => .nil
  | _, _, _ + 1, .nil => .nil
  | _, _, n + 1, .cons r t => .cons r (prd_take n t)
theorem prd_drop : ∀ {vs : List V} {xs : List α} (n : Nat), Paired R vs xs → Paired R (vs.drop n) (xs.drop n)
  | _, _, 0, r => r
  | _, _, _ + 1, .nil => .nil
  | _, _, n + 1, .cons _ t => prd_drop n t
end

/-! ### values in a heap -/
abbrev vN (n : Nat) : V := V.int (n : Int)
def TupI (H : Hp) (v : V) (ns : List Nat) : Prop := ∃ a, v = .ref a ∧ H a = some (.tup (ns.map vN))
def TupS (H : Hp) (v : V) (xs : List Str) : Prop := ∃ a, v = .ref a ∧ H a = some (.tup (xs.map V.str))
theorem TupI.up {H H' : Hp} {v : V} {ns : List Nat} (e : Ex H H') (h : TupI H v ns) : TupI H' v ns := by
  obtain ⟨a, rfl, h⟩ := h
  exact ⟨a, rfl, e a _ h⟩
theorem TupS.up {H H' : Hp} {v : V} {xs : List Str} (e : Ex H H') (h : TupS H v xs) : TupS H' v xs := by
  obtain ⟨a, rfl, h⟩ := h
  exact ⟨a, rfl, e a _ h⟩
abbrev kMake : Str := "make"
abbrev kTell : Str := "tell"
abbrev kTest : Str := "test"
abbrev kGo : Str := "go"
abbrev kEnd : Str := "end"
/-- the step s stands at v -/
def StepAt (H : Hp) (v : V) : Stp → Prop
  | .mk x rs g => ∃ a r, v = .ref a ∧ H a = some (.tup [.str kMake, .str x, r, .int (g : Int)]) ∧ TupS H r rs
  | .tell x g => ∃ a, v = .ref a ∧ H a = some (.tup [.str kTell, .str x, .int (g : Int)])
  | .test x gs => ∃ a r, v = .ref a ∧ H a = some (.tup [.str kTest, .str x, r]) ∧ TupI H r gs
  | .go g => ∃ a, v = .ref a ∧ H a = some (.tup [.str kGo, .int (g : Int)])
  | .fin => ∃ a, v = .ref a ∧ H a = some (.tup [.str kEnd])
theorem StepAt.up {H H' : Hp} {v : V} {s : Stp} (e : Ex H H') (h : StepAt H v s) : StepAt H' v s := by
  cases s with
  | mk x rs g =>
    obtain ⟨a, r, rfl, h, t⟩ := h
    exact ⟨a, r, rfl, e a _ h, t.up e⟩
  | tell x g =>
    obtain ⟨a, rfl, h⟩ := h
    exact ⟨a, rfl, e a _ h⟩
  | test x gs =>
    obtain ⟨a, r, rfl, h, t⟩ := h
    exact ⟨a, r, rfl, e a _ h, t.up e⟩
  | go g =>
    obtain ⟨a, rfl, h⟩ := h
    exact ⟨a, rfl, e a _ h⟩
  | fin =>
    obtain ⟨a, rfl, h⟩ := h
    exact ⟨a, rfl, e a _ h⟩
/-- the steps ss stand in the tuple at a -/
def StepsAt (H : Hp) (a : Addr) (ss : List Stp) : Prop := ∃ vs, H a = some (.tup vs) ∧ Paired (StepAt H) vs ss
theorem StepsAt.up {H H' : Hp} {a : Addr} {ss : List Stp} (e : Ex H H') (h : StepsAt H a ss) : StepsAt H' a ss := by
  obtain ⟨vs, h, p⟩ := h
  exact ⟨vs, e a _ h, prd_imp (fun _ _ => StepAt.up e) p⟩
/-! ### all but one object stays -/
def ExB (d : Addr) (H H' : Hp) : Prop := ∀ a o, a ≠ d → H a = some o → H' a = some o
theorem ExB.refl (d : Addr) (H : Hp) : ExB d H H := fun _ _ _ h => h
theorem ExB.of {d : Addr} {H H' : Hp} (e : Ex H H') : ExB d H H' := fun a o _ h => e a o h
theorem ExB.trans {d : Addr} {H H1 H2 : Hp} (a : ExB d H H1) (b : ExB d H1 H2) : ExB d H H2 := fun x o n h => b x o n (a x o n h)
theorem ExB.put {d : Addr} {H : Hp} {o : HO} : ExB d H (upd H d o) := fun a u n h => by
  rw [upd_ne n]
  exact h
/-- what stands at d is neither a tuple -/
structure Box (H : Hp) (d : Addr) : Prop where
  nt : ∀ xs, H d ≠ some (.tup xs)
theorem ExB.tup {d a : Addr} {H H' : Hp} {xs : List V} (e : ExB d H H') (b : Box H d) (h : H a = some (.tup xs)) : H' a = some (.tup xs) :=
  e a _ (fun q => b.nt xs (q ▸ h)) h
theorem TupI.upB {H H' : Hp} {d : Addr} {v : V} {ns : List Nat} (e : ExB d H H') (b : Box H d) (h : TupI H v ns) : TupI H' v ns := by
  obtain ⟨a, rfl, h⟩ := h
  exact ⟨a, rfl, e.tup b h⟩
theorem TupS.upB {H H' : Hp} {d : Addr} {v : V} {xs : List Str} (e : ExB d H H') (b : Box H d) (h : TupS H v xs) : TupS H' v xs := by
  obtain ⟨a, rfl, h⟩ := h
  exact ⟨a, rfl, e.tup b h⟩
theorem StepAt.upB {H H' : Hp} {d : Addr} {v : V} {s : Stp} (e : ExB d H H') (b : Box H d) (h : StepAt H v s) : StepAt H' v s := by
  cases s with
  | mk x rs g =>
    obtain ⟨a, r, rfl, h, t⟩ := h
    exact ⟨a, r, rfl, e.tup b h, t.upB e b⟩
  | tell x g =>
    obtain ⟨a, rfl, h⟩ := h
    exact ⟨a, rfl, e.tup b h⟩
  | test x gs =>
    obtain ⟨a, r, rfl, h, t⟩ := h
    exact ⟨a, r, rfl, e.tup b h, t.upB e b⟩
  | go g =>
    obtain ⟨a, rfl, h⟩ := h
    exact ⟨a, rfl, e.tup b h⟩
  | fin =>
    obtain ⟨a, rfl, h⟩ := h
    exact ⟨a, rfl, e.tup b h⟩
theorem StepsAt.upB {H H' : Hp} {d a : Addr} {ss : List Stp} (e : ExB d H H') (b : Box H d) (h : StepsAt H a ss) : StepsAt H' a ss := by
  obtain ⟨vs, h, p⟩ := h
  exact ⟨vs, e.tup b h, prd_imp (fun _ _ => StepAt.upB e b) p⟩
/-! ### membership of texts and numbers -/
theorem inV_str (x : Str) (xs : List Str) : inV (.str x) (xs.map V.str) = decide (x ∈ xs) := by
  induction xs with
  | nil => rfl
  | cons y ys ih =>
    have e : inV (.str x) ((y :: ys).map V.str) = ((y == x) || inV (.str x) (ys.map V.str)) := rfl
    rw [e, ih]
    by_cases h : y = x
    · subst h
      simp
    · have h' : ¬ x = y := fun q => h q.symm
      simp [h, h']
theorem inV_int (x : Nat) (xs : List Nat) : inV (.int (x : Int)) (xs.map vN) = decide (x ∈ xs) := by
  induction xs with
  | nil => rfl
  | cons y ys ih =>
    have e : inV (.int (x : Int)) ((y :: ys).map vN) = (((y : Int) == (x : Int)) || inV (.int (x : Int)) (ys.map vN)) := rfl
    rw [e, ih]
    by_cases h : y = x
    · subst h
      simp
    · have h' : ¬ x = y := fun q => h q.symm
      have h2 : ¬ ((y : Int) = (x : Int)) := fun q => h (by omega)
      simp [h', h2]
theorem flat_strs2 (ys : List Str) : (ys.map V.str).all flatV = true := by
  induction ys with
  | nil => rfl
  | cons y ys ih => exact ih
theorem flat_ints (ys : List Nat) : (ys.map vN).all flatV = true := by
  induction ys with
  | nil => rfl
  | cons y ys ih => exact ih
/-! ### the kinds told apart -/
theorem k_mt : decide (V.str kMake = V.str kTell) = false := by decide +kernel
theorem k_ms : decide (V.str kMake = V.str kTest) = false := by decide +kernel
theorem k_mg : decide (V.str kMake = V.str kGo) = false := by decide +kernel
theorem k_me : decide (V.str kMake = V.str kEnd) = false := by decide +kernel
theorem k_tm : decide (V.str kTell = V.str kMake) = false := by decide +kernel
theorem k_ts : decide (V.str kTell = V.str kTest) = false := by decide +kernel
theorem k_tg : decide (V.str kTell = V.str kGo) = false := by decide +kernel
theorem k_te : decide (V.str kTell = V.str kEnd) = false := by decide +kernel
theorem k_sm : decide (V.str kTest = V.str kMake) = false := by decide +kernel
theorem k_st : decide (V.str kTest = V.str kTell) = false := by decide +kernel
theorem k_sg : decide (V.str kTest = V.str kGo) = false := by decide +kernel
theorem k_se : decide (V.str kTest = V.str kEnd) = false := by decide +kernel
theorem k_gm : decide (V.str kGo = V.str kMake) = false := by decide +kernel
theorem k_gt : decide (V.str kGo = V.str kTell) = false := by decide +kernel
theorem k_gs : decide (V.str kGo = V.str kTest) = false := by decide +kernel
theorem k_ge : decide (V.str kGo = V.str kEnd) = false := by decide +kernel
theorem k_em : decide (V.str kEnd = V.str kMake) = false := by decide +kernel
theorem k_et : decide (V.str kEnd = V.str kTell) = false := by decide +kernel
theorem k_es : decide (V.str kEnd = V.str kTest) = false := by decide +kernel
theorem k_eg : decide (V.str kEnd = V.str kGo) = false := by decide +kernel
theorem k_mm : decide (V.str kMake = V.str kMake) = true := decide_eq_true rfl
theorem k_tt : decide (V.str kTell = V.str kTell) = true := decide_eq_true rfl
theorem k_ss : decide (V.str kTest = V.str kTest) = true := decide_eq_true rfl
theorem k_gg : decide (V.str kGo = V.str kGo) = true := decide_eq_true rfl
theorem k_ee : decide (V.str kEnd = V.str kEnd) = true := decide_eq_true rfl
/-- items of a written tuple -/
theorem at0 {x : V} {r : List V} : atI (x :: r) 0 = some x := atI_nat (xs := x :: r) (j := 0) rfl
theorem at1 {x y : V} {r : List V} : atI (x :: y :: r) 1 = some y := atI_nat (xs := x :: y :: r) (j := 1) rfl
theorem at2 {x y z : V} {r : List V} : atI (x :: y :: z :: r) 2 = some z := atI_nat (xs := x :: y :: z :: r) (j := 2) rfl
theorem at3 {x y z u : V} {r : List V} : atI (x :: y :: z :: u :: r) 3 = some u := atI_nat (xs := x :: y :: z :: u :: r) (j := 3) rfl
theorem at4 {x y z u w : V} {r : List V} : atI (x :: y :: z :: u :: w :: r) 4 = some w := atI_nat (xs := x :: y :: z :: u :: w :: r) (j := 4) rfl
theorem atL2 {x y : V} : atI [x, y] (-1) = some y := atI_last [x] y
theorem atL3 {x y z : V} : atI [x, y, z] (-1) = some z := atI_last [x, y] z
theorem atL4 {x y z u : V} : atI [x, y, z, u] (-1) = some u := atI_last [x, y, z] u
end FB
set_option Elab.async false
set_option linter.all false
set_option maxRecDepth 100000
set_option maxHeartbeats 4000000
/-! Further readings: isinstance, texts, numbers. -/
namespace FB
open PySem PySem.Spec PyProof.Rows L2 Evl
section
variable {K : PySem.W.Frag} {σ : Sg} {H H' : Hp} {ta tb te tx : TE} {t u : TT} {x y z v : V} {P P' : V → Hp → Prop}
theorem ev_isiI {i : Int} {T : String} {b : Bool} (ha : Ev ta σ H (.int i)) (h : kitB "int" T = some b) : Ev (tCB (rIsi K) (tCons ta (tCons (tC (.ty T)) tNil))) σ H (.bl b) := fun H1 e Q q =>
  ha H1 e _ fun H2 e2 => ⟨_, _, _, _, b, rfl, .ty T, .base (.int i), kit_ty h, q H2 e2⟩
theorem ev_isiS {i : Str} {T : String} {b : Bool} (ha : Ev ta σ H (.str i)) (h : kitB "str" T = some b) : Ev (tCB (rIsi K) (tCons ta (tCons (tC (.ty T)) tNil))) σ H (.bl b) := fun H1 e Q q =>
  ha H1 e _ fun H2 e2 => ⟨_, _, _, _, b, rfl, .ty T, .base (.str i), kit_ty h, q H2 e2⟩
theorem ev_isiT {a : Addr} {xs : List V} {T : String} {b : Bool} (ha : Ev ta σ H (.ref a)) (ho : H a = some (.tup xs)) (h : kitB "tuple" T = some b) : Ev (tCB (rIsi K) (tCons ta (tCons (tC (.ty T)) tNil))) σ H (.bl b) := fun H1 e Q q =>
  ha H1 e _ fun H2 e2 => ⟨_, _, _, _, b, rfl, .ty T, .base (.tup ((e.trans e2) a _ ho)), kit_ty h, q H2 e2⟩
theorem k_ii : kitB "int" "int" = some true := by decide +kernel
theorem k_ib : kitB "int" "bool" = some false := by decide +kernel
theorem k_strs : kitB "str" "str" = some true := by decide +kernel
theorem k_tups : kitB "tuple" "tuple" = some true := by decide +kernel
/-- a call whose answer is told -/
theorem ev_c1 {sp : Sp} {E : XK} (ha : Ev ta σ H x) (hs : SpV sp [x] H z) : Ev (tCall sp [] E (tCons ta tNil)) σ H z := ev_call (ea_cons ha ea_nil) hs
theorem ev_c2 {sp : Sp} {E : XK} (ha : Ev ta σ H x) (hb : Ev tb σ H y) (hs : SpV sp [x, y] H z) : Ev (tCall sp [] E (tCons ta (tCons tb tNil))) σ H z := ev_call (ea_cons ha (ea_cons hb ea_nil)) hs
theorem ev_c3 {sp : Sp} {E : XK} {tc : TE} {x3 : V} (ha : Ev ta σ H x) (hb : Ev tb σ H y) (hc : Ev tc σ H x3) (hs : SpV sp [x, y, x3] H z) : Ev (tCall sp [] E (tCons ta (tCons tb (tCons tc tNil)))) σ H z := ev_call (ea_cons ha (ea_cons hb (ea_cons hc ea_nil))) hs
theorem ep_c1 {sp : Sp} {E : XK} (ha : Ev ta σ H x) (hs : SpP sp [x] H P) : EP (tCall sp [] E (tCons ta tNil)) σ H P := ep_call (ea_cons ha ea_nil) hs
theorem ep_c2 {sp : Sp} {E : XK} (ha : Ev ta σ H x) (hb : Ev tb σ H y) (hs : SpP sp [x, y] H P) : EP (tCall sp [] E (tCons ta (tCons tb tNil))) σ H P := ep_call (ea_cons ha (ea_cons hb ea_nil)) hs
theorem ep_c3 {sp : Sp} {E : XK} {tc : TE} {x3 : V} (ha : Ev ta σ H x) (hb : Ev tb σ H y) (hc : Ev tc σ H x3) (hs : SpP sp [x, y, x3] H P) : EP (tCall sp [] E (tCons ta (tCons tb (tCons tc tNil)))) σ H P := ep_call (ea_cons ha (ea_cons hb (ea_cons hc ea_nil))) hs
/-- the i-th of what is a tuple, a list -/
theorem ev_ixT {a : Addr} {xs : List V} {i : Int} (ha : Ev ta σ H (.ref a)) (hb : Ev tb σ H (.int i)) (ho : H a = some (.tup xs)) (hx : atI xs i = some v) : Ev (tOp (rIxT K) ta tb) σ H v := ev_op ha hb (rv_ixT (st_of ho) hx)
theorem ev_ixL {a : Addr} {xs : List V} {i : Int} (ha : Ev ta σ H (.ref a)) (hb : Ev tb σ H (.int i)) (ho : H a = some (.lst xs)) (hx : atI xs i = some v) : Ev (tOp (rIxL K) ta tb) σ H v := ev_op ha hb (rv_ixL (sq_of ho) hx)
theorem ev_neg {i : Int} (ha : Ev ta σ H (.int i)) : Ev (tUn (rU fun i => .int (-i)) ta) σ H (.int (-i)) := ev_un ha ru_neg
theorem et_eq {b : Bool} (ha : Ev ta σ H x) (hb : Ev tb σ H y) (hs : scal x y = true) (hd : decide (x = y) = b) : EvT (tTest (tOp rEq ta tb)) σ H b := by
  subst hd
  exact et_test (ev_op ha hb (rv_eq hs))
theorem et_ne {b : Bool} (ha : Ev ta σ H x) (hb : Ev tb σ H y) (hs : scal x y = true) (hd : (!decide (x = y)) = b) : EvT (tTest (tOp rNe ta tb)) σ H b := by
  subst hd
  exact et_test (ev_op ha hb (rv_ne hs))
theorem et_val {b : Bool} (h : Ev te σ H (.bl b)) : EvT (tB te) σ H b := et_B h
theorem et_inP {neg b : Bool} {xs : List V} (ha : Ev ta σ H x) (hb : EP tb σ H P) (hp : ∀ v H1, Ex H H1 → P v H1 → ∃ p, v = .ref p ∧ (SqL K H1 p xs ∨ SqT K H1 p xs)) (hx : flatV x = true) (hf : xs.all flatV = true)
    (hv : (if neg then !inV x xs else inV x xs) = b) : EvT (tTest (tOp (rIn K neg) ta tb)) σ H b := by
  subst hv
  exact et_test (ev_inP ha hb hp hx hf)
end
theorem et_yes {σ : Sg} {H : Hp} : EvT tYes σ H true := fun H1 _ Q q => q H1 (Ex.refl H1)
/-- the written text of a constant -/
theorem mk_get {x : V} {xs : List V} {i : Nat} (h : xs[i]? = some x) : atI xs (i : Int) = some x := atI_nat h
end FB
set_option Elab.async false
set_option linter.all false
set_option maxRecDepth 100000
set_option maxHeartbeats 4000000
/-! Programs in a heap: the instance, its steps, its kept facts; what the facts say. -/
namespace FB
open PySem PySem.Spec PyProof.Rows L2 Evl
/-! ### plain: goals, reads, makes by place; reached places; wanted names -/
def gl (ss : List Stp) (p : Nat) : List Nat := match ss[p]? with
  | some s => s.goals
  | none => []
def rd (ss : List Stp) (p : Nat) : List Str := match ss[p]? with
  | some s => s.reads
  | none => []
def md (ss : List Stp) (p : Nat) : Option Str := match ss[p]? with
  | some s => s.made
  | none => none
theorem gl_of {ss : List Stp} {p : Nat} {s : Stp} (h : ss[p]? = some s) : gl ss p = s.goals := by
  unfold gl
  rw [h]
theorem rd_of {ss : List Stp} {p : Nat} {s : Stp} (h : ss[p]? = some s) : rd ss p = s.reads := by
  unfold rd
  rw [h]
theorem md_of {ss : List Stp} {p : Nat} {s : Stp} (h : ss[p]? = some s) : md ss p = s.made := by
  unfold md
  rw [h]
theorem gl_lt {ss : List Stp} (ok : Okp ss) {p q : Nat} (h : q ∈ gl ss p) : q < ss.length := by
  unfold gl at h
  cases e : ss[p]? with
  | none =>
    rw [e] at h
    cases h
  | some s =>
    rw [e] at h
    exact (ok.at e).goals q h
theorem gl_in {ss : List Stp} {p q : Nat} (h : q ∈ gl ss p) : p < ss.length := by
  unfold gl at h
  cases e : ss[p]? with
  | none =>
    rw [e] at h
    cases h
  | some s => exact (List.getElem?_eq_some_iff.mp e).1
theorem rd_in {ss : List Stp} {p : Nat} {x : Str} (h : x ∈ rd ss p) : p < ss.length := by
  unfold rd at h
  cases e : ss[p]? with
  | none =>
    rw [e] at h
    cases h
  | some s => exact (List.getElem?_eq_some_iff.mp e).1
/-- led from p without leaving a place that makes nm -/
inductive Rch (ss : List Stp) (nm : Option Str) (p : Nat) : Nat → Prop
  | refl : Rch ss nm p p
  | step {q r : Nat} : Rch ss nm p q → (nm = none ∨ md ss q ≠ nm) → r ∈ gl ss q → Rch ss nm p r
theorem Rch.lt {ss : List Stp} (ok : Okp ss) {nm : Option Str} {p q : Nat} (hp : p < ss.length) (h : Rch ss nm p q) : q < ss.length := by
  cases h with
  | refl => exact hp
  | step _ _ hr => exact gl_lt ok hr
inductive Wnt (ss : List Stp) (x : Str) : Nat → Prop
  | here {p : Nat} : x ∈ rd ss p → Wnt ss x p
  | step {p q : Nat} : md ss p ≠ some x → q ∈ gl ss p → Wnt ss x q → Wnt ss x p

/-! ### the instance -/
def flds (a d : Addr) : List (Str × V) := putF "kept_facts" (.ref d) (putF "kept_steps" (.ref a) (putF "steps" (.ref a) []))
theorem ne_ks : ¬ (("kept_steps" : Str) = "kept_facts") := by decide +kernel
theorem ne_sk : ¬ (("kept_steps" : Str) = "steps") := by decide +kernel
theorem flds_ks (a d : Addr) : (flds a d).lookup ("kept_steps" : Str) = some (.ref a) := by
  unfold flds
  rw [lookup_putF, if_neg ne_ks, lookup_putF, if_pos rfl]
theorem flds_kf (a d : Addr) : (flds a d).lookup ("kept_facts" : Str) = some (.ref d) := by
  unfold flds
  rw [lookup_putF, if_pos rfl]
/-- the program's instance at p, its steps ss at a, its facts at d -/
structure PrS (K : PySem.W.Frag) (H : Hp) (p a d : Addr) (ss : List Stp) : Prop where
  ob : ∃ dx, H p = some (.ins (CP K) dx (flds a d))
  st : StepsAt H a ss
  ok : Okp ss
theorem PrS.up {K : PySem.W.Frag} {H H' : Hp} {p a d : Addr} {ss : List Stp} (h : PrS K H p a d ss) (e : Ex H H') : PrS K H' p a d ss := by
  obtain ⟨⟨dx, o⟩, s, k⟩ := h
  exact ⟨⟨dx, e _ _ o⟩, s.up e, k⟩
theorem PrS.upB {K : PySem.W.Frag} {H H' : Hp} {p a d : Addr} {ss : List Stp} {kvs : List (Key × V)} (h : PrS K H p a d ss) (hd : H d = some (.dK kvs)) (e : ExB d H H') : PrS K H' p a d ss := by
  obtain ⟨⟨dx, o⟩, s, k⟩ := h
  exact ⟨⟨dx, e _ _ (ne_of o hd (by intro z; cases z)) o⟩, s.upB e ⟨fun xs q => by rw [hd] at q; cases q⟩, k⟩
theorem boxD {H : Hp} {d : Addr} {kvs : List (Key × V)} (hd : H d = some (.dK kvs)) : Box H d := ⟨fun xs q => by rw [hd] at q; cases q⟩
theorem boxL {H : Hp} {d : Addr} {xs : List V} (hd : H d = some (.lst xs)) : Box H d := ⟨fun xs q => by rw [hd] at q; cases q⟩

/-! ### the kept facts -/
/-- a dict from places to tuples -/
structure RtD (H : Hp) (kvs : List (Key × V)) (ks : List Nat) : Prop where
  keys : kvs.map (·.1) = ks.map fun k : Nat => (Sum.inl (k : Int) : Key)
  vals : ∀ kv ∈ kvs, ∃ t xs, kv.2 = V.ref t ∧ H t = some (.tup xs) ∧ xs.length ≤ 100
theorem RtD.up {H H' : Hp} {kvs : List (Key × V)} {ks : List Nat} (h : RtD H kvs ks) (e : Ex H H') : RtD H' kvs ks :=
  ⟨h.keys, fun kv hk => by
    obtain ⟨t, xs, a, b, c⟩ := h.vals kv hk
    exact ⟨t, xs, a, e _ _ b, c⟩⟩
theorem RtD.upB {H H' : Hp} {d : Addr} {kvs : List (Key × V)} {ks : List Nat} (h : RtD H kvs ks) (e : ExB d H H') (b : Box H d) : RtD H' kvs ks :=
  ⟨h.keys, fun kv hk => by
    obtain ⟨t, xs, a, q, c⟩ := h.vals kv hk
    exact ⟨t, xs, a, e.tup b q, c⟩⟩
theorem find_key {k : Nat} : ∀ {kvs : List (Key × V)} {ks : List Nat}, kvs.map (·.1) = (ks.map fun k : Nat => (Sum.inl (k : Int) : Key)) → (valV kvs (Sum.inl (k : Int) : Key)).isSome = decide (k ∈ ks)
  | [], [], _ => rfl
  | [], _ :: _, h => by cases h
  | _ :: _, [], h => by cases h
  | kv :: kvs, x :: ks, h => by
    rw [List.map_cons, List.map_cons] at h
    obtain ⟨h1, h2⟩ := List.cons.inj h
    have ih := find_key (k := k) h2
    unfold valV at ih ⊢
    rw [List.find?_cons]
    by_cases e : x = k
    · subst e
      rw [show decide (kv.1 = (Sum.inl (x : Int) : Key)) = true from decide_eq_true h1]
      simp
    · have e2 : decide (kv.1 = (Sum.inl (k : Int) : Key)) = false := decide_eq_false fun q => e (by
        rw [h1] at q
        have z : (x : Int) = (k : Int) := Sum.inl.inj q
        omega)
      rw [e2]
      show (Option.map (fun x => x.2) (List.find? (fun kv => decide (kv.1 = (Sum.inl (k : Int) : Key))) kvs)).isSome = _
      rw [ih]
      have e3 : ¬ k = x := fun q => e q.symm
      simp [e3]
/-- the routes' dict at v: from p without leaving what makes nm -/
def RoutesAt (H : Hp) (v : V) (ss : List Stp) (nm : Option Str) (p : Nat) : Prop := ∃ r kvs ks, v = .ref r ∧ H r = some (.dK kvs) ∧ RtD H kvs ks ∧ ∀ k, k ∈ ks ↔ Rch ss nm p k
theorem RoutesAt.up {H H' : Hp} {v : V} {ss : List Stp} {nm : Option Str} {p : Nat} (h : RoutesAt H v ss nm p) (e : Ex H H') : RoutesAt H' v ss nm p := by
  obtain ⟨r, kvs, ks, rfl, a, b, c⟩ := h
  exact ⟨r, kvs, ks, rfl, e _ _ a, b.up e, c⟩
/-- the ways as triples -/
def TriAt (H : Hp) (v : V) (w : Nat × Nat × Nat) : Prop := ∃ a, v = .ref a ∧ H a = some (.tup [vN w.1, vN w.2.1, vN w.2.2])
theorem TriAt.up {H H' : Hp} {v : V} {w : Nat × Nat × Nat} (e : Ex H H') (h : TriAt H v w) : TriAt H' v w := by
  obtain ⟨a, rfl, h⟩ := h
  exact ⟨a, rfl, e _ _ h⟩
theorem TriAt.upB {H H' : Hp} {d : Addr} {v : V} {w : Nat × Nat × Nat} (e : ExB d H H') (b : Box H d) (h : TriAt H v w) : TriAt H' v w := by
  obtain ⟨a, rfl, h⟩ := h
  exact ⟨a, rfl, e.tup b h⟩
structure WaysOk (ss : List Stp) (ws : List (Nat × Nat × Nat)) : Prop where
  sound : ∀ w ∈ ws, w.2.2 ∈ gl ss w.1
  full : ∀ p q, q ∈ gl ss p → ∃ k, (p, k, q) ∈ ws
  len : ws.length ≤ 100
def WaysAt (H : Hp) (v : V) (ss : List Stp) : Prop := ∃ l vs ws, v = .ref l ∧ H l = some (.lst vs) ∧ Paired (TriAt H) vs ws ∧ WaysOk ss ws
theorem WaysAt.up {H H' : Hp} {v : V} {ss : List Stp} (h : WaysAt H v ss) (e : Ex H H') : WaysAt H' v ss := by
  obtain ⟨l, vs, ws, rfl, a, b, c⟩ := h
  exact ⟨l, vs, ws, rfl, e _ _ a, prd_imp (fun _ _ => TriAt.up e) b, c⟩
/-- the wanted names -/
structure ToldOk (ss : List Stp) (told : List (List Str)) : Prop where
  len : told.length = ss.length
  says : ∀ p xs, told[p]? = some xs → ∀ x, x ∈ xs ↔ (Rch ss none 0 p ∧ Wnt ss x p)
def ToldAt (H : Hp) (v : V) (ss : List Stp) : Prop := ∃ l vs told, v = .ref l ∧ H l = some (.lst vs) ∧ Paired (TupS H) vs told ∧ ToldOk ss told
theorem ToldAt.up {H H' : Hp} {v : V} {ss : List Stp} (h : ToldAt H v ss) (e : Ex H H') : ToldAt H' v ss := by
  obtain ⟨l, vs, ws, rfl, a, b, c⟩ := h
  exact ⟨l, vs, ws, rfl, e _ _ a, prd_imp (fun _ _ => TupS.up e) b, c⟩
abbrev kRoutes : Key := Sum.inr "routes"
abbrev kWays : Key := Sum.inr "ways"
abbrev kWanted : Key := Sum.inr "wanted"
def bk (o : Option V) : Nat := if o.isSome then 1 else 0
theorem bk_le (o : Option V) : bk o ≤ 1 := by
  unfold bk
  split <;> omega
/-- what the dict of facts at d holds -/
structure Facts (H : Hp) (d : Addr) (ss : List Stp) (kvs : List (Key × V)) : Prop where
  len : kvs.length ≤ bk (valV kvs kRoutes) + bk (valV kvs kWays) + bk (valV kvs kWanted)
  ne : ∀ kv ∈ kvs, kv.2 ≠ V.ref d
  ro : ∀ v, valV kvs kRoutes = some v → RoutesAt H v ss none 0
  wa : ∀ v, valV kvs kWays = some v → WaysAt H v ss
  to : ∀ v, valV kvs kWanted = some v → ToldAt H v ss
theorem Facts.up {H H' : Hp} {d : Addr} {ss : List Stp} {kvs : List (Key × V)} (h : Facts H d ss kvs) (e : Ex H H') : Facts H' d ss kvs :=
  ⟨h.len, h.ne, fun v q => (h.ro v q).up e, fun v q => (h.wa v q).up e, fun v q => (h.to v q).up e⟩
theorem valV_mem {kvs : List (Key × V)} {k : Key} {v : V} (h : valV kvs k = some v) : (k, v) ∈ kvs := by
  unfold valV at h
  cases e : kvs.find? (fun kv => decide (kv.1 = k)) with
  | none =>
    rw [e] at h
    cases h
  | some kv =>
    rw [e] at h
    have e1 : kv.2 = v := Option.some.inj h
    have e2 : kv.1 = k := by
      have z := List.find?_some e
      exact of_decide_eq_true z
    have m := List.mem_of_find?_eq_some e
    rw [← e1, ← e2]
    exact m
/-- the facts stay where their dict alone changes -/
theorem Facts.upB {H H' : Hp} {d : Addr} {ss : List Stp} {kvs ks0 : List (Key × V)} (h : Facts H d ss kvs) (hd : H d = some (.dK ks0)) (e : ExB d H H') : Facts H' d ss kvs := by
  have b := boxD hd
  refine ⟨h.len, h.ne, fun v q => ?_, fun v q => ?_, fun v q => ?_⟩
  · obtain ⟨r, k2, ks, rfl, h1, h2, h3⟩ := h.ro v q
    exact ⟨r, k2, ks, rfl, e _ _ (fun z => h.ne _ (valV_mem q) (by rw [z])) h1, h2.upB e b, h3⟩
  · obtain ⟨l, vs, ws, rfl, h1, h2, h3⟩ := h.wa v q
    exact ⟨l, vs, ws, rfl, e _ _ (fun z => h.ne _ (valV_mem q) (by rw [z])) h1, prd_imp (fun _ _ => TriAt.upB e b) h2, h3⟩
  · obtain ⟨l, vs, ws, rfl, h1, h2, h3⟩ := h.to v q
    exact ⟨l, vs, ws, rfl, e _ _ (fun z => h.ne _ (valV_mem q) (by rw [z])) h1, prd_imp (fun _ _ => TupS.upB e b) h2, h3⟩
/-- the program with its facts -/
structure PrF (K : PySem.W.Frag) (H : Hp) (p a d : Addr) (ss : List Stp) : Prop where
  s : PrS K H p a d ss
  f : ∃ kvs, H d = some (.dK kvs) ∧ Facts H d ss kvs
theorem PrF.up {K : PySem.W.Frag} {H H' : Hp} {p a d : Addr} {ss : List Stp} (h : PrF K H p a d ss) (e : Ex H H') : PrF K H' p a d ss := by
  obtain ⟨s, kvs, h1, h2⟩ := h
  exact ⟨s.up e, kvs, e _ _ h1, h2.up e⟩
/-- a put under a key that was not there -/
theorem valV_put {kvs : List (Key × V)} {k j : Key} {v : V} (hn : valV kvs k = none) : valV (putK kvs k v) j = if j = k then some v else valV kvs j := by
  rw [putK_new _ hn]
  unfold valV
  rw [List.find?_append]
  by_cases e : j = k
  · subst e
    rw [if_pos rfl]
    have hf : kvs.find? (fun kv => decide (kv.1 = j)) = none := by
      unfold valV at hn
      cases q : kvs.find? (fun kv => decide (kv.1 = j)) with
      | none => rfl
      | some x =>
        rw [q] at hn
        cases hn
    rw [hf]
    simp
  · rw [if_neg e]
    have e2 : decide (k = j) = false := decide_eq_false fun q => e q.symm
    cases q : kvs.find? (fun kv => decide (kv.1 = j)) with
    | none => simp [e2]
    | some x => simp
theorem putK_mem {kvs : List (Key × V)} {k : Key} {v : V} (hn : valV kvs k = none) {kv : Key × V} (h : kv ∈ putK kvs k v) : kv ∈ kvs ∨ kv = (k, v) := by
  rw [putK_new _ hn] at h
  rcases List.mem_append.mp h with h | h
  · exact .inl h
  · exact .inr (List.mem_singleton.mp h)
theorem putK_len {kvs : List (Key × V)} {k : Key} {v : V} (hn : valV kvs k = none) : (putK kvs k v).length = kvs.length + 1 := by
  rw [putK_new _ hn, List.length_append]
  rfl
/-- a fact more -/
theorem Facts.put {H : Hp} {d : Addr} {ss : List Stp} {kvs : List (Key × V)} {k : Key} {v : V} (h : Facts H d ss kvs) (hd : H d = some (.dK kvs)) (hn : valV kvs k = none) (hv : v ≠ V.ref d) (hk : k = kRoutes ∨ k = kWays ∨ k = kWanted)
    (ro : k = kRoutes → RoutesAt (upd H d (.dK (putK kvs k v))) v ss none 0) (wa : k = kWays → WaysAt (upd H d (.dK (putK kvs k v))) v ss) (to : k = kWanted → ToldAt (upd H d (.dK (putK kvs k v))) v ss) : Facts (upd H d (.dK (putK kvs k v))) d ss (putK kvs k v) := by
  have b := h.upB hd (ExB.put (d := d) (H := H) (o := .dK (putK kvs k v)))
  refine ⟨?_, fun kv m => ?_, fun u q => ?_, fun u q => ?_, fun u q => ?_⟩
  · rw [putK_len hn, valV_put hn, valV_put hn, valV_put hn]
    have l := h.len
    have n1 : ¬ (kRoutes = kWays) := by decide +kernel
    have n2 : ¬ (kRoutes = kWanted) := by decide +kernel
    have n3 : ¬ (kWays = kWanted) := by decide +kernel
    have sb : bk (some v) = 1 := rfl
    have nb : bk (none : Option V) = 0 := rfl
    rcases hk with e | e | e
    · subst e
      rw [if_pos rfl, if_neg (fun z => n1 z.symm), if_neg (fun z => n2 z.symm), sb]
      rw [hn, nb] at l
      omega
    · subst e
      rw [if_neg n1, if_pos rfl, if_neg (fun z => n3 z.symm), sb]
      rw [hn, nb] at l
      omega
    · subst e
      rw [if_neg n2, if_neg n3, if_pos rfl, sb]
      rw [hn, nb] at l
      omega
  · rcases putK_mem hn m with m | m
    · exact h.ne kv m
    · rw [m]
      exact hv
  · rw [valV_put hn] at q
    by_cases e : kRoutes = k
    · rw [if_pos e] at q
      rw [← Option.some.inj q]
      exact ro e.symm
    · rw [if_neg e] at q
      exact b.ro u q
  · rw [valV_put hn] at q
    by_cases e : kWays = k
    · rw [if_pos e] at q
      rw [← Option.some.inj q]
      exact wa e.symm
    · rw [if_neg e] at q
      exact b.wa u q
  · rw [valV_put hn] at q
    by_cases e : kWanted = k
    · rw [if_pos e] at q
      rw [← Option.some.inj q]
      exact to e.symm
    · rw [if_neg e] at q
      exact b.to u q
theorem nk_rw : ¬ (kRoutes = kWays) := by decide +kernel
theorem nk_rt : ¬ (kRoutes = kWanted) := by decide +kernel
theorem nk_wr : ¬ (kWays = kRoutes) := by decide +kernel
theorem nk_wt : ¬ (kWays = kWanted) := by decide +kernel
theorem nk_tr : ¬ (kWanted = kRoutes) := by decide +kernel
theorem nk_tw : ¬ (kWanted = kWays) := by decide +kernel
end FB
set_option Elab.async false
set_option linter.all false
set_option maxRecDepth 100000
set_option maxHeartbeats 4000000
/-! Loops and comprehensions over tuples and over enumerate. -/
namespace FB
open PySem PySem.Spec PyProof.Rows L2 Evl
section
variable {K : PySem.W.Frag} {σ : Sg} {H H' : Hp} {ta tb te tx : TE} {t u : TT} {x y z v : V} {P P' : V → Hp → Prop} {D : Ends} {tu tw tz : TS} {g : TG}
theorem el_cat {xs ys : List V} (ha : EvL ta σ H xs) (hb : EvL tb σ H ys) (hz : xs.length + ys.length ≤ 100000) : EvL (tOp rCat ta tb) σ H (xs ++ ys) := fun H1 e Q q =>
  ha H1 e _ fun p H2 hp e2 h2 => hb H2 (e.trans e2) _ fun r H3 hr e3 h3 => ⟨p, r, xs, ys, rfl, rfl, e3 _ _ h2, h3, sz_of hz, fun l hl => q l _ (fresh_back (e2.trans e3) hl) ((e2.trans e3).trans (Ex.new hl)) upd_same⟩
/-- over a tuple -/
theorem el_lcT {a : Addr} {xs : List V} {tl : TE} {j : Nat} {vs : List Nat} (f : Nat → Bool) (v : Nat → V) (h : Ev tl σ H (.ref a)) (hx : SqT K H a xs) (hz : xs.length ≤ 40000) (hw : ∀ x, wipe ((wipe σ vs).set j (some x)) vs = wipe σ vs)
    (ht : ∀ (i : Nat) (x : V) H1, Ex H H1 → xs[i]? = some x → EvT t ((wipe σ vs).set j (some x)) H1 (f i)) (he : ∀ (i : Nat) (x : V) H1, Ex H H1 → xs[i]? = some x → f i = true → Ev te ((wipe σ vs).set j (some x)) H1 (v i)) :
    EvL (tLc (iTup K tl) (gName j) t te vs) σ H (given xs.length f v) := fun H0 e Q q => h H0 e _ fun H1 e1 => ⟨a, rfl, ⟨xs, ex_t (e.trans e1) hx⟩, fun Dl hD =>
  lc_tup (xs := xs) (Cw H1 f v Dl) ⟨hD, Ex.new hD, upd_same⟩ (fun i H' _ p => ex_t ((e.trans e1).trans p.2.1) hx) (fun i x H' hi p => ⟨hw x, cw_turn p (by have := (List.getElem?_eq_some_iff.mp hi).1; omega) (ht i x H1 (e.trans e1) hi) (fun hf => he i x H1 (e.trans e1) hi hf)⟩)
    (fun H' p => q Dl H' (fresh_back e1 p.1) (e1.trans p.2.1) p.2.2)⟩
/-- a comprehension's turn whose item is told by a predicate: acc holds the items so far -/
def Cp (H : Hp) (R : Nat → List V → Hp → Prop) (Dl : Addr) (i : Nat) (H' : Hp) : Prop := H Dl = none ∧ Ex H H' ∧ ∃ acc, acc.length ≤ i ∧ H' Dl = some (.lst acc) ∧ R i acc H'
theorem cp_turn {R : Nat → List V → Hp → Prop} {Dl : Addr} {i : Nat} {σ2 : L2.St} {b : Bool} (p : Cp H R Dl i H') (hR : ∀ i acc H1 H2, Ex H1 H2 ∨ ExB Dl H1 H2 → R i acc H1 → R i acc H2) (hi : i < 50000) (ht : EvT t σ2 H b)
    (he : b = true → EP te σ2 H P) (hy : ∀ acc y H1, b = true → R i acc H1 → P y H1 → R (i + 1) (acc ++ [y]) H1) (hn : ∀ acc H1, b = false → R i acc H1 → R (i + 1) acc H1) :
    t σ2 H' fun b H3 => if b = true then te σ2 H3 fun y H4 => ∃ acc, H4 Dl = some (.lst acc) ∧ acc.length < sizeLine ∧ Cp H R Dl (i + 1) (upd H4 Dl (.lst (acc ++ [y]))) else Cp H R Dl (i + 1) H3 := by
  obtain ⟨p1, p2, acc, p3, p4, p5⟩ := p
  refine ht H' p2 _ fun H3 e3 => ?_
  cases b with
  | true =>
    refine iteT (he rfl H3 (p2.trans e3) _ fun y H4 e4 py => ⟨acc, e4 Dl _ (e3 Dl _ p4), sz_lt (by omega), p1, Ex.mut ((p2.trans e3).trans e4) p1, acc ++ [y], by rw [List.length_append]; exact Nat.succ_le_succ p3, upd_same, ?_⟩)
    exact hR _ _ _ _ (.inr ExB.put) (hy acc y H4 rfl (hR _ _ _ _ (.inl (e3.trans e4)) p5) py)
  | false => exact iteF (B := Cp H R Dl (i + 1) H3) ⟨p1, p2.trans e3, acc, by omega, e3 Dl _ p4, hn acc H3 rfl (hR _ _ _ _ (.inl e3) p5)⟩
/-- a new list told by what its items are -/
def EvR (te : TE) (σ : Sg) (H : Hp) (R : List V → Hp → Prop) : Prop := ∀ H1, Ex H H1 → ∀ Q : VK, (∀ p acc H2, H1 p = none → Ex H1 H2 → H2 p = some (.lst acc) → R acc H2 → Q (.ref p) H2) → te σ H1 Q
theorem ep_R {R : List V → Hp → Prop} (h : EvR te σ H R) : EP te σ H fun x H1 => ∃ p acc, x = .ref p ∧ H1 p = some (.lst acc) ∧ R acc H1 := fun H1 e Q q => h H1 e Q fun p acc H2 _ e2 hp hr => q _ H2 e2 ⟨p, acc, rfl, hp, hr⟩
/-- the gathering of paired items -/
theorem er_lcT {a : Addr} {xs : List V} {tl : TE} {j : Nat} {vs : List Nat} (R : Nat → List V → Hp → Prop) (b : Nat → Bool) (Pi : Nat → V → Hp → Prop) (h : Ev tl σ H (.ref a)) (hx : SqT K H a xs) (hz : xs.length ≤ 40000) (hw : ∀ x, wipe ((wipe σ vs).set j (some x)) vs = wipe σ vs)
    (hR : ∀ i acc (Dl : Addr) H1 H2, Ex H1 H2 ∨ ExB Dl H1 H2 → H Dl = none → R i acc H1 → R i acc H2) (h0 : ∀ H1, Ex H H1 → R 0 [] H1)
    (ht : ∀ (i : Nat) (x : V) H1, Ex H H1 → xs[i]? = some x → EvT t ((wipe σ vs).set j (some x)) H1 (b i)) (he : ∀ (i : Nat) (x : V) H1, Ex H H1 → xs[i]? = some x → b i = true → EP te ((wipe σ vs).set j (some x)) H1 (Pi i))
    (hy : ∀ i acc y H1, i < xs.length → b i = true → R i acc H1 → Pi i y H1 → R (i + 1) (acc ++ [y]) H1) (hn : ∀ i acc H1, i < xs.length → b i = false → R i acc H1 → R (i + 1) acc H1) :
    EvR (tLc (iTup K tl) (gName j) t te vs) σ H (R xs.length) := fun H0 e Q q => h H0 e _ fun H1 e1 => ⟨a, rfl, ⟨xs, ex_t (e.trans e1) hx⟩, fun Dl hD =>
  lc_tup (xs := xs) (Cp H1 R Dl) ⟨hD, Ex.new hD, [], Nat.le_refl _, upd_same, h0 _ ((e.trans e1).trans (Ex.new hD))⟩ (fun i H' _ p => ex_t ((e.trans e1).trans p.2.1) hx) (fun i x H' hi p => by
    have hl := (List.getElem?_eq_some_iff.mp hi).1
    exact ⟨hw x, cp_turn (P := Pi i) p (fun i acc G1 G2 z => hR i acc Dl G1 G2 z (fresh_back (e.trans e1) hD)) (by omega) (ht i x H1 (e.trans e1) hi) (fun hf => he i x H1 (e.trans e1) hi hf) (fun acc y G hb hr hp => hy i acc y G hl hb hr hp) fun acc G hb hr => hn i acc G hl hb hr⟩)
    (fun H' p => by
      obtain ⟨p1, p2, acc, p3, p4, p5⟩ := p
      exact q Dl acc H' (fresh_back e1 p1) (e1.trans p2) p4 p5)⟩
/-- a for over enumerate of a tuple -/
theorem s_forET {a : Addr} {xs : List V} {i1 i2 : Nat} (h : Ev te σ H (.ref a)) (hx : SqT K H a xs) (Pv : Nat → Sg → Hp → Prop) (h0 : ∀ H1, Ex H H1 → Pv 0 σ H1) (hl : ∀ i σ' H', i ≤ xs.length → Pv i σ' H' → SqT K H' a xs)
    (hs : ∀ i x σ' H' H2, xs[i]? = some x → Pv i σ' H' → Ex H' H2 → tu { D with nx := Pv (i + 1), ct := Pv (i + 1), bk := D.nx } ((σ'.set i1 (some (.int (i : Nat)))).set i2 (some x)) H2) (hd : ∀ σ' H', Pv xs.length σ' H' → D.nx σ' H') :
    tFor (iEnumT K (tCons te tNil)) (gTup K 2 (gCons (gName i1) (gCons (gName i2) gNil))) tu D σ H := h H (Ex.refl H) _ fun H1 e => ⟨a, xs, rfl, ex_t e hx, for_it walkEnumT Pv (h0 H1 e) (fun i σ' H' hi p => hl i σ' H' hi p) (fun i v σ' G G' hi p y => by
    obtain ⟨T, x, y', rfl, hT, rfl, h1, h2⟩ := y
    obtain rfl : V.int (i : Nat) = x := Option.some.inj h1
    exact ⟨T, [.int (i : Nat), y'], rfl, st_of upd_same, rfl, .int (i : Nat), [y'], rfl, y', [], rfl, rfl, hs i y' σ' G _ h2 p (Ex.new hT)⟩) hd⟩
theorem q_forET {a : Addr} {xs : List V} {i1 i2 : Nat} (h : Ev te σ H (.ref a)) (hx : SqT K H a xs) (Pv : Nat → Sg → Hp → Prop) (h0 : ∀ H1, Ex H H1 → Pv 0 σ H1) (hl : ∀ i σ' H', i ≤ xs.length → Pv i σ' H' → SqT K H' a xs)
    (hs : ∀ i x σ' H' H2, xs[i]? = some x → Pv i σ' H' → Ex H' H2 → tu { D with nx := Pv (i + 1), ct := Pv (i + 1), bk := tz D } ((σ'.set i1 (some (.int (i : Nat)))).set i2 (some x)) H2) (hd : ∀ σ' H', Pv xs.length σ' H' → tz D σ' H') :
    tSeq (tFor (iEnumT K (tCons te tNil)) (gTup K 2 (gCons (gName i1) (gCons (gName i2) gNil))) tu) tz D σ H := s_forET (D := { D with nx := tz D }) h hx Pv h0 hl hs hd
theorem q_forTn {a : Addr} {xs : List V} {tl : TE} {j : Nat} (h : Ev tl σ H (.ref a)) (hx : SqT K H a xs) (Pv : Nat → L2.St → Hp → Prop) (h0 : ∀ H1, Ex H H1 → Pv 0 σ H1) (hl : ∀ i σ' H', i ≤ xs.length → Pv i σ' H' → SqT K H' a xs)
    (hs : ∀ i x σ' H', xs[i]? = some x → Pv i σ' H' → tu { D with nx := Pv (i + 1), ct := Pv (i + 1), bk := tz D } (σ'.set j (some x)) H') (hd : ∀ σ' H', Pv xs.length σ' H' → tz D σ' H') : tSeq (tFor (iTup K tl) (gName j) tu) tz D σ H :=
  q_forT h hx Pv h0 hl hs hd
/-- a comprehension over enumerate of a tuple, of a list -/
theorem er_lcET {tl : TE} {i1 i2 n : Nat} {xs : List V} {vs : List Nat} {Pt : V → Hp → Prop} (R : Nat → List V → Hp → Prop) (b : Nat → Bool) (Pi : Nat → V → Hp → Prop) (h : EP tl σ H Pt) (hp : ∀ v H1, Ex H H1 → Pt v H1 → ∃ a, v = .ref a ∧ H1 a = some (.tup xs)) (hz : xs.length ≤ 40000)
    (hw : ∀ x y, wipe (((wipe σ vs).set i1 x).set i2 y) vs = wipe σ vs)
    (hR : ∀ i acc (Dl : Addr) H1 H2, Ex H1 H2 ∨ ExB Dl H1 H2 → H Dl = none → R i acc H1 → R i acc H2) (h0 : ∀ H1, Ex H H1 → R 0 [] H1)
    (ht : ∀ (i : Nat) (x : V) H1, Ex H H1 → xs[i]? = some x → EvT t (((wipe σ vs).set i1 (some (.int (i : Nat)))).set i2 (some x)) H1 (b i)) (he : ∀ (i : Nat) (x : V) H1, Ex H H1 → xs[i]? = some x → b i = true → EP te (((wipe σ vs).set i1 (some (.int (i : Nat)))).set i2 (some x)) H1 (Pi i))
    (hy : ∀ i acc y H1, i < xs.length → b i = true → R i acc H1 → Pi i y H1 → R (i + 1) (acc ++ [y]) H1) (hn : ∀ i acc H1, i < xs.length → b i = false → R i acc H1 → R (i + 1) acc H1) :
    EvR (tLc (iEnumT K (tCons tl tNil)) (gTup K 2 (gCons (gName i1) (gCons (gName i2) gNil))) t te vs) σ H (R xs.length) := fun H0 e Q q => h H0 e _ fun w H1 e1 pw => by
  obtain ⟨a, rfl, ha⟩ := hp w H1 (e.trans e1) pw
  refine ⟨a, xs, rfl, st_of ha, fun Dl hD => lc_it walkEnumT (Cp H1 R Dl) ⟨hD, Ex.new hD, [], Nat.le_refl _, upd_same, h0 _ ((e.trans e1).trans (Ex.new hD))⟩ (fun i H' _ p => ex_t p.2.1 (st_of ha)) (fun i v G G' hi p y => ?_) fun H' p => ?_⟩
  · obtain ⟨T, x, y', rfl, hT, rfl, h1, h2⟩ := y
    obtain rfl : V.int (i : Nat) = x := Option.some.inj h1
    have p' : Cp H1 R Dl i (upd G T (.tup [.int (i : Nat), y'])) := by
      obtain ⟨p1, p2, acc, p3, p4, p5⟩ := p
      exact ⟨p1, p2.trans (Ex.new hT), acc, p3, Ex.new hT _ _ p4, hR _ _ Dl _ _ (.inl (Ex.new hT)) (fresh_back (e.trans e1) hD) p5⟩
    exact ⟨T, [.int (i : Nat), y'], rfl, st_of upd_same, rfl, .int (i : Nat), [y'], rfl, y', [], rfl, rfl, hw _ _, cp_turn (P := Pi i) p' (fun i acc G1 G2 z => hR i acc Dl G1 G2 z (fresh_back (e.trans e1) hD)) (by omega) (ht i y' H1 (e.trans e1) h2) (fun hf => he i y' H1 (e.trans e1) h2 hf)
      (fun acc y G hb hr hp => hy i acc y G hi hb hr hp) fun acc G hb hr => hn i acc G hi hb hr⟩
  · obtain ⟨p1, p2, acc, p3, p4, p5⟩ := p
    exact q Dl acc H' (fresh_back e1 p1) (e1.trans p2) p4 p5
theorem el_lcEL {tl : TE} {i1 i2 : Nat} {xs : List V} {vs : List Nat} (f : Nat → Bool) (v : Nat → V) (h : EvL tl σ H xs) (hz : xs.length ≤ 40000) (hw : ∀ x y, wipe (((wipe σ vs).set i1 x).set i2 y) vs = wipe σ vs)
    (ht : ∀ (i : Nat) (x : V) H1, Ex H H1 → xs[i]? = some x → EvT t (((wipe σ vs).set i1 (some (.int (i : Nat)))).set i2 (some x)) H1 (f i)) (he : ∀ (i : Nat) (x : V) H1, Ex H H1 → xs[i]? = some x → f i = true → Ev te (((wipe σ vs).set i1 (some (.int (i : Nat)))).set i2 (some x)) H1 (v i)) :
    EvL (tLc (iEnum K (tCons tl tNil)) (gTup K 2 (gCons (gName i1) (gCons (gName i2) gNil))) t te vs) σ H (given xs.length f v) := fun H0 e Q q => h H0 e _ fun a H1 ha0 e1 ha =>
  ⟨a, xs, rfl, sq_of ha, fun Dl hD => lc_it walk_enum (Cw H1 f v Dl) ⟨hD, Ex.new hD, upd_same⟩ (fun i H' _ p => ex_l p.2.1 (sq_of ha)) (fun i v' G G' hi p y => by
    obtain ⟨T, x, y', rfl, hT, rfl, h1, h2⟩ := y
    obtain rfl : V.int (i : Nat) = x := Option.some.inj h1
    have p' : Cw H1 f v Dl i (upd G T (.tup [.int (i : Nat), y'])) := ⟨p.1, p.2.1.trans (Ex.new hT), Ex.new hT _ _ p.2.2⟩
    exact ⟨T, [.int (i : Nat), y'], rfl, st_of upd_same, rfl, .int (i : Nat), [y'], rfl, y', [], rfl, rfl, hw _ _, cw_turn p' (by omega) (ht i y' H1 (e.trans e1) h2) fun hf => he i y' H1 (e.trans e1) h2 hf⟩)
    fun H' p => q Dl H' (fresh_back e1 p.1) (e1.trans p.2.1) p.2.2⟩
theorem y_go {σ : Sg} {H : Hp} {A B : Hp → Prop} (h : A H) : tYes σ H (fun b H3 => if b = true then A H3 else B H3) := iteT (B := B H) h
end
end FB
set_option Elab.async false
set_option linter.all false
set_option maxRecDepth 100000
set_option maxHeartbeats 4000000
/-! A reading taken apart by its head. -/
namespace FB
open PySem PySem.Spec PyProof.Rows L2 Evl
section
variable {K : PySem.W.Frag} {σ : Sg} {H H' : Hp} {ta tb te tx : TE} {t u : TT} {D : Ends} {tu tw tz : TS} {g : TG} {Q : VK}
theorem go_cons {tr : TA} {Q : List V → Hp → Prop} (h : te σ H fun v H1 => tr σ H1 fun vs H2 => Q (v :: vs) H2) : tCons te tr σ H Q := h
theorem go_last {Q : List V → Hp → Prop} (h : te σ H fun v H1 => Q [v] H1) : tCons te tNil σ H Q := h
theorem go_cb {r : List V → Hp → VK → Prop} {ta : TA} (h : ta σ H fun xs H1 => r xs H1 Q) : tCB r ta σ H Q := h
theorem go_opr {r : R2} (h : ta σ H fun x H1 => tb σ H1 fun y H2 => r x y H2 Q) : tOp r ta tb σ H Q := h
theorem go_qasg {i : Nat} (h : te σ H fun v H1 => tz D (σ.set i (some v)) H1) : tSeq (tAsg te (gName i)) tz D σ H := h
theorem go_sasg {i : Nat} (h : te σ H fun v H1 => D.nx (σ.set i (some v)) H1) : tAsg te (gName i) D σ H := h
theorem go_ret (h : te σ H fun v H1 => D.rt v H1) : tRet te D σ H := h
theorem go_tup {ta : TA} (h : ta σ H fun xs H1 => xs.length ≤ sizeLine ∧ ∀ p, H1 p = none → Q (.ref p) (upd H1 p (.tup xs))) : tTup ta σ H Q := h
theorem go_c {v : V} (h : Q v H) : tC v σ H Q := h
theorem go_v {i : Nat} {v : V} (e : σ[i]? = some (some v)) (h : Q v H) : tVar i σ H Q := ⟨v, e, h⟩
theorem go_nm {i : Nat} {v : V} {k : L2.St → Hp → Prop} (h : k (σ.set i (some v)) H) : gName i v σ H k := h
theorem go_lst {ta : TA} (h : ta σ H fun xs H1 => xs.length ≤ sizeLine ∧ ∀ p, H1 p = none → Q (.ref p) (upd H1 p (.lst xs))) : tLst ta σ H Q := h
theorem go_call {sp : Sp} {dvs : List V} {E : XK} {ta : TA} (h : ta σ H fun vs H1 => sp (vs ++ dvs) H1 Q E) : tCall sp dvs E ta σ H Q := h
end
end FB
set_option Elab.async false
set_option linter.all false
set_option maxRecDepth 100000
set_option maxHeartbeats 4000000
/-! Dicts from places to tuples that a spread fills. -/
namespace FB
open PySem PySem.Spec PyProof.Rows L2 Evl
theorem nodup_le : ∀ (n : Nat) (l : List Nat), l.Nodup → (∀ x ∈ l, x < n) → l.length ≤ n
  | 0, l, _, h => by
    cases l with
    | nil => exact Nat.le_refl _
    | cons x r => exact absurd (h x List.mem_cons_self) (Nat.not_lt_zero _)
  | n + 1, l, nd, h => by
    have ih := nodup_le n (l.erase n) (nd.erase n) fun x hx => by
      have h1 := (nd.mem_erase_iff).mp hx
      have h2 := h x h1.2
      have h3 := h1.1
      omega
    by_cases m : n ∈ l
    · have e := List.length_erase_of_mem m
      omega
    · rw [List.erase_of_not_mem m] at ih
      omega
abbrev kI (k : Nat) : Key := Sum.inl (k : Int)
structure Spr (G : Hp) (d : Addr) (ks : List Nat) (n : Nat) : Prop where
  ex : ∃ kvs, G d = some (.dK kvs) ∧ kvs.map (·.1) = ks.map kI ∧ ∀ kv ∈ kvs, ∃ t xs, kv.2 = V.ref t ∧ G t = some (.tup xs) ∧ xs.length < kvs.length
  nd : ks.Nodup
  lt : ∀ k ∈ ks, k < n
theorem Spr.len {G : Hp} {d : Addr} {ks : List Nat} {n : Nat} (h : Spr G d ks n) : ks.length ≤ n := nodup_le n ks h.nd h.lt
theorem Spr.up {G G' : Hp} {d : Addr} {ks : List Nat} {n : Nat} (h : Spr G d ks n) (e : Ex G G') : Spr G' d ks n := by
  obtain ⟨⟨kvs, a, b, c⟩, nd, lt⟩ := h
  refine ⟨⟨kvs, e _ _ a, b, fun kv hk => ?_⟩, nd, lt⟩
  obtain ⟨t, xs, h1, h2, h3⟩ := c kv hk
  exact ⟨t, xs, h1, e _ _ h2, h3⟩
theorem Spr.upB {G G' : Hp} {d l : Addr} {ks : List Nat} {n : Nat} {ls : List V} (h : Spr G d ks n) (hl : G l = some (.lst ls)) (e : ExB l G G') : Spr G' d ks n := by
  obtain ⟨⟨kvs, a, b, c⟩, nd, lt⟩ := h
  refine ⟨⟨kvs, e _ _ (fun z => by rw [z, hl] at a; cases a) a, b, fun kv hk => ?_⟩, nd, lt⟩
  obtain ⟨t, xs, h1, h2, h3⟩ := c kv hk
  exact ⟨t, xs, h1, e.tup (boxL hl) h2, h3⟩
/-- the first entry -/
theorem Spr.one {G : Hp} {d t : Addr} {k n : Nat} (hd : G d = some (.dK [(kI k, .ref t)])) (ht : G t = some (.tup [])) (hk : k < n) : Spr G d [k] n :=
  ⟨⟨_, hd, rfl, fun kv h => ⟨t, [], by rw [List.mem_singleton.mp h], ht, Nat.lt_succ_self 0⟩⟩, List.nodup_cons.mpr ⟨List.not_mem_nil, List.nodup_nil⟩, fun x hx => by rw [List.mem_singleton.mp hx]; exact hk⟩
theorem Spr.get {G : Hp} {d : Addr} {ks : List Nat} {n k : Nat} (h : Spr G d ks n) (hk : k ∈ ks) : ∃ t xs, DGet G d (vN k) (some (.ref t)) ∧ G t = some (.tup xs) ∧ xs.length < ks.length := by
  obtain ⟨⟨kvs, a, b, c⟩, nd, lt⟩ := h
  have f := find_key (k := k) b
  rw [decide_eq_true hk] at f
  obtain ⟨v, hv⟩ := Option.isSome_iff_exists.mp f
  obtain ⟨t, xs, h1, h2, h3⟩ := c _ (valV_mem hv)
  have hl : kvs.length = ks.length := by
    have z := congrArg List.length b
    rw [List.length_map, List.length_map] at z
    exact z
  refine ⟨t, xs, .inl ⟨kvs, kI k, .inl a, rfl, ?_⟩, h2, by omega⟩
  rw [hv]
  exact congrArg some h1.symm
section
variable {K : PySem.W.Frag} {σ : Sg} {H H' : Hp} {ta tb te tx td ty tp tk : TE} {t u : TT} {D : Ends} {tu tw tz : TS} {d : Addr} {ks : List Nat} {n k y : Nat}
theorem ev_dnotin (hd : Ev td σ H (.ref d)) (hy : Ev ty σ H (vN k)) (h : Spr H d ks n) : Ev (tDNotIn ty td) σ H (.bl (!decide (k ∈ ks))) := fun H1 e Q q =>
  hy H1 e _ fun H2 e2 => hd H2 (e.trans e2) _ fun H3 e3 => by
    obtain ⟨kvs, a, b, c⟩ := h.ex
    refine ⟨d, _, rfl, .inl ⟨kvs, kI k, .inl (((e.trans e2).trans e3) _ _ a), rfl, rfl⟩, ?_⟩
    rw [find_key b]
    exact q H3 (e2.trans e3)
theorem ev_din (hd : Ev td σ H (.ref d)) (hy : Ev ty σ H (vN k)) (h : Spr H d ks n) : Ev (tDIn ty td) σ H (.bl (decide (k ∈ ks))) := fun H1 e Q q =>
  hy H1 e _ fun H2 e2 => hd H2 (e.trans e2) _ fun H3 e3 => by
    obtain ⟨kvs, a, b, c⟩ := h.ex
    refine ⟨d, _, rfl, .inl ⟨kvs, kI k, .inl (((e.trans e2).trans e3) _ _ a), rfl, rfl⟩, ?_⟩
    rw [find_key b]
    exact q H3 (e2.trans e3)
/-- found[y] = found[k] + (x,) -/
theorem q_sprPut {x : V} (hd : Ev td σ H (.ref d)) (hy : Ev ty σ H (vN y)) (hk : Ev tp σ H (vN k)) (hx : Ev tk σ H x) (h : Spr H d ks n) (mk : k ∈ ks) (my : ¬ y ∈ ks) (ly : y < n) (hn : n ≤ 100)
    (q : ∀ H2, ExB d H H2 → Spr H2 d (ks ++ [y]) n → tz D σ H2) : tSeq (sDPut td ty (tOp (rCatA K) (tDGet td tp) (tTup (tCons tk tNil)))) tz D σ H := by
  refine hd H (Ex.refl H) _ fun H1 e1 => hk H1 e1 _ fun H2 e2 => ?_
  have e12 := e1.trans e2
  obtain ⟨t, xs, g1, g2, g3⟩ := (h.up e12).get mk
  refine ⟨d, _, rfl, g1, ?_⟩
  refine hx H2 e12 _ fun H3 e3 => ⟨by show 1 ≤ sizeLine; decide, fun r hr => ?_⟩
  have e3' := e12.trans e3
  have e4 := e3'.trans (Ex.new (o := .tup [x]) hr)
  have hlen := h.len
  -- behind the value
  have fin : ∀ (G : Hp) (w : Addr) (ws : List V), Ex H G → G w = some (.tup ws) → ws.length < ks.length + 1 → td σ G fun x H2 => ty σ H2 fun y H3 => ∃ a H4, x = .ref a ∧ DPut H3 a y (.ref w) H4 ∧ tz D σ H4 := fun G w ws eG hw hl => by
    refine hd G eG _ fun G1 f1 => hy G1 (eG.trans f1) _ fun G2 f2 => ?_
    have eH := (eG.trans f1).trans f2
    obtain ⟨⟨kvs, a, b, c⟩, nd, lt⟩ := h.up eH
    have hkl : kvs.length = ks.length := by
      have z := congrArg List.length b
      rw [List.length_map, List.length_map] at z
      exact z
    have hno : valV kvs (kI y) = none := by
      have f := find_key (k := y) b
      rw [decide_eq_false my] at f
      cases z : valV kvs (kI y) with
      | none => rfl
      | some x =>
        have f' : (valV kvs (kI y)).isSome = false := f
        rw [z] at f'
        cases f'
    refine ⟨d, _, rfl, .inl ⟨kvs, kI y, a, rfl, sz_lt (by omega), rfl⟩, q _ ((ExB.of eH).trans ExB.put) ⟨⟨_, upd_same, ?_, fun kv hm => ?_⟩, ?_, fun x hx => ?_⟩⟩
    · rw [putK_new _ hno, List.map_append, List.map_append, b]
      rfl
    · have hle : kvs.length < (putK kvs (kI y) (V.ref w)).length := by
        rw [putK_len hno]
        omega
      rcases putK_mem hno hm with m | m
      · obtain ⟨t, xs, h1, h2, h3⟩ := c kv m
        exact ⟨t, xs, h1, ExB.put.tup (boxD a) h2, by omega⟩
      · rw [m]
        exact ⟨w, ws, rfl, ExB.put.tup (boxD a) ((f1.trans f2) _ _ hw), by rw [putK_len hno]; omega⟩
    · exact List.nodup_append.mpr ⟨nd, List.nodup_cons.mpr ⟨List.not_mem_nil, List.nodup_nil⟩, fun a ha b hb z => my (by rw [← List.mem_singleton.mp hb, ← z]; exact ha)⟩
    · rcases List.mem_append.mp hx with m | m
      · exact lt x m
      · rw [List.mem_singleton.mp m]
        exact ly
  refine ⟨t, r, xs, [x], rfl, rfl, st_of (Ex.new hr _ _ (e3 _ _ g2)), st_of upd_same, sz_of (by show xs.length + 1 ≤ 100000; omega), fun z => ?_, fun z z2 => (by cases z2), fun z _ w hw => ?_⟩
  · refine fin _ r [x] e4 upd_same ?_
    have : 0 < ks.length := by
      cases ks with
      | nil => cases mk
      | cons _ _ => exact Nat.succ_pos _
    show 1 < ks.length + 1
    omega
  · refine fin _ w (xs ++ [x]) (e4.trans (Ex.new hw)) upd_same ?_
    rw [List.length_append]
    show xs.length + 1 < _
    omega
end
/-- a display of one entry whose value is an empty tuple -/
theorem q_dispOne {σ : Sg} {H : Hp} {D : Ends} {tz : TS} {ta : TE} {k n j : Nat} (ha : Ev ta σ H (vN k)) (hk : k < n)
    (q : ∀ d H1, H d = none → Ex H H1 → Spr H1 d [k] n → tz D (σ.set j (some (.ref d))) H1) : tSeq (tAsg (tDisp [(ta, tTup tNil)]) (gName j)) tz D σ H := by
  intro d hd
  refine ha _ (Ex.new hd) _ fun H1 e1 => ⟨Nat.zero_le _, fun t ht => ?_⟩
  have hd1 := e1 _ _ (upd_same (H := H) (a := d) (o := .dK []))
  have hd2 := Ex.new (o := .tup []) ht _ _ hd1
  have ndt : d ≠ t := fun z => by rw [z, ht] at hd1; cases hd1
  refine ⟨hd2, [(kI k, .ref t)], rfl, by show 1 ≤ 15; decide, q d _ hd ?_ (Spr.one (t := t) upd_same (by rw [upd_ne ndt.symm]; exact upd_same) hk)⟩
  exact Ex.mut (((Ex.new hd).trans e1).trans (Ex.new ht)) hd
end FB
set_option Elab.async false
set_option linter.all false
set_option maxRecDepth 100000
set_option maxHeartbeats 4000000
/-! Walks: a route (numbers), the places before the last, the last. -/
namespace FB
open PySem
inductive Wlk (ss : List Stp) (p : Nat) : List Nat → List Nat → Nat → Prop
  | nil : Wlk ss p [] [] p
  | snoc {r ps : List Nat} {q k g : Nat} : Wlk ss p r ps q → (gl ss q)[k]? = some g → Wlk ss p (r ++ [k]) (ps ++ [q]) g
theorem Wlk.len {ss : List Stp} {p : Nat} {r ps : List Nat} {q : Nat} (h : Wlk ss p r ps q) : ps.length = r.length := by
  induction h with
  | nil => rfl
  | snoc _ _ ih => rw [List.length_append, List.length_append, ih]; rfl
theorem snoc_inj {α : Type} {a b : List α} {x y : α} (h : a ++ [x] = b ++ [y]) : a = b ∧ x = y := by
  have h1 := List.append_inj' h rfl
  exact ⟨h1.1, (List.cons.inj h1.2).1⟩
theorem Wlk.inv {ss : List Stp} {p : Nat} {r ps : List Nat} {k g : Nat} (h : Wlk ss p (r ++ [k]) ps g) : ∃ ps' q, Wlk ss p r ps' q ∧ (gl ss q)[k]? = some g ∧ ps = ps' ++ [q] := by
  generalize e : r ++ [k] = r' at h
  cases h with
  | nil => simp at e
  | snoc h1 h2 =>
    obtain ⟨rfl, rfl⟩ := snoc_inj e
    exact ⟨_, _, h1, h2, rfl⟩
theorem Wlk.inv0 {ss : List Stp} {p : Nat} {ps : List Nat} {g : Nat} (h : Wlk ss p [] ps g) : ps = [] ∧ g = p := by
  generalize e : ([] : List Nat) = r' at h
  cases h with
  | nil => exact ⟨rfl, rfl⟩
  | snoc h1 h2 => simp at e
theorem Wlk.det {ss : List Stp} {p : Nat} {r ps : List Nat} {q : Nat} (h : Wlk ss p r ps q) : ∀ {ps' : List Nat} {q' : Nat}, Wlk ss p r ps' q' → ps' = ps ∧ q' = q := by
  induction h with
  | nil => exact fun h' => h'.inv0
  | snoc h1 h2 ih =>
    intro ps' q' h'
    obtain ⟨ps2, q2, k1, k2, rfl⟩ := h'.inv
    obtain ⟨rfl, rfl⟩ := ih k1
    rw [h2] at k2
    exact ⟨rfl, (Option.some.inj k2).symm⟩
theorem Wlk.lt {ss : List Stp} (ok : Okp ss) {p : Nat} (hp : p < ss.length) {r ps : List Nat} {q : Nat} (h : Wlk ss p r ps q) : q < ss.length ∧ ∀ x ∈ ps, x < ss.length := by
  induction h with
  | nil => exact ⟨hp, fun x hx => by cases hx⟩
  | snoc h1 h2 ih =>
    refine ⟨gl_lt ok (List.mem_of_getElem? h2), fun x hx => ?_⟩
    rcases List.mem_append.mp hx with h | h
    · exact ih.2 x h
    · rw [List.mem_singleton.mp h]
      exact ih.1
/-- a place on the way is led to by a part of it -/
theorem Wlk.pre {ss : List Stp} {p : Nat} {r ps : List Nat} {q : Nat} (h : Wlk ss p r ps q) : ∀ x ∈ ps ++ [q], ∃ r' ps', Wlk ss p r' ps' x ∧ (ps' ++ [x]) <+: (ps ++ [q]) := by
  induction h with
  | nil =>
    intro x hx
    rw [List.mem_singleton.mp hx]
    exact ⟨[], [], .nil, List.prefix_rfl⟩
  | snoc h1 h2 ih =>
    intro x hx
    rcases List.mem_append.mp hx with h | h
    · obtain ⟨r', ps', w, pf⟩ := ih x h
      exact ⟨r', ps', w, pf.trans (List.prefix_append _ _)⟩
    · rw [List.mem_singleton.mp h]
      exact ⟨_, _, .snoc h1 h2, List.prefix_rfl⟩
theorem Wlk.rch {ss : List Stp} {p : Nat} {nm : Str} {r ps : List Nat} {q : Nat} (h : Wlk ss p r ps q) (hl : ∀ x ∈ ps, md ss x ≠ some nm) : Rch ss (some nm) p q := by
  induction h with
  | nil => exact .refl
  | snoc h1 h2 ih => exact .step (ih fun x hx => hl x (List.mem_append_left _ hx)) (.inr (hl _ (List.mem_append_right _ (List.mem_singleton.mpr rfl)))) (List.mem_of_getElem? h2)
theorem Rch.wlk {ss : List Stp} {p : Nat} {nm : Str} {q : Nat} (h : Rch ss (some nm) p q) : ∃ r ps, Wlk ss p r ps q ∧ (∀ x ∈ ps, md ss x ≠ some nm) ∧ (ps ++ [q]).Nodup := by
  induction h with
  | refl => exact ⟨[], [], .nil, fun x hx => (by cases hx), List.nodup_cons.mpr ⟨List.not_mem_nil, List.nodup_nil⟩⟩
  | @step q r h1 h2 h3 ih =>
    obtain ⟨rt, ps, w, hl, nd⟩ := ih
    have hq : md ss q ≠ some nm := by
      rcases h2 with h | h
      · cases h
      · exact h
    by_cases m : r ∈ ps ++ [q]
    · obtain ⟨r', ps', w', pf⟩ := w.pre r m
      refine ⟨r', ps', w', fun x hx => ?_, pf.sublist.nodup nd⟩
      have hx2 := pf.subset (List.mem_append_left _ hx)
      rcases List.mem_append.mp hx2 with z | z
      · exact hl x z
      · rw [List.mem_singleton.mp z]
        exact hq
    · obtain ⟨k, hk, e⟩ := List.getElem_of_mem h3
      refine ⟨_, _, .snoc w (k := k) (by rw [List.getElem?_eq_getElem hk, e]), fun x hx => ?_, ?_⟩
      · rcases List.mem_append.mp hx with z | z
        · exact hl x z
        · rw [List.mem_singleton.mp z]
          exact hq
      · exact List.nodup_append.mpr ⟨nd, List.nodup_cons.mpr ⟨List.not_mem_nil, List.nodup_nil⟩, fun a ha b hb z => m (by rw [← List.mem_singleton.mp hb, ← z]; exact ha)⟩
/-- wanted: led to a reader without leaving a maker -/
theorem wnt_of_rch {ss : List Stp} {x : Str} {p q : Nat} (h : Rch ss (some x) p q) : Wnt ss x q → Wnt ss x p := by
  induction h with
  | refl => exact id
  | step h1 h2 h3 ih =>
    intro w
    refine ih (.step ?_ h3 w)
    rcases h2 with h | h
    · cases h
    · exact h
theorem rch_cons {ss : List Stp} {nm : Option Str} {p q r : Nat} (h0 : nm = none ∨ md ss p ≠ nm) (hg : q ∈ gl ss p) (h : Rch ss nm q r) : Rch ss nm p r := by
  induction h with
  | refl => exact .step .refl h0 hg
  | step _ h2 h3 ih => exact .step ih h2 h3
theorem wnt_iff {ss : List Stp} {x : Str} {p : Nat} : Wnt ss x p ↔ ∃ q, Rch ss (some x) p q ∧ x ∈ rd ss q := by
  constructor
  · intro h
    induction h with
    | here h => exact ⟨_, .refl, h⟩
    | step h1 h2 _ ih =>
      obtain ⟨q, h3, h4⟩ := ih
      exact ⟨q, rch_cons (.inr h1) h2 h3, h4⟩
  · rintro ⟨q, h1, h2⟩
    exact wnt_of_rch h1 (.here h2)
/-- the same by routes of at most four ways -/
theorem wnt_wlk {ss : List Stp} (ok : Okp ss) {x : Str} {p : Nat} (hp : p < ss.length) : Wnt ss x p ↔ ∃ r ps q, Wlk ss p r ps q ∧ r.length ≤ 4 ∧ (∀ y ∈ ps, md ss y ≠ some x) ∧ x ∈ rd ss q := by
  rw [wnt_iff]
  constructor
  · rintro ⟨q, h1, h2⟩
    obtain ⟨r, ps, w, hl, nd⟩ := h1.wlk
    refine ⟨r, ps, q, w, ?_, hl, h2⟩
    have hlt := w.lt ok hp
    have hn := nodup_le ss.length _ nd fun y hy => by
      rcases List.mem_append.mp hy with z | z
      · exact hlt.2 y z
      · rw [List.mem_singleton.mp z]
        exact hlt.1
    rw [List.length_append] at hn
    have h4 := ok.hi
    have e := w.len
    have : ps.length + 1 ≤ ss.length := hn
    omega
  · rintro ⟨r, ps, q, w, _, hl, h2⟩
    exact ⟨q, w.rch hl, h2⟩
end FB
set_option Elab.async false
set_option linter.all false
set_option maxRecDepth 100000
set_option maxHeartbeats 4000000
/-! The kept facts: asked, put. -/
namespace FB
open PySem PySem.Spec PyProof.Rows L2 Evl
theorem rtd_of {G : Hp} {r : Addr} {ks : List Nat} {n : Nat} (h : Spr G r ks n) (hn : n ≤ 100) : ∃ kvs, G r = some (.dK kvs) ∧ RtD G kvs ks := by
  obtain ⟨kvs, a, b, c⟩ := h.ex
  have hl : kvs.length = ks.length := by
    have z := congrArg List.length b
    rw [List.length_map, List.length_map] at z
    exact z
  have := h.len
  exact ⟨kvs, a, b, fun kv m => by
    obtain ⟨t, xs, h1, h2, h3⟩ := c kv m
    exact ⟨t, xs, h1, h2, by omega⟩⟩
theorem PrF.upB {K : PySem.W.Frag} {H H' : Hp} {p a d l : Addr} {ss : List Stp} {xs : List V} (h : PrF K H p a d ss) (hl : H l = some (.lst xs)) (e : ExB l H H') : PrF K H' p a d ss → PrF K H' p a d ss := id
theorem PrF.put {K : PySem.W.Frag} {H : Hp} {p a d : Addr} {ss : List Stp} {kvs : List (Key × V)} {k : Key} {v : V} (s : PrS K H p a d ss) (hd : H d = some (.dK kvs)) (h : Facts H d ss kvs) (hn : valV kvs k = none) (hv : v ≠ V.ref d) (hk : k = kRoutes ∨ k = kWays ∨ k = kWanted)
    (ro : k = kRoutes → RoutesAt (upd H d (.dK (putK kvs k v))) v ss none 0) (wa : k = kWays → WaysAt (upd H d (.dK (putK kvs k v))) v ss) (to : k = kWanted → ToldAt (upd H d (.dK (putK kvs k v))) v ss) : PrF K (upd H d (.dK (putK kvs k v))) p a d ss :=
  ⟨s.upB hd ExB.put, _, upd_same, h.put hd hn hv hk ro wa to⟩
section
variable {K : PySem.W.Frag} {σ : Sg} {H H' : Hp} {ta tb te tx td ty tl : TE} {t u : TT} {D : Ends} {tu tw tz : TS} {d : Addr} {kvs : List (Key × V)} {k : Str} {v : V} {g : TG}
theorem ev_kNo (hd : Ev td σ H (.ref d)) (h : H d = some (.dK kvs)) : Ev (tDNotIn (tC (.str k)) td) σ H (.bl (!(valV kvs (Sum.inr k : Key)).isSome)) := fun H1 e Q q =>
  hd H1 e _ fun H2 e2 => ⟨d, _, rfl, .inl ⟨kvs, Sum.inr k, .inl ((e.trans e2) _ _ h), rfl, rfl⟩, q H2 e2⟩
theorem ev_kGet (hd : Ev td σ H (.ref d)) (h : H d = some (.dK kvs)) (hv : valV kvs (Sum.inr k : Key) = some v) : Ev (tDGet td (tC (.str k))) σ H v := fun H1 e Q q =>
  hd H1 e _ fun H2 e2 => ⟨d, v, rfl, .inl ⟨kvs, Sum.inr k, .inl ((e.trans e2) _ _ h), rfl, hv.symm⟩, q H2 e2⟩
theorem put_fact {M : Hp → Prop} (hd : Ev td σ H (.ref d)) (h : H d = some (.dK kvs)) (hl : kvs.length < 100) (m : ∀ H2, Ex H H2 → M (upd H2 d (.dK (putK kvs (Sum.inr k : Key) v)))) : td σ H fun x H2 => tC (.str k) σ H2 fun y H3 => ∃ a H4, x = .ref a ∧ DPut H3 a y v H4 ∧ M H4 :=
  hd H (Ex.refl H) _ fun H2 e2 => ⟨d, _, rfl, .inl ⟨kvs, Sum.inr k, e2 _ _ h, rfl, sz_lt (by omega), rfl⟩, m H2 e2⟩
theorem go_dput {tv : TE} (h : tv σ H fun v H1 => td σ H1 fun x H2 => ty σ H2 fun y H3 => ∃ a H4, x = .ref a ∧ DPut H3 a y v H4 ∧ D.nx σ H4) : sDPut td ty tv D σ H := h
theorem go_qdput {tv : TE} (h : tv σ H fun v H1 => td σ H1 fun x H2 => ty σ H2 fun y H3 => ∃ a H4, x = .ref a ∧ DPut H3 a y v H4 ∧ tz D σ H4) : tSeq (sDPut td ty tv) tz D σ H := h
/-- the source of a comprehension, of a for, worked out first -/
theorem go_lcE {te : TE} {vs : List Nat} {Q : VK} (h : tl σ H fun v H1 => tLc (iEnum K (tCons (tC v) tNil)) g t te vs σ H1 Q) : tLc (iEnum K (tCons tl tNil)) g t te vs σ H Q := h
theorem go_forS (h : tl σ H fun v H1 => tFor (iList K (tC v)) g tu D σ H1) : tFor (iList K tl) g tu D σ H := h
theorem go_qforS (h : tl σ H fun v H1 => tSeq (tFor (iList K (tC v)) g tu) tz D σ H1) : tSeq (tFor (iList K tl) g tu) tz D σ H := h
theorem go_qforE (h : tl σ H fun v H1 => tSeq (tFor (iEnum K (tCons (tC v) tNil)) g tu) tz D σ H1) : tSeq (tFor (iEnum K (tCons tl tNil)) g tu) tz D σ H := h
theorem el_lcELx {tl : TE} {i1 i2 : Nat} {a : Addr} {xs : List V} {vs : List Nat} (f : Nat → Bool) (v : Nat → V) (h : Ev tl σ H (.ref a)) (hx : H a = some (.lst xs)) (hz : xs.length ≤ 40000) (hw : ∀ x y, wipe (((wipe σ vs).set i1 x).set i2 y) vs = wipe σ vs)
    (ht : ∀ (i : Nat) (x : V) H1, Ex H H1 → xs[i]? = some x → EvT t (((wipe σ vs).set i1 (some (.int (i : Nat)))).set i2 (some x)) H1 (f i)) (he : ∀ (i : Nat) (x : V) H1, Ex H H1 → xs[i]? = some x → f i = true → Ev te (((wipe σ vs).set i1 (some (.int (i : Nat)))).set i2 (some x)) H1 (v i)) :
    EvL (tLc (iEnum K (tCons tl tNil)) (gTup K 2 (gCons (gName i1) (gCons (gName i2) gNil))) t te vs) σ H (given xs.length f v) := fun H0 e Q q => h H0 e _ fun H1 e1 =>
  ⟨a, xs, rfl, sq_of ((e.trans e1) _ _ hx), fun Dl hD => lc_it walk_enum (Cw H1 f v Dl) ⟨hD, Ex.new hD, upd_same⟩ (fun i H' _ p => ex_l p.2.1 (sq_of ((e.trans e1) _ _ hx))) (fun i v' G G' hi p y => by
    obtain ⟨T, x, y', rfl, hT, rfl, h1, h2⟩ := y
    obtain rfl : V.int (i : Nat) = x := Option.some.inj h1
    have p' : Cw H1 f v Dl i (upd G T (.tup [.int (i : Nat), y'])) := ⟨p.1, p.2.1.trans (Ex.new hT), Ex.new hT _ _ p.2.2⟩
    exact ⟨T, [.int (i : Nat), y'], rfl, st_of upd_same, rfl, .int (i : Nat), [y'], rfl, y', [], rfl, rfl, hw _ _, cw_turn p' (by omega) (ht i y' H1 (e.trans e1) h2) fun hf => he i y' H1 (e.trans e1) h2 hf⟩)
    fun H' p => q Dl H' (fresh_back e1 p.1) (e1.trans p.2.1) p.2.2⟩
theorem ev_dinR {r : Addr} {ks : List Nat} {n : Nat} (hd : Ev td σ H (.ref r)) (hy : Ev ty σ H (vN n)) (h : H r = some (.dK kvs)) (hr : RtD H kvs ks) : Ev (tDIn ty td) σ H (.bl (decide (n ∈ ks))) := fun H1 e Q q =>
  hy H1 e _ fun H2 e2 => hd H2 (e.trans e2) _ fun H3 e3 => by
    refine ⟨r, _, rfl, .inl ⟨kvs, Sum.inl (n : Int), .inl (((e.trans e2).trans e3) _ _ h), rfl, rfl⟩, ?_⟩
    rw [find_key hr.keys]
    exact q H3 (e2.trans e3)
end
theorem given_true (n : Nat) (v : Nat → V) : given n (fun _ => true) v = (List.range n).map v := by
  unfold given
  rw [List.filter_eq_self.mpr fun _ _ => rfl]
end FB
set_option Elab.async false
set_option linter.all false
set_option maxRecDepth 100000
set_option maxHeartbeats 4000000
/-! The lists of wanted names: what falls at each append; when they are closed. -/
namespace FB
open PySem PySem.Spec PyProof.Rows L2 Evl
theorem flt_le {α : Type} {A B : α → Bool} (h : ∀ x, A x = true → B x = true) : ∀ N : List α, (N.filter A).length ≤ (N.filter B).length
  | [] => Nat.le_refl _
  | y :: N => by
    have ih := flt_le h N
    rw [List.filter_cons, List.filter_cons]
    by_cases a : A y = true
    · rw [if_pos a, if_pos (h y a)]
      exact Nat.succ_le_succ ih
    · rw [if_neg a]
      split
      · exact Nat.le_succ_of_le ih
      · exact ih
theorem flt_lt {α : Type} {A B : α → Bool} (h : ∀ x, A x = true → B x = true) {x : α} (hb : B x = true) (ha : ¬ A x = true) : ∀ N : List α, x ∈ N → (N.filter A).length < (N.filter B).length
  | [], m => by cases m
  | y :: N, m => by
    rw [List.filter_cons, List.filter_cons]
    by_cases e : x = y
    · subst e
      rw [if_neg ha, if_pos hb]
      exact Nat.lt_succ_of_le (flt_le h N)
    · have m2 : x ∈ N := by
        rcases List.mem_cons.mp m with z | z
        · exact absurd z e
        · exact z
      have ih := flt_lt h hb ha N m2
      by_cases a : A y = true
      · rw [if_pos a, if_pos (h y a)]
        exact Nat.succ_lt_succ ih
      · rw [if_neg a]
        split
        · exact Nat.lt_succ_of_lt ih
        · exact ih
/-- how many of N are not in xs -/
def mu1 (N xs : List Str) : Nat := (N.filter fun x => !decide (x ∈ xs)).length
def mu (N : List Str) (F : List (List Str)) : Nat := (F.map (mu1 N)).sum
theorem mu1_lt {N xs : List Str} {x : Str} (hN : x ∈ N) (hx : ¬ x ∈ xs) : mu1 N (xs ++ [x]) < mu1 N xs := by
  refine flt_lt (x := x) (fun y hy => ?_) ?_ ?_ N hN
  · have h1 : ¬ y ∈ xs ++ [x] := by simpa using hy
    have h2 : ¬ y ∈ xs := fun z => h1 (List.mem_append_left _ z)
    simpa using h2
  · simpa using hx
  · simp
theorem mu1_le (N xs : List Str) : mu1 N xs ≤ N.length := List.length_filter_le _ _
theorem mu_set {N ys xp : List Str} : ∀ {F : List (List Str)} {p : Nat}, F[p]? = some xp → mu N (F.set p ys) + mu1 N xp = mu N F + mu1 N ys
  | [], p, h => by cases h
  | z :: F, 0, h => by
    obtain rfl := Option.some.inj h
    unfold mu
    rw [List.set_cons_zero, List.map_cons, List.map_cons, List.sum_cons, List.sum_cons]
    omega
  | z :: F, p + 1, h => by
    have ih := mu_set (N := N) (ys := ys) (xp := xp) (F := F) (p := p) h
    unfold mu at ih ⊢
    rw [List.set_cons_succ, List.map_cons, List.map_cons, List.sum_cons, List.sum_cons]
    omega
def allRd (ss : List Stp) : List Str := ss.flatMap Stp.reads
theorem allRd_in {ss : List Stp} {p : Nat} {x : Str} (h : x ∈ rd ss p) : x ∈ allRd ss := by
  unfold rd at h
  cases e : ss[p]? with
  | none => rw [e] at h; cases h
  | some s =>
    rw [e] at h
    exact List.mem_flatMap.mpr ⟨s, List.mem_of_getElem? e, h⟩
theorem allRd_len {n : Nat} : ∀ ss : List Stp, (∀ s ∈ ss, s.Ok n) → (allRd ss).length ≤ 2 * ss.length
  | [], _ => Nat.zero_le _
  | s :: ss, h => by
    have ih := allRd_len ss fun t ht => h t (List.mem_cons_of_mem _ ht)
    have h2 := (h s List.mem_cons_self).reads_len
    unfold allRd at ih ⊢
    rw [List.flatMap_cons, List.length_append, List.length_cons]
    omega
structure Snd (ss : List Stp) (F : List (List Str)) : Prop where
  len : F.length = ss.length
  want : ∀ (p : Nat) (xs : List Str), F[p]? = some xs → ∀ x ∈ xs, Wnt ss x p ∧ x ∈ allRd ss
  read : ∀ (p : Nat) (xs : List Str), F[p]? = some xs → ∀ x ∈ rd ss p, x ∈ xs
  fit : ∀ (p : Nat) (xs : List Str), F[p]? = some xs → xs.length + mu1 (allRd ss) xs ≤ 10
def Cls (ss : List Stp) (F : List (List Str)) : Prop := ∀ (p q : Nat), q ∈ gl ss p → ∀ (xp xq : List Str), F[p]? = some xp → F[q]? = some xq → ∀ x ∈ xq, md ss p ≠ some x → x ∈ xp
theorem Snd.init {ss : List Stp} (ok : Okp ss) : Snd ss (ss.map Stp.reads) where
  len := List.length_map _
  want := fun p xs h x hx => by
    rw [List.getElem?_map] at h
    cases e : ss[p]? with
    | none => rw [e] at h; cases h
    | some s =>
      rw [e] at h
      obtain rfl := Option.some.inj h
      have hr : x ∈ rd ss p := by rw [rd_of e]; exact hx
      exact ⟨.here hr, allRd_in hr⟩
  read := fun p xs h x hx => by
    rw [List.getElem?_map] at h
    cases e : ss[p]? with
    | none => rw [e] at h; cases h
    | some s =>
      rw [e] at h
      obtain rfl := Option.some.inj h
      rw [rd_of e] at hx
      exact hx
  fit := fun p xs h => by
    rw [List.getElem?_map] at h
    cases e : ss[p]? with
    | none => rw [e] at h; cases h
    | some s =>
      rw [e] at h
      obtain rfl := Option.some.inj h
      have h1 := (ok.at e).reads_len
      have h2 := mu1_le (allRd ss) s.reads
      have h3 := allRd_len ss ok.ok
      have h4 := ok.hi
      omega
theorem Snd.put {ss : List Stp} {F : List (List Str)} {p q : Nat} {x : Str} {xp xq : List Str} (h : Snd ss F) (hp : F[p]? = some xp) (hq : F[q]? = some xq) (hx : x ∈ xq) (hm : md ss p ≠ some x) (hg : q ∈ gl ss p) (hn : ¬ x ∈ xp) : Snd ss (F.set p (xp ++ [x])) ∧ mu (allRd ss) (F.set p (xp ++ [x])) < mu (allRd ss) F := by
  obtain ⟨w1, w2⟩ := h.want q xq hq x hx
  have l1 := mu1_lt w2 hn
  have l2 := mu_set (N := allRd ss) (ys := xp ++ [x]) hp
  refine ⟨⟨by rw [List.length_set]; exact h.len, fun p' xs h' y hy => ?_, fun p' xs h' y hy => ?_, fun p' xs h' => ?_⟩, by omega⟩
  · by_cases e : p = p'
    · subst e
      rw [List.getElem?_set_self (List.getElem?_eq_some_iff.mp hp).1] at h'
      obtain rfl := Option.some.inj h'
      rcases List.mem_append.mp hy with z | z
      · exact h.want p xp hp y z
      · rw [List.mem_singleton.mp z]
        exact ⟨.step hm hg w1, w2⟩
    · rw [List.getElem?_set_ne e] at h'
      exact h.want p' xs h' y hy
  · by_cases e : p = p'
    · subst e
      rw [List.getElem?_set_self (List.getElem?_eq_some_iff.mp hp).1] at h'
      obtain rfl := Option.some.inj h'
      exact List.mem_append_left _ (h.read p xp hp y hy)
    · rw [List.getElem?_set_ne e] at h'
      exact h.read p' xs h' y hy
  · by_cases e : p = p'
    · subst e
      rw [List.getElem?_set_self (List.getElem?_eq_some_iff.mp hp).1] at h'
      obtain rfl := Option.some.inj h'
      have := h.fit p xp hp
      rw [List.length_append]
      show xp.length + 1 + _ ≤ 10
      omega
    · rw [List.getElem?_set_ne e] at h'
      exact h.fit p' xs h'
theorem Cls.all {ss : List Stp} (ok : Okp ss) {F : List (List Str)} (h : Snd ss F) (c : Cls ss F) {x : Str} {p : Nat} (w : Wnt ss x p) : ∀ xs, F[p]? = some xs → x ∈ xs := by
  induction w with
  | here h1 => exact fun xs hx => h.read _ xs hx _ h1
  | @step p q h1 h2 _ ih =>
    intro xs hx
    have hq := gl_lt ok h2
    rw [← h.len] at hq
    have e := List.getElem?_eq_getElem hq
    exact c p q h2 xs _ hx e x (ih _ e) h1
/-- the program stays where a list of texts changes, if it has a way -/
theorem PrF.str {K : PySem.W.Frag} {G : Hp} {p a d l : Addr} {ss : List Stp} {xs : List Str} {o : HO} (h : PrF K G p a d ss) (hl : G l = some (.lst (xs.map V.str))) (hg : ∃ p' q', q' ∈ gl ss p') : PrF K (upd G l o) p a d ss := by
  obtain ⟨⟨⟨dx, ho⟩, st, ok⟩, kvs, hd, hf⟩ := h
  have b := boxL hl
  have e : ExB l G (upd G l o) := ExB.put
  have nr : ∀ {vs : List V} {us : List V}, vs = xs.map V.str → (∃ w ∈ vs, ∃ t, w = V.ref t) → False := fun hv ⟨w, hw, t, ht⟩ => by
    rw [hv] at hw
    obtain ⟨y, _, hy⟩ := List.mem_map.mp hw
    rw [ht] at hy
    cases hy
  refine ⟨⟨⟨dx, e _ _ (fun z => by rw [z, hl] at ho; cases ho) ho⟩, st.upB e b, ok⟩, kvs, e _ _ (fun z => by rw [z, hl] at hd; cases hd) hd, hf.len, hf.ne, fun v q => ?_, fun v q => ?_, fun v q => ?_⟩
  · obtain ⟨r, k2, ks, rfl, h1, h2, h3⟩ := hf.ro v q
    exact ⟨r, k2, ks, rfl, e _ _ (fun z => by rw [z, hl] at h1; cases h1) h1, h2.upB e b, h3⟩
  · obtain ⟨r, vs, ws, rfl, h1, h2, h3⟩ := hf.wa v q
    refine ⟨r, vs, ws, rfl, e _ _ (fun z => ?_) h1, prd_imp (fun _ _ => TriAt.upB e b) h2, h3⟩
    rw [z, hl] at h1
    have hv : vs = xs.map V.str := by injection h1 with h1; injection h1 with h1; exact h1.symm
    obtain ⟨p', q', hq⟩ := hg
    obtain ⟨k, hk⟩ := h3.full p' q' hq
    obtain ⟨i, hi, e2⟩ := List.getElem_of_mem hk
    obtain ⟨w, hw, t, ht, _⟩ := prd_get h2 (List.getElem?_eq_getElem hi)
    exact nr (us := vs) hv ⟨w, List.mem_of_getElem? hw, t, ht⟩
  · obtain ⟨r, vs, ws, rfl, h1, h2, h3⟩ := hf.to v q
    refine ⟨r, vs, ws, rfl, e _ _ (fun z => ?_) h1, prd_imp (fun _ _ => TupS.upB e b) h2, h3⟩
    rw [z, hl] at h1
    have hv : vs = xs.map V.str := by injection h1 with h1; injection h1 with h1; exact h1.symm
    have h0 : 0 < ws.length := by rw [h3.len]; exact ok.lo
    obtain ⟨w, hw, t, ht, _⟩ := prd_get h2 (List.getElem?_eq_getElem h0)
    exact nr (us := vs) hv ⟨w, List.mem_of_getElem? hw, t, ht⟩
/-- the list of lists -/
structure FndI (D : Addr) (ls : List Addr) (G : Hp) (F : List (List Str)) : Prop where
  li : G D = some (.lst (ls.map V.ref))
  len : ls.length = F.length
  it : ∀ (k : Nat) (a : Addr) (xs : List Str), ls[k]? = some a → F[k]? = some xs → G a = some (.lst (xs.map V.str))
theorem FndI.up {D : Addr} {ls : List Addr} {G G' : Hp} {F : List (List Str)} (h : FndI D ls G F) (e : Ex G G') : FndI D ls G' F := ⟨e _ _ h.li, h.len, fun k a xs h1 h2 => e _ _ (h.it k a xs h1 h2)⟩
theorem FndI.upB {D : Addr} {ls : List Addr} {d : Addr} {G G' : Hp} {F : List (List Str)} {kvs : List (Key × V)} (h : FndI D ls G F) (hd : G d = some (.dK kvs)) (e : ExB d G G') : FndI D ls G' F :=
  ⟨e _ _ (fun z => by have := h.li; rw [z, hd] at this; cases this) h.li, h.len, fun k a xs h1 h2 => e _ _ (fun z => by have := h.it k a xs h1 h2; rw [z, hd] at this; cases this) (h.it k a xs h1 h2)⟩
theorem str_inj {xs ys : List Str} (h : xs.map V.str = ys.map V.str) : xs = ys := by
  induction xs generalizing ys with
  | nil =>
    cases ys with
    | nil => rfl
    | cons y ys => cases h
  | cons x xs ih =>
    cases ys with
    | nil => cases h
    | cons y ys =>
      rw [List.map_cons, List.map_cons] at h
      obtain ⟨h1, h2⟩ := List.cons.inj h
      rw [ih h2]
      injection h1 with h1
      rw [h1]
theorem FndI.put {D : Addr} {ls : List Addr} {G : Hp} {F : List (List Str)} {p : Nat} {a : Addr} {ys : List Str} (h : FndI D ls G F) (nd : ls.Nodup) (nD : ¬ D ∈ ls) (hp : ls[p]? = some a) : FndI D ls (upd G a (.lst (ys.map V.str))) (F.set p ys) := by
  have hpl := (List.getElem?_eq_some_iff.mp hp).1
  refine ⟨?_, by rw [List.length_set]; exact h.len, fun k b xs h1 h2 => ?_⟩
  · rw [upd_ne (fun z => nD (by rw [z]; exact List.mem_of_getElem? hp))]
    exact h.li
  · by_cases e : p = k
    · subst e
      rw [hp] at h1
      obtain rfl := Option.some.inj h1
      rw [List.getElem?_set_self (by rw [← h.len]; exact hpl)] at h2
      obtain rfl := Option.some.inj h2
      exact upd_same
    · rw [List.getElem?_set_ne e] at h2
      have nba : b ≠ a := fun z => by
        subst z
        obtain ⟨k1, e1⟩ := List.getElem?_eq_some_iff.mp h1
        obtain ⟨k2, e2⟩ := List.getElem?_eq_some_iff.mp hp
        exact e ((List.getElem_inj nd).mp (e2.trans e1.symm))
      rw [upd_ne nba]
      exact h.it k b xs h1 h2
end FB
set_option Elab.async false
set_option linter.all false
set_option maxRecDepth 100000
set_option maxHeartbeats 4000000
namespace FB
open PySem PySem.Spec PyProof.Rows L2 Evl
open C8 (Cal Mak pe_c pe_mk pe_gc)
section
variable {P : Program} {w : World} {K : PySem.W.Frag} {mg : Str → Option Value} {base : Heap}
def sp_is_integer (K : PySem.W.Frag) : Sp := fun vs H Q _ => ∃ i : Int, vs = [.int i] ∧ ∀ H', Ex H H' → Q (.bl true) H'
theorem v_is_integer {H : Hp} {i : Int} : SpV (sp_is_integer K) [.int i] H (.bl true) := fun H1 e Q q E => ⟨i, rfl, fun H2 e2 => q H2 e2⟩
abbrev n_is_integer : List Str := ["thing"]
theorem sc_is_integer : FnScope n_is_integer ["thing"] (defScope s_is_integer) := ⟨rfl, rfl, rfl, by decide +kernel, rfl, by decide +kernel, by decide +kernel⟩
theorem c_is_integer (T : Tx K mg) : Cal P w K mg base 1 "is_integer" (sp_is_integer K) [] := by
  refine calOf T 0 rfl rfl sc_is_integer (fun _ _ _ _ _ _ us hl => match us, hl with | [_], _ => rfl) (fun vs H Q E h => ?_) (fun cdv A outer s H vs Q E hr h => ?_)
  · obtain ⟨_, rfl, _⟩ := h
    rfl
  · obtain ⟨i, rfl, q⟩ := h
    refine ⟨_, (pss_one (ps_ret (pe_and (pe_callB (xc_isi (K := K)) rfl T.f_isinstance (by decide +kernel) (pa_cons (pv 0) (pa_cons (pe_bltn (v := .ty "int") rfl T.f_int (by decide +kernel) rfl) pa_nil))) (pe_one (pe_not (pe_callB (xc_isi (K := K)) rfl T.f_isinstance (by decide +kernel) (pa_cons (pv 0) (pa_cons (pe_bltn (v := .ty "bool") rfl T.f_bool (by decide +kernel) rfl) pa_nil)))))))), ?_⟩
    exact s_ret (ev_is (ev_andV (ev_isiI (ev_var rfl) k_ii) fun _ => ev_notV (ev_isiI (ev_var rfl) k_ib)) rfl) q

end
end FB
set_option Elab.async false
set_option linter.all false
set_option maxRecDepth 100000
set_option maxHeartbeats 4000000
namespace FB
open PySem PySem.Spec PyProof.Rows L2 Evl
open C8 (Cal Mak pe_c pe_mk pe_gc)
section
variable {P : Program} {w : World} {K : PySem.W.Frag} {mg : Str → Option Value} {base : Heap}
/-- whether the int i is a place below n -/
abbrev inR (i n : Int) : Bool := decide (0 ≤ i) && decide (i < n)
def sp_is_index (K : PySem.W.Frag) : Sp := fun vs H Q _ => ∃ i n : Int, vs = [.int i, .int n] ∧ ∀ H', Ex H H' → Q (.bl (inR i n)) H'
theorem v_is_index {H : Hp} {i n : Int} : SpV (sp_is_index K) [.int i, .int n] H (.bl (inR i n)) := fun H1 e Q q E => ⟨i, n, rfl, fun H2 e2 => q H2 e2⟩
abbrev n_is_index : List Str := ["thing", "many"]
theorem sc_is_index : FnScope n_is_index ["thing", "many"] (defScope s_is_index) := ⟨rfl, rfl, rfl, by decide +kernel, rfl, by decide +kernel, by decide +kernel⟩
theorem c_is_index (T : Tx K mg) : Cal P w K mg base 2 "is_index" (sp_is_index K) [] := by
  have k_is_integer := c_is_integer (P := P) (w := w) (base := base) T
  refine calOf T 2 rfl rfl sc_is_index (fun _ _ _ _ _ _ us hl => match us, hl with | [_, _], _ => rfl) (fun vs H Q E h => ?_) (fun cdv A outer s H vs Q E hr h => ?_)
  · obtain ⟨_, _, rfl, _⟩ := h
    rfl
  · obtain ⟨i, n, rfl, q⟩ := h
    refine ⟨_, (pss_one (ps_ret (pe_and (pe_c k_is_integer hr (by decide) rfl (pa_cons (pv 0) pa_nil)) (pe_one (pe_chain op_le op_lt pe_int (pv 0) (pv 1)))))), ?_⟩
    refine s_ret (ev_is (ev_andV (ev_c1 (ev_var rfl) v_is_integer) fun _ => ev_chain ev_c (ev_var rfl) rv_I0 (fun _ => ev_var rfl) fun _ => rv_I0) ?_) q
    rfl

end
end FB
set_option Elab.async false
set_option linter.all false
set_option maxRecDepth 100000
set_option maxHeartbeats 4000000
namespace FB
open PySem PySem.Spec PyProof.Rows L2 Evl
open C8 (Cal Mak pe_c pe_mk pe_gc)
section
variable {P : Program} {w : World} {K : PySem.W.Frag} {mg : Str → Option Value} {base : Heap}
def sp_check_place (K : PySem.W.Frag) : Sp := fun vs H Q _ => ∃ (p a d : Addr) (ss : List Stp) (i : Nat), vs = [.ref p, vN i] ∧ PrS K H p a d ss ∧ i < ss.length ∧ ∀ H', Ex H H' → Q .non H'
theorem v_check_place {H : Hp} {p a d : Addr} {ss : List Stp} {i : Nat} (h : PrS K H p a d ss) (hi : i < ss.length) : SpV (sp_check_place K) [.ref p, vN i] H .non := fun H1 e Q q E => ⟨p, a, d, ss, i, rfl, h.up e, hi, fun H2 e2 => q H2 e2⟩
theorem inR_yes {i n : Nat} (h : i < n) : inR (i : Int) (n : Int) = true := by
  unfold inR
  rw [decide_eq_true (show (0 : Int) ≤ (i : Int) by omega), decide_eq_true (show (i : Int) < (n : Int) by omega)]
  rfl
/-- program.kept_steps, its length, its items -/
theorem ev_ks {σ : Sg} {H : Hp} {te : TE} {p a d : Addr} {ss : List Stp} (T : Tx K mg) (h : Ev te σ H (.ref p)) (hp : PrS K H p a d ss) : Ev (tFld K te "kept_steps") σ H (.ref a) := by
  obtain ⟨dx, o⟩ := hp.ob
  exact ev_fld h o T.cls T.nK (flds_ks a d)
theorem ev_kf {σ : Sg} {H : Hp} {te : TE} {p a d : Addr} {ss : List Stp} (T : Tx K mg) (h : Ev te σ H (.ref p)) (hp : PrS K H p a d ss) : Ev (tFld K te "kept_facts") σ H (.ref d) := by
  obtain ⟨dx, o⟩ := hp.ob
  exact ev_fld h o T.cls T.nF (flds_kf a d)
theorem ev_ksLen {σ : Sg} {H : Hp} {te : TE} {p a d : Addr} {ss : List Stp} (T : Tx K mg) (h : Ev te σ H (.ref p)) (hp : PrS K H p a d ss) : Ev (tCB (rLenS K) (tCons (tFld K te "kept_steps") tNil)) σ H (vN ss.length) := by
  obtain ⟨vs, hv, pr⟩ := hp.st
  exact ev_is (ev_lenE (ev_ks T h hp) (.inr (st_of hv))) (by rw [pr.length])
abbrev n_check_place : List Str := ["program", "place"]
theorem sc_check_place : FnScope n_check_place ["program", "place"] (defScope s_check_place) := ⟨rfl, rfl, rfl, by decide +kernel, rfl, by decide +kernel, by decide +kernel⟩
theorem c_check_place (T : Tx K mg) : Cal P w K mg base 3 "check_place" (sp_check_place K) [] := by
  have k_is_index := c_is_index (P := P) (w := w) (base := base) T
  refine calOf T 3 rfl rfl sc_check_place (fun _ _ _ _ _ _ us hl => match us, hl with | [_, _], _ => rfl) (fun vs H Q E h => ?_) (fun cdv A outer s H vs Q E hr h => ?_)
  · obtain ⟨_, _, _, _, _, rfl, _⟩ := h
    rfl
  · obtain ⟨p, a, d, ss, i, rfl, hp, hi, q⟩ := h
    refine ⟨_, (pss_one (ps_if (pt_not (pt_val (pe_c k_is_index hr (by decide) rfl (pa_cons (pv 1) (pa_cons (pe_callB (xc_len (K := K)) rfl T.f_len (by decide +kernel) (pa_cons (x_fld (K := K) (pv 0)) pa_nil)) pa_nil)))))
          ((pss_one ps_never))
          (pss_nil))), ?_⟩
    exact s_no (et_not (et_val (ev_is (ev_c2 (ev_var rfl) (ev_ksLen T (ev_var rfl) hp) v_is_index) (congrArg V.bl (inR_yes hi))))) q

end
end FB
set_option Elab.async false
set_option linter.all false
set_option maxRecDepth 100000
set_option maxHeartbeats 4000000
namespace FB
open PySem PySem.Spec PyProof.Rows L2 Evl
open C8 (Cal Mak pe_c pe_mk pe_gc)
section
variable {P : Program} {w : World} {K : PySem.W.Frag} {mg : Str → Option Value} {base : Heap}
def sp_is_name (K : PySem.W.Frag) : Sp := fun vs H Q _ => ∃ x : Str, vs = [.str x] ∧ Nm x ∧ ∀ H', Ex H H' → Q (.bl true) H'
theorem v_is_name {H : Hp} {x : Str} (hx : Nm x) : SpV (sp_is_name K) [.str x] H (.bl true) := fun H1 e Q q E => ⟨x, rfl, hx, fun H2 e2 => q H2 e2⟩
theorem ev_inSg {σ : Sg} {H : Hp} {ta tb : TE} {c : Nat} {z : Str} (ha : Ev ta σ H (.str ⟨#[c]⟩)) (hb : Ev tb σ H (.str z)) : Ev (tOp rInSg ta tb) σ H (.bl (decide (c ∈ z.cps.toList))) :=
  ev_op ha hb fun H1 _ Q q => ⟨c, z, rfl, rfl, q H1 (Ex.refl H1)⟩
/-- all the signs of a text lie in another -/
theorem el_signs {σ : Sg} {H : Hp} {te tx : TE} {j : Nat} {z : Str} (he : Ev te σ H (.str z)) (hx : ∀ (c : Nat) (σ' : Sg) H1, Ex H H1 → σ' = (wipe σ [j]).set j (some (.str ⟨#[c]⟩)) → c ∈ z.cps.toList → Ev tx σ' H1 (.bl true))
    (hw : ∀ v, wipe ((wipe σ [j]).set j (some v)) [j] = wipe σ [j]) (hz : z.cps.size ≤ 100) : EvL (tLc (iStr te) (gName j) tYes tx [j]) σ H (given z.cps.size (fun _ => true) fun _ => V.bl true) := fun H0 e Q q => he H0 e _ fun H1 e1 => ⟨z, rfl, fun D hD =>
  lc_it walk_str (Cw H1 (fun _ => true) (fun _ => .bl true) D) ⟨hD, Ex.new hD, upd_same⟩ (fun _ _ _ _ => trivial) (fun i x H2 H3 hi p y => by
    obtain ⟨rfl, c, hc, rfl⟩ := y
    exact ⟨hw _, cw_turn p (by omega) et_yes fun _ => hx c _ H1 (e.trans e1) rfl (List.mem_of_getElem? (by rw [Array.getElem?_toList]; exact hc))⟩) fun H' p => q D H' (fresh_back e1 p.1) (e1.trans p.2.1) p.2.2⟩
theorem all_given (n : Nat) (f b : Nat → Bool) : given n f (fun i => V.bl (b i)) = (((List.range n).filter f).map b).map V.bl := by
  unfold given
  rw [List.map_map]
  rfl
abbrev n_is_name : List Str := ["thing", "sign"]
theorem sc_is_name : FnScope n_is_name ["thing"] (defScope s_is_name) := ⟨rfl, rfl, rfl, by decide +kernel, rfl, by decide +kernel, by decide +kernel⟩
theorem c_is_name (T : Tx K mg) : Cal P w K mg base 1 "is_name" (sp_is_name K) [] := by
  refine calOf T 1 rfl rfl sc_is_name (fun _ _ _ _ _ _ us hl => match us, hl with | [_], _ => rfl) (fun vs H Q E h => ?_) (fun cdv A outer s H vs Q E hr h => ?_)
  · obtain ⟨_, rfl, _⟩ := h
    rfl
  · obtain ⟨x, rfl, hx, q⟩ := h
    have hz : x.length ≤ 100000 := Nat.le_trans hx.hi (by decide)
    have h1 : decide ((1 : Int) ≤ (x.length : Int)) = true := decide_eq_true (by have := hx.lo; omega)
    have h2 : decide ((x.length : Int) ≤ 8) = true := decide_eq_true (by have := hx.hi; omega)
    refine ⟨_, (pss_cons (ps_if (PW.pt (pw_or (pt_not (pt_val (pe_callB (xc_isi (K := K)) rfl T.f_isinstance (by decide +kernel) (pa_cons (pv 0) (pa_cons (pe_bltn (v := .ty "str") rfl T.f_str (by decide +kernel) rfl) pa_nil))))) (pw_or1 (pt_not (pt_chain op_le op_le pe_int (pe_callB xc_lenT rfl T.f_len (by decide +kernel) (pa_cons (pv 0) pa_nil)) (pe_gc rfl T.gMOST_LETTERS))))))
          ((pss_one (ps_ret pe_bl)))
          (pss_nil))
      (pss_one (ps_ret (pe_callB (xc_all (K := K) rfl) rfl T.f_all (by decide +kernel) (pa_cons (pe_lc (g := gName 1) (tt := tYes) (own := [("sign", 1)]) rfl sc_is_name.nd (pi_str (pv 0)) (blkOk_by (own := [("sign", 1)]) (N := n_is_name) (sc := defScope s_is_name) (by decide +kernel)) (fun _ _ _ _ _ => (pg_name (i := 1) sc_is_name.nd rfl (.inl rfl))) (fun _ _ _ _ _ => pts_nil) (fun _ _ _ _ _ => (pe_cmpR xo_inSg (pv 1) (pe_gc rfl T.gLETTERS) rfl))) pa_nil))))), ?_⟩
    refine q_no (et_is (et_or (et_not (et_val (ev_isiS (ev_var rfl) k_strs))) fun _ => et_not (et_test (ev_chain ev_c (ev_lenTx (ev_var rfl) hz) rv_I0 (fun _ => ev_c) fun _ => rv_I0))) ?_) fun H1 e1 => ?_
    · rw [h1, h2]
      rfl
    refine s_ret (ev_is (ev_all (bs := ((List.range x.cps.size).filter fun _ => true).map fun _ => true) ?_) ?_) fun H2 e2 => q H2 (e1.trans e2)
    · rw [← all_given x.cps.size (fun _ => true) fun _ => true]
      refine el_signs (ev_var rfl) (fun c σ' H2 e2 hσ hc => ?_) (fun v => rfl) (Nat.le_trans hx.hi (by decide))
      subst hσ
      exact ev_is (ev_inSg (ev_var rfl) ev_c) (congrArg V.bl (decide_eq_true (hx.abc c hc)))
    · simp

end
end FB
set_option Elab.async false
set_option linter.all false
set_option maxRecDepth 100000
set_option maxHeartbeats 4000000
namespace FB
open PySem PySem.Spec PyProof.Rows L2 Evl
open C8 (Cal Mak pe_c pe_mk pe_gc)
section
variable {P : Program} {w : World} {K : PySem.W.Frag} {mg : Str → Option Value} {base : Heap}
def sp_are_places (K : PySem.W.Frag) : Sp := fun vs H Q _ => ∃ (v : V) (gs : List Nat) (n : Nat), vs = [v, vN n] ∧ TupI H v gs ∧ 2 ≤ gs.length ∧ gs.length ≤ 3 ∧ (∀ g ∈ gs, g < n) ∧ ∀ H', Ex H H' → Q (.bl true) H'
theorem v_are_places {H : Hp} {v : V} {gs : List Nat} {n : Nat} (h : TupI H v gs) (h1 : 2 ≤ gs.length) (h2 : gs.length ≤ 3) (h3 : ∀ g ∈ gs, g < n) : SpV (sp_are_places K) [v, vN n] H (.bl true) := fun H1 e Q q E => ⟨v, gs, n, rfl, h.up e, h1, h2, h3, fun H2 e2 => q H2 e2⟩
abbrev n_are_places : List Str := ["thing", "many", "place"]
theorem sc_are_places : FnScope n_are_places ["thing", "many"] (defScope s_are_places) := ⟨rfl, rfl, rfl, by decide +kernel, rfl, by decide +kernel, by decide +kernel⟩
theorem c_are_places (T : Tx K mg) : Cal P w K mg base 3 "are_places" (sp_are_places K) [] := by
  have k_is_index := c_is_index (P := P) (w := w) (base := base) T
  refine calOf T 20 rfl rfl sc_are_places (fun _ _ _ _ _ _ us hl => match us, hl with | [_, _], _ => rfl) (fun vs H Q E h => ?_) (fun cdv A outer s H vs Q E hr h => ?_)
  · obtain ⟨_, _, _, rfl, _⟩ := h
    rfl
  · obtain ⟨v, gs, n, rfl, ⟨a, rfl, ho⟩, h1, h2, h3, q⟩ := h
    have hl : (gs.map vN).length = gs.length := List.length_map _
    have d1 : decide ((2 : Int) ≤ ((gs.map vN).length : Int)) = true := decide_eq_true (by rw [hl]; omega)
    have d2 : decide (((gs.map vN).length : Int) ≤ 3) = true := decide_eq_true (by rw [hl]; omega)
    refine ⟨_, (pss_one (ps_ret (pe_and (pe_callB (xc_isi (K := K)) rfl T.f_isinstance (by decide +kernel) (pa_cons (pv 0) (pa_cons (pe_bltn (v := .ty "tuple") rfl T.f_tuple (by decide +kernel) rfl) pa_nil))) (pe_and (pe_chain op_le op_le pe_int (pe_callB (xc_len (K := K)) rfl T.f_len (by decide +kernel) (pa_cons (pv 0) pa_nil)) pe_int) (pe_one (pe_callB (xc_all (K := K) rfl) rfl T.f_all (by decide +kernel) (pa_cons (pe_lc (g := gName 2) (tt := tYes) (own := [("place", 2)]) rfl sc_are_places.nd (x_tup (K := K) (pv 0)) (blkOk_by (own := [("place", 2)]) (N := n_are_places) (sc := defScope s_are_places) (by decide +kernel)) (fun _ _ _ _ _ => (pg_name (i := 2) sc_are_places.nd rfl (.inl rfl))) (fun _ _ _ _ _ => pts_nil) (fun _ _ _ _ _ => (pe_c k_is_index hr (by decide) rfl (pa_cons (pv 2) (pa_cons (pv 1) pa_nil))))) pa_nil))))))), ?_⟩
    refine s_ret (ev_is (ev_andV (ev_isiT (ev_var rfl) ho k_tups) fun _ => ev_andV (ev_chain ev_c (ev_lenE (ev_var rfl) (.inr (st_of ho))) rv_I0 (fun _ => ev_c) fun _ => rv_I0) fun _ =>
      ev_all (bs := ((List.range (gs.map vN).length).filter fun _ => true).map fun _ => true) ?_) ?_) q
    · rw [← all_given (gs.map vN).length (fun _ => true) fun _ => true]
      refine el_lcT (fun _ => true) (fun _ => .bl true) (ev_var rfl) (st_of ho) (by rw [hl]; omega) (fun _ => rfl) (fun i x H1 e hi => et_yes) fun i x H1 e hi _ => ?_
      obtain ⟨g, hg, rfl⟩ := List.mem_map.mp (List.mem_of_getElem? hi)
      exact ev_is (ev_c2 (ev_var rfl) (ev_var rfl) v_is_index) (congrArg V.bl (inR_yes (h3 g hg)))
    · rw [d1, d2]
      simp

end
end FB
set_option Elab.async false
set_option linter.all false
set_option maxRecDepth 100000
set_option maxHeartbeats 4000000
namespace FB
open PySem PySem.Spec PyProof.Rows L2 Evl
open C8 (Cal Mak pe_c pe_mk pe_gc)
section
variable {P : Program} {w : World} {K : PySem.W.Frag} {mg : Str → Option Value} {base : Heap}
def sp_are_reads (K : PySem.W.Frag) : Sp := fun vs H Q _ => ∃ (v : V) (rs : List Str), vs = [v] ∧ TupS H v rs ∧ rs.length ≤ 2 ∧ (∀ r ∈ rs, Nm r) ∧ ∀ H', Ex H H' → Q (.bl true) H'
theorem v_are_reads {H : Hp} {v : V} {rs : List Str} (h : TupS H v rs) (h2 : rs.length ≤ 2) (h3 : ∀ r ∈ rs, Nm r) : SpV (sp_are_reads K) [v] H (.bl true) := fun H1 e Q q E => ⟨v, rs, rfl, h.up e, h2, h3, fun H2 e2 => q H2 e2⟩
abbrev n_are_reads : List Str := ["thing", "name"]
theorem sc_are_reads : FnScope n_are_reads ["thing"] (defScope s_are_reads) := ⟨rfl, rfl, rfl, by decide +kernel, rfl, by decide +kernel, by decide +kernel⟩
theorem c_are_reads (T : Tx K mg) : Cal P w K mg base 2 "are_reads" (sp_are_reads K) [] := by
  have k_is_name := c_is_name (P := P) (w := w) (base := base) T
  refine calOf T 21 rfl rfl sc_are_reads (fun _ _ _ _ _ _ us hl => match us, hl with | [_], _ => rfl) (fun vs H Q E h => ?_) (fun cdv A outer s H vs Q E hr h => ?_)
  · obtain ⟨_, _, rfl, _⟩ := h
    rfl
  · obtain ⟨v, rs, rfl, ⟨a, rfl, ho⟩, h2, h3, q⟩ := h
    have hl : (rs.map V.str).length = rs.length := List.length_map _
    have d2 : decide (((rs.map V.str).length : Int) ≤ 2) = true := decide_eq_true (by rw [hl]; omega)
    refine ⟨_, (pss_one (ps_ret (pe_and (pe_callB (xc_isi (K := K)) rfl T.f_isinstance (by decide +kernel) (pa_cons (pv 0) (pa_cons (pe_bltn (v := .ty "tuple") rfl T.f_tuple (by decide +kernel) rfl) pa_nil))) (pe_and (pe_cmpR op_le (pe_callB (xc_len (K := K)) rfl T.f_len (by decide +kernel) (pa_cons (pv 0) pa_nil)) pe_int (nomark _)) (pe_one (pe_callB (xc_all (K := K) rfl) rfl T.f_all (by decide +kernel) (pa_cons (pe_lc (g := gName 1) (tt := tYes) (own := [("name", 1)]) rfl sc_are_reads.nd (x_tup (K := K) (pv 0)) (blkOk_by (own := [("name", 1)]) (N := n_are_reads) (sc := defScope s_are_reads) (by decide +kernel)) (fun _ _ _ _ _ => (pg_name (i := 1) sc_are_reads.nd rfl (.inl rfl))) (fun _ _ _ _ _ => pts_nil) (fun _ _ _ _ _ => (pe_c k_is_name hr (by decide) rfl (pa_cons (pv 1) pa_nil)))) pa_nil))))))), ?_⟩
    refine s_ret (ev_is (ev_andV (ev_isiT (ev_var rfl) ho k_tups) fun _ => ev_andV (ev_op (ev_lenE (ev_var rfl) (.inr (st_of ho))) ev_c rv_I0) fun _ =>
      ev_all (bs := ((List.range (rs.map V.str).length).filter fun _ => true).map fun _ => true) ?_) ?_) q
    · rw [← all_given (rs.map V.str).length (fun _ => true) fun _ => true]
      refine el_lcT (fun _ => true) (fun _ => .bl true) (ev_var rfl) (st_of ho) (by rw [hl]; omega) (fun _ => rfl) (fun i x H1 e hi => et_yes) fun i x H1 e hi _ => ?_
      obtain ⟨g, hg, rfl⟩ := List.mem_map.mp (List.mem_of_getElem? hi)
      exact ev_c1 (ev_var rfl) (v_is_name (h3 g hg))
    · rw [d2]
      simp

end
end FB
set_option Elab.async false
set_option linter.all false
set_option maxRecDepth 100000
set_option maxHeartbeats 4000000
namespace FB
open PySem PySem.Spec PyProof.Rows L2 Evl
open C8 (Cal Mak pe_c pe_mk pe_gc)
section
variable {P : Program} {w : World} {K : PySem.W.Frag} {mg : Str → Option Value} {base : Heap}
def sp_is_make (K : PySem.W.Frag) : Sp := fun vs H Q _ => ∃ (v : V) (x : Str) (rs : List Str) (g n : Nat), vs = [v, vN n] ∧ StepAt H v (.mk x rs g) ∧ (Stp.mk x rs g).Ok n ∧ ∀ H', Ex H H' → Q (.bl true) H'
theorem v_is_make {H : Hp} {v : V} {x : Str} {rs : List Str} {g n : Nat} (h : StepAt H v (.mk x rs g)) (ok : (Stp.mk x rs g).Ok n) : SpV (sp_is_make K) [v, vN n] H (.bl true) := fun H1 e Q q E => ⟨v, x, rs, g, n, rfl, h.up e, ok, fun H2 e2 => q H2 e2⟩
abbrev n_is_make : List Str := ["thing", "many"]
theorem sc_is_make : FnScope n_is_make ["thing", "many"] (defScope s_is_make) := ⟨rfl, rfl, rfl, by decide +kernel, rfl, by decide +kernel, by decide +kernel⟩
theorem c_is_make (T : Tx K mg) : Cal P w K mg base 3 "is_make" (sp_is_make K) [] := by
  have k_are_reads := c_are_reads (P := P) (w := w) (base := base) T
  have k_is_index := c_is_index (P := P) (w := w) (base := base) T
  have k_is_name := c_is_name (P := P) (w := w) (base := base) T
  refine calOf T 22 rfl rfl sc_is_make (fun _ _ _ _ _ _ us hl => match us, hl with | [_, _], _ => rfl) (fun vs H Q E h => ?_) (fun cdv A outer s H vs Q E hr h => ?_)
  · obtain ⟨_, _, _, _, _, rfl, _⟩ := h
    rfl
  · obtain ⟨v, x, rs, g, n, rfl, ⟨a, r, rfl, ho, ht⟩, ⟨k1, k2, k3, k4⟩, q⟩ := h
    refine ⟨_, (pss_one (ps_ret (pe_and (pe_cmpR op_eq (pe_callB (xc_len (K := K)) rfl T.f_len (by decide +kernel) (pa_cons (pv 0) pa_nil)) pe_int (nomark _)) (pe_and (pe_c k_is_name hr (by decide) rfl (pa_cons (pe_ix (xi_tup (K := K)) (pv 0) pe_int (fun _ _ => rfl)) pa_nil)) (pe_and (pe_c k_are_reads hr (by decide) rfl (pa_cons (pe_ix (xi_tup (K := K)) (pv 0) pe_int (fun _ _ => rfl)) pa_nil)) (pe_one (pe_c k_is_index hr (by decide) rfl (pa_cons (pe_ix (xi_tup (K := K)) (pv 0) pe_int (fun _ _ => rfl)) (pa_cons (pv 1) pa_nil))))))))), ?_⟩
    refine s_ret (ev_is (ev_andV (ev_op (ev_lenE (ev_var rfl) (.inr (st_of ho))) ev_c (rv_eq rfl)) fun _ => ev_andV (ev_c1 (ev_ixT (ev_var rfl) ev_c ho at1) (v_is_name k1)) fun _ =>
      ev_andV (ev_c1 (ev_ixT (ev_var rfl) ev_c ho at2) (v_are_reads ht k2 k3)) fun _ => ev_is (ev_c2 (ev_ixT (ev_var rfl) ev_c ho at3) (ev_var rfl) v_is_index) (congrArg V.bl (inR_yes k4))) ?_) q
    rfl

end
end FB
set_option Elab.async false
set_option linter.all false
set_option maxRecDepth 100000
set_option maxHeartbeats 4000000
namespace FB
open PySem PySem.Spec PyProof.Rows L2 Evl
open C8 (Cal Mak pe_c pe_mk pe_gc)
section
variable {P : Program} {w : World} {K : PySem.W.Frag} {mg : Str → Option Value} {base : Heap}
def sp_is_step (K : PySem.W.Frag) : Sp := fun vs H Q _ => ∃ (v : V) (s : Stp) (n : Nat), vs = [v, vN n] ∧ StepAt H v s ∧ s.Ok n ∧ ∀ H', Ex H H' → Q (.bl true) H'
theorem v_is_step {H : Hp} {v : V} {s : Stp} {n : Nat} (h : StepAt H v s) (ok : s.Ok n) : SpV (sp_is_step K) [v, vN n] H (.bl true) := fun H1 e Q q E => ⟨v, s, n, rfl, h.up e, ok, fun H2 e2 => q H2 e2⟩
/-- a tuple of one item or more, a text ahead -/
theorem et_shape {σ : Sg} {H : Hp} {te : TE} {a : Addr} {k : Str} {r : List V} (h : Ev te σ H (.ref a)) (ho : H a = some (.tup (.str k :: r))) :
    EvT (tOr (tNot (tB (tCB (rIsi K) (tCons te (tCons (tC (.ty "tuple")) tNil))))) (tOr (tTest (tOp rEq (tCB (rLenS K) (tCons te tNil)) (tC (.int 0)))) (tNot (tB (tCB (rIsi K) (tCons (tOp (rIxT K) te (tC (.int 0))) (tCons (tC (.ty "str")) tNil))))))) σ H false := by
  refine et_is (et_or (et_not (et_val (ev_isiT h ho k_tups))) fun _ => et_or (b := false) (et_eq (b := false) (ev_lenE h (.inr (st_of ho))) ev_c rfl ?_) fun _ => et_not (et_val (ev_isiS (ev_ixT h ev_c ho at0) k_strs))) rfl
  refine decide_eq_false fun z => ?_
  have z2 : ((V.str k :: r).length : Int) = 0 := V.int.inj z
  rw [List.length_cons] at z2
  omega
abbrev n_is_step : List Str := ["thing", "many"]
theorem sc_is_step : FnScope n_is_step ["thing", "many"] (defScope s_is_step) := ⟨rfl, rfl, rfl, by decide +kernel, rfl, by decide +kernel, by decide +kernel⟩
theorem c_is_step (T : Tx K mg) : Cal P w K mg base 4 "is_step" (sp_is_step K) [] := by
  have k_are_places := c_are_places (P := P) (w := w) (base := base) T
  have k_is_index := c_is_index (P := P) (w := w) (base := base) T
  have k_is_make := c_is_make (P := P) (w := w) (base := base) T
  have k_is_name := c_is_name (P := P) (w := w) (base := base) T
  refine calOf T 23 rfl rfl sc_is_step (fun _ _ _ _ _ _ us hl => match us, hl with | [_, _], _ => rfl) (fun vs H Q E h => ?_) (fun cdv A outer s H vs Q E hr h => ?_)
  · obtain ⟨_, _, _, rfl, _⟩ := h
    rfl
  · obtain ⟨v, s, n, rfl, hs, ok, q⟩ := h
    refine ⟨_, (pss_cons (ps_if (PW.pt (pw_or (pt_not (pt_val (pe_callB (xc_isi (K := K)) rfl T.f_isinstance (by decide +kernel) (pa_cons (pv 0) (pa_cons (pe_bltn (v := .ty "tuple") rfl T.f_tuple (by decide +kernel) rfl) pa_nil))))) (pw_or (pt_cmpR op_eq (pe_callB (xc_len (K := K)) rfl T.f_len (by decide +kernel) (pa_cons (pv 0) pa_nil)) pe_int (nomark _)) (pw_or1 (pt_not (pt_val (pe_callB (xc_isi (K := K)) rfl T.f_isinstance (by decide +kernel) (pa_cons (pe_ix (xi_tup (K := K)) (pv 0) pe_int (fun _ _ => rfl)) (pa_cons (pe_bltn (v := .ty "str") rfl T.f_str (by decide +kernel) rfl) pa_nil)))))))))
          ((pss_one (ps_ret pe_bl)))
          (pss_nil))
      (pss_cons (ps_if (pt_cmpR op_eq (pe_ix (xi_tup (K := K)) (pv 0) pe_int (fun _ _ => rfl)) pe_str (nomark _))
          ((pss_one (ps_ret (pe_c k_is_make hr (by decide) rfl (pa_cons (pv 0) (pa_cons (pv 1) pa_nil))))))
          (pss_nil))
      (pss_cons (ps_if (pt_cmpR op_eq (pe_ix (xi_tup (K := K)) (pv 0) pe_int (fun _ _ => rfl)) pe_str (nomark _))
          ((pss_one (ps_ret (pe_and (pe_cmpR op_eq (pe_callB (xc_len (K := K)) rfl T.f_len (by decide +kernel) (pa_cons (pv 0) pa_nil)) pe_int (nomark _)) (pe_and (pe_c k_is_name hr (by decide) rfl (pa_cons (pe_ix (xi_tup (K := K)) (pv 0) pe_int (fun _ _ => rfl)) pa_nil)) (pe_one (pe_c k_is_index hr (by decide) rfl (pa_cons (pe_ix (xi_tup (K := K)) (pv 0) pe_int (fun _ _ => rfl)) (pa_cons (pv 1) pa_nil)))))))))
          (pss_nil))
      (pss_cons (ps_if (pt_cmpR op_eq (pe_ix (xi_tup (K := K)) (pv 0) pe_int (fun _ _ => rfl)) pe_str (nomark _))
          ((pss_one (ps_ret (pe_and (pe_cmpR op_eq (pe_callB (xc_len (K := K)) rfl T.f_len (by decide +kernel) (pa_cons (pv 0) pa_nil)) pe_int (nomark _)) (pe_and (pe_c k_is_name hr (by decide) rfl (pa_cons (pe_ix (xi_tup (K := K)) (pv 0) pe_int (fun _ _ => rfl)) pa_nil)) (pe_one (pe_c k_are_places hr (by decide) rfl (pa_cons (pe_ix (xi_tup (K := K)) (pv 0) pe_int (fun _ _ => rfl)) (pa_cons (pv 1) pa_nil)))))))))
          (pss_nil))
      (pss_cons (ps_if (pt_cmpR op_eq (pe_ix (xi_tup (K := K)) (pv 0) pe_int (fun _ _ => rfl)) pe_str (nomark _))
          ((pss_one (ps_ret (pe_and (pe_cmpR op_eq (pe_callB (xc_len (K := K)) rfl T.f_len (by decide +kernel) (pa_cons (pv 0) pa_nil)) pe_int (nomark _)) (pe_one (pe_c k_is_index hr (by decide) rfl (pa_cons (pe_ix (xi_tup (K := K)) (pv 0) pe_int (fun _ _ => rfl)) (pa_cons (pv 1) pa_nil))))))))
          (pss_nil))
      (pss_one (ps_ret (pe_and (pe_cmpR op_eq (pe_ix (xi_tup (K := K)) (pv 0) pe_int (fun _ _ => rfl)) pe_str (nomark _)) (pe_one (pe_cmpR op_eq (pe_callB (xc_len (K := K)) rfl T.f_len (by decide +kernel) (pa_cons (pv 0) pa_nil)) pe_int (nomark _))))))))))), ?_⟩
    cases s with
    | mk x rs g =>
      obtain ⟨a, r, rfl, ho, ht⟩ := id hs
      refine q_no (et_shape (ev_var rfl) ho) fun H1 e1 => ?_
      refine q_yes (et_eq (ev_ixT (ev_var rfl) ev_c (e1 _ _ ho) at0) ev_c rfl k_mm) fun H2 e2 => ?_
      exact s_ret (ev_c2 (ev_var rfl) (ev_var rfl) (v_is_make (hs.up (e1.trans e2)) ok)) fun H3 e3 => q H3 ((e1.trans e2).trans e3)
    | tell x g =>
      obtain ⟨a, rfl, ho⟩ := hs
      refine q_no (et_shape (ev_var rfl) ho) fun H1 e1 => ?_
      refine q_no (et_eq (ev_ixT (ev_var rfl) ev_c (e1 _ _ ho) at0) ev_c rfl k_tm) fun H2 e2 => ?_
      refine q_yes (et_eq (ev_ixT (ev_var rfl) ev_c ((e1.trans e2) _ _ ho) at0) ev_c rfl k_tt) fun H3 e3 => ?_
      have o3 := ((e1.trans e2).trans e3) _ _ ho
      exact s_ret (ev_is (ev_andV (ev_op (ev_lenE (ev_var rfl) (.inr (st_of o3))) ev_c (rv_eq rfl)) fun _ => ev_andV (ev_c1 (ev_ixT (ev_var rfl) ev_c o3 at1) (v_is_name ok.1)) fun _ => ev_is (ev_c2 (ev_ixT (ev_var rfl) ev_c o3 at2) (ev_var rfl) v_is_index) (congrArg V.bl (inR_yes ok.2))) rfl) fun H4 e4 => q H4 (((e1.trans e2).trans e3).trans e4)
    | test x gs =>
      obtain ⟨a, r, rfl, ho, ht⟩ := hs
      refine q_no (et_shape (ev_var rfl) ho) fun H1 e1 => ?_
      refine q_no (et_eq (ev_ixT (ev_var rfl) ev_c (e1 _ _ ho) at0) ev_c rfl k_sm) fun H2 e2 => ?_
      refine q_no (et_eq (ev_ixT (ev_var rfl) ev_c ((e1.trans e2) _ _ ho) at0) ev_c rfl k_st) fun H3 e3 => ?_
      refine q_yes (et_eq (ev_ixT (ev_var rfl) ev_c (((e1.trans e2).trans e3) _ _ ho) at0) ev_c rfl k_ss) fun H4 e4 => ?_
      have e14 := ((e1.trans e2).trans e3).trans e4
      have o4 := e14 _ _ ho
      exact s_ret (ev_is (ev_andV (ev_op (ev_lenE (ev_var rfl) (.inr (st_of o4))) ev_c (rv_eq rfl)) fun _ => ev_andV (ev_c1 (ev_ixT (ev_var rfl) ev_c o4 at1) (v_is_name ok.1)) fun _ => ev_c2 (ev_ixT (ev_var rfl) ev_c o4 at2) (ev_var rfl) (v_are_places (ht.up e14) ok.2.1 ok.2.2.1 ok.2.2.2)) rfl) fun H5 e5 => q H5 (e14.trans e5)
    | go g =>
      obtain ⟨a, rfl, ho⟩ := hs
      refine q_no (et_shape (ev_var rfl) ho) fun H1 e1 => ?_
      refine q_no (et_eq (ev_ixT (ev_var rfl) ev_c (e1 _ _ ho) at0) ev_c rfl k_gm) fun H2 e2 => ?_
      refine q_no (et_eq (ev_ixT (ev_var rfl) ev_c ((e1.trans e2) _ _ ho) at0) ev_c rfl k_gt) fun H3 e3 => ?_
      refine q_no (et_eq (ev_ixT (ev_var rfl) ev_c (((e1.trans e2).trans e3) _ _ ho) at0) ev_c rfl k_gs) fun H4 e4 => ?_
      have e14 := ((e1.trans e2).trans e3).trans e4
      refine q_yes (et_eq (ev_ixT (ev_var rfl) ev_c (e14 _ _ ho) at0) ev_c rfl k_gg) fun H5 e5 => ?_
      have o5 := (e14.trans e5) _ _ ho
      exact s_ret (ev_is (ev_andV (ev_op (ev_lenE (ev_var rfl) (.inr (st_of o5))) ev_c (rv_eq rfl)) fun _ => ev_is (ev_c2 (ev_ixT (ev_var rfl) ev_c o5 at1) (ev_var rfl) v_is_index) (congrArg V.bl (inR_yes ok))) rfl) fun H6 e6 => q H6 ((e14.trans e5).trans e6)
    | fin =>
      obtain ⟨a, rfl, ho⟩ := hs
      refine q_no (et_shape (ev_var rfl) ho) fun H1 e1 => ?_
      refine q_no (et_eq (ev_ixT (ev_var rfl) ev_c (e1 _ _ ho) at0) ev_c rfl k_em) fun H2 e2 => ?_
      refine q_no (et_eq (ev_ixT (ev_var rfl) ev_c ((e1.trans e2) _ _ ho) at0) ev_c rfl k_et) fun H3 e3 => ?_
      refine q_no (et_eq (ev_ixT (ev_var rfl) ev_c (((e1.trans e2).trans e3) _ _ ho) at0) ev_c rfl k_es) fun H4 e4 => ?_
      have e14 := ((e1.trans e2).trans e3).trans e4
      refine q_no (et_eq (ev_ixT (ev_var rfl) ev_c (e14 _ _ ho) at0) ev_c rfl k_eg) fun H5 e5 => ?_
      have o5 := (e14.trans e5) _ _ ho
      exact s_ret (ev_is (ev_andV (ev_op (ev_ixT (ev_var rfl) ev_c o5 at0) ev_c (rv_eq rfl)) fun _ => ev_op (ev_lenE (ev_var rfl) (.inr (st_of o5))) ev_c (rv_eq rfl)) (by rw [k_ee]; rfl)) fun H6 e6 => q H6 ((e14.trans e5).trans e6)

end
end FB
set_option Elab.async false
set_option linter.all false
set_option maxRecDepth 100000
set_option maxHeartbeats 4000000
namespace FB
open PySem PySem.Spec PyProof.Rows L2 Evl
open C8 (Cal Mak pe_c pe_mk pe_gc)
section
variable {P : Program} {w : World} {K : PySem.W.Frag} {mg : Str → Option Value} {base : Heap}
/-- a list of numbers, of texts: new -/
def LstI (H : Hp) (v : V) (ns : List Nat) : Prop := ∃ a, v = .ref a ∧ H a = some (.lst (ns.map vN))
def LstS (H : Hp) (v : V) (xs : List Str) : Prop := ∃ a, v = .ref a ∧ H a = some (.lst (xs.map V.str))
theorem LstI.up {H H' : Hp} {v : V} {ns : List Nat} (e : Ex H H') (h : LstI H v ns) : LstI H' v ns := by
  obtain ⟨a, rfl, h⟩ := h
  exact ⟨a, rfl, e a _ h⟩
theorem LstS.up {H H' : Hp} {v : V} {xs : List Str} (e : Ex H H') (h : LstS H v xs) : LstS H' v xs := by
  obtain ⟨a, rfl, h⟩ := h
  exact ⟨a, rfl, e a _ h⟩
def sp_law_goals (K : PySem.W.Frag) : Sp := fun vs H Q _ => ∃ v s, vs = [v] ∧ StepAt H v s ∧ ∀ p H', H p = none → Ex H H' → H' p = some (.lst (s.goals.map vN)) → Q (.ref p) H'
theorem l_law_goals {H : Hp} {v : V} {s : Stp} (h : StepAt H v s) : SpL (sp_law_goals K) [v] H (s.goals.map vN) := fun H1 e Q q E => ⟨v, s, rfl, h.up e, fun p H2 hp e2 t => q p H2 hp e2 t⟩
abbrev n_law_goals : List Str := ["_law_step_here"]
theorem sc_law_goals : FnScope n_law_goals ["_law_step_here"] (defScope s_law_goals) := ⟨rfl, rfl, rfl, by decide +kernel, rfl, by decide +kernel, by decide +kernel⟩
theorem c_law_goals (T : Tx K mg) : Cal P w K mg base 1 "_law_goals" (sp_law_goals K) [] := by
  refine calOf T 32 rfl rfl sc_law_goals (fun _ _ _ _ _ _ us hl => match us, hl with | [_], _ => rfl) (fun vs H Q E h => ?_) (fun cdv A outer s H vs Q E hr h => ?_)
  · obtain ⟨_, _, rfl, _⟩ := h
    rfl
  · obtain ⟨v, s, rfl, hs, q⟩ := h
    refine ⟨_, (pss_cons (ps_if (pt_cmpR op_eq (pe_ix (xi_tup (K := K)) (pv 0) pe_int (fun _ _ => rfl)) pe_str (nomark _))
          ((pss_one (ps_ret (pe_lst pa_nil))))
          (pss_nil))
      (pss_cons (ps_if (pt_cmpR op_eq (pe_ix (xi_tup (K := K)) (pv 0) pe_int (fun _ _ => rfl)) pe_str (nomark _))
          ((pss_one (ps_ret (pe_callTy (xc_list (K := K)) rfl T.f_list (by decide +kernel) (pa_cons (pe_ix (xi_tup (K := K)) (pv 0) pe_int (fun _ _ => rfl)) pa_nil)))))
          (pss_nil))
      (pss_one (ps_ret (pe_lst (pa_cons (pe_ix (xi_tup (K := K)) (pv 0) (pe_op op_sub (pe_callB (xc_len (K := K)) rfl T.f_len (by decide +kernel) (pa_cons (pv 0) pa_nil)) pe_int) (fun _ _ => rfl)) pa_nil)))))), ?_⟩
    cases s with
    | mk x rs g =>
      obtain ⟨a, r, rfl, ho, ht⟩ := hs
      refine q_no (et_eq (ev_ixT (ev_var rfl) ev_c ho at0) ev_c rfl k_me) fun H1 e1 => ?_
      refine q_no (et_eq (ev_ixT (ev_var rfl) ev_c (e1 _ _ ho) at0) ev_c rfl k_ms) fun H2 e2 => ?_
      have ho2 := (e1.trans e2) _ _ ho
      exact s_retL (el_lst (ea_cons (ev_ixT (ev_var rfl) (ev_op (ev_lenE (ev_var rfl) (.inr (st_of ho2))) ev_c rv_I0) ho2 at3) ea_nil) (by simp)) fun p H3 hp0 e3 hp => q p H3 (fresh_back (e1.trans e2) hp0) ((e1.trans e2).trans e3) hp
    | tell x g =>
      obtain ⟨a, rfl, ho⟩ := hs
      refine q_no (et_eq (ev_ixT (ev_var rfl) ev_c ho at0) ev_c rfl k_te) fun H1 e1 => ?_
      refine q_no (et_eq (ev_ixT (ev_var rfl) ev_c (e1 _ _ ho) at0) ev_c rfl k_ts) fun H2 e2 => ?_
      have ho2 := (e1.trans e2) _ _ ho
      exact s_retL (el_lst (ea_cons (ev_ixT (ev_var rfl) (ev_op (ev_lenE (ev_var rfl) (.inr (st_of ho2))) ev_c rv_I0) ho2 at2) ea_nil) (by simp)) fun p H3 hp0 e3 hp => q p H3 (fresh_back (e1.trans e2) hp0) ((e1.trans e2).trans e3) hp
    | test x gs =>
      obtain ⟨a, r, rfl, ho, t, rfl, ht⟩ := hs
      refine q_no (et_eq (ev_ixT (ev_var rfl) ev_c ho at0) ev_c rfl k_se) fun H1 e1 => ?_
      refine q_yes (et_eq (ev_ixT (ev_var rfl) ev_c (e1 _ _ ho) at0) ev_c rfl k_ss) fun H2 e2 => ?_
      have ho2 := (e1.trans e2) _ _ ho
      exact s_retL (el_listP (ep_of (ev_ixT (ev_var rfl) ev_c ho2 at2)) fun v H3 e3 hv => ⟨t, hv, .inr (st_of (e3 _ _ ((e1.trans e2) _ _ ht)))⟩) fun p H3 hp0 e3 hp => q p H3 (fresh_back (e1.trans e2) hp0) ((e1.trans e2).trans e3) hp
    | go g =>
      obtain ⟨a, rfl, ho⟩ := hs
      refine q_no (et_eq (ev_ixT (ev_var rfl) ev_c ho at0) ev_c rfl k_ge) fun H1 e1 => ?_
      refine q_no (et_eq (ev_ixT (ev_var rfl) ev_c (e1 _ _ ho) at0) ev_c rfl k_gs) fun H2 e2 => ?_
      have ho2 := (e1.trans e2) _ _ ho
      exact s_retL (el_lst (ea_cons (ev_ixT (ev_var rfl) (ev_op (ev_lenE (ev_var rfl) (.inr (st_of ho2))) ev_c rv_I0) ho2 at1) ea_nil) (by simp)) fun p H3 hp0 e3 hp => q p H3 (fresh_back (e1.trans e2) hp0) ((e1.trans e2).trans e3) hp
    | fin =>
      obtain ⟨a, rfl, ho⟩ := hs
      refine q_yes (et_eq (ev_ixT (ev_var rfl) ev_c ho at0) ev_c rfl k_ee) fun H1 e1 => ?_
      exact s_retL (el_lst ea_nil (by simp)) fun p H2 hp0 e2 hp => q p H2 (fresh_back e1 hp0) (e1.trans e2) hp

end
end FB
set_option Elab.async false
set_option linter.all false
set_option maxRecDepth 100000
set_option maxHeartbeats 4000000
namespace FB
open PySem PySem.Spec PyProof.Rows L2 Evl
open C8 (Cal Mak pe_c pe_mk pe_gc)
section
variable {P : Program} {w : World} {K : PySem.W.Frag} {mg : Str → Option Value} {base : Heap}
def sp_reads_of (K : PySem.W.Frag) : Sp := fun vs H Q _ => ∃ v s, vs = [v] ∧ StepAt H v s ∧ ∀ r H', Ex H H' → TupS H' r s.reads → Q r H'
theorem p_reads_of {H : Hp} {v : V} {s : Stp} (h : StepAt H v s) : SpP (sp_reads_of K) [v] H fun r H' => TupS H' r s.reads := fun H1 e Q q E => ⟨v, s, rfl, h.up e, fun r H2 e2 t => q r H2 e2 t⟩
theorem k_in1 : inV (.str kTell) [.str kTell, .str kTest] = true := by decide +kernel
theorem k_in2 : inV (.str kTest) [.str kTell, .str kTest] = true := by decide +kernel
theorem k_in3 : inV (.str kGo) [.str kTell, .str kTest] = false := by decide +kernel
theorem k_in4 : inV (.str kEnd) [.str kTell, .str kTest] = false := by decide +kernel
theorem k_in5 : inV (.str kMake) [.str kTell, .str kTest] = false := by decide +kernel
/-- the kind among tell and test -/
theorem et_two {σ : Sg} {H : Hp} {ta : TE} {x : V} {b : Bool} (ha : Ev ta σ H x) (hx : flatV x = true) (h : inV x [.str kTell, .str kTest] = b) : EvT (tTest (tOp (rIn K false) ta (tTup (tCons (tC (.str kTell)) (tCons (tC (.str kTest)) tNil))))) σ H b :=
  et_inP ha (ep_U (eu_tup (ea_cons ev_c (ea_cons ev_c ea_nil)) (by simp))) (fun v H1 _ p => by
    obtain ⟨q, rfl, hq⟩ := p
    exact ⟨q, rfl, .inr (st_of hq)⟩) hx rfl h
abbrev n_reads_of : List Str := ["step"]
theorem sc_reads_of : FnScope n_reads_of ["step"] (defScope s_reads_of) := ⟨rfl, rfl, rfl, by decide +kernel, rfl, by decide +kernel, by decide +kernel⟩
theorem c_reads_of (T : Tx K mg) : Cal P w K mg base 1 "reads_of" (sp_reads_of K) [] := by
  refine calOf T 6 rfl rfl sc_reads_of (fun _ _ _ _ _ _ us hl => match us, hl with | [_], _ => rfl) (fun vs H Q E h => ?_) (fun cdv A outer s H vs Q E hr h => ?_)
  · obtain ⟨_, _, rfl, _⟩ := h
    rfl
  · obtain ⟨v, s, rfl, hs, q⟩ := h
    refine ⟨_, (pss_cons (ps_if (pt_cmpR op_eq (pe_ix (xi_tup (K := K)) (pv 0) pe_int (fun _ _ => rfl)) pe_str (nomark _))
          ((pss_one (ps_ret (pe_ix (xi_tup (K := K)) (pv 0) pe_int (fun _ _ => rfl)))))
          (pss_nil))
      (pss_one (ps_ret (pe_ifExp (pt_cmpR (xo_in (K := K)) (pe_ix (xi_tup (K := K)) (pv 0) pe_int (fun _ _ => rfl)) (pe_tup (pa_cons pe_str (pa_cons pe_str pa_nil))) rfl) (pe_tup (pa_cons (pe_ix (xi_tup (K := K)) (pv 0) pe_int (fun _ _ => rfl)) pa_nil)) (pe_tup pa_nil))))), ?_⟩
    cases s with
    | mk x rs g =>
      obtain ⟨a, r, rfl, ho, ht⟩ := hs
      refine q_yes (et_eq (ev_ixT (ev_var rfl) ev_c ho at0) ev_c rfl k_mm) fun H1 e1 => ?_
      exact s_ret (ev_ixT (ev_var rfl) ev_c (e1 _ _ ho) at2) fun H2 e2 => q r H2 (e1.trans e2) (ht.up (e1.trans e2))
    | tell x g =>
      obtain ⟨a, rfl, ho⟩ := hs
      refine q_no (et_eq (ev_ixT (ev_var rfl) ev_c ho at0) ev_c rfl k_tm) fun H1 e1 => ?_
      exact s_retP (ep_if (et_two (ev_ixT (ev_var rfl) ev_c (e1 _ _ ho) at0) rfl k_in1) (fun _ => ep_U (eu_tup (ea_cons (ev_ixT (ev_var rfl) ev_c (e1 _ _ ho) at1) ea_nil) (by simp))) fun z => Bool.noConfusion z) fun w H2 e2 ⟨p, hw, hp⟩ => q w H2 (e1.trans e2) ⟨p, hw, hp⟩
    | test x gs =>
      obtain ⟨a, r, rfl, ho, ht⟩ := hs
      refine q_no (et_eq (ev_ixT (ev_var rfl) ev_c ho at0) ev_c rfl k_sm) fun H1 e1 => ?_
      exact s_retP (ep_if (et_two (ev_ixT (ev_var rfl) ev_c (e1 _ _ ho) at0) rfl k_in2) (fun _ => ep_U (eu_tup (ea_cons (ev_ixT (ev_var rfl) ev_c (e1 _ _ ho) at1) ea_nil) (by simp))) fun z => Bool.noConfusion z) fun w H2 e2 ⟨p, hw, hp⟩ => q w H2 (e1.trans e2) ⟨p, hw, hp⟩
    | go g =>
      obtain ⟨a, rfl, ho⟩ := hs
      refine q_no (et_eq (ev_ixT (ev_var rfl) ev_c ho at0) ev_c rfl k_gm) fun H1 e1 => ?_
      exact s_retP (ep_if (et_two (ev_ixT (ev_var rfl) ev_c (e1 _ _ ho) at0) rfl k_in3) (fun z => Bool.noConfusion z) fun _ => ep_U (eu_tup ea_nil (by simp))) fun w H2 e2 ⟨p, hw, hp⟩ => q w H2 (e1.trans e2) ⟨p, hw, hp⟩
    | fin =>
      obtain ⟨a, rfl, ho⟩ := hs
      refine q_no (et_eq (ev_ixT (ev_var rfl) ev_c ho at0) ev_c rfl k_em) fun H1 e1 => ?_
      exact s_retP (ep_if (et_two (ev_ixT (ev_var rfl) ev_c (e1 _ _ ho) at0) rfl k_in4) (fun z => Bool.noConfusion z) fun _ => ep_U (eu_tup ea_nil (by simp))) fun w H2 e2 ⟨p, hw, hp⟩ => q w H2 (e1.trans e2) ⟨p, hw, hp⟩

end
end FB
set_option Elab.async false
set_option linter.all false
set_option maxRecDepth 100000
set_option maxHeartbeats 4000000
namespace FB
open PySem PySem.Spec PyProof.Rows L2 Evl
open C8 (Cal Mak pe_c pe_mk pe_gc)
section
variable {P : Program} {w : World} {K : PySem.W.Frag} {mg : Str → Option Value} {base : Heap}
def sp_names_in (K : PySem.W.Frag) : Sp := fun vs H Q _ => ∃ v s, vs = [v] ∧ StepAt H v s ∧ s.reads.length ≤ 2 ∧ ∀ r H', Ex H H' → LstS H' r s.names → Q r H'
theorem p_names_in {H : Hp} {v : V} {s : Stp} (h : StepAt H v s) (h2 : s.reads.length ≤ 2) : SpP (sp_names_in K) [v] H fun r H' => LstS H' r s.names := fun H1 e Q q E => ⟨v, s, rfl, h.up e, h2, fun r H2 e2 t => q r H2 e2 t⟩
abbrev n_names_in : List Str := ["step"]
theorem sc_names_in : FnScope n_names_in ["step"] (defScope s_names_in) := ⟨rfl, rfl, rfl, by decide +kernel, rfl, by decide +kernel, by decide +kernel⟩
theorem c_names_in (T : Tx K mg) : Cal P w K mg base 1 "names_in" (sp_names_in K) [] := by
  refine calOf T 24 rfl rfl sc_names_in (fun _ _ _ _ _ _ us hl => match us, hl with | [_], _ => rfl) (fun vs H Q E h => ?_) (fun cdv A outer s H vs Q E hr h => ?_)
  · obtain ⟨_, _, rfl, _⟩ := h
    rfl
  · obtain ⟨v, s, rfl, hs, h2, q⟩ := h
    refine ⟨_, (pss_cons (ps_if (pt_cmpR op_eq (pe_ix (xi_tup (K := K)) (pv 0) pe_int (fun _ _ => rfl)) pe_str (nomark _))
          ((pss_one (ps_ret (pe_op op_cat (pe_lst (pa_cons (pe_ix (xi_tup (K := K)) (pv 0) pe_int (fun _ _ => rfl)) pa_nil)) (pe_callTy (xc_list (K := K)) rfl T.f_list (by decide +kernel) (pa_cons (pe_ix (xi_tup (K := K)) (pv 0) pe_int (fun _ _ => rfl)) pa_nil))))))
          (pss_nil))
      (pss_one (ps_ret (pe_ifExp (pt_cmpR (xo_in (K := K)) (pe_ix (xi_tup (K := K)) (pv 0) pe_int (fun _ _ => rfl)) (pe_tup (pa_cons pe_str (pa_cons pe_str pa_nil))) rfl) (pe_lst (pa_cons (pe_ix (xi_tup (K := K)) (pv 0) pe_int (fun _ _ => rfl)) pa_nil)) (pe_lst pa_nil))))), ?_⟩
    cases s with
    | mk x rs g =>
      obtain ⟨a, r, rfl, ho, t, rfl, ht⟩ := hs
      refine q_yes (et_eq (ev_ixT (ev_var rfl) ev_c ho at0) ev_c rfl k_mm) fun H1 e1 => ?_
      exact s_retP (ep_L (el_cat (el_lst (ea_cons (ev_ixT (ev_var rfl) ev_c (e1 _ _ ho) at1) ea_nil) (by simp)) (el_listP (ep_of (ev_ixT (ev_var rfl) ev_c (e1 _ _ ho) at2)) fun v H3 e3 hv => ⟨t, hv, .inr (st_of (e3 _ _ (e1 _ _ ht)))⟩)
        (by have h3 : rs.length ≤ 2 := h2
            simp
            omega))) fun w H3 e3 ⟨p, hw, hp⟩ => q w H3 (e1.trans e3) ⟨p, hw, hp⟩
    | tell x g =>
      obtain ⟨a, rfl, ho⟩ := hs
      refine q_no (et_eq (ev_ixT (ev_var rfl) ev_c ho at0) ev_c rfl k_tm) fun H1 e1 => ?_
      exact s_retP (ep_if (et_two (ev_ixT (ev_var rfl) ev_c (e1 _ _ ho) at0) rfl k_in1) (fun _ => ep_L (el_lst (ea_cons (ev_ixT (ev_var rfl) ev_c (e1 _ _ ho) at1) ea_nil) (by simp))) fun z => Bool.noConfusion z) fun w H2 e2 ⟨p, hw, hp⟩ => q w H2 (e1.trans e2) ⟨p, hw, hp⟩
    | test x gs =>
      obtain ⟨a, r, rfl, ho, ht⟩ := hs
      refine q_no (et_eq (ev_ixT (ev_var rfl) ev_c ho at0) ev_c rfl k_sm) fun H1 e1 => ?_
      exact s_retP (ep_if (et_two (ev_ixT (ev_var rfl) ev_c (e1 _ _ ho) at0) rfl k_in2) (fun _ => ep_L (el_lst (ea_cons (ev_ixT (ev_var rfl) ev_c (e1 _ _ ho) at1) ea_nil) (by simp))) fun z => Bool.noConfusion z) fun w H2 e2 ⟨p, hw, hp⟩ => q w H2 (e1.trans e2) ⟨p, hw, hp⟩
    | go g =>
      obtain ⟨a, rfl, ho⟩ := hs
      refine q_no (et_eq (ev_ixT (ev_var rfl) ev_c ho at0) ev_c rfl k_gm) fun H1 e1 => ?_
      exact s_retP (ep_if (et_two (ev_ixT (ev_var rfl) ev_c (e1 _ _ ho) at0) rfl k_in3) (fun z => Bool.noConfusion z) fun _ => ep_L (el_lst ea_nil (by simp))) fun w H2 e2 ⟨p, hw, hp⟩ => q w H2 (e1.trans e2) ⟨p, hw, hp⟩
    | fin =>
      obtain ⟨a, rfl, ho⟩ := hs
      refine q_no (et_eq (ev_ixT (ev_var rfl) ev_c ho at0) ev_c rfl k_em) fun H1 e1 => ?_
      exact s_retP (ep_if (et_two (ev_ixT (ev_var rfl) ev_c (e1 _ _ ho) at0) rfl k_in4) (fun z => Bool.noConfusion z) fun _ => ep_L (el_lst ea_nil (by simp))) fun w H2 e2 ⟨p, hw, hp⟩ => q w H2 (e1.trans e2) ⟨p, hw, hp⟩

end
end FB
set_option Elab.async false
set_option linter.all false
set_option maxRecDepth 100000
set_option maxHeartbeats 4000000
namespace FB
open PySem PySem.Spec PyProof.Rows L2 Evl
open C8 (Cal Mak pe_c pe_mk pe_gc)
section
variable {P : Program} {w : World} {K : PySem.W.Frag} {mg : Str → Option Value} {base : Heap}
def sp_check_steps (K : PySem.W.Frag) : Sp := fun vs H Q _ => ∃ (a : Addr) (ss : List Stp), vs = [.ref a] ∧ StepsAt H a ss ∧ Okp ss ∧ ∀ H', Ex H H' → Q .non H'
theorem v_check_steps {H : Hp} {a : Addr} {ss : List Stp} (h : StepsAt H a ss) (ok : Okp ss) : SpV (sp_check_steps K) [.ref a] H .non := fun H1 e Q q E => ⟨a, ss, rfl, h.up e, ok, fun H2 e2 => q H2 e2⟩
theorem Stp.names_len {s : Stp} (h : s.reads.length ≤ 2) : s.names.length ≤ 3 := by
  cases s with
  | mk x rs g =>
    have h2 : rs.length ≤ 2 := h
    show rs.length + 1 ≤ 3
    omega
  | tell x g => show 1 ≤ 3; omega
  | test x gs => show 1 ≤ 3; omega
  | go g => exact Nat.zero_le _
  | fin => exact Nat.zero_le _
/-- the set of the names in all steps: at most three a step -/
theorem ep_allNames {X : Cx} {sp : Sp} {E : XK} {σ : Sg} {H : Hp} {te : TE} {a : Addr} {ss : List Stp} {j1 j2 : Nat} (h : Ev te σ H (.ref a)) (hs : StepsAt H a ss) (hl : ss.length ≤ 40) (hr : ∀ s ∈ ss, s.reads.length ≤ 2)
    (hsp : ∀ (v : V) (s : Stp) (H1 : Hp), StepAt H1 v s → s.reads.length ≤ 2 → SpP sp [v] H1 fun r H' => LstS H' r s.names) (hne : j1 ≠ j2) (h1 : j1 < σ.length) (h2 : j2 < σ.length)
    (hw1 : ∀ x, wipe ((wipe σ [j1, j2]).set j1 (some x)) [j1, j2] = wipe σ [j1, j2]) (hw2 : ∀ x y, wipe ((wipe ((wipe σ [j1, j2]).set j1 (some x)) [j2]).set j2 (some y)) [j2] = wipe ((wipe σ [j1, j2]).set j1 (some x)) [j2]) :
    EP (tScT2 X (iTup K te) (gName j1) tYes (iList K (tCall sp [] E (tCons (tVar j1) tNil))) (gName j2) tYes (tVar j2) [j1, j2] [j2]) σ H fun v H' => ∃ D S n, v = .ref D ∧ H' D = some (SetT X.prog X.w D S n) ∧ n ≤ 3 * ss.length := fun H0 e Q q => h H0 e _ fun H1 e1 => by
  obtain ⟨vs, hv, pr⟩ := hs.up (e.trans e1)
  refine ⟨a, rfl, ⟨vs, st_of hv⟩, fun D hD => ⟨fun i m H' => m = ss.length - i ∧ i ≤ ss.length ∧ Ex H1 H' ∧ ∃ S k, k ≤ 3 * i ∧ H' D = some (SetT X.prog X.w D S k), ⟨ss.length, by simp, Nat.zero_le _, Ex.new hD, _, 0, Nat.le_refl _, upd_same⟩, ?_⟩⟩
  rintro i m H' ⟨rfl, hi, eH, S, k, hk, hS⟩
  by_cases hlt : i < ss.length
  · obtain ⟨v, gv, sv⟩ := prd_get pr (List.getElem?_eq_getElem hlt)
    refine .inr ⟨⟨vs, v, st_of (eH _ _ hv), gv⟩, fun H2 => i + 1 ≤ ss.length ∧ Ex H1 H2 ∧ ∃ S k, k ≤ 3 * (i + 1) ∧ H2 D = some (SetT X.prog X.w D S k), fun H2 ⟨p1, p2, p3⟩ => ⟨ss.length - (i + 1), by omega, rfl, p1, p2, p3⟩, fun x H2 y => ?_⟩
    obtain ⟨rfl, y⟩ := y
    obtain rfl : v = x := Option.some.inj (gv.symm.trans (y vs (st_of (eH _ _ hv))))
    refine ⟨hw1 _, ?_⟩
    have hlen : j1 < (wipe σ [j1, j2]).length := by rw [wipe_length]; exact h1
    have hvar : Ev (tVar j1) ((wipe σ [j1, j2]).set j1 (some v)) H2 v := ev_var (by rw [List.getElem?_set_self hlen])
    refine y_go (ep_c1 hvar (hsp v _ H2 (sv.up eH) (hr _ (List.getElem_mem hlt))) H2 (Ex.refl H2) _ fun r H3 e3 hr3 => ?_)
    obtain ⟨l, rfl, hl3⟩ := hr3
    generalize hns : (ss[i]'hlt).names = ns at hl3
    have hn3 : ns.length ≤ 3 := by
      rw [← hns]
      exact Stp.names_len (hr _ (List.getElem_mem hlt))
    have hlD : l ≠ D := fun z => by
      have q := e3 _ _ hS
      rw [← z, hl3] at q
      cases q
    refine ⟨l, rfl, ⟨_, sq_of hl3⟩, fun j n G => n = ns.length - j ∧ j ≤ ns.length ∧ Ex H1 G ∧ G l = some (.lst (ns.map V.str)) ∧ ∃ S k, k ≤ 3 * i + j ∧ G D = some (SetT X.prog X.w D S k), ⟨ns.length, by simp, Nat.zero_le _, eH.trans e3, hl3, S, k, by omega, e3 _ _ hS⟩, ?_⟩
    rintro j n G ⟨rfl, hj, eG, gl, S2, k2, hk2, gS⟩
    by_cases hjl : j < ns.length
    · have hx : (ns.map V.str)[j]? = some (.str ns[j]) := by rw [List.getElem?_map, List.getElem?_eq_getElem hjl]; rfl
      refine .inr ⟨⟨_, _, sq_of gl, hx⟩, fun G2 => j + 1 ≤ ns.length ∧ Ex H1 G2 ∧ G2 l = some (.lst (ns.map V.str)) ∧ ∃ S k, k ≤ 3 * i + (j + 1) ∧ G2 D = some (SetT X.prog X.w D S k), fun G2 ⟨p1, p2, p3, p4⟩ => ⟨ns.length - (j + 1), by omega, rfl, p1, p2, p3, p4⟩, fun x G2 y => ?_⟩
      obtain ⟨rfl, y⟩ := y
      obtain rfl : V.str ns[j] = x := Option.some.inj (hx.symm.trans (y _ (sq_of gl)))
      refine ⟨hw2 _ _, ?_⟩
      refine y_go ⟨.str ns[j], by rw [List.getElem?_set_self (by rw [wipe_length, List.length_set, wipe_length]; exact h2)], ns[j], S2, k2, rfl, gS, by show k2 + 1 < 4096; omega, fun n' hn' => ⟨hjl, Ex.mut eG hD, by rw [upd_ne hlD]; exact gl, _, n', by omega, upd_same⟩⟩
    · exact .inl ⟨⟨_, sq_of gl, by rw [List.length_map]; omega⟩, hlt, eG, S2, k2, by omega, gS⟩
  · refine .inl ⟨⟨vs, st_of (eH _ _ hv), by rw [pr.length]; omega⟩, q _ H' (e1.trans eH) ⟨D, S, k, rfl, hS, ?_⟩⟩
    omega
/-- at most so many: not more -/
theorem et_gtC {σ : Sg} {H : Hp} {te : TE} {Pp : V → Hp → Prop} {rl : List V → Hp → VK → Prop} {N : Nat} {c : Int} (h : EP te σ H Pp) (hr : ∀ v H1, Ex H H1 → Pp v H1 → ∀ Q : VK, (∀ n : Nat, n ≤ N → Q (.int n) H1) → rl [v] H1 Q) (hc : (N : Int) ≤ c) :
    EvT (tTest (tOp (rI0 fun i j => .bl (decide (j < i))) (tCB rl (tCons te tNil)) (tC (.int c)))) σ H false := fun H1 e Q q => h H1 e _ fun v H2 e2 p => hr v H2 (e.trans e2) p _ fun n hn => ⟨n, c, rfl, rfl, false, by
      show V.bl (decide (c < (n : Int))) = V.bl false
      rw [decide_eq_false (by omega)], q H2 e2⟩
abbrev n_check_steps : List Str := ["steps", "place", "step", "name"]
theorem sc_check_steps : FnScope n_check_steps ["steps"] (defScope s_check_steps) := ⟨rfl, rfl, rfl, by decide +kernel, rfl, by decide +kernel, by decide +kernel⟩
theorem c_check_steps (T : Tx K mg) : Cal P w K mg base 5 "check_steps" (sp_check_steps K) [] := by
  have k_is_step := c_is_step (P := P) (w := w) (base := base) T
  have k_names_in := c_names_in (P := P) (w := w) (base := base) T
  refine calOf T 25 rfl rfl sc_check_steps (fun _ _ _ _ _ _ us hl => match us, hl with | [_], _ => rfl) (fun vs H Q E h => ?_) (fun cdv A outer s H vs Q E hr h => ?_)
  · obtain ⟨_, _, rfl, _⟩ := h
    rfl
  · obtain ⟨a, ss, rfl, hs, ok, q⟩ := h
    obtain ⟨vs, hv, pr⟩ := id hs
    have hlen : vs.length = ss.length := pr.length
    have d1 : decide ((1 : Int) ≤ (vs.length : Int)) = true := decide_eq_true (by have := ok.lo; omega)
    have d2 : decide ((vs.length : Int) ≤ 40) = true := decide_eq_true (by have := ok.hi; omega)
    refine ⟨_, (pss_cons (ps_if (PW.pt (pw_or (pt_not (pt_val (pe_callB (xc_isi (K := K)) rfl T.f_isinstance (by decide +kernel) (pa_cons (pv 0) (pa_cons (pe_bltn (v := .ty "tuple") rfl T.f_tuple (by decide +kernel) rfl) pa_nil))))) (pw_or1 (pt_not (pt_chain op_le op_le pe_int (pe_callB (xc_len (K := K)) rfl T.f_len (by decide +kernel) (pa_cons (pv 0) pa_nil)) (pe_gc rfl T.gMOST_STEPS))))))
          ((pss_one ps_never))
          (pss_nil))
      (pss_cons (ps_for PassesOwn.never rfl (pi_enumT rfl T.f_enumerate (pa_cons (pv 0) pa_nil)) (pg_tup rfl (pgs_cons (pg_name (i := 1) sc_check_steps.nd rfl (.inl rfl)) (pgs_cons (pg_name (i := 2) sc_check_steps.nd rfl (.inl rfl)) pgs_nil)))
          ((pss_one (ps_if (pt_not (pt_val (pe_c k_is_step hr (by decide) rfl (pa_cons (pv 2) (pa_cons (pe_callB (xc_len (K := K)) rfl T.f_len (by decide +kernel) (pa_cons (pv 0) pa_nil)) pa_nil)))))
              ((pss_one ps_never))
              (pss_nil)))))
      (pss_one (ps_if (pt_cmpR op_gt (pe_callB cr_lenST rfl T.f_len (by decide +kernel) (pa_cons (pe_scT2 (vs1 := [3]) (own := [("step", 2), ("name", 3)]) rfl sc_check_steps.nd (x_tup (K := K) (pv 0)) (blkOk_by (own := [("step", 2), ("name", 3)]) (N := n_check_steps) (sc := defScope s_check_steps) (by decide +kernel)) (by decide) (fun _ _ _ _ _ => (pg_name (i := 2) sc_check_steps.nd rfl (.inl rfl))) (fun _ _ _ _ _ => pts_nil) (fun _ _ _ _ _ => (x_list (K := K) (pe_c k_names_in hr (by decide) rfl (pa_cons (pv 2) pa_nil)))) (fun _ _ _ _ _ => (pg_name (i := 3) sc_check_steps.nd rfl (.inl rfl))) (fun _ _ _ _ _ => pts_nil) (fun _ _ _ _ _ => (pv 3))) pa_nil)) (pe_gc rfl T.gMOST_NAMES) (nomark _))
          ((pss_one ps_never))
          (pss_nil))))), ?_⟩
    refine q_no (et_is (et_or (et_not (et_val (ev_isiT (ev_var rfl) hv k_tups))) fun _ => et_not (et_test (ev_chain ev_c (ev_lenE (ev_var rfl) (.inr (st_of hv))) rv_I0 (fun _ => ev_c) fun _ => rv_I0))) (by rw [d1, d2]; rfl)) fun H1 e1 => ?_
    refine q_forET (ev_var rfl) (st_of (e1 _ _ hv)) (fun i σ' H' => Ex H H' ∧ ∃ x y, σ' = [some (.ref a), x, y, none]) (fun H2 e2 => ⟨e1.trans e2, none, none, rfl⟩) (fun i σ' H' _ p => st_of (p.1 _ _ hv)) (fun i x σ' H' H2 hx p e2 => ?_) fun σ' H' p => ?_
    · obtain ⟨eH, u1, u2, rfl⟩ := p
      obtain ⟨s, gs, sv⟩ := prd_get' pr hx
      have e02 := eH.trans e2
      refine s_no (et_not (et_val (ev_c2 (ev_var rfl) (ev_is (ev_lenE (ev_var rfl) (.inr (st_of (e02 _ _ hv)))) (by rw [hlen])) (v_is_step (sv.up e02) (ok.at gs))))) fun H3 e3 => ⟨e02.trans e3, _, _, rfl⟩
    · obtain ⟨eH, u1, u2, rfl⟩ := p
      have e12 : StepsAt H' a ss := hs.up eH
      have hen := ep_allNames (K := K) (X := (cxOf C8.CX0 P w K mg base n_check_steps "check_steps" (defScope s_check_steps) (He.ga K "check_steps") cdv A outer s H E).nox) (σ := [some (.ref a), u1, u2, none]) (H := H') (te := tVar 0) (j1 := 2) (j2 := 3) (ev_var rfl) e12 (by have := ok.hi; omega) (fun t ht => (ok.ok t ht).reads_len)
        (fun v t H1 h1 h2 => p_names_in (K := K) h1 h2) (by decide) (by simp) (by simp) (fun x => rfl) (fun x y => rfl) (E := C8.E0)
      exact s_no (et_gtC (N := 12) hen (fun v G2 _ ⟨D, S, n, hv2, hD, hn⟩ Q2 q2 => ⟨D, S, n, by rw [hv2], hD, q2 n (by have := ok.hi; omega)⟩) (by decide)) fun H3 e3 => q H3 (eH.trans e3)

end
end FB
set_option Elab.async false
set_option linter.all false
set_option maxRecDepth 100000
set_option maxHeartbeats 4000000
namespace FB
open PySem PySem.Spec PyProof.Rows L2 Evl
open C8 (Cal Mak pe_c pe_mk pe_gc)
section
variable {P : Program} {w : World} {K : PySem.W.Frag} {mg : Str → Option Value} {base : Heap}
def sp_init (K : PySem.W.Frag) : Sp := fun vs H Q _ => ∃ (p dx a : Addr) (ss : List Stp), vs = [.ref p, .ref a] ∧ H p = some (.ins (CP K) dx []) ∧ StepsAt H a ss ∧ Okp ss ∧ ∀ (d : Addr) (H' : Hp), H d = none → ExB p H H' → PrF K H' p a d ss → Q .non H'
abbrev n_init : List Str := ["self", "steps"]
theorem sc_init : FnScope n_init ["self", "steps"] (defScope s_init) := ⟨rfl, rfl, rfl, by decide +kernel, rfl, by decide +kernel, by decide +kernel⟩
theorem m_init (T : Tx K mg) : Mak P w K mg base 6 "Program" (CP K) (sp_init K) [] := by
  have k_check_steps := c_check_steps (P := P) (w := w) (base := base) T
  refine makOf T sc_init (fun vs H Q E h => ?_) (fun cdv A outer s H vs Q E hr h => ?_)
  · obtain ⟨_, _, _, _, rfl, _⟩ := h
    rfl
  · obtain ⟨p, dx, a, ss, rfl, hp, hs, ok, q⟩ := h
    refine ⟨_, (pss_cons (ps_expr (pe_c k_check_steps hr (by decide) rfl (pa_cons (pv 1) pa_nil)))
      (pss_cons (ps_fld (pv 0) (pv 1) rfl)
      (pss_cons (ps_fld (pv 0) (pv 1) rfl)
      (pss_one (ps_fld (pv 0) pe_dnewK rfl))))), ?_⟩
    refine q_drop (ev_c1 (ev_var rfl) (v_check_steps hs ok)) fun H1 e1 => ?_
    have o1 := e1 _ _ hp
    -- self.steps = steps; self.kept_steps = steps; self.kept_facts = {}
    refine ⟨_, rfl, _, rfl, p, CP K, dx, [], rfl, o1, T.cls, T.nS, (by show 0 < 1000; decide), ?_⟩
    refine ⟨_, rfl, _, rfl, p, CP K, dx, _, rfl, upd_same, T.cls, T.nK, (by show 1 < 1000; decide), ?_⟩
    intro d hd
    rw [upd_upd] at hd
    have npd : p ≠ d := fun z => by
      rw [z, upd_same] at hd
      cases hd
    refine ⟨_, rfl, p, CP K, dx, _, rfl, (by rw [upd_ne npd, upd_upd, upd_same]), T.cls, T.nF, (by show 2 < 1000; decide), ?_⟩
    have hd1 : H1 d = none := by
      rw [upd_ne npd.symm] at hd
      exact hd
    have bx : Box H1 p := ⟨fun xs z => by rw [o1] at z; cases z⟩
    generalize hG : upd (upd (upd (upd H1 p _) p _) d (.dK [])) p _ = G
    have gp : G p = some (.ins (CP K) dx (flds a d)) := by
      rw [← hG, upd_same]
      rfl
    have gd : G d = some (.dK []) := by rw [← hG, upd_ne npd.symm, upd_same]
    have eB : ExB p H1 G := fun b o hb e => by
      rw [← hG, upd_ne hb, upd_ne (ne_of_none e hd1), upd_ne hb, upd_ne hb]
      exact e
    refine q d G ?_ (fun b o hb e => eB b o hb (e1 b o e)) ⟨⟨⟨dx, gp⟩, (hs.up e1).upB eB bx, ok⟩, [], gd, ⟨Nat.zero_le _, fun _ z => (by cases z), fun v z => (by cases z), fun v z => (by cases z), fun v z => (by cases z)⟩⟩
    exact fresh_back e1 hd1

end
end FB
set_option Elab.async false
set_option linter.all false
set_option maxRecDepth 100000
set_option maxHeartbeats 4000000
namespace FB
open PySem PySem.Spec PyProof.Rows L2 Evl
open C8 (Cal Mak pe_c pe_mk pe_gc)
section
variable {P : Program} {w : World} {K : PySem.W.Frag} {mg : Str → Option Value} {base : Heap}
def sp_law_spread (K : PySem.W.Frag) : Sp := fun vs H Q _ => ∃ (a : Addr) (ss : List Stp) (st : Nat) (nm : Str), vs = [.ref a, vN st, .str nm] ∧ StepsAt H a ss ∧ Okp ss ∧ st < ss.length ∧ ∀ d ks H', H d = none → Ex H H' → Spr H' d ks ss.length → Q (.ref d) H'
/-- the step of a place -/
theorem ev_step {σ : Sg} {H : Hp} {ta tb : TE} {a : Addr} {ss : List Stp} {k : Nat} (ha : Ev ta σ H (.ref a)) (hb : Ev tb σ H (vN k)) (h : StepsAt H a ss) (hk : k < ss.length) : ∃ v s, ss[k]? = some s ∧ StepAt H v s ∧ Ev (tOp (rIxT K) ta tb) σ H v := by
  obtain ⟨vs, hv, hp⟩ := h
  obtain ⟨v, h1, h2⟩ := prd_get hp (List.getElem?_eq_getElem hk)
  exact ⟨v, ss[k], List.getElem?_eq_getElem hk, h2, ev_ixT ha hb hv (atI_nat h1)⟩
theorem et_leave {σ : Sg} {H : Hp} {te tn : TE} {v : V} {s : Stp} {nm : Str} (h : Ev te σ H v) (hn : Ev tn σ H (.str nm)) (hs : StepAt H v s) :
    EvT (tOr (tTest (tOp rNe (tOp (rIxT K) te (tC (.int 0))) (tC (.str kMake)))) (tTest (tOp rNe (tOp (rIxT K) te (tC (.int 1))) tn))) σ H (!decide (s.made = some nm)) := by
  cases s with
  | mk x rs g =>
    obtain ⟨a, r, rfl, ho, ht⟩ := hs
    refine et_is (et_or (a := false) (et_ne (ev_ixT h ev_c ho at0) ev_c rfl rfl) fun _ => et_ne (ev_ixT h ev_c ho at1) hn rfl rfl) ?_
    show (!decide (V.str x = V.str nm)) = !decide (some x = some nm)
    by_cases e : x = nm
    · rw [e]; simp
    · have e1 : ¬ V.str x = V.str nm := fun z => e (by injection z)
      simp [e, e1]
  | tell x g =>
    obtain ⟨a, rfl, ho⟩ := hs
    exact et_is (et_or (a := true) (b := false) (et_ne (ev_ixT h ev_c ho at0) ev_c rfl (by decide +kernel)) fun z => Bool.noConfusion z) rfl
  | test x gs =>
    obtain ⟨a, r, rfl, ho, ht⟩ := hs
    exact et_is (et_or (a := true) (b := false) (et_ne (ev_ixT h ev_c ho at0) ev_c rfl (by decide +kernel)) fun z => Bool.noConfusion z) rfl
  | go g =>
    obtain ⟨a, rfl, ho⟩ := hs
    exact et_is (et_or (a := true) (b := false) (et_ne (ev_ixT h ev_c ho at0) ev_c rfl (by decide +kernel)) fun z => Bool.noConfusion z) rfl
  | fin =>
    obtain ⟨a, rfl, ho⟩ := hs
    exact et_is (et_or (a := true) (b := false) (et_ne (ev_ixT h ev_c ho at0) ev_c rfl (by decide +kernel)) fun z => Bool.noConfusion z) rfl
/-- within a turn of the spread -/
def SpI (H G : Hp) (d f l : Addr) (n : Nat) (fs : List Nat) : Prop := Ex H G ∧ G f = some (.lst (fs.map vN)) ∧ ∃ (ks ls : List Nat), Spr G d ks n ∧ (∀ x ∈ fs, x ∈ ks) ∧ G l = some (.lst (ls.map vN)) ∧ (∀ x ∈ ls, x ∈ ks) ∧ ls.length ≤ ks.length
theorem SpI.up {H G G' : Hp} {d f l : Addr} {n : Nat} {fs : List Nat} (h : SpI H G d f l n fs) (e : Ex G G') : SpI H G' d f l n fs := by
  obtain ⟨a, b, ks, ls, c, d1, e1, f1, g1⟩ := h
  exact ⟨a.trans e, e _ _ b, ks, ls, c.up e, d1, e _ _ e1, f1, g1⟩
theorem at_nat {xs : List Nat} {k : Nat} (h : k < xs.length) : atI (xs.map vN) (k : Int) = some (vN xs[k]) := atI_nat (by rw [List.getElem?_map, List.getElem?_eq_getElem h]; rfl)
theorem mem_of_map {xs : List Nat} {i : Nat} {x : V} (h : (xs.map vN)[i]? = some x) : ∃ k, k ∈ xs ∧ x = vN k := by
  rw [List.getElem?_map] at h
  cases e : xs[i]? with
  | none => rw [e] at h; cases h
  | some k =>
    rw [e] at h
    exact ⟨k, List.mem_of_getElem? e, (Option.some.inj h).symm⟩
abbrev n_law_spread : List Str := ["_law_steps_here", "_law_start", "_law_name", "_law_found", "_law_front", "_law_turn", "_law_later", "_law_place", "_law_goals_here", "_law_k"]
theorem sc_law_spread : FnScope n_law_spread ["_law_steps_here", "_law_start", "_law_name"] (defScope s_law_spread) := ⟨rfl, rfl, rfl, by decide +kernel, rfl, by decide +kernel, by decide +kernel⟩
theorem c_law_spread (T : Tx K mg) : Cal P w K mg base 2 "_law_spread" (sp_law_spread K) [] := by
  have k_law_goals := c_law_goals (P := P) (w := w) (base := base) T
  refine calOf T 34 rfl rfl sc_law_spread (fun _ _ _ _ _ _ us hl => match us, hl with | [_, _, _], _ => rfl) (fun vs H Q E h => ?_) (fun cdv A outer s H vs Q E hr h => ?_)
  · obtain ⟨_, _, _, _, rfl, _⟩ := h
    rfl
  · obtain ⟨a, ss, st, nm, rfl, hs, ok, hst, q⟩ := h
    refine ⟨_, (pss_cons (ps_set (i := 3) sc_law_spread.nd rfl (.inl rfl) (pe_disp (pps_cons (pv 1) (pe_tup pa_nil) pps_nil) (by rfl) (by rfl) (fun z => by cases z) (by decide)))
      (pss_cons (ps_set (i := 4) sc_law_spread.nd rfl (.inl rfl) (pe_lst (pa_cons (pv 1) pa_nil)))
      (pss_cons (ps_for PassesOwn.never rfl (pi_range1 rfl T.f_range (pa_cons (pe_op op_add (pe_callB (xc_len (K := K)) rfl T.f_len (by decide +kernel) (pa_cons (pv 0) pa_nil)) pe_int) pa_nil)) (pg_name (i := 5) sc_law_spread.nd rfl (.inl rfl))
          ((pss_cons (ps_set (i := 6) sc_law_spread.nd rfl (.inl rfl) (pe_lst pa_nil))
          (pss_cons (ps_for PassesOwn.never rfl (x_list (K := K) (pv 4)) (pg_name (i := 7) sc_law_spread.nd rfl (.inl rfl))
              ((pss_one (ps_if (PW.pt (pw_or (pt_cmpR op_ne (pe_ix (xi_tup (K := K)) (pe_ix (xi_tup (K := K)) (pv 0) (pv 7) (fun _ _ => rfl)) pe_int (fun _ _ => rfl)) pe_str (nomark _)) (pw_or1 (pt_cmpR op_ne (pe_ix (xi_tup (K := K)) (pe_ix (xi_tup (K := K)) (pv 0) (pv 7) (fun _ _ => rfl)) pe_int (fun _ _ => rfl)) (pv 2) (nomark _)))))
                  ((pss_cons (ps_set (i := 8) sc_law_spread.nd rfl (.inl rfl) (pe_c k_law_goals hr (by decide) rfl (pa_cons (pe_ix (xi_tup (K := K)) (pv 0) (pv 7) (fun _ _ => rfl)) pa_nil)))
                  (pss_one (ps_for PassesOwn.never rfl (pi_range1 rfl T.f_range (pa_cons (pe_callB (xc_len (K := K)) rfl T.f_len (by decide +kernel) (pa_cons (pv 8) pa_nil)) pa_nil)) (pg_name (i := 9) sc_law_spread.nd rfl (.inl rfl))
                      ((pss_one (ps_if (pt_cmp (pc_dnotin (hu_of hr) (pe_ix (xi_list (K := K)) (pv 8) (pv 9) (fun _ _ => rfl)) (pv 3)))
                          ((pss_cons (ps_dput (hu_of hr) (pv 3) (pe_ix (xi_list (K := K)) (pv 8) (pv 9) (fun _ _ => rfl)) (pe_op (xo_catA (K := K)) (pe_dget (hu_of hr) (pv 3) (pv 7) (fun _ _ => rfl)) (pe_tup (pa_cons (pv 9) pa_nil))) rfl)
                          (pss_one (ps_expr (pe_bm PySem.F.plainAttrs_list PySem.F.slot_list_append PySem.F.type_list_append mt_append (pv 6) (pa_cons (pe_ix (xi_list (K := K)) (pv 8) (pv 9) (fun _ _ => rfl)) pa_nil))))))
                          (pss_nil))))))))
                  (pss_nil)))))
          (pss_one (ps_set (i := 4) sc_law_spread.nd rfl (.inl rfl) (pv 6)))))))
      (pss_one (ps_ret (pv 3)))))), ?_⟩
    refine q_dispOne (n := ss.length) (ev_var rfl) hst fun d H1 hd e1 p1 => ?_
    refine q_asgL (el_lst (ea_cons (ev_var rfl) ea_nil) (by simp)) fun f H2 hf e2 f2 => ?_
    have p2 := p1.up e2
    have hs2 := hs.up (e1.trans e2)
    have hl4 := ok.hi
    refine q_forR1 (n := ((ss.length + 1 : Nat) : Int)) (ea_cons (ev_is (ev_op (ev_lenE (ev_var rfl) (.inr (st_of hs2.choose_spec.1))) ev_c rv_I0) (congrArg V.int (by rw [hs2.choose_spec.2.length]; omega))) ea_nil) ⟨by omega, by omega⟩
      (fun i σ' G => ∃ f u5 u6 u7 u8 u9, σ' = [some (.ref a), some (vN st), some (.str nm), some (.ref d), some (.ref f), u5, u6, u7, u8, u9] ∧ Ex H G ∧ ∃ (ks fs : List Nat), Spr G d ks ss.length ∧ G f = some (.lst (fs.map vN)) ∧ (∀ x ∈ fs, x ∈ ks) ∧ fs.length ≤ ks.length)
      (fun G e => ⟨f, none, none, none, none, none, rfl, (e1.trans e2).trans e, [st], [st], p2.up e, e _ _ f2, fun x hx => hx, Nat.le_refl _⟩) (fun i σ' G hi p => ?_) fun σ' G p => ?_
    · obtain ⟨f, u5, u6, u7, u8, u9, rfl, eG, ks, fs, sG, gf, hfk, hfl⟩ := p
      have hkl := sG.len
      refine q_asgL (el_lst ea_nil (by simp)) fun l G1 hl g1 l1 => ?_
      have nlf : l ≠ f := fun z => by rw [z, gf] at hl; cases hl
      have iG1 : SpI H G1 d f l ss.length fs := ⟨eG.trans g1, g1 _ _ gf, ks, [], sG.up g1, hfk, l1, fun x hx => (by cases hx), Nat.zero_le _⟩
      refine q_forLn (ev_var rfl) (sq_of (g1 _ _ gf)) (fun j σ' G' => ∃ u7 u8 u9, σ' = [some (.ref a), some (vN st), some (.str nm), some (.ref d), some (.ref f), some (vN i), some (.ref l), u7, u8, u9] ∧ SpI H G' d f l ss.length fs)
        (fun G' e => ⟨u7, u8, u9, rfl, iG1.up e⟩) (fun j σ' G' hj p => ?_) (fun j x σ' G' hj p => ?_) fun σ' G' p => ?_
      · obtain ⟨u7, u8, u9, rfl, hi2⟩ := p
        exact sq_of hi2.2.1
      · obtain ⟨u7, u8, u9, rfl, hi2⟩ := p
        obtain ⟨pl, hpl, rfl⟩ := mem_of_map hj
        have hpn : pl < ss.length := by
          obtain ⟨_, _, ks', ls', s', h', _⟩ := hi2
          exact s'.lt _ (h' _ hpl)
        obtain ⟨v, s, es, hv, hev⟩ := ev_step (σ := [some (.ref a), some (vN st), some (.str nm), some (.ref d), some (.ref f), some (vN i), some (.ref l), some (vN pl), u8, u9]) (ta := tVar 0) (tb := tVar 7) (ev_var rfl) (ev_var rfl) (hs.up hi2.1) hpn
        refine s_when (et_leave hev (ev_var rfl) hv) (fun _ G2 g2 => ?_) fun _ G2 g2 => ⟨_, _, _, rfl, hi2.up g2⟩
        refine q_asgL (el_call (ea_cons (hev.mono g2) ea_nil) (l_law_goals (hv.up g2))) fun gL G3 hgL g3 gl3 => ?_
        have hi3 := (hi2.up g2).up g3
        have hgl := (ok.at es).goals_len
        have nlg : l ≠ gL := fun z => by
          obtain ⟨_, _, ks', ls', _, _, h', _⟩ := hi2.up g2
          rw [z, hgL] at h'
          cases h'
        refine s_forR1 (n := (s.goals.length : Int)) (ea_cons (ev_is (ev_lenE (ev_var rfl) (.inl (sq_of gl3))) (congrArg V.int (by rw [List.length_map]))) ea_nil) ⟨by omega, by omega⟩
          (fun k σ' G' => ∃ u9, σ' = [some (.ref a), some (vN st), some (.str nm), some (.ref d), some (.ref f), some (vN i), some (.ref l), some (vN pl), some (.ref gL), u9] ∧ SpI H G' d f l ss.length fs ∧ G' gL = some (.lst (s.goals.map vN)))
          (fun G' e => ⟨u9, rfl, hi3.up e, e _ _ gl3⟩) (fun k σ' G4 hk p => ?_) fun σ' G4 p => ?_
        · obtain ⟨u9, rfl, hi4, gl4⟩ := p
          have hk' : k < s.goals.length := by omega
          obtain ⟨eH, gf4, ks4, ls4, s4, h4, gl, h5, h6⟩ := id hi4
          have hgn : s.goals[k] < ss.length := (ok.at es).goals _ (List.getElem_mem hk')
          refine s_when (et_test (ev_dnotin (ev_var rfl) (ev_ixL (ev_var rfl) (ev_var rfl) gl4 (at_nat hk')) s4)) (fun hb G5 g5 => ?_) fun _ G5 g5 => ⟨_, rfl, hi4.up g5, g5 _ _ gl4⟩
          have hno : ¬ s.goals[k] ∈ ks4 := by
            intro z
            rw [decide_eq_true z] at hb
            cases hb
          have gl5 := g5 _ _ gl4
          have s5 := s4.up g5
          refine q_sprPut (ev_var rfl) (ev_ixL (ev_var rfl) (ev_var rfl) gl5 (at_nat hk')) (ev_var rfl) (ev_var rfl) s5 (h4 _ hpl) hno hgn (by omega) fun G6 g6 s6 => ?_
          obtain ⟨kvs, hdk, _⟩ := s5.ex
          have ndf : ∀ {w : Addr} {xs : List V}, G5 w = some (.lst xs) → w ≠ d := fun h z => by rw [z, hdk] at h; cases h
          have gl6 := g6 _ _ (ndf gl5) gl5
          have l6 := g6 _ _ (ndf (g5 _ _ gl)) (g5 _ _ gl)
          have f6 := g6 _ _ (ndf (g5 _ _ gf4)) (g5 _ _ gf4)
          refine s_app l6 (ev_var rfl) (ev_ixL (ev_var rfl) (ev_var rfl) gl6 (at_nat hk')) (by rw [List.length_map]; have := s5.len; omega) fun G7 g7 => ?_
          have e7 : Ex H G7 := by
            intro w o hw
            by_cases hwd : w = d
            · rw [hwd, hd] at hw
              cases hw
            · exact g7 _ _ (g6 _ _ hwd (g5 _ _ (eH _ _ hw)))
          have hlH : H l = none := fresh_back eG hl
          refine ⟨_, rfl, ⟨Ex.mut e7 hlH, ?_, ks4 ++ [s.goals[k]], ls4 ++ [s.goals[k]], (s6.up g7).upB (g7 _ _ l6) ExB.put, fun x hx => List.mem_append_left _ (h4 x hx), ?_, fun x hx => ?_, ?_⟩, ?_⟩
          · rw [upd_ne nlf.symm]
            exact g7 _ _ f6
          · rw [upd_same, List.map_append]
            rfl
          · rcases List.mem_append.mp hx with h | h
            · exact List.mem_append_left _ (h5 x h)
            · exact List.mem_append_right _ h
          · rw [List.length_append, List.length_append]
            show ls4.length + 1 ≤ ks4.length + 1
            omega
          · rw [upd_ne nlg.symm]
            exact g7 _ _ gl6
        · obtain ⟨u9, rfl, hi4, gl4⟩ := p
          exact ⟨_, _, _, rfl, hi4⟩
      · obtain ⟨u7, u8, u9, rfl, hi2⟩ := p
        obtain ⟨eH, gf4, ks4, ls4, s4, h4, gl, h5, h6⟩ := hi2
        exact ⟨_, rfl, l, _, _, _, _, _, rfl, eH, ks4, ls4, s4, gl, h5, h6⟩
    · obtain ⟨f, u5, u6, u7, u8, u9, rfl, eG, ks, fs, sG, gf, hfk, hfl⟩ := p
      exact ⟨_, rfl, q d ks G hd eG sG⟩

end
end FB
set_option Elab.async false
set_option linter.all false
set_option maxRecDepth 100000
set_option maxHeartbeats 4000000
namespace FB
open PySem PySem.Spec PyProof.Rows L2 Evl
open C8 (Cal Mak pe_c pe_mk pe_gc)
section
variable {P : Program} {w : World} {K : PySem.W.Frag} {mg : Str → Option Value} {base : Heap}
theorem cut_init (xs : List V) : cutV xs none (some (-1)) = xs.dropLast := by
  unfold cutV
  rw [List.dropLast_eq_take]
  have h0 : HT.sIx xs.length 0 none = 0 := rfl
  have h1 : HT.sIx xs.length xs.length (some (-1)) = xs.length - 1 := by
    unfold HT.sIx
    simp
    omega
  rw [h0, h1]
  rfl
def leavesB (ss : List Stp) (ps : List Nat) (nm : Str) : Bool := ps.dropLast.all fun p => !decide (md ss p = some nm)
def sp_law_leaves (K : PySem.W.Frag) : Sp := fun vs H Q _ => ∃ (a b : Addr) (ss : List Stp) (ps : List Nat) (nm : Str), vs = [.ref a, .ref b, .str nm] ∧ StepsAt H a ss ∧ H b = some (.lst (ps.map vN)) ∧ (∀ p ∈ ps, p < ss.length) ∧ ps.length ≤ 100 ∧ ∀ H', Ex H H' → Q (.bl (leavesB ss ps nm)) H'
theorem v_law_leaves {H : Hp} {a b : Addr} {ss : List Stp} {ps : List Nat} {nm : Str} (h : StepsAt H a ss) (hb : H b = some (.lst (ps.map vN))) (hp : ∀ p ∈ ps, p < ss.length) (hl : ps.length ≤ 100) : SpV (sp_law_leaves K) [.ref a, .ref b, .str nm] H (.bl (leavesB ss ps nm)) := fun H1 e Q q E => ⟨a, b, ss, ps, nm, rfl, h.up e, e _ _ hb, hp, hl, fun H2 e2 => q H2 e2⟩
theorem et_makes {σ : Sg} {H : Hp} {te tn : TE} {v : V} {s : Stp} {nm : Str} (h : Ev te σ H v) (hn : Ev tn σ H (.str nm)) (hs : StepAt H v s) :
    EvT (tAnd (tTest (tOp rEq (tOp (rIxT K) te (tC (.int 0))) (tC (.str kMake)))) (tTest (tOp rEq (tOp (rIxT K) te (tC (.int 1))) tn))) σ H (decide (s.made = some nm)) := by
  cases s with
  | mk x rs g =>
    obtain ⟨a, r, rfl, ho, ht⟩ := hs
    refine et_is (et_and (a := true) (et_eq (ev_ixT h ev_c ho at0) ev_c rfl k_mm) fun _ => et_eq (ev_ixT h ev_c ho at1) hn rfl rfl) ?_
    show decide (V.str x = V.str nm) = decide (some x = some nm)
    by_cases e : x = nm
    · rw [e]; simp
    · have e1 : ¬ V.str x = V.str nm := fun z => e (by injection z)
      simp [e, e1]
  | tell x g =>
    obtain ⟨a, rfl, ho⟩ := hs
    exact et_is (et_and (a := false) (b := false) (et_eq (ev_ixT h ev_c ho at0) ev_c rfl k_tm) fun z => Bool.noConfusion z) rfl
  | test x gs =>
    obtain ⟨a, r, rfl, ho, ht⟩ := hs
    exact et_is (et_and (a := false) (b := false) (et_eq (ev_ixT h ev_c ho at0) ev_c rfl k_sm) fun z => Bool.noConfusion z) rfl
  | go g =>
    obtain ⟨a, rfl, ho⟩ := hs
    exact et_is (et_and (a := false) (b := false) (et_eq (ev_ixT h ev_c ho at0) ev_c rfl k_gm) fun z => Bool.noConfusion z) rfl
  | fin =>
    obtain ⟨a, rfl, ho⟩ := hs
    exact et_is (et_and (a := false) (b := false) (et_eq (ev_ixT h ev_c ho at0) ev_c rfl k_em) fun z => Bool.noConfusion z) rfl
theorem given_nil (n : Nat) (f : Nat → Bool) (v : Nat → V) (h : ∀ i, i < n → f i = false) : given n f v = [] := by
  induction n with
  | zero => rfl
  | succ n ih => rw [given_no (h n (Nat.lt_succ_self n)), ih fun i hi => h i (Nat.lt_succ_of_lt hi)]
theorem given_mem (n : Nat) (f : Nat → Bool) (v : Nat → V) {i : Nat} (hi : i < n) (hf : f i = true) : v i ∈ given n f v := by
  induction n with
  | zero => omega
  | succ n ih =>
    by_cases e : i = n
    · subst e
      rw [given_yes hf]
      exact List.mem_append_right _ (List.mem_singleton.mpr rfl)
    · have m := ih (by omega)
      cases hb : f n with
      | true =>
        rw [given_yes hb]
        exact List.mem_append_left _ m
      | false =>
        rw [given_no hb]
        exact m
abbrev n_law_leaves : List Str := ["_law_steps_here", "_law_places", "_law_name", "_law_place"]
theorem sc_law_leaves : FnScope n_law_leaves ["_law_steps_here", "_law_places", "_law_name"] (defScope s_law_leaves) := ⟨rfl, rfl, rfl, by decide +kernel, rfl, by decide +kernel, by decide +kernel⟩
theorem c_law_leaves (T : Tx K mg) : Cal P w K mg base 1 "_law_leaves" (sp_law_leaves K) [] := by
  refine calOf T 37 rfl rfl sc_law_leaves (fun _ _ _ _ _ _ us hl => match us, hl with | [_, _, _], _ => rfl) (fun vs H Q E h => ?_) (fun cdv A outer s H vs Q E hr h => ?_)
  · obtain ⟨_, _, _, _, _, rfl, _⟩ := h
    rfl
  · obtain ⟨a, b, ss, ps, nm, rfl, hs, hb, hp, hl, q⟩ := h
    refine ⟨_, (pss_one (ps_ret (pe_cmpR op_eq (pe_callB (xc_len (K := K)) rfl T.f_len (by decide +kernel) (pa_cons (pe_lc (g := gName 3) (tt := _) (own := [("_law_place", 3)]) rfl sc_law_leaves.nd (x_list (K := K) (pe_slice (xs_list (K := K)) (pv 1) po_none (po_some (pe_un un_neg pe_int)))) (blkOk_by (own := [("_law_place", 3)]) (N := n_law_leaves) (sc := defScope s_law_leaves) (by decide +kernel)) (fun _ _ _ _ _ => (pg_name (i := 3) sc_law_leaves.nd rfl (.inl rfl))) (fun _ _ _ _ _ => (pts_one (PW.pt (pw_and (pt_cmpR op_eq (pe_ix (xi_tup (K := K)) (pe_ix (xi_tup (K := K)) (pv 0) (pv 3) (fun _ _ => rfl)) pe_int (fun _ _ => rfl)) pe_str (nomark _)) (pw_and1 (pt_cmpR op_eq (pe_ix (xi_tup (K := K)) (pe_ix (xi_tup (K := K)) (pv 0) (pv 3) (fun _ _ => rfl)) pe_int (fun _ _ => rfl)) (pv 2) (nomark _))))))) (fun _ _ _ _ _ => (pv 3))) pa_nil)) pe_int (nomark _)))), ?_⟩
    have hd : ∀ p ∈ ps.dropLast, p < ss.length := fun p h => hp p (List.dropLast_subset _ h)
    have hdl : ps.dropLast.length ≤ 100 := by rw [List.length_dropLast]; omega
    have ex : cutV (ps.map vN) none (some (-1)) = ps.dropLast.map vN := by rw [cut_init, ← List.map_dropLast]
    have key : Ev (tCB (rLenS K) (tCons (tLc (iList K (tSl (rSlL K) (tVar 1) tNoPart (tPart (tUn (rU fun i => .int (-i)) (tC (.int 1)))))) (gName 3) (tAnd (tTest (tOp rEq (tOp (rIxT K) (tOp (rIxT K) (tVar 0) (tVar 3)) (tC (.int 0))) (tC (.str kMake)))) (tTest (tOp rEq (tOp (rIxT K) (tOp (rIxT K) (tVar 0) (tVar 3)) (tC (.int 1))) (tVar 2)))) (tVar 3) [3]) tNil)) [some (.ref a), some (.ref b), some (.str nm), none] H
      (.int ((given (ps.dropLast.map vN).length (fun i => match ps.dropLast[i]? with | some p => decide (md ss p = some nm) | none => false) (fun i => match ps.dropLast[i]? with | some p => vN p | none => .non)).length : Int)) := by
      refine ev_lenN (el_lcNL _ _ ?_ (by rw [List.length_map]; omega) (fun _ => rfl) (fun i x G g hi => ?_) fun i x G g hi _ => ?_)
      · rw [← ex]
        exact el_sl (ev_var rfl) eo_none (eo_some (ev_neg ev_c)) (sq_of hb)
      · rw [List.getElem?_map] at hi
        cases e : ps.dropLast[i]? with
        | none => rw [e] at hi; cases hi
        | some p =>
          rw [e] at hi
          obtain rfl := Option.some.inj hi
          have hpn := hd p (List.mem_of_getElem? e)
          obtain ⟨v, s, es, hv, hev⟩ := ev_step (σ := [some (.ref a), some (.ref b), some (.str nm), some (vN p)]) (ta := tVar 0) (tb := tVar 3) (ev_var rfl) (ev_var rfl) (hs.up g) hpn
          refine et_is (et_makes hev (ev_var rfl) hv) ?_
          show _ = decide (md ss p = some nm)
          rw [md_of es]
      · rw [List.getElem?_map] at hi
        cases e : ps.dropLast[i]? with
        | none => rw [e] at hi; cases hi
        | some p =>
          rw [e] at hi
          obtain rfl := Option.some.inj hi
          exact ev_var rfl
    refine s_ret (ev_is (ev_op key ev_c (rv_eq rfl)) ?_) q
    refine congrArg V.bl ?_
    generalize hg : given (ps.dropLast.map vN).length _ _ = L
    cases hb2 : leavesB ss ps nm with
    | true =>
      have e : L = [] := by
        rw [← hg]
        refine given_nil _ _ _ fun i hi => ?_
        rw [List.length_map] at hi
        have e := List.getElem?_eq_getElem hi
        simp only [e]
        have z := List.all_eq_true.mp hb2 _ (List.getElem_mem hi)
        simpa using z
      rw [e]
      rfl
    | false =>
      have hx : ∃ p ∈ ps.dropLast, md ss p = some nm := by
        unfold leavesB at hb2
        rw [List.all_eq_false] at hb2
        obtain ⟨p, h1, h2⟩ := hb2
        exact ⟨p, h1, by simpa using h2⟩
      obtain ⟨p, h1, h2⟩ := hx
      obtain ⟨i, hi, e⟩ := List.getElem_of_mem h1
      have hm : vN p ∈ L := by
        have e2 : ps.dropLast[i]? = some p := by rw [List.getElem?_eq_getElem hi, e]
        have z := given_mem (ps.dropLast.map vN).length (fun i => match ps.dropLast[i]? with | some p => decide (md ss p = some nm) | none => false) (fun i => match ps.dropLast[i]? with | some p => vN p | none => .non) (i := i) (by rw [List.length_map]; exact hi) (by simp only [e2]; exact decide_eq_true h2)
        simp only [e2] at z
        rw [← hg]
        exact z
      refine decide_eq_false fun z => ?_
      have z1 : (L.length : Int) = 0 := V.int.inj z
      have := List.length_pos_of_mem hm
      omega

end
end FB
set_option Elab.async false
set_option linter.all false
set_option maxRecDepth 100000
set_option maxHeartbeats 4000000
namespace FB
open PySem PySem.Spec PyProof.Rows L2 Evl
open C8 (Cal Mak pe_c pe_mk pe_gc)
section
variable {P : Program} {w : World} {K : PySem.W.Frag} {mg : Str → Option Value} {base : Heap}
def sp_law_reads (K : PySem.W.Frag) : Sp := fun vs H Q _ => ∃ v s, vs = [v] ∧ StepAt H v s ∧ ∀ p H', H p = none → Ex H H' → H' p = some (.lst (s.reads.map V.str)) → Q (.ref p) H'
theorem l_law_reads {H : Hp} {v : V} {s : Stp} (h : StepAt H v s) : SpL (sp_law_reads K) [v] H (s.reads.map V.str) := fun H1 e Q q E => ⟨v, s, rfl, h.up e, fun p H2 hp e2 t => q p H2 hp e2 t⟩
abbrev n_law_reads : List Str := ["_law_step_here"]
theorem sc_law_reads : FnScope n_law_reads ["_law_step_here"] (defScope s_law_reads) := ⟨rfl, rfl, rfl, by decide +kernel, rfl, by decide +kernel, by decide +kernel⟩
theorem c_law_reads (T : Tx K mg) : Cal P w K mg base 1 "_law_reads" (sp_law_reads K) [] := by
  refine calOf T 33 rfl rfl sc_law_reads (fun _ _ _ _ _ _ us hl => match us, hl with | [_], _ => rfl) (fun vs H Q E h => ?_) (fun cdv A outer s H vs Q E hr h => ?_)
  · obtain ⟨_, _, rfl, _⟩ := h
    rfl
  · obtain ⟨v, s, rfl, hs, q⟩ := h
    refine ⟨_, (pss_cons (ps_if (pt_cmpR op_eq (pe_ix (xi_tup (K := K)) (pv 0) pe_int (fun _ _ => rfl)) pe_str (nomark _))
          ((pss_one (ps_ret (pe_callTy (xc_list (K := K)) rfl T.f_list (by decide +kernel) (pa_cons (pe_ix (xi_tup (K := K)) (pv 0) pe_int (fun _ _ => rfl)) pa_nil)))))
          (pss_nil))
      (pss_cons (ps_if (PW.pt (pw_or (pt_cmpR op_eq (pe_ix (xi_tup (K := K)) (pv 0) pe_int (fun _ _ => rfl)) pe_str (nomark _)) (pw_or1 (pt_cmpR op_eq (pe_ix (xi_tup (K := K)) (pv 0) pe_int (fun _ _ => rfl)) pe_str (nomark _)))))
          ((pss_one (ps_ret (pe_lst (pa_cons (pe_ix (xi_tup (K := K)) (pv 0) pe_int (fun _ _ => rfl)) pa_nil)))))
          (pss_nil))
      (pss_one (ps_ret (pe_lst pa_nil))))), ?_⟩
    cases s with
    | mk x rs g =>
      obtain ⟨a, r, rfl, ho, t, rfl, ht⟩ := hs
      refine q_yes (et_eq (ev_ixT (ev_var rfl) ev_c ho at0) ev_c rfl k_mm) fun H1 e1 => ?_
      exact s_retL (el_listP (ep_of (ev_ixT (ev_var rfl) ev_c (e1 _ _ ho) at2)) fun v H3 e3 hv => ⟨t, hv, .inr (st_of (e3 _ _ (e1 _ _ ht)))⟩) fun p H3 hp0 e3 hp => q p H3 (fresh_back e1 hp0) (e1.trans e3) hp
    | tell x g =>
      obtain ⟨a, rfl, ho⟩ := hs
      refine q_no (et_eq (ev_ixT (ev_var rfl) ev_c ho at0) ev_c rfl k_tm) fun H1 e1 => ?_
      refine q_yes (et_or (b := false) (et_eq (ev_ixT (ev_var rfl) ev_c (e1 _ _ ho) at0) ev_c rfl k_tt) fun z => Bool.noConfusion z) fun H2 e2 => ?_
      exact s_retL (el_lst (ea_cons (ev_ixT (ev_var rfl) ev_c ((e1.trans e2) _ _ ho) at1) ea_nil) (by simp)) fun p H3 hp0 e3 hp => q p H3 (fresh_back (e1.trans e2) hp0) ((e1.trans e2).trans e3) hp
    | test x gs =>
      obtain ⟨a, r, rfl, ho, t, rfl, ht⟩ := hs
      refine q_no (et_eq (ev_ixT (ev_var rfl) ev_c ho at0) ev_c rfl k_sm) fun H1 e1 => ?_
      refine q_yes (et_or (et_eq (ev_ixT (ev_var rfl) ev_c (e1 _ _ ho) at0) ev_c rfl k_st) fun _ => et_eq (ev_ixT (ev_var rfl) ev_c (e1 _ _ ho) at0) ev_c rfl k_ss) fun H2 e2 => ?_
      exact s_retL (el_lst (ea_cons (ev_ixT (ev_var rfl) ev_c ((e1.trans e2) _ _ ho) at1) ea_nil) (by simp)) fun p H3 hp0 e3 hp => q p H3 (fresh_back (e1.trans e2) hp0) ((e1.trans e2).trans e3) hp
    | go g =>
      obtain ⟨a, rfl, ho⟩ := hs
      refine q_no (et_eq (ev_ixT (ev_var rfl) ev_c ho at0) ev_c rfl k_gm) fun H1 e1 => ?_
      refine q_no (et_or (et_eq (ev_ixT (ev_var rfl) ev_c (e1 _ _ ho) at0) ev_c rfl k_gt) fun _ => et_eq (ev_ixT (ev_var rfl) ev_c (e1 _ _ ho) at0) ev_c rfl k_gs) fun H2 e2 => ?_
      exact s_retL (el_lst ea_nil (by simp)) fun p H3 hp0 e3 hp => q p H3 (fresh_back (e1.trans e2) hp0) ((e1.trans e2).trans e3) hp
    | fin =>
      obtain ⟨a, rfl, ho⟩ := hs
      refine q_no (et_eq (ev_ixT (ev_var rfl) ev_c ho at0) ev_c rfl k_em) fun H1 e1 => ?_
      refine q_no (et_or (et_eq (ev_ixT (ev_var rfl) ev_c (e1 _ _ ho) at0) ev_c rfl k_et) fun _ => et_eq (ev_ixT (ev_var rfl) ev_c (e1 _ _ ho) at0) ev_c rfl k_es) fun H2 e2 => ?_
      exact s_retL (el_lst ea_nil (by simp)) fun p H3 hp0 e3 hp => q p H3 (fresh_back (e1.trans e2) hp0) ((e1.trans e2).trans e3) hp

end
end FB
set_option Elab.async false
set_option linter.all false
set_option maxRecDepth 100000
set_option maxHeartbeats 4000000
namespace FB
open PySem PySem.Spec PyProof.Rows L2 Evl
open C8 (Cal Mak pe_c pe_mk pe_gc)
section
variable {P : Program} {w : World} {K : PySem.W.Frag} {mg : Str → Option Value} {base : Heap}
section
variable {σ : Sg} {H : Hp} {ta tl te : TE} {D : Ends} {tu tz : TS} {j : Nat}
theorem s_forE {R : List V → Hp → Prop} (h : EvR tl σ H R) (Pv : Addr → List V → Nat → L2.St → Hp → Prop) (h0 : ∀ p xs H1, H p = none → Ex H H1 → H1 p = some (.lst xs) → R xs H1 → Pv p xs 0 σ H1) (hl : ∀ p xs i σ' H', i ≤ xs.length → Pv p xs i σ' H' → SqL K H' p xs)
    (hs : ∀ p xs i x σ' H', xs[i]? = some x → Pv p xs i σ' H' → tu { D with nx := Pv p xs (i + 1), ct := Pv p xs (i + 1), bk := D.nx } (σ'.set j (some x)) H') (hd : ∀ p xs σ' H', Pv p xs xs.length σ' H' → D.nx σ' H') : tFor (iList K tl) (gName j) tu D σ H :=
  h H (Ex.refl H) _ fun p xs H1 hp e hx hR => ⟨p, rfl, ⟨xs, sq_of hx⟩, for_list (Pv p xs) (h0 p xs H1 hp e hx hR) (hl p xs) (hs p xs) (hd p xs)⟩
theorem q_forE {R : List V → Hp → Prop} (h : EvR tl σ H R) (Pv : Addr → List V → Nat → L2.St → Hp → Prop) (h0 : ∀ p xs H1, H p = none → Ex H H1 → H1 p = some (.lst xs) → R xs H1 → Pv p xs 0 σ H1) (hl : ∀ p xs i σ' H', i ≤ xs.length → Pv p xs i σ' H' → SqL K H' p xs)
    (hs : ∀ p xs i x σ' H', xs[i]? = some x → Pv p xs i σ' H' → tu { D with nx := Pv p xs (i + 1), ct := Pv p xs (i + 1), bk := tz D } (σ'.set j (some x)) H') (hd : ∀ p xs σ' H', Pv p xs xs.length σ' H' → tz D σ' H') : tSeq (tFor (iList K tl) (gName j) tu) tz D σ H :=
  s_forE (D := { D with nx := tz D }) h Pv h0 hl hs hd
theorem er_L {xs : List V} (h : EvL tl σ H xs) : EvR tl σ H fun ys _ => ys = xs := fun H1 e Q q => h H1 e Q fun p H2 hp e2 hx => q p xs H2 hp e2 hx rfl
theorem er_sortS {a : Addr} {xs : List Str} (h : Ev ta σ H (.ref a)) (hs : SqL K H a (xs.map V.str)) (hl : xs.length < 64) : EvR (tCB (rSortedS K) (tCons ta tNil)) σ H fun ys _ => ∃ zs : List Str, ys = zs.map V.str ∧ zs.Perm xs := fun H1 e Q q =>
  h H1 e _ fun H2 e2 => ⟨a, xs, rfl, ex_l (e.trans e2) hs, hl, fun ys p hp _ hn => q p _ _ (fresh_back e2 hn) (e2.trans (Ex.new hn)) upd_same ⟨ys, rfl, hp⟩⟩
theorem nats_back : ∀ ns : List Int, (∀ x ∈ ns, ∃ k : Nat, x = (k : Int)) → ∃ zs : List Nat, ns = zs.map fun k : Nat => (k : Int)
  | [], _ => ⟨[], rfl⟩
  | x :: r, hn => by
    obtain ⟨k, rfl⟩ := hn x List.mem_cons_self
    obtain ⟨zs, rfl⟩ := nats_back r fun y hy => hn y (List.mem_cons_of_mem _ hy)
    exact ⟨k :: zs, rfl⟩
theorem er_sortD {d : Addr} {ks : List Nat} {n : Nat} (h : Ev ta σ H (.ref d)) (hs : Spr H d ks n) (hl : n < 64) : EvR (tCB (rSorted K) (tCons (tCB rListD (tCons ta tNil)) tNil)) σ H fun ys _ => ∃ zs : List Nat, ys = zs.map vN ∧ zs.Perm ks := fun H1 e Q q =>
  h H1 e _ fun H2 e2 => by
    obtain ⟨kvs, a, b, c⟩ := (hs.up (e.trans e2)).ex
    refine ⟨d, kvs, rfl, a, fun l hl0 => ⟨l, ks.map fun k : Nat => (k : Int), rfl, ?_, by rw [List.length_map]; have := hs.len; omega, fun ns p hp _ hn => ?_⟩⟩
    · refine sq_of ?_
      rw [upd_same]
      have : kvs.map (fun kv => kV kv.1) = (kvs.map (·.1)).map kV := by rw [List.map_map]; rfl
      rw [this, b, List.map_map, List.map_map]
      rfl
    · have hn2 : ∀ x ∈ ns, ∃ k : Nat, x = (k : Int) := fun x hx => by
        obtain ⟨k, _, e⟩ := List.mem_map.mp (hp.mem_iff.mp hx)
        exact ⟨k, e.symm⟩
      have hz := nats_back ns hn2
      obtain ⟨zs, rfl⟩ := hz
      have hz2 : zs.Perm ks := by
        have := hp.map Int.toNat
        rw [List.map_map, List.map_map] at this
        have e1 : ∀ l : List Nat, l.map (Int.toNat ∘ fun k : Nat => (k : Int)) = l := fun l => by
          induction l with
          | nil => rfl
          | cons x r ih => rw [List.map_cons, ih]; rfl
        rw [e1, e1] at this
        exact this
      have e3 := (Ex.new (o := .lst (kvs.map fun kv => kV kv.1)) hl0).trans (Ex.new (o := .lst ((zs.map fun k : Nat => (k : Int)).map V.int)) hn)
      refine q p _ _ (fresh_back (e2.trans (Ex.new hl0)) hn) (e2.trans e3) upd_same ⟨zs, by rw [List.map_map]; rfl, hz2⟩
end
/-- a fault: a place and a name -/
def FltAt (n : Nat) (H : Hp) (x : V) : Prop := ∃ (t : Addr) (p : Nat) (nm : Str), x = .ref t ∧ H t = some (.tup [vN p, .str nm]) ∧ p < n
theorem FltAt.up {n : Nat} {H H' : Hp} {x : V} (h : FltAt n H x) (e : Ex H H') : FltAt n H' x := by
  obtain ⟨t, p, nm, rfl, a, b⟩ := h
  exact ⟨t, p, nm, rfl, e _ _ a, b⟩
theorem FltAt.upB {n : Nat} {H H' : Hp} {x : V} {l : Addr} (h : FltAt n H x) (b : Box H l) (e : ExB l H H') : FltAt n H' x := by
  obtain ⟨t, p, nm, rfl, a, c⟩ := h
  exact ⟨t, p, nm, rfl, e.tup b a, c⟩
def sp_law_faults (K : PySem.W.Frag) : Sp := fun vs H Q _ => ∃ (a : Addr) (ss : List Stp), vs = [.ref a] ∧ StepsAt H a ss ∧ Okp ss ∧ ∀ l fs H', H l = none → Ex H H' → H' l = some (.lst fs) → fs.length ≤ 100 → (∀ x ∈ fs, FltAt ss.length H' x) → Q (.ref l) H'
abbrev n_law_faults : List Str := ["_law_steps_here", "_law_found", "_law_names_here", "_law_step_here", "_law_name", "_law_spread_here", "_law_place"]
theorem sc_law_faults : FnScope n_law_faults ["_law_steps_here"] (defScope s_law_faults) := ⟨rfl, rfl, rfl, by decide +kernel, rfl, by decide +kernel, by decide +kernel⟩
theorem c_law_faults (T : Tx K mg) : Cal P w K mg base 3 "_law_faults" (sp_law_faults K) [] := by
  have k_law_reads := c_law_reads (P := P) (w := w) (base := base) T
  have k_law_spread := c_law_spread (P := P) (w := w) (base := base) T
  refine calOf T 35 rfl rfl sc_law_faults (fun _ _ _ _ _ _ us hl => match us, hl with | [_], _ => rfl) (fun vs H Q E h => ?_) (fun cdv A outer s H vs Q E hr h => ?_)
  · obtain ⟨_, _, rfl, _⟩ := h
    rfl
  · obtain ⟨a, ss, rfl, hs, ok, q⟩ := h
    refine ⟨_, (pss_cons (ps_set (i := 1) sc_law_faults.nd rfl (.inl rfl) (pe_lst pa_nil))
      (pss_cons (ps_set (i := 2) sc_law_faults.nd rfl (.inl rfl) (pe_lst pa_nil))
      (pss_cons (ps_for PassesOwn.never rfl (x_tup (K := K) (pv 0)) (pg_name (i := 3) sc_law_faults.nd rfl (.inl rfl))
          ((pss_one (ps_for PassesOwn.never rfl (x_list (K := K) (pe_c k_law_reads hr (by decide) rfl (pa_cons (pv 3) pa_nil))) (pg_name (i := 4) sc_law_faults.nd rfl (.inl rfl))
              ((pss_one (ps_if (pt_cmpR (xo_notIn (K := K)) (pv 4) (pv 2) rfl)
                  ((pss_one (ps_expr (pe_bm PySem.F.plainAttrs_list PySem.F.slot_list_append PySem.F.type_list_append mt_append (pv 2) (pa_cons (pv 4) pa_nil)))))
                  (pss_nil))))))))
      (pss_cons (ps_for PassesOwn.never rfl (x_list (K := K) (pe_callB (xc_sortS (K := K)) rfl T.f_sorted (by decide +kernel) (pa_cons (pv 2) pa_nil))) (pg_name (i := 4) sc_law_faults.nd rfl (.inl rfl))
          ((pss_cons (ps_set (i := 5) sc_law_faults.nd rfl (.inl rfl) (pe_c k_law_spread hr (by decide) rfl (pa_cons (pv 0) (pa_cons pe_int (pa_cons (pv 4) pa_nil)))))
          (pss_one (ps_for PassesOwn.never rfl (x_list (K := K) (pe_callB (xc_sortI (K := K)) rfl T.f_sorted (by decide +kernel) (pa_cons (pe_callTy (call_list_dK rfl) rfl T.f_list (by decide +kernel) (pa_cons (pv 5) pa_nil)) pa_nil))) (pg_name (i := 6) sc_law_faults.nd rfl (.inl rfl))
              ((pss_one (ps_if (pt_cmpR (xo_in (K := K)) (pv 4) (pe_c k_law_reads hr (by decide) rfl (pa_cons (pe_ix (xi_tup (K := K)) (pv 0) (pv 6) (fun _ _ => rfl)) pa_nil)) rfl)
                  ((pss_one (ps_expr (pe_bm PySem.F.plainAttrs_list PySem.F.slot_list_append PySem.F.type_list_append mt_append (pv 1) (pa_cons (pe_tup (pa_cons (pv 6) (pa_cons (pv 4) pa_nil))) pa_nil)))))
                  (pss_nil)))))))))
      (pss_one (ps_ret (pe_callB (xc_sortP (K := K)) rfl T.f_sorted (by decide +kernel) (pa_cons (pv 1) pa_nil)))))))), ?_⟩
    obtain ⟨vs, hv, hp⟩ := id hs
    have hl4 := ok.hi
    have hvl := hp.length
    refine q_asgL (el_lst ea_nil (by simp)) fun fd H1 hfd e1 f1 => ?_
    refine q_asgL (el_lst ea_nil (by simp)) fun nl H2 hnl e2 n2 => ?_
    have e02 := e1.trans e2
    have nfn : fd ≠ nl := fun z => by rw [← z, f1] at hnl; cases hnl
    have hnlH : H nl = none := fresh_back e1 hnl
    refine q_forTn (ev_var rfl) (st_of (e02 _ _ hv)) (fun i σ' G => ∃ u3 u4 u5 u6, σ' = [some (.ref a), some (.ref fd), some (.ref nl), u3, u4, u5, u6] ∧ Ex H G ∧ G fd = some (.lst []) ∧ ∃ xs : List Str, G nl = some (.lst (xs.map V.str)) ∧ xs.length ≤ 2 * i)
      (fun G e => ⟨none, none, none, none, rfl, e02.trans e, e _ _ (e2 _ _ f1), [], e _ _ n2, Nat.zero_le _⟩) (fun i σ' G hi p => ?_) (fun i x σ' G hi p => ?_) fun σ' G p => ?_
    · obtain ⟨_, _, _, _, _, eG, _⟩ := p
      exact st_of (eG _ _ hv)
    · obtain ⟨u3, u4, u5, u6, rfl, eG, gf, xs, gn, hxl⟩ := p
      obtain ⟨s, es, hx⟩ := prd_get' hp hi
      have hrl := (ok.at es).reads_len
      have hil := (List.getElem?_eq_some_iff.mp es).1
      refine s_forE (er_L (el_call (ea_cons (ev_var rfl) ea_nil) (l_law_reads (hx.up eG)))) (fun p ys j σ' G' => ys = s.reads.map V.str ∧ ∃ u4 u5 u6, σ' = [some (.ref a), some (.ref fd), some (.ref nl), some x, u4, u5, u6] ∧ p ≠ nl ∧ Ex H G' ∧ G' p = some (.lst ys) ∧ G' fd = some (.lst []) ∧ ∃ xs : List Str, G' nl = some (.lst (xs.map V.str)) ∧ xs.length ≤ 2 * i + j)
        (fun p ys G' hp e h1 h2 => ⟨h2, u4, u5, u6, rfl, fun z => (by rw [z, gn] at hp; cases hp), eG.trans e, h1, e _ _ gf, xs, e _ _ gn, hxl⟩) (fun p ys j σ' G' _ h => ?_) (fun p ys j y σ' G' hj h => ?_) fun p ys σ' G' h => ?_
      · obtain ⟨_, _, _, _, _, _, _, h, _⟩ := h
        exact sq_of h
      · obtain ⟨rfl, u4, u5, u6, rfl, npn, eG', gp, gf', xs', gn', hxl'⟩ := h
        have hjl : j < 2 := by
          have := (List.getElem?_eq_some_iff.mp hj).1
          rw [List.length_map] at this
          omega
        obtain ⟨z, hz, rfl⟩ : ∃ z, s.reads[j]? = some z ∧ y = V.str z := by
          rw [List.getElem?_map] at hj
          cases e : s.reads[j]? with
          | none => rw [e] at hj; cases hj
          | some z =>
            rw [e] at hj
            exact ⟨z, rfl, (Option.some.inj hj).symm⟩
        refine s_when (et_inP (neg := true) (xs := xs'.map V.str) (ev_var rfl) (ep_of (ev_var rfl)) (fun v H1 e hv => ⟨nl, hv, .inl (sq_of (e _ _ gn'))⟩) rfl (flat_strs2 xs') rfl) (fun _ G1 g1 => ?_) fun _ G1 g1 => ⟨rfl, _, _, _, rfl, npn, eG'.trans g1, g1 _ _ gp, g1 _ _ gf', xs', g1 _ _ gn', by omega⟩
        refine s_app (g1 _ _ gn') (ev_var rfl) (ev_var rfl) (by rw [List.length_map]; omega) fun G2 g2 => ?_
        refine ⟨rfl, _, _, _, rfl, npn, Ex.mut ((eG'.trans g1).trans g2) hnlH, ?_, ?_, xs' ++ [z], ?_, ?_⟩
        · rw [upd_ne npn]
          exact g2 _ _ (g1 _ _ gp)
        · rw [upd_ne nfn]
          exact g2 _ _ (g1 _ _ gf')
        · rw [upd_same, List.map_append]
          rfl
        · rw [List.length_append]
          show xs'.length + 1 ≤ _
          omega
      · obtain ⟨rfl, u4, u5, u6, rfl, npn, eG', gp, gf', xs', gn', hxl'⟩ := h
        rw [List.length_map] at hxl'
        exact ⟨_, _, _, _, rfl, eG', gf', xs', gn', by omega⟩
    · obtain ⟨u3, u4, u5, u6, rfl, eG, gf, xs, gn, hxl⟩ := p
      have hx8 : xs.length ≤ 8 := by omega
      -- all names
      have hfdH : H fd = none := hfd
      refine q_forE (er_sortS (ev_var rfl) (sq_of gn) (by omega)) (fun p ys i σ' G' => (∃ zs : List Str, ys = zs.map V.str ∧ zs.length ≤ 8) ∧ ∃ u4 u5 u6, σ' = [some (.ref a), some (.ref fd), some (.ref nl), u3, u4, u5, u6] ∧ p ≠ fd ∧ Ex H G' ∧ G' p = some (.lst ys) ∧ ∃ fs, G' fd = some (.lst fs) ∧ fs.length ≤ 4 * i ∧ ∀ x ∈ fs, FltAt ss.length G' x)
        (fun p ys G' hp e h1 h2 => by
          obtain ⟨zs, hz1, hz2⟩ := h2
          exact ⟨⟨zs, hz1, by rw [hz2.length_eq]; exact hx8⟩, u4, u5, u6, rfl, fun z => (by rw [z, gf] at hp; cases hp), eG.trans e, h1, [], e _ _ gf, Nat.zero_le _, fun x hx => (by cases hx)⟩) (fun p ys j σ' G' _ h => ?_) (fun p ys i y σ' G' hi h => ?_) fun p ys σ' G' h => ?_
      · obtain ⟨_, _, _, _, _, _, _, h, _⟩ := h
        exact sq_of h
      · obtain ⟨⟨zs, rfl, hz8⟩, u4, u5, u6, rfl, npf, eG', gp, fs, gf', hfl, hfa⟩ := h
        have hil : i < 8 := by
          have := (List.getElem?_eq_some_iff.mp hi).1
          rw [List.length_map] at this
          omega
        obtain ⟨nm, rfl⟩ : ∃ nm, y = V.str nm := by
          obtain ⟨z, _, e⟩ := List.mem_map.mp (List.mem_of_getElem? hi)
          exact ⟨z, e.symm⟩
        refine q_asgP (P := fun v H' => ∃ d ks, v = .ref d ∧ Spr H' d ks ss.length) (ep_call (ea_cons (ev_var rfl) (ea_cons ev_c (ea_cons (ev_var rfl) ea_nil))) fun G1 g1 Q2 q2 E2 => ⟨a, ss, 0, nm, rfl, hs.up (eG'.trans g1), ok, ok.lo, fun d ks G2 _ g2 h => q2 _ G2 g2 ⟨d, ks, rfl, h⟩⟩) fun v G1 g1 hv1 => ?_
        obtain ⟨d, ks, rfl, hd1⟩ := hv1
        have hkl := hd1.len
        refine s_forE (er_sortD (ev_var rfl) hd1 (by omega)) (fun r ys j σ' G' => (∃ zs : List Nat, ys = zs.map vN ∧ zs.length ≤ 4 ∧ ∀ x ∈ zs, x < ss.length) ∧ ∃ u6, σ' = [some (.ref a), some (.ref fd), some (.ref nl), u3, some (.str nm), some (.ref d), u6] ∧ r ≠ fd ∧ Ex H G' ∧ G' r = some (.lst ys) ∧ G' p = some (.lst (zs.map V.str)) ∧ ∃ fs, G' fd = some (.lst fs) ∧ fs.length ≤ 4 * i + j ∧ ∀ x ∈ fs, FltAt ss.length G' x)
          (fun r ys G2 hr e h1 h2 => by
            obtain ⟨ws, hw1, hw2⟩ := h2
            have eg := g1.trans e
            exact ⟨⟨ws, hw1, by rw [hw2.length_eq]; omega, fun x hx => hd1.lt x (hw2.mem_iff.mp hx)⟩, u6, rfl, fun z => (by rw [z, g1 _ _ gf'] at hr; cases hr), eG'.trans eg, h1, eg _ _ gp, fs, eg _ _ gf', by omega, fun x hx => (hfa x hx).up eg⟩) (fun p ys j σ' G' _ h => ?_) (fun r ys j y σ' G2 hj h => ?_) fun r ys σ' G2 h => ?_
        · obtain ⟨_, _, _, _, _, h, _⟩ := h
          exact sq_of h
        · obtain ⟨⟨ws, rfl, hw4, hwn⟩, u6, rfl, nrf, e2', gr, gp2, fs2, gf2, hfl2, hfa2⟩ := h
          have hjl : j < 4 := by
            have := (List.getElem?_eq_some_iff.mp hj).1
            rw [List.length_map] at this
            omega
          obtain ⟨k, hk, rfl⟩ := mem_of_map hj
          obtain ⟨v, s, es, hv3, hev⟩ := ev_step (σ := [some (.ref a), some (.ref fd), some (.ref nl), u3, some (.str nm), some (.ref d), some (vN k)]) (ta := tVar 0) (tb := tVar 6) (ev_var rfl) (ev_var rfl) (hs.up e2') (hwn k hk)
          refine s_when (et_inP (neg := false) (xs := s.reads.map V.str) (ev_var rfl) (ep_L (el_call (ea_cons hev ea_nil) (l_law_reads hv3))) (fun v H1 e ⟨p, hw, hp⟩ => ⟨p, hw, .inl (sq_of hp)⟩) rfl (flat_strs2 _) rfl) (fun _ G3 g3 => ?_) fun _ G3 g3 => ⟨⟨ws, rfl, hw4, hwn⟩, _, rfl, nrf, e2'.trans g3, g3 _ _ gr, g3 _ _ gp2, fs2, g3 _ _ gf2, by omega, fun x hx => (hfa2 x hx).up g3⟩
          refine s_appU (g3 _ _ gf2) (ev_var rfl) (eu_tup (ea_cons (ev_var rfl) (ea_cons (ev_var rfl) ea_nil)) (by simp)) (by omega) fun t G4 ht g4 t4 => ?_
          refine ⟨⟨ws, rfl, hw4, hwn⟩, _, rfl, nrf, Ex.mut ((e2'.trans g3).trans g4) hfdH, ?_, ?_, fs2 ++ [.ref t], upd_same, ?_, fun x hx => ?_⟩
          · rw [upd_ne nrf]
            exact g4 _ _ (g3 _ _ gr)
          · rw [upd_ne npf]
            exact g4 _ _ (g3 _ _ gp2)
          · rw [List.length_append]
            show fs2.length + 1 ≤ _
            omega
          · have gf4 := g4 _ _ (g3 _ _ gf2)
            rcases List.mem_append.mp hx with h | h
            · exact ((hfa2 x h).up (g3.trans g4)).upB (boxL gf4) ExB.put
            · rw [List.mem_singleton.mp h]
              exact FltAt.upB ⟨t, k, nm, rfl, t4, hwn k hk⟩ (boxL gf4) ExB.put
        · obtain ⟨⟨ws, rfl, hw4, hwn⟩, u6, rfl, nrf, e2', gr, gp2, fs2, gf2, hfl2, hfa2⟩ := h
          rw [List.length_map] at hfl2
          exact ⟨⟨zs, rfl, hz8⟩, _, _, _, rfl, npf, e2', gp2, fs2, gf2, by omega, hfa2⟩
      · obtain ⟨⟨zs, rfl, hz8⟩, u4, u5, u6, rfl, npf, eG', gp, fs, gf', hfl, hfa⟩ := h
        rw [List.length_map] at hfl
        refine ⟨_, rfl, fd, fs, rfl, sq_of gf', fun x hx => ?_, fun ys r hp hr => ?_⟩
        · obtain ⟨t, p, nm, h1, h2, h3⟩ := hfa x hx
          exact ⟨t, _, nm, h1, h2⟩
        · exact q r ys _ (fresh_back eG' hr) (eG'.trans (Ex.new hr)) upd_same (by rw [hp.length_eq]; omega) fun x hx => (hfa x (hp.mem_iff.mp hx)).up (Ex.new hr)

end
end FB
set_option Elab.async false
set_option linter.all false
set_option maxRecDepth 100000
set_option maxHeartbeats 4000000
namespace FB
open PySem PySem.Spec PyProof.Rows L2 Evl
open C8 (Cal Mak pe_c pe_mk pe_gc)
section
variable {P : Program} {w : World} {K : PySem.W.Frag} {mg : Str → Option Value} {base : Heap}
theorem s_setP {σ : Sg} {H : Hp} {te ta tb : TE} {D : Ends} {l : Addr} {xs : List V} {j : Nat} {P : V → Hp → Prop} (hl : H l = some (.lst xs)) (h : EP te σ H P) (ho : Ev ta σ H (.ref l)) (hi : Ev tb σ H (.int (j : Int))) (hj : j < xs.length) (k : ∀ v H1 H2, Ex H H1 → P v H1 → Ex H1 H2 → D.nx σ (upd H2 l (.lst (xs.set j v)))) :
    tAsg te (gSub ta tb rSetL) D σ H := h H (Ex.refl H) _ fun v H1 e1 pv => ho H1 e1 _ fun H2 e2 => hi H2 (e1.trans e2) _ fun H3 e3 =>
  ⟨l, xs, (j : Int), j, rfl, rfl, ((e1.trans e2).trans e3) l _ hl, ixN_nat hj, k v H1 H3 e1 pv (e2.trans e3)⟩
/-- a tuple display whose items are told by predicates -/
def EPA (ta : TA) (σ : Sg) (H : Hp) (P : List V → Hp → Prop) : Prop := ∀ H1, Ex H H1 → ∀ Q : List V → Hp → Prop, (∀ vs H2, Ex H1 H2 → P vs H2 → Q vs H2) → ta σ H1 Q
theorem epa_nil {σ : Sg} {H : Hp} : EPA tNil σ H fun vs _ => vs = [] := fun H1 _ Q q => q [] H1 (Ex.refl H1) rfl
theorem epa_cons {σ : Sg} {H : Hp} {te : TE} {ta : TA} {P : V → Hp → Prop} {R : List V → Hp → Prop} (h : EP te σ H P) (hr : EPA ta σ H R) (up : ∀ v H1 H2, Ex H1 H2 → P v H1 → P v H2) : EPA (tCons te ta) σ H fun vs G => ∃ v r, vs = v :: r ∧ P v G ∧ R r G := fun H1 e Q q =>
  h H1 e _ fun v H2 e2 pv => hr H2 (e.trans e2) _ fun r H3 e3 pr => q _ H3 (e2.trans e3) ⟨v, r, rfl, up v H2 H3 e3 pv, pr⟩
theorem ep_tupP {σ : Sg} {H : Hp} {ta : TA} {R : List V → Hp → Prop} (h : EPA ta σ H R) (hl : ∀ vs G, R vs G → vs.length ≤ 100) (up : ∀ vs H1 H2, Ex H1 H2 → R vs H1 → R vs H2) : EP (tTup ta) σ H fun v G => ∃ p vs, v = .ref p ∧ G p = some (.tup vs) ∧ R vs G := fun H1 e Q q =>
  h H1 e _ fun vs H2 e2 r => ⟨sz_of (by have := hl vs H2 r; omega), fun p hp => q _ _ (e2.trans (Ex.new hp)) ⟨p, vs, rfl, upd_same, up _ _ _ (Ex.new hp) r⟩⟩
def sp_law_mended (K : PySem.W.Frag) : Sp := fun vs H Q _ => ∃ (a : Addr) (ss : List Stp), vs = [.ref a] ∧ StepsAt H a ss ∧ Okp ss ∧ ∀ r (ss' : List Stp) H', Ex H H' → StepsAt H' r ss' → Okp ss' → Q (.ref r) H'
/-- a for over a new list that is told by a predicate, with any target -/
theorem go_forT {n : Nat} {σ : Sg} {H : Hp} {tl : TE} {gs : TGs} {D : Ends} {tu tz : TS} {R : List V → Hp → Prop} (h : EvR tl σ H R) (Pv : Addr → List V → Nat → L2.St → Hp → Prop) (h0 : ∀ p xs H1, H p = none → Ex H H1 → H1 p = some (.lst xs) → R xs H1 → Pv p xs 0 σ H1) (hl : ∀ p xs i σ' H', i ≤ xs.length → Pv p xs i σ' H' → SqL K H' p xs)
    (hs : ∀ p xs i x σ' H', xs[i]? = some x → Pv p xs i σ' H' → gTup K n gs x σ' H' fun σ2 H2 => tu { D with nx := Pv p xs (i + 1), ct := Pv p xs (i + 1), bk := tz D } σ2 H2) (hd : ∀ p xs σ' H', Pv p xs xs.length σ' H' → tz D σ' H') : tSeq (tFor (iList K tl) (gTup K n gs) tu) tz D σ H :=
  h H (Ex.refl H) _ fun p xs H1 hp e hx hR => ⟨p, rfl, ⟨xs, sq_of hx⟩, for_list (Pv p xs) (h0 p xs H1 hp e hx hR) (hl p xs) (hs p xs) (hd p xs)⟩
/-- the comprehension that leaves out a name -/
theorem given_filter {nm : Str} (rs : List Str) : given (rs.map V.str).length (fun i => match rs[i]? with | some y => !decide (y = nm) | none => false) (fun i => match rs[i]? with | some y => V.str y | none => .non) = (rs.filter fun y => !decide (y = nm)).map V.str := by
  rw [List.length_map]
  have go : ∀ i, i ≤ rs.length → given i (fun i => match rs[i]? with | some y => !decide (y = nm) | none => false) (fun i => match rs[i]? with | some y => V.str y | none => .non) = ((rs.take i).filter fun y => !decide (y = nm)).map V.str := by
    intro i
    induction i with
    | zero => intro _; rfl
    | succ i ih =>
      intro hi
      have hi' : i < rs.length := by omega
      have e := List.getElem?_eq_getElem hi'
      rw [List.take_succ, e]
      by_cases hb : rs[i] = nm
      · rw [given_no (by simp only [e]; simp [hb]), ih (by omega)]
        rw [List.filter_append, List.map_append]
        simp [hb]
      · rw [given_yes (by simp only [e]; simp [hb]), ih (by omega), List.filter_append, List.map_append]
        simp [hb, e]
  rw [go rs.length (Nat.le_refl _), List.take_length]
/-- ("go", the first goal) -/
theorem ep_first {σ : Sg} {H : Hp} {te : TE} {v : V} {s : Stp} {g : Nat} {E : XK} (h : Ev te σ H v) (hv : StepAt H v s) (hg : s.goals[0]? = some g) : EP (tTup (tCons (tC (.str kGo)) (tCons (tOp (rIxL K) (tCall (sp_law_goals K) [] E (tCons te tNil)) (tC (.int 0))) tNil))) σ H fun w G => StepAt G w (.go g) := fun H1 e Q q => by
  refine el_call (ea_cons h ea_nil) (l_law_goals hv) H1 e _ fun p H2 hp e2 h2 => ?_
  refine ⟨p, _, _, _, rfl, rfl, sq_of h2, atI_nat (j := 0) (by rw [List.getElem?_map, hg]; rfl), by show 2 ≤ sizeLine; decide, fun w hw => q _ _ (e2.trans (Ex.new hw)) ⟨w, rfl, upd_same⟩⟩
abbrev n_law_mended : List Str := ["_law_steps_here", "_law_found", "_law_place", "_law_name", "_law_step_here", "_law_one"]
theorem sc_law_mended : FnScope n_law_mended ["_law_steps_here"] (defScope s_law_mended) := ⟨rfl, rfl, rfl, by decide +kernel, rfl, by decide +kernel, by decide +kernel⟩
theorem c_law_mended (T : Tx K mg) : Cal P w K mg base 4 "_law_mended" (sp_law_mended K) [] := by
  have k_law_faults := c_law_faults (P := P) (w := w) (base := base) T
  have k_law_goals := c_law_goals (P := P) (w := w) (base := base) T
  refine calOf T 36 rfl rfl sc_law_mended (fun _ _ _ _ _ _ us hl => match us, hl with | [_], _ => rfl) (fun vs H Q E h => ?_) (fun cdv A outer s H vs Q E hr h => ?_)
  · obtain ⟨_, _, rfl, _⟩ := h
    rfl
  · obtain ⟨a, ss, rfl, hs, ok, q⟩ := h
    refine ⟨_, (pss_cons (ps_set (i := 1) sc_law_mended.nd rfl (.inl rfl) (pe_callTy (xc_list (K := K)) rfl T.f_list (by decide +kernel) (pa_cons (pv 0) pa_nil)))
      (pss_cons (ps_for PassesOwn.never rfl (x_list (K := K) (pe_c k_law_faults hr (by decide) rfl (pa_cons (pv 0) pa_nil))) (pg_tup rfl (pgs_cons (pg_name (i := 2) sc_law_mended.nd rfl (.inl rfl)) (pgs_cons (pg_name (i := 3) sc_law_mended.nd rfl (.inr rfl)) pgs_nil)))
          ((pss_cons (ps_set (i := 4) sc_law_mended.nd rfl (.inl rfl) (pe_ix (xi_list (K := K)) (pv 1) (pv 2) (fun _ _ => rfl)))
          (pss_one (ps_if (pt_cmpR op_eq (pe_ix (xi_tup (K := K)) (pv 4) pe_int (fun _ _ => rfl)) pe_str (nomark _))
              ((pss_one (ps_asg (pe_tup (pa_cons (pe_ix (xi_tup (K := K)) (pv 4) pe_int (fun _ _ => rfl)) (pa_cons (pe_ix (xi_tup (K := K)) (pv 4) pe_int (fun _ _ => rfl)) (pa_cons (pe_callTy (xc_tup (K := K)) rfl T.f_tuple (by decide +kernel) (pa_cons (pe_lc (g := gName 5) (tt := _) (own := [("_law_one", 5)]) rfl sc_law_mended.nd (x_tup (K := K) (pe_ix (xi_tup (K := K)) (pv 4) pe_int (fun _ _ => rfl))) (blkOk_by (own := [("_law_one", 5)]) (N := n_law_mended) (sc := defScope s_law_mended) (by decide +kernel)) (fun _ _ _ _ _ => (pg_name (i := 5) sc_law_mended.nd rfl (.inl rfl))) (fun _ _ _ _ _ => (pts_one (pt_cmpR op_ne (pv 5) (pv 3) (nomark _)))) (fun _ _ _ _ _ => (pv 5))) pa_nil)) (pa_cons (pe_ix (xi_tup (K := K)) (pv 4) pe_int (fun _ _ => rfl)) pa_nil))))) (pg_sub (pv 1) (pv 2) set_list))))
              ((pss_one (ps_if (PW.pt (pw_or (pt_cmpR op_eq (pe_ix (xi_tup (K := K)) (pv 4) pe_int (fun _ _ => rfl)) pe_str (nomark _)) (pw_or1 (pt_cmpR op_eq (pe_ix (xi_tup (K := K)) (pv 4) pe_int (fun _ _ => rfl)) pe_str (nomark _)))))
                  ((pss_one (ps_asg (pe_tup (pa_cons pe_str (pa_cons (pe_ix (xi_list (K := K)) (pe_c k_law_goals hr (by decide) rfl (pa_cons (pv 4) pa_nil)) pe_int (fun _ _ => rfl)) pa_nil))) (pg_sub (pv 1) (pv 2) set_list))))
                  (pss_nil)))))))))
      (pss_one (ps_ret (pe_callTy (xc_tup (K := K)) rfl T.f_tuple (by decide +kernel) (pa_cons (pv 1) pa_nil)))))), ?_⟩
    obtain ⟨vs, hv, hp0⟩ := id hs
    have hl4 := ok.hi
    have hvl := hp0.length
    refine q_asgL (el_listP (ep_of (ev_var rfl)) fun v H1 e hz => ⟨a, hz, .inr (st_of (e _ _ hv))⟩) fun f H1 hf e1 f1 => ?_
    -- the faults
    refine go_forT (K := K) (n := 2) (R := fun fs G => fs.length ≤ 100 ∧ ∀ x ∈ fs, FltAt ss.length G x) (fun G e Q2 q2 => ⟨_, rfl, a, ss, rfl, hs.up (e1.trans e), ok, fun l fs G2 hl g2 h1 h2 h3 => q2 l fs G2 hl g2 h1 ⟨h2, h3⟩⟩)
      (fun p fs i σ' G => fs.length ≤ 100 ∧ (∀ x ∈ fs, FltAt ss.length G x) ∧ p ≠ f ∧ G p = some (.lst fs) ∧ ∃ u2 u3 u4 u5, σ' = [some (.ref a), some (.ref f), u2, u3, u4, u5] ∧ Ex H G ∧ ∃ vs' ss', G f = some (.lst vs') ∧ Paired (StepAt G) vs' ss' ∧ ss'.length = ss.length ∧ ∀ s ∈ ss', s.Ok ss.length)
      (fun p fs G hp e h1 h2 => ⟨h2.1, h2.2, fun z => (by rw [z, f1] at hp; cases hp), h1, none, none, none, none, rfl, e1.trans e, vs, ss, e _ _ f1, prd_imp (fun _ _ => StepAt.up (e1.trans e)) hp0, rfl, ok.ok⟩) (fun p fs i σ' G _ h => ?_) (fun p fs i x σ' G hi h => ?_) fun p fs σ' G h => ?_
    · obtain ⟨_, _, _, h, _⟩ := h
      exact sq_of h
    · obtain ⟨hl, hfa, npf, gp, u2, u3, u4, u5, rfl, eG, vs', ss', gf, hpr, hsl, hok⟩ := h
      have hvl' := hpr.length
      obtain ⟨t, k, nm, rfl, gt, hk⟩ := hfa x (List.mem_of_getElem? hi)
      refine ⟨t, [vN k, .str nm], rfl, st_of gt, rfl, vN k, [.str nm], rfl, .str nm, [], rfl, rfl, ?_⟩
      have hk' : k < ss'.length := by omega
      obtain ⟨v, hv1, hv2⟩ := prd_get hpr (List.getElem?_eq_getElem hk')
      have hso := hok _ (List.getElem_mem hk')
      generalize hse : ss'[k] = s at hv2 hso
      refine q_asg (ev_ixL (ev_var rfl) (ev_var rfl) gf (atI_nat hv1)) fun G1 g1 => ?_
      -- what a store leaves
      have fin : ∀ (w : V) (s2 : Stp) (G2 G3 : Hp), Ex G1 G2 → Ex G2 G3 → StepAt G2 w s2 → s2.Ok ss.length → ∃ fs2, fs2 = fs ∧ fs.length ≤ 100 ∧ (∀ x ∈ fs, FltAt ss.length (upd G3 f (.lst (vs'.set k w))) x) ∧ p ≠ f ∧ (upd G3 f (.lst (vs'.set k w))) p = some (.lst fs) ∧ Ex H (upd G3 f (.lst (vs'.set k w))) ∧ ∃ vs2 ss2, (upd G3 f (.lst (vs'.set k w))) f = some (.lst vs2) ∧ Paired (StepAt (upd G3 f (.lst (vs'.set k w)))) vs2 ss2 ∧ ss2.length = ss.length ∧ ∀ s ∈ ss2, s.Ok ss.length := fun w s2 G2 G3 g2 g3 hw ho => by
        have g := (g1.trans g2).trans g3
        have gf3 := g _ _ gf
        refine ⟨fs, rfl, hl, fun x hx => ((hfa x hx).up g).upB (boxL gf3) ExB.put, npf, by rw [upd_ne npf]; exact g _ _ gp, Ex.mut (eG.trans g) hf, vs'.set k w, ss'.set k s2, upd_same, prd_set (StepAt.upB ExB.put (boxL gf3) (hw.up g3)) k (prd_imp (fun _ _ h => StepAt.upB ExB.put (boxL gf3) (h.up g)) hpr), by rw [List.length_set]; exact hsl, fun s hs => ?_⟩
        rcases List.mem_or_eq_of_mem_set hs with h | h
        · exact hok s h
        · rw [h]
          exact ho
      have wrap : ∀ (u4 u5 : Option V) (G' : Hp), (∃ fs2, fs2 = fs ∧ fs.length ≤ 100 ∧ (∀ x ∈ fs, FltAt ss.length G' x) ∧ p ≠ f ∧ G' p = some (.lst fs) ∧ Ex H G' ∧ ∃ vs2 ss2, G' f = some (.lst vs2) ∧ Paired (StepAt G') vs2 ss2 ∧ ss2.length = ss.length ∧ ∀ s ∈ ss2, s.Ok ss.length) →
          fs.length ≤ 100 ∧ (∀ x ∈ fs, FltAt ss.length G' x) ∧ p ≠ f ∧ G' p = some (.lst fs) ∧ ∃ w2 w3 w4 w5, [some (V.ref a), some (V.ref f), some (vN k), some (V.str nm), u4, u5] = [some (.ref a), some (.ref f), w2, w3, w4, w5] ∧ Ex H G' ∧ ∃ vs' ss', G' f = some (.lst vs') ∧ Paired (StepAt G') vs' ss' ∧ ss'.length = ss.length ∧ ∀ s ∈ ss', s.Ok ss.length := fun u4 u5 G' ⟨_, _, h1, h2, h3, h4, h5, vs2, ss2, h6, h7, h8, h9⟩ => ⟨h1, h2, h3, h4, _, _, _, _, rfl, h5, vs2, ss2, h6, h7, h8, h9⟩
      have stay : ∀ (u4 u5 : Option V) (G' : Hp), Ex G1 G' → fs.length ≤ 100 ∧ (∀ x ∈ fs, FltAt ss.length G' x) ∧ p ≠ f ∧ G' p = some (.lst fs) ∧ ∃ w2 w3 w4 w5, [some (V.ref a), some (V.ref f), some (vN k), some (V.str nm), u4, u5] = [some (.ref a), some (.ref f), w2, w3, w4, w5] ∧ Ex H G' ∧ ∃ vs' ss', G' f = some (.lst vs') ∧ Paired (StepAt G') vs' ss' ∧ ss'.length = ss.length ∧ ∀ s ∈ ss', s.Ok ss.length := fun u4 u5 G' g2 =>
        have g := g1.trans g2
        ⟨hl, fun x hx => (hfa x hx).up g, npf, g _ _ gp, _, _, _, _, rfl, eG.trans g, vs', ss', g _ _ gf, prd_imp (fun _ _ => StepAt.up g) hpr, hsl, hok⟩
      have gf1 := g1 _ _ gf
      have hlen : k < vs'.length := by omega
      have hv3 : StepAt G1 v s := hv2.up g1
      clear hse
      cases s with
      | mk x rs g =>
        obtain ⟨b, r, rfl, ho, t2, rfl, ht⟩ := hv3
        obtain ⟨hx1, hx2, hx3, hx4⟩ := hso
        refine s_yes (et_eq (ev_ixT (ev_var rfl) ev_c ho at0) ev_c rfl k_mm) fun G2 g2 => ?_
        have ho2 := g2 _ _ ho
        have ht2 := g2 _ _ ht
        refine s_setP (j := k) (P := fun w G => StepAt G w (.mk x (rs.filter fun y => !decide (y = nm)) g)) (g2 _ _ gf1) (fun G3 g3 Q3 q3 => ?_) (ev_var rfl) (ev_var rfl) hlen fun w G3 G4 g3 hw g4 => wrap _ _ _ (fin w _ G3 G4 (g2.trans g3) g4 hw ⟨hx1, Nat.le_trans (List.length_filter_le _ _) hx2, fun r hr => hx3 r (List.mem_filter.mp hr).1, hx4⟩)
        refine ⟨_, rfl, b, _, _, _, rfl, rfl, st_of (g3 _ _ ho2), at0, _, rfl, b, _, _, _, rfl, rfl, st_of (g3 _ _ ho2), at1, ?_⟩
        have hel : EvL (tLc (iTup K (tOp (rIxT K) (tVar 4) (tC (.int 2)))) (gName 5) (tTest (tOp rNe (tVar 5) (tVar 3))) (tVar 5) [5]) [some (.ref a), some (.ref f), some (vN k), some (.str nm), some (.ref b), u5] G3 (given (rs.map V.str).length (fun i => match rs[i]? with | some y => !decide (y = nm) | none => false) fun i => match rs[i]? with | some y => V.str y | none => .non) :=
          el_lcT _ _ (ev_ixT (ev_var rfl) ev_c (g3 _ _ ho2) at2) (st_of (g3 _ _ ht2)) (by rw [List.length_map]; omega) (fun _ => rfl) (fun i y G5 g5 hy => ?_) fun i y G5 g5 hy _ => ?_
        · rw [given_filter] at hel
          refine go_cons (go_cb (go_last (hel G3 (Ex.refl G3) _ fun c G5 hc g5 h5 => ?_)))
          refine ⟨c, _, rfl, .inl ⟨sq_of h5, fun r2 hr2 => ?_⟩⟩
          have g6 := (g3.trans g5).trans (Ex.new (o := .tup ((rs.filter fun y => !decide (y = nm)).map V.str)) hr2)
          refine ⟨_, rfl, b, _, _, _, rfl, rfl, st_of (g6 _ _ ho2), at3, by show 4 ≤ sizeLine; decide, fun w hw => ?_⟩
          exact q3 _ _ ((g5.trans (Ex.new hr2)).trans (Ex.new hw)) ⟨w, .ref r2, rfl, upd_same, r2, rfl, Ex.new hw _ _ upd_same⟩
        · rw [List.getElem?_map] at hy
          cases hz : rs[i]? with
          | none => rw [hz] at hy; cases hy
          | some z =>
            rw [hz] at hy
            obtain rfl := Option.some.inj hy
            refine et_ne (ev_var rfl) (ev_var rfl) rfl ?_
            show (!decide (V.str z = V.str nm)) = !decide (z = nm)
            by_cases e : z = nm
            · rw [e]; simp
            · have e1 : ¬ V.str z = V.str nm := fun z => e (by injection z)
              simp [e, e1]
        · rw [List.getElem?_map] at hy
          cases hz : rs[i]? with
          | none => rw [hz] at hy; cases hy
          | some z =>
            rw [hz] at hy
            obtain rfl := Option.some.inj hy
            exact ev_var rfl
      | tell x g =>
        obtain ⟨b, rfl, ho⟩ := id hv3
        refine s_else (et_eq (ev_ixT (ev_var rfl) ev_c ho at0) ev_c rfl k_tm) fun G2 g2 => ?_
        have ho2 := g2 _ _ ho
        refine s_yes (et_or (b := false) (et_eq (ev_ixT (ev_var rfl) ev_c ho2 at0) ev_c rfl k_tt) fun z => Bool.noConfusion z) fun G3 g3 => ?_
        have g13 := g2.trans g3
        refine s_setP (j := k) (P := fun w G => StepAt G w (.go g)) (g13 _ _ gf1) (ep_first (s := .tell x g) (g := g) (ev_var rfl) (hv3.up g13) rfl) (ev_var rfl) (ev_var rfl) hlen fun w G4 G5 g4 hw g5 => wrap _ _ _ (fin w (.go g) G4 G5 (g13.trans g4) g5 hw hso.2)
      | test x gs =>
        obtain ⟨b, r, rfl, ho, ht⟩ := id hv3
        refine s_else (et_eq (ev_ixT (ev_var rfl) ev_c ho at0) ev_c rfl k_sm) fun G2 g2 => ?_
        have ho2 := g2 _ _ ho
        refine s_yes (et_or (et_eq (ev_ixT (ev_var rfl) ev_c ho2 at0) ev_c rfl k_st) fun _ => et_eq (ev_ixT (ev_var rfl) ev_c ho2 at0) ev_c rfl k_ss) fun G3 g3 => ?_
        have g13 := g2.trans g3
        obtain ⟨hx1, hg2, hg3, hgn⟩ := hso
        have h0 : 0 < gs.length := by omega
        refine s_setP (j := k) (P := fun w G => StepAt G w (.go gs[0])) (g13 _ _ gf1) (ep_first (s := .test x gs) (g := gs[0]) (ev_var rfl) (hv3.up g13) (List.getElem?_eq_getElem h0)) (ev_var rfl) (ev_var rfl) hlen fun w G4 G5 g4 hw g5 => wrap _ _ _ (fin w (.go gs[0]) G4 G5 (g13.trans g4) g5 hw (hgn _ (List.getElem_mem h0)))
      | go g =>
        obtain ⟨b, rfl, ho⟩ := id hv3
        refine s_else (et_eq (ev_ixT (ev_var rfl) ev_c ho at0) ev_c rfl k_gm) fun G2 g2 => ?_
        have ho2 := g2 _ _ ho
        exact s_no (et_or (et_eq (ev_ixT (ev_var rfl) ev_c ho2 at0) ev_c rfl k_gt) fun _ => et_eq (ev_ixT (ev_var rfl) ev_c ho2 at0) ev_c rfl k_gs) fun G3 g3 => stay _ _ _ (g2.trans g3)
      | fin =>
        obtain ⟨b, rfl, ho⟩ := id hv3
        refine s_else (et_eq (ev_ixT (ev_var rfl) ev_c ho at0) ev_c rfl k_em) fun G2 g2 => ?_
        have ho2 := g2 _ _ ho
        exact s_no (et_or (et_eq (ev_ixT (ev_var rfl) ev_c ho2 at0) ev_c rfl k_et) fun _ => et_eq (ev_ixT (ev_var rfl) ev_c ho2 at0) ev_c rfl k_es) fun G3 g3 => stay _ _ _ (g2.trans g3)
    · obtain ⟨hl, hfa, npf, gp, u2, u3, u4, u5, rfl, eG, vs', ss', gf, hpr, hsl, hok⟩ := h
      refine ⟨_, rfl, f, vs', rfl, .inl ⟨sq_of gf, fun r hr => ?_⟩⟩
      exact q r ss' _ (eG.trans (Ex.new hr)) ⟨vs', upd_same, prd_imp (fun _ _ => StepAt.up (Ex.new hr)) hpr⟩ ⟨by rw [hsl]; exact ok.lo, by rw [hsl]; exact ok.hi, fun s hs => by rw [hsl]; exact hok s hs⟩

end
end FB
set_option Elab.async false
set_option linter.all false
set_option maxRecDepth 100000
set_option maxHeartbeats 4000000
namespace FB
open PySem PySem.Spec PyProof.Rows L2 Evl
open C8 (Cal Mak pe_c pe_mk pe_gc)
section
variable {P : Program} {w : World} {K : PySem.W.Frag} {mg : Str → Option Value} {base : Heap}
section
variable {σ : Sg} {H : Hp} {ta tb te tl : TE} {t : TT}
theorem cp_turn2 {P : V → Hp → Prop} {R : Nat → List V → Hp → Prop} {Dl : Addr} {i : Nat} {σ2 : L2.St} {H' : Hp} (p : Cp H R Dl i H') (hE : ∀ i acc H1 H2, Ex H1 H2 → R i acc H1 → R i acc H2) (hB : ∀ i acc y H1, H1 Dl = some (.lst acc) → R i (acc ++ [y]) H1 → R i (acc ++ [y]) (upd H1 Dl (.lst (acc ++ [y])))) (hi : i < 50000) (ht : EvT t σ2 H true)
    (he : EP te σ2 H P) (hy : ∀ acc y H1, R i acc H1 → P y H1 → R (i + 1) (acc ++ [y]) H1) :
    t σ2 H' fun b H3 => if b = true then te σ2 H3 fun y H4 => ∃ acc, H4 Dl = some (.lst acc) ∧ acc.length < sizeLine ∧ Cp H R Dl (i + 1) (upd H4 Dl (.lst (acc ++ [y]))) else Cp H R Dl (i + 1) H3 := by
  obtain ⟨p1, p2, acc, p3, p4, p5⟩ := p
  refine ht H' p2 _ fun H3 e3 => ?_
  refine iteT (he H3 (p2.trans e3) _ fun y H4 e4 py => ⟨acc, e4 Dl _ (e3 Dl _ p4), sz_lt (by omega), p1, Ex.mut ((p2.trans e3).trans e4) p1, acc ++ [y], by rw [List.length_append]; exact Nat.succ_le_succ p3, upd_same, ?_⟩)
  exact hB _ _ _ _ (e4 Dl _ (e3 Dl _ p4)) (hy acc y H4 (hE _ _ _ _ (e3.trans e4) p5) py)
theorem er_lcR1 {ta : TA} {j : Nat} {vs : List Nat} {n : Nat} (R : Nat → List V → Hp → Prop) (Pi : Nat → V → Hp → Prop) (h : EvA ta σ H [vN n]) (hn : n ≤ 40000) (hw : ∀ x, wipe ((wipe σ vs).set j (some x)) vs = wipe σ vs)
    (hE : ∀ i acc H1 H2, Ex H1 H2 → R i acc H1 → R i acc H2) (hB : ∀ Dl i acc y H1, H1 Dl = some (.lst acc) → R i (acc ++ [y]) H1 → R i (acc ++ [y]) (upd H1 Dl (.lst (acc ++ [y])))) (h0 : ∀ H1, Ex H H1 → R 0 [] H1)
    (ht : ∀ (i : Nat) H1, Ex H H1 → i < n → EvT t ((wipe σ vs).set j (some (vN i))) H1 true) (he : ∀ (i : Nat) H1, Ex H H1 → i < n → EP te ((wipe σ vs).set j (some (vN i))) H1 (Pi i))
    (hy : ∀ i acc y H1, i < n → R i acc H1 → Pi i y H1 → R (i + 1) (acc ++ [y]) H1) :
    EvR (tLc (iRng1 ta) (gName j) t te vs) σ H (R n) := fun H0 e Q q => h H0 e _ fun H1 e1 => ⟨_, rfl, by omega, by omega, fun Dl hD =>
  lc_range (lo := 0) (n := n) (Cp H1 R Dl) ⟨hD, Ex.new hD, [], Nat.le_refl _, upd_same, h0 _ ((e.trans e1).trans (Ex.new hD))⟩ (fun i H' hi p => by
    have e0 : (0 : Int) + (i : Int) = (i : Int) := Int.zero_add _
    show wipe ((wipe σ vs).set j (some (.int ((0 : Int) + (i : Int))))) vs = wipe σ vs ∧ t ((wipe σ vs).set j (some (.int ((0 : Int) + (i : Int))))) H' fun b H3 => if b = true then te ((wipe σ vs).set j (some (.int ((0 : Int) + (i : Int))))) H3 fun y H4 => ∃ acc, H4 Dl = some (.lst acc) ∧ acc.length < sizeLine ∧ Cp H1 R Dl (i + 1) (upd H4 Dl (.lst (acc ++ [y]))) else Cp H1 R Dl (i + 1) H3
    rw [e0]
    exact ⟨hw _, cp_turn2 (P := Pi i) p hE (hB Dl) (by omega) (ht i H1 (e.trans e1) hi) (he i H1 (e.trans e1) hi) (fun acc y G hr hp => hy i acc y G hi hr hp)⟩)
    (fun H' p => by
      obtain ⟨p1, p2, acc, p3, p4, p5⟩ := p
      exact q Dl acc H' (fresh_back e1 p1) (e1.trans p2) p4 p5)⟩
theorem er_cat1 {l : Addr} {xs : List V} {R : List V → Hp → Prop} (ha : Ev ta σ H (.ref l)) (hl : H l = some (.lst xs)) (hb : EvR tb σ H R) (hz : ∀ ys G, R ys G → xs.length + ys.length ≤ 100000) (up : ∀ ys G G', Ex G G' → R ys G → R ys G') : EvR (tOp rCat ta tb) σ H fun zs G => ∃ ys, zs = xs ++ ys ∧ R ys G := fun H1 e Q q =>
  ha H1 e _ fun H2 e2 => hb H2 (e.trans e2) _ fun r ys H3 hr e3 h3 pr => ⟨l, r, xs, ys, rfl, rfl, ((e.trans e2).trans e3) _ _ hl, h3, sz_of (hz ys H3 pr), fun p hp => q p _ _ (fresh_back (e2.trans e3) hp) ((e2.trans e3).trans (Ex.new hp)) upd_same ⟨ys, rfl, up _ _ _ (Ex.new hp) pr⟩⟩
end
theorem go_forTl {n : Nat} {σ : Sg} {H : Hp} {tl : TE} {gs : TGs} {D : Ends} {tu tz : TS} {a : Addr} {xs : List V} (h : Ev tl σ H (.ref a)) (hx : SqL K H a xs) (Pv : Nat → L2.St → Hp → Prop) (h0 : ∀ H1, Ex H H1 → Pv 0 σ H1) (hl : ∀ i σ' H', i ≤ xs.length → Pv i σ' H' → SqL K H' a xs)
    (hs : ∀ i x σ' H', xs[i]? = some x → Pv i σ' H' → gTup K n gs x σ' H' fun σ2 H2 => tu { D with nx := Pv (i + 1), ct := Pv (i + 1), bk := tz D } σ2 H2) (hd : ∀ σ' H', Pv xs.length σ' H' → tz D σ' H') : tSeq (tFor (iList K tl) (gTup K n gs) tu) tz D σ H :=
  h H (Ex.refl H) _ fun H1 e => ⟨a, rfl, ⟨xs, ex_l e hx⟩, for_list Pv (h0 H1 e) hl hs hd⟩
theorem EvR.mono {σ : Sg} {H H' : Hp} {te : TE} {R : List V → Hp → Prop} (e : Ex H H') (h : EvR te σ H R) : EvR te σ H' R := fun H1 a Q q => h H1 (e.trans a) Q q
/-- a route with its places -/
abbrev Row := List Nat × List Nat × Nat
def RowAt (H : Hp) (v : V) (w : Row) : Prop := ∃ t a b, v = V.ref t ∧ H t = some (.tup [.ref a, .ref b]) ∧ H a = some (.tup (w.1.map vN)) ∧ H b = some (.lst ((w.2.1 ++ [w.2.2]).map vN))
theorem RowAt.up {H H' : Hp} {v : V} {w : Row} (e : Ex H H') (h : RowAt H v w) : RowAt H' v w := by
  obtain ⟨t, a, b, rfl, h1, h2, h3⟩ := h
  exact ⟨t, a, b, rfl, e _ _ h1, e _ _ h2, e _ _ h3⟩
theorem RowAt.upB {H H' : Hp} {d : Addr} {kvs : List (Key × V)} {v : V} {w : Row} (hd : H d = some (.dK kvs)) (e : ExB d H H') (h : RowAt H v w) : RowAt H' v w := by
  obtain ⟨t, a, b, rfl, h1, h2, h3⟩ := h
  exact ⟨t, a, b, rfl, e.tup (boxD hd) h1, e.tup (boxD hd) h2, e _ _ (fun z => by rw [z, hd] at h3; cases h3) h3⟩
theorem RowAt.new {H H' : Hp} {Dl : Addr} {v : V} {w : Row} (hd : H Dl = none) (e : ExB Dl H H') (h : RowAt H v w) : RowAt H' v w := by
  obtain ⟨t, a, b, rfl, h1, h2, h3⟩ := h
  exact ⟨t, a, b, rfl, e _ _ (ne_of_none h1 hd) h1, e _ _ (ne_of_none h2 hd) h2, e _ _ (ne_of_none h3 hd) h3⟩
/-- (route + (k,), places + [g]) -/
theorem ep_row {σ : Sg} {H : Hp} {t1 t2 tk tg : TE} {a b : Addr} {r ps : List Nat} {q k g : Nat} (h1 : Ev t1 σ H (.ref a)) (ha : H a = some (.tup (r.map vN))) (h2 : Ev t2 σ H (.ref b)) (hb : H b = some (.lst ((ps ++ [q]).map vN))) (hk : Ev tk σ H (vN k)) (hg : Ev tg σ H (vN g)) (hr : r.length ≤ 100) (hp : ps.length ≤ 100) :
    EP (tTup (tCons (tOp (rCatA K) t1 (tTup (tCons tk tNil))) (tCons (tOp rCat t2 (tLst (tCons tg tNil))) tNil))) σ H fun v G => RowAt G v (r ++ [k], ps ++ [q], g) := fun H1 e Q qq => by
  have fin : ∀ (w : Addr) (G : Hp), Ex H1 G → G w = some (.tup ((r ++ [k]).map vN)) → tOp rCat t2 (tLst (tCons tg tNil)) σ G fun v H2 => [V.ref w, v].length ≤ sizeLine ∧ ∀ p, H2 p = none → Q (.ref p) (upd H2 p (.tup [V.ref w, v])) := fun w G g1 hw => by
    refine h2 G (e.trans g1) _ fun G1 g2 => hg G1 ((e.trans g1).trans g2) _ fun G2 g3 => ⟨by show 1 ≤ sizeLine; decide, fun l hl => ?_⟩
    have eb := (((e.trans g1).trans g2).trans g3).trans (Ex.new (o := .lst [vN g]) hl)
    refine ⟨b, l, _, [vN g], rfl, rfl, eb _ _ hb, upd_same, sz_of (by rw [List.length_map, List.length_append]; show ps.length + 1 + 1 ≤ 100000; omega), fun m hm => ⟨by show 2 ≤ sizeLine; decide, fun t ht => ?_⟩⟩
    have e5 := ((g2.trans g3).trans (Ex.new (o := .lst [vN g]) hl)).trans (Ex.new (o := .lst ((ps ++ [q]).map vN ++ [vN g])) hm)
    refine qq _ _ ((g1.trans e5).trans (Ex.new ht)) ⟨t, w, m, rfl, upd_same, (e5.trans (Ex.new ht)) _ _ hw, ?_⟩
    have := Ex.new (o := .tup [V.ref w, V.ref m]) ht m _ upd_same
    rw [this]
    show some (HO.lst _) = some (HO.lst (((ps ++ [q]) ++ [g]).map vN))
    rw [List.map_append (l₁ := ps ++ [q])]
    rfl
  refine h1 H1 e _ fun G1 g1 => hk G1 (e.trans g1) _ fun G2 g2 => ⟨by show 1 ≤ sizeLine; decide, fun w hw => ?_⟩
  have eg := g1.trans g2
  refine ⟨a, w, _, [vN k], rfl, rfl, st_of (Ex.new hw _ _ (eg _ _ (e _ _ ha))), st_of upd_same, sz_of (by rw [List.length_map]; show r.length + 1 ≤ 100000; omega), fun z => ?_, fun z z2 => (by cases z2), fun z _ w2 hw2 => ?_⟩
  · have hr0 : r = [] := List.map_eq_nil_iff.mp z
    refine fin w _ (eg.trans (Ex.new hw)) ?_
    rw [hr0]
    exact upd_same
  · refine fin w2 _ ((eg.trans (Ex.new hw)).trans (Ex.new hw2)) ?_
    rw [upd_same, List.map_append]
    rfl
theorem RowAt.put {H : Hp} {Dl : Addr} {acc : List V} {y : V} {yw : List Row} {o : HO} (hD : H Dl = some (.lst acc)) (a1 : Paired (RowAt H) (acc ++ [y]) yw) {v : V} {w : Row} (h : RowAt H v w) : RowAt (upd H Dl o) v w := by
  obtain ⟨t, a, b, rfl, h1, h2, h3⟩ := h
  have n1 : t ≠ Dl := fun z => by rw [z, hD] at h1; cases h1
  have n2 : a ≠ Dl := fun z => by rw [z, hD] at h2; cases h2
  have n3 : b ≠ Dl := fun z => by
    rw [z, hD] at h3
    have e : acc = (w.2.1 ++ [w.2.2]).map vN := by injection h3 with h3; injection h3
    have m : vN w.2.2 ∈ acc ++ [y] := List.mem_append_left _ (by rw [e]; exact List.mem_map.mpr ⟨w.2.2, List.mem_append_right _ (List.mem_singleton.mpr rfl), rfl⟩)
    obtain ⟨i, hi, e2⟩ := List.getElem_of_mem m
    obtain ⟨w2, _, t2, _, _, h4, _⟩ := prd_get' a1 (List.getElem?_eq_getElem hi)
    rw [e2] at h4
    cases h4
  exact ⟨t, a, b, rfl, by rw [upd_ne n1]; exact h1, by rw [upd_ne n2]; exact h2, by rw [upd_ne n3]; exact h3⟩
theorem snocCase {ss : List Stp} {p : Nat} {r ps : List Nat} {g i : Nat} {lw : List Row} (h : Wlk ss p r ps g) (hr : r.length = i + 1) (k : ∀ r' ps' q' k, Wlk ss p r' ps' q' → r'.length = i → (gl ss q')[k]? = some g → (r' ++ [k], ps' ++ [q'], g) ∈ lw) : (r, ps, g) ∈ lw := by
  cases h with
  | nil => cases hr
  | snoc h1 h2 =>
    refine k _ _ _ _ h1 ?_ h2
    rw [List.length_append] at hr
    exact Nat.succ.inj hr
theorem cr' {ss : List Stp} {p i : Nat} {rw lw : List Row} {rv : List V} (cr : ∀ r ps g, Wlk ss p r ps g → r.length = i → (r, ps, g) ∈ rw) (cl : ∀ j' r ps g, j' < rv.length → rw[j']? = some (r, ps, g) → ∀ (k g' : Nat), (gl ss g)[k]? = some g' → (r ++ [k], ps ++ [g], g') ∈ lw) (hlv : rv.length = rw.length)
    {r ps : List Nat} {q k g : Nat} (h : Wlk ss p r ps q) (hr : r.length = i) (hk : (gl ss q)[k]? = some g) : (r ++ [k], ps ++ [q], g) ∈ lw := by
  have m := cr r ps q h hr
  obtain ⟨j, hj, e⟩ := List.getElem_of_mem m
  exact cl j r ps q (by omega) (by rw [List.getElem?_eq_getElem hj, e]) k g hk
structure RowsOk (ss : List Stp) (p : Nat) (ws : List Row) : Prop where
  sound : ∀ w ∈ ws, Wlk ss p w.1 w.2.1 w.2.2 ∧ w.1.length ≤ 4
  full : ∀ r ps q, Wlk ss p r ps q → r.length ≤ 4 → (r, ps, q) ∈ ws
  len : ws.length ≤ 1000
def sp_law_routes (K : PySem.W.Frag) : Sp := fun vs H Q _ => ∃ (a : Addr) (ss : List Stp) (p : Nat), vs = [.ref a, vN p, vN 4] ∧ StepsAt H a ss ∧ Okp ss ∧ p < ss.length ∧ ∀ l us ws H', Ex H H' → H' l = some (.lst us) → Paired (RowAt H') us ws → RowsOk ss p ws → Q (.ref l) H'
abbrev n_law_routes : List Str := ["_law_steps_here", "_law_place", "_law_most", "_law_found", "_law_rows", "_law_turn", "_law_later", "_law_route", "_law_places", "_law_goals_here", "_law_k"]
theorem sc_law_routes : FnScope n_law_routes ["_law_steps_here", "_law_place", "_law_most"] (defScope s_law_routes) := ⟨rfl, rfl, rfl, by decide +kernel, rfl, by decide +kernel, by decide +kernel⟩
theorem c_law_routes (T : Tx K mg) : Cal P w K mg base 2 "_law_routes" (sp_law_routes K) [] := by
  have k_law_goals := c_law_goals (P := P) (w := w) (base := base) T
  refine calOf T 38 rfl rfl sc_law_routes (fun _ _ _ _ _ _ us hl => match us, hl with | [_, _, _], _ => rfl) (fun vs H Q E h => ?_) (fun cdv A outer s H vs Q E hr h => ?_)
  · obtain ⟨_, _, _, rfl, _⟩ := h
    rfl
  · obtain ⟨a, ss, p, rfl, hs, ok, hpn, q⟩ := h
    refine ⟨_, (pss_cons (ps_set (i := 3) sc_law_routes.nd rfl (.inl rfl) (pe_lst (pa_cons (pe_tup (pa_cons (pe_tup pa_nil) (pa_cons (pe_lst (pa_cons (pv 1) pa_nil)) pa_nil))) pa_nil)))
      (pss_cons (ps_set (i := 4) sc_law_routes.nd rfl (.inl rfl) (pe_lst (pa_cons (pe_tup (pa_cons (pe_tup pa_nil) (pa_cons (pe_lst (pa_cons (pv 1) pa_nil)) pa_nil))) pa_nil)))
      (pss_cons (ps_for PassesOwn.never rfl (pi_range1 rfl T.f_range (pa_cons (pv 2) pa_nil)) (pg_name (i := 5) sc_law_routes.nd rfl (.inl rfl))
          ((pss_cons (ps_set (i := 6) sc_law_routes.nd rfl (.inl rfl) (pe_lst pa_nil))
          (pss_cons (ps_for PassesOwn.never rfl (x_list (K := K) (pv 4)) (pg_tup rfl (pgs_cons (pg_name (i := 7) sc_law_routes.nd rfl (.inr rfl)) (pgs_cons (pg_name (i := 8) sc_law_routes.nd rfl (.inr rfl)) pgs_nil)))
              ((pss_cons (ps_set (i := 9) sc_law_routes.nd rfl (.inr rfl) (pe_c k_law_goals hr (by decide) rfl (pa_cons (pe_ix (xi_tup (K := K)) (pv 0) (pe_ix (xi_list (K := K)) (pv 8) (pe_un un_neg pe_int) (fun _ _ => rfl)) (fun _ _ => rfl)) pa_nil)))
              (pss_one (ps_set (i := 6) sc_law_routes.nd rfl (.inl rfl) (pe_op op_cat (pv 6) (pe_lc (g := gName 10) (tt := tYes) (own := [("_law_k", 10)]) rfl sc_law_routes.nd (pi_range1 rfl T.f_range (pa_cons (pe_callB (xc_len (K := K)) rfl T.f_len (by decide +kernel) (pa_cons (pv 9) pa_nil)) pa_nil)) (blkOk_by (own := [("_law_k", 10)]) (N := n_law_routes) (sc := defScope s_law_routes) (by decide +kernel)) (fun _ _ _ _ _ => (pg_name (i := 10) sc_law_routes.nd rfl (.inl rfl))) (fun _ _ _ _ _ => pts_nil) (fun _ _ _ _ _ => (pe_tup (pa_cons (pe_op (xo_catA (K := K)) (pv 7) (pe_tup (pa_cons (pv 10) pa_nil))) (pa_cons (pe_op op_cat (pv 8) (pe_lst (pa_cons (pe_ix (xi_list (K := K)) (pv 9) (pv 10) (fun _ _ => rfl)) pa_nil))) pa_nil)))))))))))
          (pss_cons (ps_set (i := 3) sc_law_routes.nd rfl (.inl rfl) (pe_op op_cat (pv 3) (pv 6)))
          (pss_one (ps_set (i := 4) sc_law_routes.nd rfl (.inl rfl) (pv 6))))))))
      (pss_one (ps_ret (pv 3)))))), ?_⟩
    have el0 : ∀ (σ : Sg), σ[1]? = some (some (vN p)) → EvR (tLst (tCons (tTup (tCons (tTup tNil) (tCons (tLst (tCons (tVar 1) tNil)) tNil))) tNil)) σ H fun xs G => ∃ v, xs = [v] ∧ RowAt G v ([], [], p) := fun σ hσ H1 e Q2 q2 => by
      refine ⟨Nat.zero_le _, fun t1 ht1 => ⟨_, hσ, by show 1 ≤ sizeLine; decide, fun t2 ht2 => ⟨by show 2 ≤ sizeLine; decide, fun t3 ht3 => ⟨by show 1 ≤ sizeLine; decide, fun t4 ht4 => ?_⟩⟩⟩⟩
      have e3 := (Ex.new (o := .tup []) ht1).trans ((Ex.new (o := .lst [vN p]) ht2).trans (Ex.new (o := .tup [.ref t1, .ref t2]) ht3))
      refine q2 _ _ _ (fresh_back e3 ht4) (e3.trans (Ex.new ht4)) upd_same ⟨_, rfl, t3, t1, t2, rfl, Ex.new ht4 _ _ upd_same, ?_, ?_⟩
      · exact ((Ex.new (o := .lst [vN p]) ht2).trans ((Ex.new ht3).trans (Ex.new ht4))) _ _ upd_same
      · exact ((Ex.new ht3).trans (Ex.new ht4)) _ _ upd_same
    refine q_asgP (ep_R (el0 _ rfl)) fun v1 H1 e1 h1 => ?_
    obtain ⟨f, xs1, rfl, hf, w1, rfl, r1⟩ := h1
    refine q_asgP (ep_R (EvR.mono e1 (el0 _ rfl))) fun v2 H2 e2 h2 => ?_
    obtain ⟨rw0, xs2, rfl, hrw, w2, rfl, r2⟩ := h2
    have base : ∀ r ps g, Wlk ss p r ps g → r.length = 0 → (r, ps, g) ∈ [(([], [], p) : Row)] := fun r ps g w h => by
      have := List.length_eq_zero_iff.mp h
      subst this
      obtain ⟨rfl, rfl⟩ := w.inv0
      exact List.mem_singleton.mpr rfl
    refine q_forR1 (n := 4) (ea_cons (ev_var rfl) ea_nil) ⟨by omega, by omega⟩ (fun i σ' G => ∃ fl rl u5 u6 u7 u8 u9 u10, σ' = [some (.ref a), some (vN p), some (vN 4), some (.ref fl), some (.ref rl), u5, u6, u7, u8, u9, u10] ∧ Ex H G ∧ ∃ (fv rv : List V) (fw rw : List Row), G fl = some (.lst fv) ∧ Paired (RowAt G) fv fw ∧ G rl = some (.lst rv) ∧ Paired (RowAt G) rv rw ∧
        (∀ w ∈ fw, Wlk ss p w.1 w.2.1 w.2.2 ∧ w.1.length ≤ i) ∧ (∀ r ps g, Wlk ss p r ps g → r.length ≤ i → (r, ps, g) ∈ fw) ∧ (∀ w ∈ rw, Wlk ss p w.1 w.2.1 w.2.2 ∧ w.1.length = i) ∧ (∀ r ps g, Wlk ss p r ps g → r.length = i → (r, ps, g) ∈ rw) ∧ rw.length ≤ 3 ^ i ∧ fw.length ≤ 3 ^ (i + 1))
      (fun G e => ⟨f, rw0, none, none, none, none, none, none, rfl, (e1.trans e2).trans e, [w1], [w2], [([], [], p)], [([], [], p)], e _ _ (e2 _ _ hf), .cons (r1.up (e2.trans e)) .nil, e _ _ hrw, .cons (r2.up e) .nil,
        fun w hw => by rw [List.mem_singleton.mp hw]; exact ⟨.nil, Nat.le_refl _⟩, fun r ps g w h => base r ps g w (by omega), fun w hw => by rw [List.mem_singleton.mp hw]; exact ⟨.nil, rfl⟩, base, Nat.le_refl _, by show 1 ≤ 3; omega⟩) (fun i σ' G hi h => ?_) fun σ' G h => ?_
    · obtain ⟨fl, rl, u5, u6, u7, u8, u9, u10, rfl, eG, fv, rv, fw, rw, gf, pf, gr, pr, sf, cf, sr, cr, lr, lf⟩ := h
      have hi4 : i < 4 := by omega
      have h3 : 3 ^ i ≤ 27 := by
        match i, hi4 with
        | 0, _ => decide
        | 1, _ => decide
        | 2, _ => decide
        | 3, _ => decide
      have h3s : 3 ^ (i + 1) = 3 * 3 ^ i := by rw [Nat.pow_succ]; omega
      have h3s2 : 3 ^ (i + 1 + 1) = 3 * (3 * 3 ^ i) := by rw [Nat.pow_succ, h3s]; omega
      have hlv := pr.length
      refine q_asgP (ep_R (er_L (el_lst ea_nil (by simp)))) fun v0 G1 g1 hv0 => ?_
      obtain ⟨l0, _, rfl, hl0, rfl⟩ := hv0
      refine go_forTl (K := K) (n := 2) (ev_var rfl) (sq_of (g1 _ _ gr)) (fun j σ' G' => ∃ ll u7 u8 u9 u10, σ' = [some (.ref a), some (vN p), some (vN 4), some (.ref fl), some (.ref rl), some (vN i), some (.ref ll), u7, u8, u9, u10] ∧ Ex G1 G' ∧ ∃ (lv : List V) (lw : List Row), G' ll = some (.lst lv) ∧ Paired (RowAt G') lv lw ∧
          (∀ w ∈ lw, Wlk ss p w.1 w.2.1 w.2.2 ∧ w.1.length = i + 1) ∧ (∀ j' r ps g, j' < j → rw[j']? = some (r, ps, g) → ∀ (k g' : Nat), (gl ss g)[k]? = some g' → (r ++ [k], ps ++ [g], g') ∈ lw) ∧ lw.length ≤ 3 * j)
        (fun G' e => ⟨l0, u7, u8, u9, u10, rfl, e, [], [], e _ _ hl0, .nil, fun w hw => (by cases hw), fun j' r ps g h => absurd h (Nat.not_lt_zero _), Nat.zero_le _⟩) (fun j σ' G' _ h => ?_) (fun j x σ' G' hj h => ?_) fun σ' G' h => ?_
      · obtain ⟨_, _, _, _, _, _, eG', _⟩ := h
        exact sq_of (eG' _ _ (g1 _ _ gr))
      · obtain ⟨ll, u7, u8, u9, u10, rfl, eG', lv, lw, gl1, pl, sl, cl, nl⟩ := h
        obtain ⟨w, hw, hrow⟩ := prd_get' pr hj
        obtain ⟨r, ps, g⟩ := w
        have hrow' := RowAt.up (g1.trans eG') hrow
        obtain ⟨t, ra, pb, rfl, ht, hra, hpb⟩ := hrow'
        obtain ⟨hwk, hwl⟩ := sr _ (List.mem_of_getElem? hw)
        have hwl' : r.length = i := hwl
        have hpl : ps.length = r.length := hwk.len
        have hgn := (hwk.lt ok hpn).1
        have hjr : j < rw.length := (List.getElem?_eq_some_iff.mp hw).1
        refine ⟨t, [.ref ra, .ref pb], rfl, st_of ht, rfl, .ref ra, [.ref pb], rfl, .ref pb, [], rfl, rfl, ?_⟩
        have hs' := hs.up ((eG.trans g1).trans eG')
        have hlast : atI ((ps ++ [g]).map vN) (-1) = some (vN g) := by
          rw [List.map_append]
          exact atI_last _ _
        obtain ⟨v, s, es, hv, hev⟩ := ev_step (σ := [some (.ref a), some (vN p), some (vN 4), some (.ref fl), some (.ref rl), some (vN i), some (.ref ll), some (.ref ra), some (.ref pb), u9, u10]) (ta := tVar 0) (tb := tOp (rIxL K) (tVar 8) (tUn (rU fun i => .int (-i)) (tC (.int 1)))) (ev_var rfl) (ev_ixL (ev_var rfl) (ev_neg ev_c) hpb hlast) hs' hgn
        have hgl : gl ss g = s.goals := gl_of es
        have hg3 := (ok.at es).goals_len
        refine q_asgL (el_call (ea_cons hev ea_nil) (l_law_goals hv)) fun gL G2 hgL g2 gl2 => ?_
        refine s_asgP (ep_R (er_cat1 (R := fun ys G => ∃ yw, Paired (RowAt G) ys yw ∧ yw.length ≤ s.goals.length ∧ (∀ w ∈ yw, ∃ k g', s.goals[k]? = some g' ∧ w = (r ++ [k], ps ++ [g], g')) ∧ ∀ (k g' : Nat), k < s.goals.length → s.goals[k]? = some g' → (r ++ [k], ps ++ [g], g') ∈ yw) (ev_var rfl) (g2 _ _ gl1) (er_lcR1 (n := s.goals.length) (fun i ys G => ∃ yw, Paired (RowAt G) ys yw ∧ yw.length ≤ i ∧ (∀ w ∈ yw, ∃ k g', s.goals[k]? = some g' ∧ w = (r ++ [k], ps ++ [g], g')) ∧ ∀ (k g' : Nat), k < i → s.goals[k]? = some g' → (r ++ [k], ps ++ [g], g') ∈ yw) 
            (fun k v G => ∃ g', s.goals[k]? = some g' ∧ RowAt G v (r ++ [k], ps ++ [g], g')) (ea_cons (ev_is (ev_lenE (ev_var rfl) (.inl (sq_of gl2))) (by rw [List.length_map])) ea_nil) (by omega) (fun _ => rfl) ?_ ?_ ?_ ?_ ?_ ?_) ?_ ?_)) fun v3 G3 g3 h3 => ?_
        · rintro i acc G5 G6 z ⟨yw, a1, a2, a3, a4⟩
          exact ⟨yw, prd_imp (fun _ _ => RowAt.up z) a1, a2, a3, a4⟩
        · rintro Dl i acc y G5 hD ⟨yw, a1, a2, a3, a4⟩
          exact ⟨yw, prd_imp (fun _ _ => RowAt.put hD a1) a1, a2, a3, a4⟩
        · exact fun G5 _ => ⟨[], .nil, Nat.le_refl _, fun w hw => (by cases hw), fun k g' h => absurd h (Nat.not_lt_zero _)⟩
        · exact fun _ _ _ _ => et_yes
        · intro k G5 g5 hk
          exact EP.imp (ep_row (r := r) (ps := ps) (q := g) (k := k) (g := s.goals[k]) (ev_var rfl) ((g2.trans g5) _ _ hra) (ev_var rfl) ((g2.trans g5) _ _ hpb) (ev_var rfl) (ev_ixL (ev_var rfl) (ev_var rfl) (g5 _ _ gl2) (at_nat hk)) (by omega) (by omega)) fun v G6 _ h => ⟨_, List.getElem?_eq_getElem hk, h⟩
        · rintro k acc y G5 hk ⟨yw, a1, a2, a3, a4⟩ ⟨g', b1, b2⟩
          refine ⟨yw ++ [(r ++ [k], ps ++ [g], g')], prd_app a1 (.cons b2 .nil), by rw [List.length_append]; show yw.length + 1 ≤ k + 1; omega, fun w hw => ?_, fun k2 g2' hk2 hg2 => ?_⟩
          · rcases List.mem_append.mp hw with z | z
            · exact a3 w z
            · exact ⟨k, g', b1, List.mem_singleton.mp z⟩
          · by_cases e : k2 = k
            · subst e
              rw [b1] at hg2
              rw [Option.some.inj hg2]
              exact List.mem_append_right _ (List.mem_singleton.mpr rfl)
            · exact List.mem_append_left _ (a4 k2 g2' (by omega) hg2)
        · rintro ys G5 ⟨yw, a1, a2, a3, a4⟩
          have z1 := a1.length
          have z2 := pl.length
          have : j < 27 := by omega
          omega
        · rintro ys G5 G6 z ⟨yw, a1, a2, a3, a4⟩
          exact ⟨yw, prd_imp (fun _ _ => RowAt.up z) a1, a2, a3, a4⟩
        · obtain ⟨lp, _, rfl, hlp, ys, rfl, yw, a1, a2, a3, a4⟩ := h3
          refine ⟨lp, _, _, _, _, rfl, (eG'.trans g2).trans g3, lv ++ ys, lw ++ yw, hlp, prd_app (prd_imp (fun _ _ => RowAt.up (g2.trans g3)) pl) a1, fun w hw => ?_, fun j' r' ps' q' hj' hr' k g' hk => ?_, ?_⟩
          · rcases List.mem_append.mp hw with z | z
            · exact sl w z
            · obtain ⟨k, g', b1, rfl⟩ := a3 w z
              exact ⟨.snoc hwk (by rw [hgl]; exact b1), by rw [List.length_append]; show r.length + 1 = i + 1; have : r.length = i := hwl; omega⟩
          · by_cases e : j' = j
            · subst e
              rw [hw] at hr'
              have z := Option.some.inj hr'
              have z1 : r = r' := congrArg (fun w : Row => w.1) z
              have z2 : ps = ps' := congrArg (fun w : Row => w.2.1) z
              have z3 : g = q' := congrArg (fun w : Row => w.2.2) z
              subst z1 z2 z3
              rw [hgl] at hk
              exact List.mem_append_right _ (a4 k g' (List.getElem?_eq_some_iff.mp hk).1 hk)
            · exact List.mem_append_left _ (cl j' r' ps' q' (by omega) hr' k g' hk)
          · rw [List.length_append]
            omega
      · obtain ⟨ll, u7, u8, u9, u10, rfl, eG', lv, lw, gl1, pl, sl, cl, nl⟩ := h
        have eg := g1.trans eG'
        have zf := pf.length
        have zl := pl.length
        have z27 : rv.length ≤ 27 := by omega
        refine ⟨_, rfl, _, rfl, fl, ll, fv, lv, rfl, rfl, eg _ _ gf, gl1, sz_of (by omega), fun np hnp => ?_⟩
        have e6 := Ex.new (o := .lst (fv ++ lv)) hnp
        refine ⟨_, rfl, np, ll, _, _, _, _, _, _, rfl, (eG.trans eg).trans e6, fv ++ lv, lv, fw ++ lw, lw, upd_same, prd_app (prd_imp (fun _ _ => RowAt.up (eg.trans e6)) pf) (prd_imp (fun _ _ => RowAt.up e6) pl), e6 _ _ gl1, prd_imp (fun _ _ => RowAt.up e6) pl, fun w hw => ?_, fun r ps g hw hr => ?_, sl, fun r ps g hw hr => ?_, ?_, ?_⟩
        · rcases List.mem_append.mp hw with z | z
          · exact ⟨(sf w z).1, Nat.le_succ_of_le (sf w z).2⟩
          · exact ⟨(sl w z).1, Nat.le_of_eq (sl w z).2⟩
        · by_cases e : r.length ≤ i
          · exact List.mem_append_left _ (cf r ps g hw e)
          · exact List.mem_append_right _ (snocCase hw (by omega) fun r' ps' q' k w' h' hk => cr' cr cl hlv w' h' hk)
        · exact snocCase hw hr fun r' ps' q' k w' h' hk => cr' cr cl hlv w' h' hk
        · rw [h3s]
          omega
        · rw [List.length_append, h3s2]
          omega
    · obtain ⟨fl, rl, u5, u6, u7, u8, u9, u10, rfl, eG, fv, rv, fw, rw, gf, pf, gr, pr, sf, cf, sr, cr, lr, lf⟩ := h
      have h4 : (4 : Int).toNat = 4 := rfl
      rw [h4] at sf cf lf
      exact ⟨_, rfl, q fl fv fw G eG gf pf ⟨fun w hw => sf w hw, cf, Nat.le_trans lf (by decide)⟩⟩

end
end FB
set_option Elab.async false
set_option linter.all false
set_option maxRecDepth 100000
set_option maxHeartbeats 4000000
namespace FB
open PySem PySem.Spec PyProof.Rows L2 Evl
open C8 (Cal Mak pe_c pe_mk pe_gc)
section
variable {P : Program} {w : World} {K : PySem.W.Frag} {mg : Str → Option Value} {base : Heap}
/-- the tape at t: the script's copy, a place in it, a rest, a mixed number, a count -/
def Tape (H : Hp) (t l : Addr) : Prop := ∃ (ns : List Int) (i : Nat) (r : Int) (m c : Nat), H t = some (.lst [.ref l, .int (i : Int), .int r, .int (m : Int), .int (c : Int)]) ∧ l ≠ t ∧ H l = some (.lst (ns.map V.int)) ∧ m < 2147483647 ∧ ns.length ≤ 63
theorem Tape.up {H H' : Hp} {t l : Addr} (h : Tape H t l) (e : Ex H H') : Tape H' t l := by
  obtain ⟨ns, i, r, m, c, h1, h2, h3, h4, h5⟩ := h
  exact ⟨ns, i, r, m, c, e _ _ h1, h2, e _ _ h3, h4, h5⟩
def sp_law_tape (K : PySem.W.Frag) : Sp := fun vs H Q _ => ∃ (a : Addr) (ns : List Int), vs = [.ref a] ∧ SqL K H a (ns.map V.int) ∧ ns.length ≤ 63 ∧ ∀ t l H', Ex H H' → Tape H' t l → Q (.ref t) H'
abbrev n_law_tape : List Str := ["_law_script"]
theorem sc_law_tape : FnScope n_law_tape ["_law_script"] (defScope s_law_tape) := ⟨rfl, rfl, rfl, by decide +kernel, rfl, by decide +kernel, by decide +kernel⟩
theorem c_law_tape (T : Tx K mg) : Cal P w K mg base 1 "_law_tape" (sp_law_tape K) [] := by
  refine calOf T 26 rfl rfl sc_law_tape (fun _ _ _ _ _ _ us hl => match us, hl with | [_], _ => rfl) (fun vs H Q E h => ?_) (fun cdv A outer s H vs Q E hr h => ?_)
  · obtain ⟨_, _, rfl, _⟩ := h
    rfl
  · obtain ⟨a, ns, rfl, hs, hl, q⟩ := h
    refine ⟨_, (pss_one (ps_ret (pe_lst (pa_cons (pe_callTy (xc_list (K := K)) rfl T.f_list (by decide +kernel) (pa_cons (pv 0) pa_nil)) (pa_cons pe_int (pa_cons pe_int (pa_cons pe_int (pa_cons pe_int pa_nil)))))))), ?_⟩
    refine ⟨_, rfl, a, _, rfl, .inl hs, fun l hl0 => ?_⟩
    refine ⟨by show 5 ≤ sizeLine; decide, fun t ht => ?_⟩
    have nlt : l ≠ t := fun z => by
      rw [← z, upd_same] at ht
      cases ht
    refine q t l _ ((Ex.new hl0).trans (Ex.new ht)) ⟨ns, 0, 0, 1, 0, upd_same, nlt, ?_, by decide, hl⟩
    rw [upd_ne nlt, upd_same]

end
end FB
set_option Elab.async false
set_option linter.all false
set_option maxRecDepth 100000
set_option maxHeartbeats 4000000
namespace FB
open PySem PySem.Spec PyProof.Rows L2 Evl
open C8 (Cal Mak pe_c pe_mk pe_gc)
section
variable {P : Program} {w : World} {K : PySem.W.Frag} {mg : Str → Option Value} {base : Heap}
def sp_law_pick (K : PySem.W.Frag) : Sp := fun vs H Q _ => ∃ (t l : Addr) (n : Nat), vs = [.ref t, vN n] ∧ Tape H t l ∧ 1 ≤ n ∧ n ≤ 1000 ∧ ∀ (k : Nat) H', k < n → ExB t H H' → Tape H' t l → Q (vN k) H'
theorem fmod_nat {i : Int} {n : Nat} (h : 1 ≤ n) : ∃ k : Nat, k < n ∧ i.fmod (n : Int) = (k : Int) := by
  have h1 : 0 ≤ i.fmod (n : Int) := Int.fmod_nonneg_of_pos i (by omega)
  have h2 : i.fmod (n : Int) < (n : Int) := Int.fmod_lt_of_pos i (by omega)
  exact ⟨(i.fmod (n : Int)).toNat, by omega, by omega⟩
/-- a store into the tape -/
theorem ExB.set {t : Addr} {H : Hp} {xs : List V} (_ : H t = some (.lst xs)) {ys : List V} : ExB t H (upd H t (.lst ys)) := ExB.put
theorem q_set {σ : Sg} {H : Hp} {te ta tb : TE} {tz : TS} {D : Ends} {l : Addr} {xs : List V} {j : Nat} {v : V} (hl : H l = some (.lst xs)) (h : Ev te σ H v) (ho : Ev ta σ H (.ref l)) (hi : Ev tb σ H (.int (j : Int))) (hj : j < xs.length)
    (k : ∀ H2, H2 l = some (.lst (xs.set j v)) → ExB l H H2 → tz D σ H2) : tSeq (tAsg te (gSub ta tb rSetL)) tz D σ H := q_setL hl h ho hi hj fun H1 e => k _ upd_same ((ExB.of e).trans ExB.put)
theorem s_set {σ : Sg} {H : Hp} {te ta tb : TE} {D : Ends} {l : Addr} {xs : List V} {j : Nat} {v : V} (hl : H l = some (.lst xs)) (h : Ev te σ H v) (ho : Ev ta σ H (.ref l)) (hi : Ev tb σ H (.int (j : Int))) (hj : j < xs.length)
    (k : ∀ H2, H2 l = some (.lst (xs.set j v)) → ExB l H H2 → D.nx σ H2) : tAsg te (gSub ta tb rSetL) D σ H := s_setL hl h ho hi hj fun H1 e => k _ upd_same ((ExB.of e).trans ExB.put)
theorem ev_int1 {σ : Sg} {H : Hp} {te : TE} {i : Int} (h : Ev te σ H (.int i)) : Ev (tCB rInt1 (tCons te tNil)) σ H (.int i) := fun H1 e Q q => h H1 e _ fun H2 e2 => .inl ⟨i, rfl, q H2 e2⟩
theorem ev_add {σ : Sg} {H : Hp} {ta tb : TE} {i j : Int} (ha : Ev ta σ H (.int i)) (hb : Ev tb σ H (.int j)) : Ev (tOp (rI0 fun i j => .int (i + j)) ta tb) σ H (.int (i + j)) := ev_op ha hb rv_I0
theorem ev_mod {σ : Sg} {H : Hp} {ta tb : TE} {i j : Int} (ha : Ev ta σ H (.int i)) (hb : Ev tb σ H (.int j)) (hj : j ≠ 0) : Ev (tOp (rI (fun _ j => j ≠ 0) fun i j => .int (i.fmod j)) ta tb) σ H (.int (i.fmod j)) := ev_op ha hb (rv_I (C := fun _ j => j ≠ 0) hj)
theorem ev_fdiv {σ : Sg} {H : Hp} {ta tb : TE} {i j : Int} (ha : Ev ta σ H (.int i)) (hb : Ev tb σ H (.int j)) (hj : CDivN i j) : Ev (tOp (rI CDivN fun i j => .int (i.fdiv j)) ta tb) σ H (.int (i.fdiv j)) := ev_op ha hb (rv_I hj)
theorem ev_mul {σ : Sg} {H : Hp} {ta tb : TE} {i j : Int} (ha : Ev ta σ H (.int i)) (hb : Ev tb σ H (.int j)) (hj : CMul i j) : Ev (tOp (rI CMul fun i j => .int (i * j)) ta tb) σ H (.int (i * j)) := ev_op ha hb (rv_I hj)
theorem ev_pow {σ : Sg} {H : Hp} {ta tb : TE} {i j : Int} (ha : Ev ta σ H (.int i)) (hb : Ev tb σ H (.int j)) (hj : CPow i j) : Ev (tOp (rI CPow fun i j => .int (i ^ j.toNat)) ta tb) σ H (.int (i ^ j.toNat)) := ev_op ha hb (rv_I hj)
abbrev n_law_pick : List Str := ["_law_tape_here", "_law_size", "_law_cell", "_law_mixed", "_law_digit"]
theorem sc_law_pick : FnScope n_law_pick ["_law_tape_here", "_law_size"] (defScope s_law_pick) := ⟨rfl, rfl, rfl, by decide +kernel, rfl, by decide +kernel, by decide +kernel⟩
theorem c_law_pick (T : Tx K mg) : Cal P w K mg base 1 "_law_pick" (sp_law_pick K) [] := by
  refine calOf T 27 rfl rfl sc_law_pick (fun _ _ _ _ _ _ us hl => match us, hl with | [_, _], _ => rfl) (fun vs H Q E h => ?_) (fun cdv A outer s H vs Q E hr h => ?_)
  · obtain ⟨_, _, _, rfl, _⟩ := h
    rfl
  · obtain ⟨t, l, n, rfl, ⟨ns, i, r, m, c, h1, h2, h3, h4, h5⟩, hn1, hn2, q⟩ := h
    have hn0 : (n : Int) ≠ 0 := by omega
    have hnd : ∀ z : Int, CDivN z (n : Int) := fun z => ⟨hn0, by omega⟩
    refine ⟨_, (pss_cons (ps_if (pt_cmpR op_gt (pe_ix (xi_list (K := K)) (pv 0) pe_int (fun _ _ => rfl)) pe_int (nomark _))
          ((pss_cons (ps_set (i := 4) sc_law_pick.nd rfl (.inl rfl) (pe_op op_modN (pe_callTy xc_int rfl T.f_int (by decide +kernel) (pa_cons (pe_ix (xi_list (K := K)) (pv 0) pe_int (fun _ _ => rfl)) pa_nil)) (pv 1)))
          (pss_cons (ps_asg (pe_op op_fdivN (pe_ix (xi_list (K := K)) (pv 0) pe_int (fun _ _ => rfl)) (pv 1)) (pg_sub (pv 0) pe_int set_list))
          (pss_one (ps_ret (pv 4))))))
          (pss_nil))
      (pss_cons (ps_asg (pe_op op_add (pe_ix (xi_list (K := K)) (pv 0) pe_int (fun _ _ => rfl)) pe_int) (pg_sub (pv 0) pe_int set_list))
      (pss_cons (ps_set (i := 2) sc_law_pick.nd rfl (.inl rfl) pe_int)
      (pss_cut (ps_if (pt_cmpR op_lt (pe_ix (xi_list (K := K)) (pv 0) pe_int (fun _ _ => rfl)) (pe_callB (xc_len (K := K)) rfl T.f_len (by decide +kernel) (pa_cons (pe_ix (xi_list (K := K)) (pv 0) pe_int (fun _ _ => rfl)) pa_nil)) (nomark _))
          ((pss_cons (ps_set (i := 2) sc_law_pick.nd rfl (.inl rfl) (pe_ix (xi_list (K := K)) (pe_ix (xi_list (K := K)) (pv 0) pe_int (fun _ _ => rfl)) (pe_ix (xi_list (K := K)) (pv 0) pe_int (fun _ _ => rfl)) (fun _ _ => rfl)))
          (pss_one (ps_asg (pe_op op_add (pe_ix (xi_list (K := K)) (pv 0) pe_int (fun _ _ => rfl)) pe_int) (pg_sub (pv 0) pe_int set_list)))))
          (pss_nil))
      (pss_cons (ps_if (pt_cmpR op_ge (pv 2) (pe_op op_pow pe_int pe_int) (nomark _))
          ((pss_cons (ps_asg (pe_op op_fdivN (pv 2) (pv 1)) (pg_sub (pv 0) pe_int set_list))
          (pss_one (ps_ret (pe_op op_modN (pe_callTy xc_int rfl T.f_int (by decide +kernel) (pa_cons (pv 2) pa_nil)) (pv 1))))))
          (pss_nil))
      (pss_cons (ps_set (i := 3) sc_law_pick.nd rfl (.inl rfl) (pe_op op_modN (pe_callTy xc_int rfl T.f_int (by decide +kernel) (pa_cons (pe_op op_add (pe_op op_add (pe_op op_mul (pe_ix (xi_list (K := K)) (pv 0) pe_int (fun _ _ => rfl)) pe_int) (pe_op op_modN (pe_callTy xc_int rfl T.f_int (by decide +kernel) (pa_cons (pv 2) pa_nil)) pe_int)) (pe_op op_mul (pe_ix (xi_list (K := K)) (pv 0) pe_int (fun _ _ => rfl)) pe_int)) pa_nil)) pe_int))
      (pss_cons (ps_set (i := 3) sc_law_pick.nd rfl (.inl rfl) (pe_op op_modN (pe_callTy xc_int rfl T.f_int (by decide +kernel) (pa_cons (pe_op op_mul (pv 3) (pe_op op_add (pe_op op_fdivN (pv 3) pe_int) pe_int)) pa_nil)) pe_int))
      (pss_cons (ps_asg (pv 3) (pg_sub (pv 0) pe_int set_list))
      (pss_one (ps_ret (pe_op op_modN (pe_callTy xc_int rfl T.f_int (by decide +kernel) (pa_cons (pe_op op_fdivN (pv 3) pe_int) pa_nil)) (pv 1)))))))))))), ?_⟩
    refine q_when (et_test (ev_op (ev_ixL (ev_var rfl) ev_c h1 at2) ev_c rv_I0)) (fun _ H1 e1 => ?_) fun _ H1 e1 => ?_
    · -- the rest is not used up
      have o1 := e1 _ _ h1
      obtain ⟨k, hk, ek⟩ := fmod_nat (i := r) hn1
      refine q_asg (ev_mod (ev_int1 (ev_ixL (ev_var rfl) ev_c o1 at2)) (ev_var rfl) hn0) fun H2 e2 => ?_
      have o2 := e2 _ _ o1
      refine q_set (j := 2) o2 (ev_fdiv (ev_ixL (ev_var rfl) ev_c o2 at2) (ev_var rfl) (hnd r)) (ev_var rfl) ev_c (by simp) fun H3 o3 e3 => ?_
      refine s_ret (ev_is (ev_var rfl) (congrArg V.int ek)) fun H4 e4 => ?_
      have eB : ExB t H H4 := (((ExB.of e1).trans (ExB.of e2)).trans e3).trans (ExB.of e4)
      exact q k H4 hk eB ⟨ns, i, _, m, c, e4 _ _ o3, h2, eB _ _ h2 h3, h4, h5⟩
    · have o1 := e1 _ _ h1
      refine q_set (j := 4) o1 (ev_add (ev_ixL (ev_var rfl) ev_c o1 at4) ev_c) (ev_var rfl) ev_c (by simp) fun H2 o2 e2 => ?_
      have eB2 : ExB t H H2 := (ExB.of e1).trans e2
      have l2 := eB2 _ _ h2 h3
      have ec : (c : Int) + 1 = ((c + 1 : Nat) : Int) := by omega
      have o2 : H2 t = some (.lst [.ref l, .int (i : Int), .int r, .int (m : Int), .int ((c + 1 : Nat) : Int)]) := by
        rw [← ec]
        exact o2
      refine q_asg (ev_c (v := .int 0)) fun H3 e3 => ?_
      have o3 := e3 _ _ o2
      have l3 := e3 _ _ l2
      have eB3 : ExB t H H3 := eB2.trans (ExB.of e3)
      -- the cell is read
      refine q_cut (M := fun σ' H' => ∃ (cell : Int) (j : Nat), σ' = [some (.ref t), some (vN n), some (.int cell), none, none] ∧ ExB t H H' ∧ H' t = some (.lst [.ref l, .int (j : Int), .int r, .int (m : Int), .int ((c + 1 : Nat) : Int)])) ?_ ?_
      · refine s_when (et_test (ev_op (ev_ixL (ev_var rfl) ev_c o3 at1) (ev_lenE (ev_ixL (ev_var rfl) ev_c o3 at0) (.inl (sq_of l3))) rv_I0)) (fun hb H4 e4 => ?_) fun _ H4 e4 => ⟨0, i, rfl, eB3.trans (ExB.of e4), e4 _ _ o3⟩
        have hi : i < ns.length := by
          have z := of_decide_eq_true hb
          rw [List.length_map] at z
          omega
        have o4 := e4 _ _ o3
        have l4 := e4 _ _ l3
        have hx : atI (ns.map V.int) (i : Int) = some (.int ns[i]) := atI_nat (by rw [List.getElem?_map, List.getElem?_eq_getElem hi]; rfl)
        refine q_asg (ev_ixL (ev_ixL (ev_var rfl) ev_c o4 at0) (ev_ixL (ev_var rfl) ev_c o4 at1) l4 hx) fun H5 e5 => ?_
        have o5 := e5 _ _ o4
        refine s_set (j := 1) o5 (ev_add (ev_ixL (ev_var rfl) ev_c o5 at1) ev_c) (ev_var rfl) ev_c (by simp) fun H6 o6 e6 => ⟨ns[i], i + 1, rfl, ((eB3.trans (ExB.of e4)).trans (ExB.of e5)).trans e6, ?_⟩
        have ei : ((i + 1 : Nat) : Int) = (i : Int) + 1 := by omega
        rw [ei]
        exact o6
      · rintro σ' H4 ⟨cell, j, rfl, eB4, o4⟩
        refine q_when (et_test (ev_op (ev_var rfl) (ev_pow ev_c ev_c ⟨by decide, by decide, by decide⟩) rv_I0)) (fun _ H5 e5 => ?_) fun _ H5 e5 => ?_
        · have o5 := e5 _ _ o4
          obtain ⟨k, hk, ek⟩ := fmod_nat (i := cell) hn1
          refine q_set (j := 2) o5 (ev_fdiv (ev_var rfl) (ev_var rfl) (hnd cell)) (ev_var rfl) ev_c (by simp) fun H6 o6 e6 => ?_
          refine s_ret (ev_is (ev_mod (ev_int1 (ev_var rfl)) (ev_var rfl) hn0) (congrArg V.int ek)) fun H7 e7 => ?_
          have eB : ExB t H H7 := ((eB4.trans (ExB.of e5)).trans e6).trans (ExB.of e7)
          exact q k H7 hk eB ⟨ns, j, _, m, c + 1, e7 _ _ o6, h2, eB _ _ h2 h3, h4, h5⟩
        · have o5 := e5 _ _ o4
          obtain ⟨m1, hm1, em1⟩ := fmod_nat (i := ((m : Int) * 48271 + (cell.fmod 2147483629)) + ((c + 1 : Nat) : Int) * 69621) (n := 2147483647) (by decide)
          refine q_asg (ev_is (ev_mod (ev_int1 (ev_add (ev_add (ev_mul (ev_ixL (ev_var rfl) ev_c o5 at3) ev_c (.inr ⟨by decide, by decide⟩)) (ev_mod (ev_int1 (ev_var rfl)) ev_c (by decide))) (ev_mul (ev_ixL (ev_var rfl) ev_c o5 at4) ev_c (.inr ⟨by decide, by decide⟩)))) ev_c (by decide)) (congrArg V.int em1)) fun H6 e6 => ?_
          have o6 := e6 _ _ o5
          obtain ⟨m2, hm2, em2⟩ := fmod_nat (i := (m1 : Int) * ((m1 : Int).fdiv 1009 + 40692)) (n := 2147483399) (by decide)
          refine q_asg (ev_is (ev_mod (ev_int1 (ev_mul (ev_var rfl) (ev_add (ev_fdiv (ev_var rfl) ev_c ⟨by decide, by decide⟩) ev_c) (.inl ⟨by omega, by omega⟩))) ev_c (by decide)) (congrArg V.int em2)) fun H7 e7 => ?_
          have o7 := e7 _ _ o6
          refine q_set (j := 3) o7 (ev_var rfl) (ev_var rfl) ev_c (by simp) fun H8 o8 e8 => ?_
          obtain ⟨k, hk, ek⟩ := fmod_nat (i := (m2 : Int).fdiv 16) hn1
          refine s_ret (ev_is (ev_mod (ev_int1 (ev_fdiv (ev_var rfl) ev_c ⟨by decide, by decide⟩)) (ev_var rfl) hn0) (congrArg V.int ek)) fun H9 e9 => ?_
          have eB : ExB t H H9 := ((((eB4.trans (ExB.of e5)).trans (ExB.of e6)).trans (ExB.of e7)).trans e8).trans (ExB.of e9)
          exact q k H9 hk eB ⟨ns, j, r, m2, c + 1, e9 _ _ o8, h2, eB _ _ h2 h3, by omega, h5⟩

end
end FB
set_option Elab.async false
set_option linter.all false
set_option maxRecDepth 100000
set_option maxHeartbeats 4000000
namespace FB
open PySem PySem.Spec PyProof.Rows L2 Evl
open C8 (Cal Mak pe_c pe_mk pe_gc)
section
variable {P : Program} {w : World} {K : PySem.W.Frag} {mg : Str → Option Value} {base : Heap}
/-- a comprehension over a drawn number of turns, each of which may draw -/
theorem tp_comp {σ : Sg} {H : Hp} {t l : Addr} {ta : TA} {te : TE} {j : Nat} {vs : List Nat} {Pi : V → Prop} {lo m : Nat} {Q : VK} (hT : Tape H t l)
    (ha : ∀ H1, ExB t H H1 → Tape H1 t l → ∀ Q : List V → Hp → Prop, (∀ k H2, lo ≤ k → k < m → ExB t H1 H2 → Tape H2 t l → Q [vN k] H2) → ta σ H1 Q) (hm : m ≤ 100)
    (he : ∀ (i : Nat) H1, ExB t H H1 → Tape H1 t l → ∀ Q : VK, (∀ v H2, Pi v → ExB t H1 H2 → Tape H2 t l → Q v H2) → te ((wipe σ vs).set j (some (vN i))) H1 Q) (hw : ∀ x, wipe ((wipe σ vs).set j (some x)) vs = wipe σ vs)
    (q : ∀ p items H2, lo ≤ items.length → items.length < m → (∀ v ∈ items, Pi v) → ExB t H H2 → Tape H2 t l → H2 p = some (.lst items) → p ≠ t → (∀ b o, H b = some o → b ≠ p) → Q (.ref p) H2) : tLc (iRng1 ta) (gName j) tYes te vs σ H Q := by
  refine ha H (ExB.refl t H) hT _ fun k H1 hlo hk e1 t1 => ⟨_, rfl, by omega, by omega, fun D hD => ?_⟩
  have tD : D ≠ t := fun z => by
    obtain ⟨ns, i, r, m, c, h1, _⟩ := t1
    rw [z, h1] at hD
    cases hD
  have lD : l ≠ D := fun z => by
    obtain ⟨ns, i, r, m, c, h1, h2, h3, _⟩ := t1
    rw [← z, h3] at hD
    cases hD
  have eD : ∀ b o, H b = some o → b ≠ D := fun b o h z => by
    by_cases hb : b = t
    · exact tD (by rw [← z]; exact hb)
    · exact ne_of_none (e1 b o hb h) hD z
  refine lc_range (lo := 0) (n := (k : Int).toNat) (fun i G => ExB t H G ∧ Tape G t l ∧ ∃ acc : List V, acc.length = i ∧ (∀ v ∈ acc, Pi v) ∧ G D = some (.lst acc)) ⟨e1.trans (ExB.of (Ex.new hD)), t1.up (Ex.new hD), [], rfl, (fun v hv => by cases hv), upd_same⟩ (fun i G hi p => ?_) fun G p => ?_
  · obtain ⟨eG, tG, acc, hl, hp, gD⟩ := p
    have e0 : (0 : Int) + (i : Int) = (i : Int) := Int.zero_add _
    show wipe ((wipe σ vs).set j (some (.int ((0 : Int) + (i : Int))))) vs = wipe σ vs ∧ _
    rw [e0]
    refine ⟨hw _, y_go (he i G eG tG _ fun v G2 hv e2 t2 => ⟨acc, e2 _ _ tD gD, sz_lt (by omega), fun b o hb h => ?_, ?_, acc ++ [v], by rw [List.length_append, hl]; rfl, fun u hu => ?_, upd_same⟩)⟩
    · rw [upd_ne (eD b o h)]
      exact e2 b o hb (eG b o hb h)
    · obtain ⟨ns, i, r, m, c, h1, h2, h3, h4, h5⟩ := t2
      exact ⟨ns, i, r, m, c, by rw [upd_ne tD.symm]; exact h1, h2, by rw [upd_ne lD]; exact h3, h4, h5⟩
    · rcases List.mem_append.mp hu with h | h
      · exact hp u h
      · rw [List.mem_singleton.mp h]
        exact hv
  · obtain ⟨eG, tG, acc, hl, hp, gD⟩ := p
    exact q D acc G (by omega) (by omega) hp eG tG gD tD eD
/-! texts of letters -/
theorem abc_len : abc.cps.toList.length = 26 := by decide +kernel
theorem join0_mem {c : Nat} : ∀ {l : List (List Nat)}, c ∈ TL.joinL [] l → ∃ p ∈ l, c ∈ p
  | [], h => by cases h
  | [p], h => ⟨p, List.mem_singleton.mpr rfl, h⟩
  | p :: q :: r, h => by
    have h' : c ∈ p ++ ([] ++ TL.joinL [] (q :: r)) := h
    rcases List.mem_append.mp h' with h1 | h1
    · exact ⟨p, List.mem_cons_self, h1⟩
    · obtain ⟨p', m, k⟩ := join0_mem (l := q :: r) h1
      exact ⟨p', List.mem_cons_of_mem _ m, k⟩
theorem join0_len : ∀ {l : List (List Nat)}, (∀ p ∈ l, p.length ≤ 1) → (TL.joinL [] l).length ≤ l.length
  | [], _ => Nat.le_refl _
  | [p], h => h p (List.mem_singleton.mpr rfl)
  | p :: q :: r, h => by
    have ih := join0_len (l := q :: r) fun x hx => h x (List.mem_cons_of_mem _ hx)
    have h1 := h p List.mem_cons_self
    show (p ++ ([] ++ TL.joinL [] (q :: r))).length ≤ (p :: q :: r).length
    rw [List.nil_append, List.length_append, List.length_cons]
    omega
/-- letters alone -/
def Lt (x : Str) : Prop := ∀ c ∈ x.cps.toList, c ∈ abc.cps.toList
theorem Lt.app {x y : Str} (h : Lt x) (k : Lt y) : Lt (x ++ y) := fun c hc => by
  have e : (x ++ y).cps.toList = x.cps.toList ++ y.cps.toList := TL.tl_append x y
  rw [e] at hc
  rcases List.mem_append.mp hc with z | z
  · exact h c z
  · exact k c z
theorem len_app (x y : Str) : (x ++ y).length = x.length + y.length := by
  have e : (x ++ y).cps.toList = x.cps.toList ++ y.cps.toList := TL.tl_append x y
  show (x ++ y).cps.size = x.cps.size + y.cps.size
  rw [← Array.length_toList, ← Array.length_toList, ← Array.length_toList, e, List.length_append]
theorem Lt.one {c : Nat} (h : c ∈ abc.cps.toList) : Lt ⟨#[c]⟩ := fun d hd => by
  have e : d = c := by simpa using hd
  rw [e]
  exact h
theorem len_one (c : Nat) : (⟨#[c]⟩ : Str).length = 1 := rfl
theorem Lt.cut {x : Str} (h : Lt x) (lo hi : Option Int) : Lt (cutS x lo hi) := fun c hc => h c (List.mem_of_mem_drop (List.mem_of_mem_take (by simpa [cutS] using hc)))
/-- the joined letters -/
theorem joined {ys : List Str} (h : ∀ y ∈ ys, ∃ c, y = ⟨#[c]⟩ ∧ c ∈ abc.cps.toList) : Lt (Txt.join Str.empty ys) ∧ (Txt.join Str.empty ys).length ≤ ys.length := by
  have e : (Txt.join Str.empty ys).cps.toList = TL.joinL [] (ys.map TL.tl) := (congrArg TL.tl (TL.join_eq Str.empty ys)).trans (TL.tl_join Str.empty ys)
  refine ⟨fun c hc => ?_, ?_⟩
  · rw [e] at hc
    obtain ⟨p, hp, hcp⟩ := join0_mem hc
    obtain ⟨y, hy, rfl⟩ := List.mem_map.mp hp
    obtain ⟨d, rfl, hd⟩ := h y hy
    have ed : c = d := by simpa using hcp
    rw [ed]
    exact hd
  · show (Txt.join Str.empty ys).cps.size ≤ ys.length
    rw [← Array.length_toList, e]
    have z := join0_len (l := ys.map TL.tl) fun p hp => by
      obtain ⟨y, hy, rfl⟩ := List.mem_map.mp hp
      obtain ⟨d, rfl, hd⟩ := h y hy
      exact Nat.le_refl 1
    rw [List.length_map] at z
    exact z
/-- a sign of the alphabet by its place -/
theorem abc_at {k : Nat} (h : k < 26) : ∃ c, atI abc.cps.toList (k : Int) = some c ∧ c ∈ abc.cps.toList := by
  have hl : k < abc.cps.toList.length := by rw [abc_len]; exact h
  exact ⟨abc.cps.toList[k], atI_nat (List.getElem?_eq_getElem hl), List.getElem_mem hl⟩
theorem strs_back : ∀ {items : List V} {Pi : Str → Prop}, (∀ v ∈ items, ∃ y, v = V.str y ∧ Pi y) → ∃ ys : List Str, items = ys.map V.str ∧ ∀ y ∈ ys, Pi y
  | [], _, _ => ⟨[], rfl, fun y hy => by cases hy⟩
  | v :: items, Pi, h => by
    obtain ⟨y, rfl, hy⟩ := h v List.mem_cons_self
    obtain ⟨ys, rfl, hs⟩ := strs_back (items := items) fun u hu => h u (List.mem_cons_of_mem _ hu)
    refine ⟨y :: ys, rfl, fun z hz => ?_⟩
    rcases List.mem_cons.mp hz with e | e
    · rw [e]; exact hy
    · exact hs z e
theorem ones_sum : ∀ {ys : List Str}, (∀ y ∈ ys, y.length = 1) → (ys.map (·.length)).sum = ys.length
  | [], _ => rfl
  | y :: ys, h => by
    rw [List.map_cons, List.sum_cons, ones_sum fun z hz => h z (List.mem_cons_of_mem _ hz), h y List.mem_cons_self, List.length_cons]
    omega
theorem ev_slS {σ : Sg} {H : Hp} {te : TE} {tl th : TO} {z : Str} {lo hi : Option Int} (h : Ev te σ H (.str z)) (h1 : EvO tl σ H lo) (h2 : EvO th σ H hi) (hz : z.length ≤ 100000) : Ev (tSl rSlS te tl th) σ H (.str (cutS z lo hi)) := fun H1 e Q q =>
  h H1 e _ fun H2 e2 => h1 H2 (e.trans e2) _ fun H3 e3 => h2 H3 ((e.trans e2).trans e3) _ fun H4 e4 => ⟨z, rfl, sz_of hz, q H4 ((e2.trans e3).trans e4)⟩
theorem ev_addTx {σ : Sg} {H : Hp} {ta tb : TE} {x y : Str} (ha : Ev ta σ H (.str x)) (hb : Ev tb σ H (.str y)) (hz : x.length + y.length ≤ 100000) : Ev (tOp rAddTx ta tb) σ H (.str (x ++ y)) :=
  ev_op ha hb fun H1 _ Q q => ⟨x, y, rfl, rfl, sz_of hz, q H1 (Ex.refl H1)⟩
theorem ev_ixS {σ : Sg} {H : Hp} {ta tb : TE} {z : Str} {i : Int} {c : Nat} (ha : Ev ta σ H (.str z)) (hb : Ev tb σ H (.int i)) (hz : z.length ≤ 100000) (hc : atI z.cps.toList i = some c) : Ev (tOp rIxS ta tb) σ H (.str ⟨#[c]⟩) := ev_op ha hb (rv_ixS hz hc)
theorem go_1 {te : TE} {σ : Sg} {H : Hp} {Q : List V → Hp → Prop} (h : te σ H fun v H1 => Q [v] H1) : tCons te tNil σ H Q := h
theorem go_op {ta tb : TE} {r : R2} {σ : Sg} {H : Hp} {Q : VK} (h : ta σ H fun x H1 => tb σ H1 fun y H2 => r x y H2 Q) : tOp r ta tb σ H Q := h
def sp_law_names (K : PySem.W.Frag) : Sp := fun vs H Q _ => ∃ (t l : Addr) (m : Nat), vs = [.ref t, vN m] ∧ Tape H t l ∧ m ≤ 4 ∧ ∀ (p : Addr) (xs : List Str) H', xs.length = m → (∀ x ∈ xs, Nm x) → ExB t H H' → Tape H' t l → H' p = some (.lst (xs.map V.str)) → p ≠ t → Q (.ref p) H'
abbrev n_law_names : List Str := ["_law_tape_here", "_law_many", "_law_found", "_law_tail", "_law_start", "_law_k", "_law_letter"]
theorem sc_law_names : FnScope n_law_names ["_law_tape_here", "_law_many"] (defScope s_law_names) := ⟨rfl, rfl, rfl, by decide +kernel, rfl, by decide +kernel, by decide +kernel⟩
theorem c_law_names (T : Tx K mg) : Cal P w K mg base 2 "_law_names" (sp_law_names K) [] := by
  have k_law_pick := c_law_pick (P := P) (w := w) (base := base) T
  refine calOf T 28 rfl rfl sc_law_names (fun _ _ _ _ _ _ us hl => match us, hl with | [_, _], _ => rfl) (fun vs H Q E h => ?_) (fun cdv A outer s H vs Q E hr h => ?_)
  · obtain ⟨_, _, _, rfl, _⟩ := h
    rfl
  · obtain ⟨t, l, m, rfl, ht, hm, q⟩ := h
    refine ⟨_, (pss_cons (ps_set (i := 2) sc_law_names.nd rfl (.inl rfl) (pe_lst pa_nil))
      (pss_cons (ps_set (i := 3) sc_law_names.nd rfl (.inl rfl) (pe_join pe_str (pe_lc (g := gName 5) (tt := tYes) (own := [("_law_k", 5)]) rfl sc_law_names.nd (pi_range1 rfl T.f_range (pa_cons (pe_c k_law_pick hr (by decide) rfl (pa_cons (pv 0) (pa_cons pe_int pa_nil))) pa_nil)) (blkOk_by (own := [("_law_k", 5)]) (N := n_law_names) (sc := defScope s_law_names) (by decide +kernel)) (fun _ _ _ _ _ => (pg_name (i := 5) sc_law_names.nd rfl (.inl rfl))) (fun _ _ _ _ _ => pts_nil) (fun _ _ _ _ _ => (pe_ix ix_str pe_str (pe_c k_law_pick hr (by decide) rfl (pa_cons (pv 0) (pa_cons pe_int pa_nil))) (fun _ _ => rfl))))))
      (pss_cons (ps_set (i := 4) sc_law_names.nd rfl (.inl rfl) (pe_c k_law_pick hr (by decide) rfl (pa_cons (pv 0) (pa_cons pe_int pa_nil))))
      (pss_cons (ps_for PassesOwn.never rfl (pi_range1 rfl T.f_range (pa_cons (pv 1) pa_nil)) (pg_name (i := 5) sc_law_names.nd rfl (.inl rfl))
          ((pss_cons (ps_set (i := 6) sc_law_names.nd rfl (.inl rfl) (pe_ix ix_str pe_str (pe_op op_modN (pe_callTy xc_int rfl T.f_int (by decide +kernel) (pa_cons (pe_op op_add (pv 4) (pe_op op_mul pe_int (pv 5))) pa_nil)) pe_int) (fun _ _ => rfl)))
          (pss_one (ps_expr (pe_bm PySem.F.plainAttrs_list PySem.F.slot_list_append PySem.F.type_list_append mt_append (pv 2) (pa_cons (pe_ix (xi_list (K := K)) (pe_lst (pa_cons (pe_op xo_addTx (pv 6) (pv 3)) (pa_cons (pe_op xo_addTx (pe_op xo_addTx (pe_slice sl_str (pv 3) po_none (po_some pe_int)) (pv 6)) (pe_slice sl_str (pv 3) (po_some pe_int) po_none)) pa_nil))) (pe_op op_mul (pe_c k_law_pick hr (by decide) rfl (pa_cons (pv 0) (pa_cons pe_int pa_nil))) (pe_callTy xc_int rfl T.f_int (by decide +kernel) (pa_cons (pe_cmpR op_eq (pe_callB xc_lenT rfl T.f_len (by decide +kernel) (pa_cons (pv 3) pa_nil)) pe_int (nomark _)) pa_nil))) (fun _ _ => rfl)) pa_nil)))))))
      (pss_one (ps_ret (pv 2))))))), ?_⟩
    -- found = []
    refine ⟨Nat.zero_le _, fun f hf => ?_⟩
    have nft : f ≠ t := fun z => by
      obtain ⟨ns, i, r, m, c, h1, _⟩ := ht
      rw [z, h1] at hf
      cases hf
    have nfl : f ≠ l := fun z => by
      obtain ⟨ns, i, r, m, c, h1, h2, h3, _⟩ := ht
      rw [z, h3] at hf
      cases hf
    have t1 := ht.up (Ex.new (o := .lst []) hf)
    have e1 : ExB t H (upd H f (.lst [])) := ExB.of (Ex.new hf)
    have f1 : (upd H f (.lst [])) f = some (.lst []) := upd_same
    generalize upd H f (.lst []) = H1 at t1 e1 f1 ⊢
    -- tail
    refine ⟨⟨_, rfl⟩, ?_⟩
    refine tp_comp (t := t) (l := l) (lo := 0) (m := 8) (Pi := fun v => ∃ y, v = V.str y ∧ ∃ c, y = ⟨#[c]⟩ ∧ c ∈ abc.cps.toList) t1 ?_ (by decide) ?_ (fun _ => rfl) ?_
    · intro G _ tG Q2 q2
      exact ⟨_, rfl, t, l, 8, rfl, tG, by decide, by decide, fun k G2 hk e2 t2 => q2 k G2 (Nat.zero_le _) hk e2 t2⟩
    · intro i G _ tG Q2 q2
      refine ⟨_, rfl, t, l, 26, rfl, tG, by decide, by decide, fun k G2 hk e2 t2 => ?_⟩
      obtain ⟨c, hc, hm2⟩ := abc_at hk
      exact ⟨abc, (k : Int), c, rfl, rfl, by decide +kernel, hc, q2 _ G2 ⟨_, rfl, c, rfl, hm2⟩ e2 t2⟩
    intro p items H2 _ hlt hP e2 t2 hp npt hnp
    obtain ⟨ys, rfl, hys⟩ := strs_back hP
    rw [List.length_map] at hlt
    obtain ⟨j1, j2⟩ := joined hys
    refine ⟨Str.empty, p, ys, rfl, rfl, .inl (sq_of hp), ?_, ?_⟩
    · rw [ones_sum fun y hy => by obtain ⟨c, rfl, _⟩ := hys y hy; rfl]
      show ys.length + ys.length * 0 ≤ 16777216
      omega
    generalize Txt.join Str.empty ys = tail at j1 j2 ⊢
    have j3 : tail.length ≤ 7 := by omega
    -- start
    refine ⟨_, rfl, t, l, 26, rfl, t2, by decide, by decide, fun st H3 hst e3 t3 => ?_⟩
    have f3 : H3 f = some (.lst []) := e3 _ _ nft (e2 _ _ nft f1)
    have e03 : ExB t H H3 := (e1.trans e2).trans e3
    refine q_forR1 (n := (m : Int)) (ea_cons (ev_var rfl) ea_nil) ⟨by omega, by omega⟩ (fun i σ' G => ∃ u1 u2, σ' = [some (.ref t), some (vN m), some (.ref f), some (.str tail), some (vN st), u1, u2] ∧ ExB t H G ∧ Tape G t l ∧ ∃ xs : List Str, xs.length = i ∧ (∀ x ∈ xs, Nm x) ∧ G f = some (.lst (xs.map V.str)))
      (fun G e => ⟨none, none, rfl, e03.trans (ExB.of e), t3.up e, [], rfl, (fun x hx => by cases hx), e _ _ f3⟩) (fun i σ' G hi p => ?_) fun σ' G p => ?_
    · obtain ⟨u1, u2, rfl, eG, tG, xs, hxl, hxs, gf⟩ := p
      obtain ⟨k, hk, ek⟩ := fmod_nat (i := (st : Int) + 7 * (i : Int)) (n := 26) (by decide)
      obtain ⟨c, hc, hc2⟩ := abc_at hk
      refine q_asg (ev_ixS (z := abc) ev_c (ev_is (ev_mod (ev_int1 (ev_add (ev_var rfl) (ev_mul ev_c (ev_var rfl) (.inl ⟨by decide, by decide⟩)))) ev_c (by decide)) (congrArg V.int ek)) (by decide +kernel) hc) fun G1 g1 => ?_
      have gf1 := g1 _ _ gf
      refine ⟨.ref f, rfl, .inl ⟨rfl, _, SqL.of gf1⟩, ?_⟩
      have l1 := len_one c
      have l2 := cutS_length tail none (some 6)
      have l3 := cutS_length tail (some 6) none
      refine go_1 (go_op (el_lst (ea_cons (ev_addTx (x := ⟨#[c]⟩) (y := tail) (ev_var (i := 6) rfl) (ev_var (i := 3) rfl) (by omega)) (ea_cons (ev_addTx (x := cutS tail none (some 6) ++ ⟨#[c]⟩) (y := cutS tail (some 6) none) (ev_addTx (x := cutS tail none (some 6)) (y := ⟨#[c]⟩) (ev_slS (z := tail) (lo := none) (hi := some 6) (ev_var (i := 3) rfl) eo_none (eo_some ev_c) (by omega)) (ev_var (i := 6) rfl) (by omega)) (ev_slS (z := tail) (lo := some 6) (hi := none) (ev_var (i := 3) rfl) (eo_some ev_c) eo_none (by omega)) (by rw [len_app]; omega)) ea_nil)) (by simp) G1 (Ex.refl G1) _ fun d G2 hd g2 gd => ?_))
      refine ⟨_, rfl, t, l, 2, rfl, (tG.up g1).up g2, by decide, by decide, fun b G3 hb g3 t3' => ?_⟩
      refine ⟨_, rfl, tail, rfl, sz_of (by omega), rfl, .inr ⟨_, rfl, _, _, rfl, rfl, .inl ⟨by omega, by omega⟩, ?_⟩⟩
      have hdt : d ≠ t := fun z => by
        obtain ⟨ns, i, r, m, c, h1, _⟩ := tG.up g1
        rw [z, h1] at hd
        cases hd
      have gd3 := g3 _ _ hdt gd
      have lt1 : Lt ⟨#[c]⟩ := Lt.one hc2
      have n1 : Nm ((⟨#[c]⟩ : Str) ++ tail) := ⟨by rw [len_app]; omega, by rw [len_app]; omega, lt1.app j1⟩
      have fin : ∀ (y : Str) (z : Int), Nm y → z = (b : Int) * (if decide (V.int (tail.length : Int) = V.int 0) = true then 1 else 0) → atI [V.str ((⟨#[c]⟩ : Str) ++ tail), V.str (cutS tail none (some 6) ++ (⟨#[c]⟩ : Str) ++ cutS tail (some 6) none)] z = some (.str y) →
          tOp (rIxL K) (tVar 0) (tVar 1) [some (.ref d), some (.int ((b : Int) * (if decide (V.int (tail.length : Int) = V.int 0) = true then 1 else 0)))] G3 fun v G4 => rAppend (.ref f) [v] G4 fun _ G5 => ∃ u1 u2, [some (V.ref t), some (vN m), some (V.ref f), some (V.str tail), some (vN st), some (vN i), some (V.str ⟨#[c]⟩)] = [some (V.ref t), some (vN m), some (V.ref f), some (V.str tail), some (vN st), u1, u2] ∧ ExB t H G5 ∧ Tape G5 t l ∧ ∃ xs : List Str, xs.length = i + 1 ∧ (∀ x ∈ xs, Nm x) ∧ G5 f = some (.lst (xs.map V.str)) := fun y z hy hz ha => by
        subst hz
        have gf3 := g3 _ _ nft (g2 _ _ gf1)
        refine ⟨_, rfl, _, rfl, d, _, _, _, rfl, rfl, sq_of gd3, ha, f, _, _, rfl, rfl, gf3, sz_lt (by rw [List.length_map, hxl]; omega), _, _, rfl, fun b2 o hb2 h => ?_, ?_, xs ++ [y], by rw [List.length_append, hxl]; rfl, fun x hx => ?_, ?_⟩
        · rw [upd_ne (ne_of_none h hf)]
          exact g3 _ _ hb2 (g2 _ _ (g1 _ _ (eG _ _ hb2 h)))
        · obtain ⟨ns, i, r, m, c, h1, h2, h3, h4, h5⟩ := t3'
          exact ⟨ns, i, r, m, c, by rw [upd_ne nft.symm]; exact h1, h2, by rw [upd_ne nfl.symm]; exact h3, h4, h5⟩
        · rcases List.mem_append.mp hx with h | h
          · exact hxs x h
          · rw [List.mem_singleton.mp h]
            exact hy
        · rw [upd_same, List.map_append]
          rfl
      by_cases h0 : tail.length = 0
      · have d0 : decide (V.int (tail.length : Int) = V.int 0) = true := decide_eq_true (by rw [h0]; rfl)
        by_cases hb0 : b = 0
        · obtain ⟨x1, e1, x2, e2, r⟩ := fin _ 0 n1 (by rw [hb0]; omega) at0
          cases e1
          cases e2
          exact r
        · have hb1 : b = 1 := by omega
          have n2 : Nm (cutS tail none (some 6) ++ (⟨#[c]⟩ : Str) ++ cutS tail (some 6) none) := ⟨by rw [len_app, len_app]; omega, by rw [len_app, len_app]; omega, ((j1.cut _ _).app lt1).app (j1.cut _ _)⟩
          obtain ⟨x1, e1, x2, e2, r⟩ := fin _ 1 n2 (by rw [hb1, d0]; rfl) at1
          cases e1
          cases e2
          exact r
      · have d0 : decide (V.int (tail.length : Int) = V.int 0) = false := decide_eq_false fun z => h0 (by have := V.int.inj z; omega)
        obtain ⟨x1, e1, x2, e2, r⟩ := fin _ 0 n1 (by rw [d0]; show (0 : Int) = (b : Int) * 0; omega) at0
        cases e1
        cases e2
        exact r
    · obtain ⟨u1, u2, rfl, eG, tG, xs, hxl, hxs, gf⟩ := p
      exact ⟨.ref f, rfl, q f xs G (by omega) hxs eG tG gf nft⟩

end
end FB
set_option Elab.async false
set_option linter.all false
set_option maxRecDepth 100000
set_option maxHeartbeats 4000000
namespace FB
open PySem PySem.Spec PyProof.Rows L2 Evl
open C8 (Cal Mak pe_c pe_mk pe_gc)
section
variable {P : Program} {w : World} {K : PySem.W.Frag} {mg : Str → Option Value} {base : Heap}
def sp_law_goal (K : PySem.W.Frag) : Sp := fun vs H Q _ => ∃ (t l : Addr) (p n : Nat), vs = [.ref t, vN p, vN n] ∧ Tape H t l ∧ p < n ∧ n ≤ 4 ∧ ∀ (g : Nat) H', g < n → ExB t H H' → Tape H' t l → Q (vN g) H'
abbrev n_law_goal : List Str := ["_law_tape_here", "_law_place", "_law_size"]
theorem sc_law_goal : FnScope n_law_goal ["_law_tape_here", "_law_place", "_law_size"] (defScope s_law_goal) := ⟨rfl, rfl, rfl, by decide +kernel, rfl, by decide +kernel, by decide +kernel⟩
theorem c_law_goal (T : Tx K mg) : Cal P w K mg base 2 "_law_goal" (sp_law_goal K) [] := by
  have k_law_pick := c_law_pick (P := P) (w := w) (base := base) T
  refine calOf T 29 rfl rfl sc_law_goal (fun _ _ _ _ _ _ us hl => match us, hl with | [_, _, _], _ => rfl) (fun vs H Q E h => ?_) (fun cdv A outer s H vs Q E hr h => ?_)
  · obtain ⟨_, _, _, _, rfl, _⟩ := h
    rfl
  · obtain ⟨t, l, p, n, rfl, ht, hp, hn, q⟩ := h
    refine ⟨_, (pss_cons (ps_if (pt_cmpR op_gt (pe_c k_law_pick hr (by decide) rfl (pa_cons (pv 0) (pa_cons pe_int pa_nil))) pe_int (nomark _))
          ((pss_one (ps_ret (pe_callB (xc_min rfl) rfl T.f_min (by decide +kernel) (pa_cons (pe_op op_add (pv 1) pe_int) (pa_cons (pe_op op_sub (pv 2) pe_int) pa_nil))))))
          (pss_nil))
      (pss_one (ps_ret (pe_c k_law_pick hr (by decide) rfl (pa_cons (pv 0) (pa_cons (pv 2) pa_nil)))))), ?_⟩
    refine ⟨_, rfl, t, l, 3, rfl, ht, by decide, by decide, fun k H1 hk e1 t1 => ?_⟩
    refine ⟨_, _, rfl, rfl, _, rfl, ite2 (fun _ => ?_) fun _ => ?_⟩
    · refine ⟨_, rfl, _, _, rfl, rfl, _, rfl, _, _, rfl, rfl, _, _, rfl, ?_⟩
      have e : (if ((n : Int) - 1) < ((p : Int) + 1) then ((n : Int) - 1) else ((p : Int) + 1)) = ((min (p + 1) (n - 1) : Nat) : Int) := by
        split <;> omega
      rw [e]
      exact q _ H1 (by omega) e1 t1
    · refine ⟨_, rfl, _, rfl, t, l, n, rfl, t1, by omega, by omega, fun g H2 hg e2 t2 => q g H2 hg (e1.trans e2) t2⟩

end
end FB
set_option Elab.async false
set_option linter.all false
set_option maxRecDepth 100000
set_option maxHeartbeats 4000000
namespace FB
open PySem PySem.Spec PyProof.Rows L2 Evl
open C8 (Cal Mak pe_c pe_mk pe_gc)
section
variable {P : Program} {w : World} {K : PySem.W.Frag} {mg : Str → Option Value} {base : Heap}
def sp_law_step (K : PySem.W.Frag) : Sp := fun vs H Q _ => ∃ (t l b : Addr) (xs : List Str) (p n : Nat), vs = [.ref t, .ref b, vN p, vN n] ∧ Tape H t l ∧ H b = some (.lst (xs.map V.str)) ∧ b ≠ t ∧ 1 ≤ xs.length ∧ xs.length ≤ 4 ∧ (∀ x ∈ xs, Nm x) ∧ p < n ∧ n ≤ 4 ∧ ∀ v (s : Stp) H', s.Ok n → StepAt H' v s → ExB t H H' → Tape H' t l → Q v H'
/-- a drawn name -/
theorem dr_name {K : PySem.W.Frag} {σ : Sg} {H : Hp} {t l b : Addr} {xs : List Str} {E : XK} {Q : VK} (hT : Tape H t l) (hb : H b = some (.lst (xs.map V.str))) (nb : b ≠ t) (h1 : 1 ≤ xs.length) (h4 : xs.length ≤ 4) (s0 : σ[0]? = some (some (.ref t))) (s1 : σ[1]? = some (some (.ref b)))
    (q : ∀ x H', x ∈ xs → ExB t H H' → Tape H' t l → H' b = some (.lst (xs.map V.str)) → Q (.str x) H') : tOp (rIxL K) (tVar 1) (tCall (sp_law_pick K) [] E (tCons (tVar 0) (tCons (tCB (rLenS K) (tCons (tVar 1) tNil)) tNil))) σ H Q := by
  refine ⟨_, s1, _, s0, _, s1, b, _, rfl, .inl (sq_of hb), t, l, xs.length, ?_, hT, h1, by omega, fun k H' hk e t' => ?_⟩
  · rw [List.length_map]
    rfl
  · have hb' := e _ _ nb hb
    have hx : atI (xs.map V.str) (k : Int) = some (.str xs[k]) := atI_nat (by rw [List.getElem?_map, List.getElem?_eq_getElem hk]; rfl)
    exact ⟨b, _, _, _, rfl, rfl, sq_of hb', hx, q _ H' (List.getElem_mem hk) e t' hb'⟩
theorem tape_new {H : Hp} {t l r : Addr} {o : HO} (h : Tape H t l) (hr : H r = none) : Tape (upd H r o) t l := h.up (Ex.new hr)
theorem ints_back {n : Nat} : ∀ {items : List V}, (∀ v ∈ items, ∃ y : Nat, v = vN y ∧ y < n) → ∃ ys : List Nat, items = ys.map vN ∧ ∀ y ∈ ys, y < n
  | [], _ => ⟨[], rfl, fun y hy => by cases hy⟩
  | v :: items, h => by
    obtain ⟨y, rfl, hy⟩ := h v List.mem_cons_self
    obtain ⟨ys, rfl, hs⟩ := ints_back (items := items) fun u hu => h u (List.mem_cons_of_mem _ hu)
    refine ⟨y :: ys, rfl, fun z hz => ?_⟩
    rcases List.mem_cons.mp hz with e | e
    · rw [e]; exact hy
    · exact hs z e
abbrev n_law_step : List Str := ["_law_tape_here", "_law_names_here", "_law_place", "_law_size", "_law_kind", "_law_name", "_law_reads_here", "_law_k"]
theorem sc_law_step : FnScope n_law_step ["_law_tape_here", "_law_names_here", "_law_place", "_law_size"] (defScope s_law_step) := ⟨rfl, rfl, rfl, by decide +kernel, rfl, by decide +kernel, by decide +kernel⟩
theorem c_law_step (T : Tx K mg) : Cal P w K mg base 3 "_law_step" (sp_law_step K) [] := by
  have k_law_goal := c_law_goal (P := P) (w := w) (base := base) T
  have k_law_pick := c_law_pick (P := P) (w := w) (base := base) T
  refine calOf T 30 rfl rfl sc_law_step (fun _ _ _ _ _ _ us hl => match us, hl with | [_, _, _, _], _ => rfl) (fun vs H Q E h => ?_) (fun cdv A outer s H vs Q E hr h => ?_)
  · obtain ⟨_, _, _, _, _, _, rfl, _⟩ := h
    rfl
  · obtain ⟨t, l, b, xs, p, n, rfl, ht, hb, nb, hx1, hx4, hx, hp, hn, q⟩ := h
    refine ⟨_, (pss_cons (ps_set (i := 4) sc_law_step.nd rfl (.inl rfl) (pe_c k_law_pick hr (by decide) rfl (pa_cons (pv 0) (pa_cons pe_int pa_nil))))
      (pss_cons (ps_set (i := 5) sc_law_step.nd rfl (.inl rfl) (pe_ix (xi_list (K := K)) (pv 1) (pe_c k_law_pick hr (by decide) rfl (pa_cons (pv 0) (pa_cons (pe_callB (xc_len (K := K)) rfl T.f_len (by decide +kernel) (pa_cons (pv 1) pa_nil)) pa_nil))) (fun _ _ => rfl)))
      (pss_cons (ps_if (pt_cmpR op_lt (pv 4) pe_int (nomark _))
          ((pss_cons (ps_set (i := 6) sc_law_step.nd rfl (.inl rfl) (pe_callTy (xc_tup (K := K)) rfl T.f_tuple (by decide +kernel) (pa_cons (pe_lc (g := gName 7) (tt := tYes) (own := [("_law_k", 7)]) rfl sc_law_step.nd (pi_range1 rfl T.f_range (pa_cons (pe_c k_law_pick hr (by decide) rfl (pa_cons (pv 0) (pa_cons pe_int pa_nil))) pa_nil)) (blkOk_by (own := [("_law_k", 7)]) (N := n_law_step) (sc := defScope s_law_step) (by decide +kernel)) (fun _ _ _ _ _ => (pg_name (i := 7) sc_law_step.nd rfl (.inl rfl))) (fun _ _ _ _ _ => pts_nil) (fun _ _ _ _ _ => (pe_ix (xi_list (K := K)) (pv 1) (pe_c k_law_pick hr (by decide) rfl (pa_cons (pv 0) (pa_cons (pe_callB (xc_len (K := K)) rfl T.f_len (by decide +kernel) (pa_cons (pv 1) pa_nil)) pa_nil))) (fun _ _ => rfl)))) pa_nil)))
          (pss_one (ps_ret (pe_tup (pa_cons pe_str (pa_cons (pv 5) (pa_cons (pv 6) (pa_cons (pe_c k_law_goal hr (by decide) rfl (pa_cons (pv 0) (pa_cons (pv 2) (pa_cons (pv 3) pa_nil)))) pa_nil)))))))))
          (pss_nil))
      (pss_cons (ps_if (pt_cmpR op_lt (pv 4) pe_int (nomark _))
          ((pss_one (ps_ret (pe_tup (pa_cons pe_str (pa_cons (pv 5) (pa_cons (pe_c k_law_goal hr (by decide) rfl (pa_cons (pv 0) (pa_cons (pv 2) (pa_cons (pv 3) pa_nil)))) pa_nil)))))))
          (pss_nil))
      (pss_cons (ps_if (pt_cmpR op_lt (pv 4) pe_int (nomark _))
          ((pss_one (ps_ret (pe_tup (pa_cons pe_str (pa_cons (pv 5) (pa_cons (pe_callTy (xc_tup (K := K)) rfl T.f_tuple (by decide +kernel) (pa_cons (pe_lc (g := gName 7) (tt := tYes) (own := [("_law_k", 7)]) rfl sc_law_step.nd (pi_range1 rfl T.f_range (pa_cons (pe_op op_add pe_int (pe_c k_law_pick hr (by decide) rfl (pa_cons (pv 0) (pa_cons pe_int pa_nil)))) pa_nil)) (blkOk_by (own := [("_law_k", 7)]) (N := n_law_step) (sc := defScope s_law_step) (by decide +kernel)) (fun _ _ _ _ _ => (pg_name (i := 7) sc_law_step.nd rfl (.inl rfl))) (fun _ _ _ _ _ => pts_nil) (fun _ _ _ _ _ => (pe_c k_law_goal hr (by decide) rfl (pa_cons (pv 0) (pa_cons (pv 2) (pa_cons (pv 3) pa_nil)))))) pa_nil)) pa_nil)))))))
          (pss_nil))
      (pss_cons (ps_if (pt_cmpR op_lt (pv 4) pe_int (nomark _))
          ((pss_one (ps_ret (pe_tup (pa_cons pe_str (pa_cons (pe_c k_law_goal hr (by decide) rfl (pa_cons (pv 0) (pa_cons (pv 2) (pa_cons (pv 3) pa_nil)))) pa_nil))))))
          (pss_nil))
      (pss_one (ps_ret (pe_tup (pa_cons pe_str pa_nil)))))))))), ?_⟩
    refine ⟨_, rfl, t, l, 18, rfl, ht, by decide, by decide, fun k H1 hk e1 t1 => ?_⟩
    refine dr_name t1 (e1 _ _ nb hb) nb hx1 hx4 rfl rfl fun nm H2 hnm e2 t2 b2 => ?_
    have e02 := e1.trans e2
    refine q_when (et_test (ev_op (ev_var rfl) ev_c rv_I0)) (fun _ H3 e3 => ?_) fun _ H3 e3 => ?_
    · -- make
      refine go_qasg (go_cb (go_last ?_))
      refine tp_comp (t := t) (l := l) (lo := 0) (m := 3) (Pi := fun v => ∃ y, v = V.str y ∧ Nm y) (t2.up e3) ?_ (by decide) ?_ ?_ ?_
      · intro G _ tG Q2 q2
        exact ⟨_, rfl, t, l, 3, rfl, tG, by decide, by decide, fun k G2 hk e2 t2 => q2 k G2 (Nat.zero_le _) hk e2 t2⟩
      · intro i G eG tG Q2 q2
        exact dr_name tG (eG _ _ nb (e3 _ _ b2)) nb hx1 hx4 rfl rfl fun y G2 hy e2 t2 _ => q2 _ G2 ⟨y, rfl, hx y hy⟩ e2 t2
      · exact fun _ => rfl
      intro c items H4 _ hlt hP e4 t4 hc nct hnc
      obtain ⟨ys, rfl, hys⟩ := strs_back hP
      rw [List.length_map] at hlt
      refine ⟨c, _, rfl, .inl ⟨sq_of hc, fun r hr => ?_⟩⟩
      refine ⟨_, rfl, _, rfl, _, rfl, _, rfl, _, rfl, t, l, p, n, rfl, tape_new t4 hr, hp, hn, fun g H5 hg e5 t5 => ?_⟩
      refine ⟨by show 4 ≤ sizeLine; decide, fun a ha => ?_⟩
      have nrt : r ≠ t := fun z => by
        obtain ⟨ns, i, r', m, c', h1, _⟩ := t4
        rw [z, h1] at hr
        cases hr
      have r5 := e5 _ _ nrt upd_same
      refine q _ (.mk nm ys g) _ ⟨hx nm hnm, by omega, hys, hg⟩ ⟨a, .ref r, rfl, upd_same, r, rfl, Ex.new ha _ _ r5⟩ ?_ (tape_new t5 ha)
      exact ((((e02.trans (ExB.of e3)).trans e4).trans (ExB.of (Ex.new hr))).trans e5).trans (ExB.of (Ex.new ha))
    · have t3 := t2.up e3
      refine q_when (et_test (ev_op (ev_var rfl) ev_c rv_I0)) (fun _ H4 e4 => ?_) fun _ H4 e4 => ?_
      · -- tell
        refine ⟨_, rfl, _, rfl, _, rfl, _, rfl, t, l, p, n, rfl, t3.up e4, hp, hn, fun g H5 hg e5 t5 => ?_⟩
        refine ⟨by show 3 ≤ sizeLine; decide, fun a ha => ?_⟩
        refine q _ (.tell nm g) _ ⟨hx nm hnm, hg⟩ ⟨a, rfl, upd_same⟩ ?_ (tape_new t5 ha)
        exact (((e02.trans (ExB.of e3)).trans (ExB.of e4)).trans e5).trans (ExB.of (Ex.new ha))
      · have t4 := t3.up e4
        refine q_when (et_test (ev_op (ev_var rfl) ev_c rv_I0)) (fun _ H5 e5 => ?_) fun _ H5 e5 => ?_
        · -- test
          refine go_ret (go_tup (go_cons (go_c (go_cons (go_v rfl (go_last (go_cb (go_last ?_))))))))
          refine tp_comp (t := t) (l := l) (lo := 2) (m := 4) (Pi := fun v => ∃ y, v = vN y ∧ y < n) (t4.up e5) ?_ (by decide) ?_ ?_ ?_
          · intro G _ tG Q2 q2
            refine ⟨_, rfl, t, l, 2, rfl, tG, by decide, by decide, fun k G2 hk e2 t2 => ⟨_, _, rfl, rfl, ?_⟩⟩
            have z := q2 (2 + k) G2 (by omega) (by omega) e2 t2
            have e : ((2 + k : Nat) : Int) = (2 : Int) + (k : Int) := by omega
            unfold vN at z
            rw [e] at z
            exact z
          · intro i G eG tG Q2 q2
            exact ⟨_, rfl, _, rfl, _, rfl, t, l, p, n, rfl, tG, hp, hn, fun g G2 hg e2 t2 => q2 _ G2 ⟨g, rfl, hg⟩ e2 t2⟩
          · exact fun _ => rfl
          intro c items H6 hlo hlt hP e6 t6 hc nct hnc
          obtain ⟨gs, rfl, hgs⟩ := ints_back hP
          rw [List.length_map] at hlt hlo
          refine ⟨c, _, rfl, .inl ⟨sq_of hc, fun r hr => ?_⟩⟩
          refine ⟨by show 3 ≤ sizeLine; decide, fun a ha => ?_⟩
          refine q _ (.test nm gs) _ ⟨hx nm hnm, hlo, by omega, hgs⟩ ⟨a, .ref r, rfl, upd_same, r, rfl, Ex.new ha _ _ upd_same⟩ ?_ (tape_new (tape_new t6 hr) ha)
          exact (((((e02.trans (ExB.of e3)).trans (ExB.of e4)).trans (ExB.of e5)).trans e6).trans (ExB.of (Ex.new hr))).trans (ExB.of (Ex.new ha))
        · have t5 := t4.up e5
          have e05 := ((e02.trans (ExB.of e3)).trans (ExB.of e4)).trans (ExB.of e5)
          refine q_when (et_test (ev_op (ev_var rfl) ev_c rv_I0)) (fun _ H6 e6 => ?_) fun _ H6 e6 => ?_
          · -- go
            refine ⟨_, rfl, _, rfl, _, rfl, t, l, p, n, rfl, t5.up e6, hp, hn, fun g H7 hg e7 t7 => ?_⟩
            refine ⟨by show 2 ≤ sizeLine; decide, fun a ha => ?_⟩
            refine q _ (.go g) _ hg ⟨a, rfl, upd_same⟩ ?_ (tape_new t7 ha)
            exact ((e05.trans (ExB.of e6)).trans e7).trans (ExB.of (Ex.new ha))
          · -- end
            refine ⟨by show 1 ≤ sizeLine; decide, fun a ha => ?_⟩
            exact q _ .fin _ trivial ⟨a, rfl, upd_same⟩ ((e05.trans (ExB.of e6)).trans (ExB.of (Ex.new ha))) (tape_new (t5.up e6) ha)

end
end FB
set_option Elab.async false
set_option linter.all false
set_option maxRecDepth 100000
set_option maxHeartbeats 4000000
namespace FB
open PySem PySem.Spec PyProof.Rows L2 Evl
open C8 (Cal Mak pe_c pe_mk pe_gc)
section
variable {P : Program} {w : World} {K : PySem.W.Frag} {mg : Str → Option Value} {base : Heap}
def sp_law_steps (K : PySem.W.Frag) : Sp := fun vs H Q _ => ∃ (t l : Addr), vs = [.ref t, vN 4] ∧ Tape H t l ∧ ∀ r (ss : List Stp) H', StepsAt H' r ss → Okp ss → ExB t H H' → Tape H' t l → Q (.ref r) H'
theorem tape_not {H : Hp} {t l a : Addr} (h : Tape H t l) (ha : H a = none) : a ≠ t ∧ a ≠ l := by
  obtain ⟨ns, i, r, m, c, h1, h2, h3, h4, h5⟩ := h
  exact ⟨fun z => (by rw [z, h1] at ha; cases ha), fun z => (by rw [z, h3] at ha; cases ha)⟩
theorem tape_put {H : Hp} {t l a : Addr} {o : HO} (h : Tape H t l) (h1 : a ≠ t) (h2 : a ≠ l) : Tape (upd H a o) t l := by
  obtain ⟨ns, i, r, m, c, k1, k2, k3, k4, k5⟩ := h
  exact ⟨ns, i, r, m, c, by rw [upd_ne h1.symm]; exact k1, k2, by rw [upd_ne h2.symm]; exact k3, k4, k5⟩
theorem tape_box {H : Hp} {t l : Addr} (h : Tape H t l) : Box H t := by
  obtain ⟨ns, i, r, m, c, k1, _⟩ := h
  exact boxL k1
abbrev n_law_steps : List Str := ["_law_tape_here", "_law_most", "_law_size", "_law_names_here", "_law_ahead", "_law_steps_here", "_law_place"]
theorem sc_law_steps : FnScope n_law_steps ["_law_tape_here", "_law_most"] (defScope s_law_steps) := ⟨rfl, rfl, rfl, by decide +kernel, rfl, by decide +kernel, by decide +kernel⟩
theorem c_law_steps (T : Tx K mg) : Cal P w K mg base 4 "_law_steps" (sp_law_steps K) [] := by
  have k_law_names := c_law_names (P := P) (w := w) (base := base) T
  have k_law_pick := c_law_pick (P := P) (w := w) (base := base) T
  have k_law_step := c_law_step (P := P) (w := w) (base := base) T
  refine calOf T 31 rfl rfl sc_law_steps (fun _ _ _ _ _ _ us hl => match us, hl with | [_, _], _ => rfl) (fun vs H Q E h => ?_) (fun cdv A outer s H vs Q E hr h => ?_)
  · obtain ⟨_, _, rfl, _⟩ := h
    rfl
  · obtain ⟨t, l, rfl, ht, q⟩ := h
    refine ⟨_, (pss_cons (ps_set (i := 2) sc_law_steps.nd rfl (.inl rfl) (pe_op op_add pe_int (pe_c k_law_pick hr (by decide) rfl (pa_cons (pv 0) (pa_cons (pv 1) pa_nil)))))
      (pss_cons (ps_set (i := 3) sc_law_steps.nd rfl (.inl rfl) (pe_c k_law_names hr (by decide) rfl (pa_cons (pv 0) (pa_cons (pe_op op_add pe_int (pe_c k_law_pick hr (by decide) rfl (pa_cons (pv 0) (pa_cons pe_int pa_nil)))) pa_nil))))
      (pss_cons (ps_set (i := 4) sc_law_steps.nd rfl (.inl rfl) (pe_ix (xi_list (K := K)) (pe_lst (pa_cons (pe_callB (xc_len (K := K)) rfl T.f_len (by decide +kernel) (pa_cons (pv 3) pa_nil)) (pa_cons (pe_callB (xc_len (K := K)) rfl T.f_len (by decide +kernel) (pa_cons (pv 3) pa_nil)) (pa_cons (pe_c k_law_pick hr (by decide) rfl (pa_cons (pv 0) (pa_cons (pe_op op_add (pe_callB (xc_len (K := K)) rfl T.f_len (by decide +kernel) (pa_cons (pv 3) pa_nil)) pe_int) pa_nil))) pa_nil)))) (pe_c k_law_pick hr (by decide) rfl (pa_cons (pv 0) (pa_cons pe_int pa_nil))) (fun _ _ => rfl)))
      (pss_cons (ps_set (i := 5) sc_law_steps.nd rfl (.inl rfl) (pe_lst pa_nil))
      (pss_cons (ps_for PassesOwn.never rfl (pi_range1 rfl T.f_range (pa_cons (pv 2) pa_nil)) (pg_name (i := 6) sc_law_steps.nd rfl (.inl rfl))
          ((pss_one (ps_if (PW.pt (pw_and (pt_cmpR op_lt (pv 6) (pv 4) (nomark _)) (pw_and1 (pt_cmpR op_lt (pv 6) (pe_op op_sub (pv 2) pe_int) (nomark _)))))
              ((pss_one (ps_expr (pe_bm PySem.F.plainAttrs_list PySem.F.slot_list_append PySem.F.type_list_append mt_append (pv 5) (pa_cons (pe_tup (pa_cons pe_str (pa_cons (pe_ix (xi_list (K := K)) (pv 3) (pv 6) (fun _ _ => rfl)) (pa_cons (pe_tup pa_nil) (pa_cons (pe_op op_add (pv 6) pe_int) pa_nil))))) pa_nil)))))
              ((pss_one (ps_expr (pe_bm PySem.F.plainAttrs_list PySem.F.slot_list_append PySem.F.type_list_append mt_append (pv 5) (pa_cons (pe_c k_law_step hr (by decide) rfl (pa_cons (pv 0) (pa_cons (pv 3) (pa_cons (pv 6) (pa_cons (pv 2) pa_nil))))) pa_nil)))))))))
      (pss_one (ps_ret (pe_callTy (xc_tup (K := K)) rfl T.f_tuple (by decide +kernel) (pa_cons (pv 5) pa_nil))))))))), ?_⟩
    -- size, names
    refine ⟨_, rfl, _, rfl, t, l, 4, rfl, ht, by decide, by decide, fun n0 H1 hn0 e1 t1 => ?_⟩
    refine ⟨_, _, rfl, rfl, ?_⟩
    refine ⟨_, rfl, _, rfl, t, l, 4, rfl, t1, by decide, by decide, fun m0 H2 hm0 e2 t2 => ?_⟩
    refine ⟨_, _, rfl, rfl, ?_⟩
    refine ⟨t, l, 1 + m0, congrArg (fun z : Int => [V.ref t, V.int z]) (by omega : 1 + (m0 : Int) = ((1 + m0 : Nat) : Int)), t2, by omega, fun b xs H3 hxl hxs e3 t3 hb nb => ?_⟩
    have e03 := (e1.trans e2).trans e3
    -- ahead
    refine go_nm ?_
    dsimp only
    refine go_qasg (go_opr ?_)
    refine ⟨_, rfl, b, _, rfl, .inl (sq_of hb), _, rfl, b, _, rfl, .inl (sq_of hb), _, rfl, _, rfl, b, _, rfl, .inl (sq_of hb), _, _, rfl, rfl, ?_⟩
    rw [List.length_map]
    refine ⟨t, l, xs.length + 1, rfl, t3, by omega, by omega, fun a0 H4 ha0 e4 t4 => ?_⟩
    refine ⟨by show 3 ≤ sizeLine; decide, fun p hp => ?_⟩
    obtain ⟨npt, npl⟩ := tape_not t4 hp
    refine ⟨_, rfl, t, l, 3, rfl, tape_new t4 hp, by decide, by decide, fun j H5 hj e5 t5 => ?_⟩
    have hp5 := e5 _ _ npt (upd_same (H := H4) (a := p) (o := .lst [V.int xs.length, V.int xs.length, V.int a0]))
    have hb5 := e5 _ _ nb (Ex.new hp _ _ (e4 _ _ nb hb))
    have e05 : ExB t H H5 := ((e03.trans e4).trans (ExB.of (Ex.new hp))).trans e5
    have ha : ∃ a : Nat, a ≤ xs.length ∧ atI [V.int (xs.length : Int), V.int (xs.length : Int), V.int (a0 : Int)] (j : Int) = some (vN a) := by
      match j, hj with
      | 0, _ => exact ⟨xs.length, Nat.le_refl _, at0⟩
      | 1, _ => exact ⟨xs.length, Nat.le_refl _, at1⟩
      | 2, _ => exact ⟨a0, by omega, at2⟩
    obtain ⟨ah, hah, hat⟩ := ha
    refine ⟨p, _, _, _, rfl, rfl, sq_of hp5, hat, ?_⟩
    -- steps
    refine ⟨Nat.zero_le _, fun s hs => ?_⟩
    obtain ⟨nst, nsl⟩ := tape_not t5 hs
    have nsb : s ≠ b := fun z => by rw [z, hb5] at hs; cases hs
    have ihn : ((n0 + 1 : Nat) : Int) = 1 + (n0 : Int) := by omega
    refine q_forR1 (n := ((n0 + 1 : Nat) : Int)) (ea_cons (ev_is (ev_var rfl) (congrArg V.int ihn.symm)) ea_nil) ⟨by omega, by omega⟩ (fun i σ' G => ∃ u, σ' = [some (.ref t), some (vN 4), some (.int (1 + (n0 : Int))), some (.ref b), some (vN ah), some (.ref s), u] ∧ ExB t H G ∧ Tape G t l ∧ G b = some (.lst (xs.map V.str)) ∧ ∃ (vs : List V) (ss : List Stp), ss.length = i ∧ G s = some (.lst vs) ∧ Paired (StepAt G) vs ss ∧ ∀ st ∈ ss, st.Ok (n0 + 1))
      (fun G e => ⟨none, rfl, (e05.trans (ExB.of (Ex.new hs))).trans (ExB.of e), (tape_new t5 hs).up e, e _ _ (Ex.new hs _ _ hb5), [], [], rfl, e _ _ upd_same, .nil, fun st h => by cases h⟩) (fun i σ' G hi p => ?_) fun σ' G p => ?_
    · obtain ⟨u, rfl, eG, tG, gb, vs, ss, hl, gs, hp, hok⟩ := p
      have hi' : i < n0 + 1 := by
        have : ((n0 + 1 : Nat) : Int).toNat = n0 + 1 := rfl
        omega
      have lv := hp.length
      -- what an append leaves
      have fin : ∀ (v : V) (st : Stp) (G1 : Hp), st.Ok (n0 + 1) → StepAt G1 v st → ExB t H G1 → Tape G1 t l → G1 b = some (.lst (xs.map V.str)) → G1 s = some (.lst vs) → Paired (StepAt G1) vs ss →
          rAppend (.ref s) [v] G1 fun _ G5 => ∃ u, [some (V.ref t), some (vN 4), some (V.int (1 + (n0 : Int))), some (V.ref b), some (vN ah), some (V.ref s), some (vN i)] = [some (V.ref t), some (vN 4), some (V.int (1 + (n0 : Int))), some (V.ref b), some (vN ah), some (V.ref s), u] ∧ ExB t H G5 ∧ Tape G5 t l ∧ G5 b = some (.lst (xs.map V.str)) ∧ ∃ (vs : List V) (ss : List Stp), ss.length = i + 1 ∧ G5 s = some (.lst vs) ∧ Paired (StepAt G5) vs ss ∧ ∀ st ∈ ss, st.Ok (n0 + 1) := fun v st G1 o1 o2 o3 o4 o5 o6 o7 => by
        refine ⟨s, _, _, rfl, rfl, o6, sz_lt (by omega), _, rfl, fun c o hc h => ?_, tape_put o4 nst nsl, ?_, vs ++ [v], ss ++ [st], by rw [List.length_append, hl]; rfl, upd_same, ?_, fun x hx => ?_⟩
        · rw [upd_ne (fun z => by
            by_cases k : s = t
            · exact nst k
            · have := e05 _ _ hc h
              rw [z, hs] at this
              cases this)]
          exact o3 _ _ hc h
        · rw [upd_ne nsb.symm]
          exact o5
        · exact prd_app (prd_imp (fun _ _ => StepAt.upB ExB.put (boxL o6)) o7) (.cons (StepAt.upB ExB.put (boxL o6) o2) .nil)
        · rcases List.mem_append.mp hx with h | h
          · exact hok x h
          · rw [List.mem_singleton.mp h]
            exact o1
      refine s_if (et_and (et_test (ev_op (ev_var rfl) (ev_var rfl) rv_I0)) fun _ => et_test (ev_op (ev_var rfl) (ev_op (ev_var rfl) ev_c rv_I0) rv_I0)) (fun hb1 G1 g1 => ?_) fun _ G1 g1 => ?_
      · have h2 := (Bool.and_eq_true _ _).mp hb1
        have h3 := of_decide_eq_true h2.1
        have h4 := of_decide_eq_true h2.2
        have gs1 := g1 _ _ gs
        have gb1 := g1 _ _ gb
        have hi2 : i < xs.length := by omega
        refine ⟨_, rfl, .inl ⟨rfl, _, SqL.of gs1⟩, ?_⟩
        have hx : atI (xs.map V.str) (i : Int) = some (.str xs[i]) := atI_nat (by rw [List.getElem?_map, List.getElem?_eq_getElem hi2]; rfl)
        refine ⟨_, rfl, _, rfl, b, _, _, _, rfl, rfl, sq_of gb1, hx, Nat.zero_le _, fun r hr => ?_⟩
        refine ⟨_, rfl, _, _, rfl, rfl, by show 4 ≤ sizeLine; decide, fun a ha => ?_⟩
        have e2 : Ex G _ := (g1.trans (Ex.new (o := .tup []) hr)).trans (Ex.new (o := .tup [.str kMake, .str xs[i], .ref r, .int ((i : Int) + 1)]) ha)
        have ei : ((i + 1 : Nat) : Int) = (i : Int) + 1 := by omega
        refine fin _ (.mk xs[i] [] (i + 1)) _ ⟨hxs _ (List.getElem_mem hi2), Nat.zero_le _, (fun x h => by cases h), by omega⟩ ⟨a, .ref r, rfl, ?_, r, rfl, Ex.new ha _ _ upd_same⟩ (eG.trans (ExB.of e2)) (tG.up e2) (e2 _ _ gb) (e2 _ _ gs) (prd_imp (fun _ _ => StepAt.up e2) hp)
        rw [ei]
        exact upd_same
      · have gs1 := g1 _ _ gs
        refine ⟨_, rfl, .inl ⟨rfl, _, SqL.of gs1⟩, ?_⟩
        refine ⟨_, rfl, _, rfl, _, rfl, _, rfl, t, l, b, xs, i, n0 + 1, congrArg (fun z : Int => [V.ref t, V.ref b, V.int (i : Int), V.int z]) ihn.symm, tG.up g1, g1 _ _ gb, nb, by omega, by omega, hxs, by omega, by omega, fun v st G2 ok2 s2 g2 t2 => ?_⟩
        exact fin v st G2 ok2 s2 ((eG.trans (ExB.of g1)).trans g2) t2 (g2 _ _ nb (g1 _ _ gb)) (g2 _ _ nst gs1) (prd_imp (fun _ _ h => StepAt.upB g2 (tape_box (tG.up g1)) (h.up g1)) hp)
    · obtain ⟨u, rfl, eG, tG, gb, vs, ss, hl, gs, hp, hok⟩ := p
      have hl' : ss.length = n0 + 1 := hl
      refine ⟨_, rfl, s, vs, rfl, .inl ⟨sq_of gs, fun r hr => ?_⟩⟩
      exact q r ss _ ⟨vs, upd_same, prd_imp (fun _ _ => StepAt.up (Ex.new hr)) hp⟩ ⟨by omega, by omega, fun st h => by rw [hl']; exact hok st h⟩ (eG.trans (ExB.of (Ex.new hr))) (tape_new tG hr)

end
end FB
set_option Elab.async false
set_option linter.all false
set_option maxRecDepth 100000
set_option maxHeartbeats 4000000
namespace FB
open PySem PySem.Spec PyProof.Rows L2 Evl
open C8 (Cal Mak pe_c pe_mk pe_gc)
section
variable {P : Program} {w : World} {K : PySem.W.Frag} {mg : Str → Option Value} {base : Heap}
def sp_check_name (K : PySem.W.Frag) : Sp := fun vs H Q _ => ∃ x : Str, vs = [.str x] ∧ Nm x ∧ ∀ H', Ex H H' → Q .non H'
theorem v_check_name {H : Hp} {x : Str} (hx : Nm x) : SpV (sp_check_name K) [.str x] H .non := fun H1 e Q q E => ⟨x, rfl, hx, fun H2 e2 => q H2 e2⟩
abbrev n_check_name : List Str := ["name"]
theorem sc_check_name : FnScope n_check_name ["name"] (defScope s_check_name) := ⟨rfl, rfl, rfl, by decide +kernel, rfl, by decide +kernel, by decide +kernel⟩
theorem c_check_name (T : Tx K mg) : Cal P w K mg base 2 "check_name" (sp_check_name K) [] := by
  have k_is_name := c_is_name (P := P) (w := w) (base := base) T
  refine calOf T 4 rfl rfl sc_check_name (fun _ _ _ _ _ _ us hl => match us, hl with | [_], _ => rfl) (fun vs H Q E h => ?_) (fun cdv A outer s H vs Q E hr h => ?_)
  · obtain ⟨_, rfl, _⟩ := h
    rfl
  · obtain ⟨x, rfl, hx, q⟩ := h
    refine ⟨_, (pss_one (ps_if (pt_not (pt_val (pe_c k_is_name hr (by decide) rfl (pa_cons (pv 0) pa_nil))))
          ((pss_one ps_never))
          (pss_nil))), ?_⟩
    exact s_no (et_not (et_val (ev_c1 (ev_var rfl) (v_is_name hx)))) q

end
end FB
set_option Elab.async false
set_option linter.all false
set_option maxRecDepth 100000
set_option maxHeartbeats 4000000
namespace FB
open PySem PySem.Spec PyProof.Rows L2 Evl
open C8 (Cal Mak pe_c pe_mk pe_gc)
section
variable {P : Program} {w : World} {K : PySem.W.Frag} {mg : Str → Option Value} {base : Heap}
def optV : Option Str → V
  | none => .non
  | some x => .str x
def sp_made_by (K : PySem.W.Frag) : Sp := fun vs H Q _ => ∃ v s, vs = [v] ∧ StepAt H v s ∧ ∀ H', Ex H H' → Q (optV s.made) H'
theorem v_made_by {H : Hp} {v : V} {s : Stp} (h : StepAt H v s) : SpV (sp_made_by K) [v] H (optV s.made) := fun H1 e Q q E => ⟨v, s, rfl, h.up e, fun H2 e2 => q H2 e2⟩
abbrev n_made_by : List Str := ["step"]
theorem sc_made_by : FnScope n_made_by ["step"] (defScope s_made_by) := ⟨rfl, rfl, rfl, by decide +kernel, rfl, by decide +kernel, by decide +kernel⟩
theorem c_made_by (T : Tx K mg) : Cal P w K mg base 1 "made_by" (sp_made_by K) [] := by
  refine calOf T 7 rfl rfl sc_made_by (fun _ _ _ _ _ _ us hl => match us, hl with | [_], _ => rfl) (fun vs H Q E h => ?_) (fun cdv A outer s H vs Q E hr h => ?_)
  · obtain ⟨_, _, rfl, _⟩ := h
    rfl
  · obtain ⟨v, s, rfl, hs, q⟩ := h
    refine ⟨_, (pss_one (ps_ret (pe_ifExp (pt_cmpR op_eq (pe_ix (xi_tup (K := K)) (pv 0) pe_int (fun _ _ => rfl)) pe_str (nomark _)) (pe_ix (xi_tup (K := K)) (pv 0) pe_int (fun _ _ => rfl)) pe_non))), ?_⟩
    cases s with
    | mk x rs g =>
      obtain ⟨a, r, rfl, ho, ht⟩ := hs
      exact s_ret (ev_if (et_eq (ev_ixT (ev_var rfl) ev_c ho at0) ev_c rfl k_mm) (fun _ => ev_ixT (ev_var rfl) ev_c ho at1) fun z => Bool.noConfusion z) q
    | tell x g =>
      obtain ⟨a, rfl, ho⟩ := hs
      exact s_ret (ev_if (et_eq (ev_ixT (ev_var rfl) ev_c ho at0) ev_c rfl k_tm) (fun z => Bool.noConfusion z) fun _ => ev_c) q
    | test x gs =>
      obtain ⟨a, r, rfl, ho, ht⟩ := hs
      exact s_ret (ev_if (et_eq (ev_ixT (ev_var rfl) ev_c ho at0) ev_c rfl k_sm) (fun z => Bool.noConfusion z) fun _ => ev_c) q
    | go g =>
      obtain ⟨a, rfl, ho⟩ := hs
      exact s_ret (ev_if (et_eq (ev_ixT (ev_var rfl) ev_c ho at0) ev_c rfl k_gm) (fun z => Bool.noConfusion z) fun _ => ev_c) q
    | fin =>
      obtain ⟨a, rfl, ho⟩ := hs
      exact s_ret (ev_if (et_eq (ev_ixT (ev_var rfl) ev_c ho at0) ev_c rfl k_em) (fun z => Bool.noConfusion z) fun _ => ev_c) q

end
end FB
set_option Elab.async false
set_option linter.all false
set_option maxRecDepth 100000
set_option maxHeartbeats 4000000
namespace FB
open PySem PySem.Spec PyProof.Rows L2 Evl
open C8 (Cal Mak pe_c pe_mk pe_gc)
section
variable {P : Program} {w : World} {K : PySem.W.Frag} {mg : Str → Option Value} {base : Heap}
theorem given_map {α : Type} (f : α → V) (xs : List α) : given xs.length (fun _ => true) (fun i => (xs[i]?.map f).getD .non) = xs.map f := by
  have go : ∀ i, i ≤ xs.length → given i (fun _ => true) (fun i => (xs[i]?.map f).getD .non) = (xs.take i).map f := by
    intro i
    induction i with
    | zero => intro _; rfl
    | succ i ih =>
      intro hi
      have e := List.getElem?_eq_getElem (show i < xs.length by omega)
      rw [given_yes rfl, ih (by omega), List.take_succ, e, List.map_append]
      rfl
  rw [go xs.length (Nat.le_refl _), List.take_length]
def sp_leaves_none (K : PySem.W.Frag) : Sp := fun vs H Q _ => ∃ (p a d b : Addr) (ss : List Stp) (ps : List Nat) (nm : Str), vs = [.ref p, .ref b, .str nm] ∧ PrS K H p a d ss ∧ H b = some (.lst (ps.map vN)) ∧ (∀ p ∈ ps, p < ss.length) ∧ ps.length ≤ 100 ∧ ∀ H', Ex H H' → Q (.bl (leavesB ss ps nm)) H'
theorem v_leaves_none {H : Hp} {p a d b : Addr} {ss : List Stp} {ps : List Nat} {nm : Str} (h : PrS K H p a d ss) (hb : H b = some (.lst (ps.map vN))) (hp : ∀ p ∈ ps, p < ss.length) (hl : ps.length ≤ 100) : SpV (sp_leaves_none K) [.ref p, .ref b, .str nm] H (.bl (leavesB ss ps nm)) := fun H1 e Q q E => ⟨p, a, d, b, ss, ps, nm, rfl, h.up e, e _ _ hb, hp, hl, fun H2 e2 => q H2 e2⟩
theorem opt_ne (m : Option Str) (nm : Str) : (!decide (optV m = V.str nm)) = !decide (m = some nm) := by
  cases m with
  | none => rfl
  | some x =>
    show (!decide (V.str x = V.str nm)) = !decide (some x = some nm)
    by_cases e : x = nm
    · rw [e]; simp
    · have e1 : ¬ V.str x = V.str nm := fun z => e (by injection z)
      simp [e, e1]
theorem opt_scal (m : Option Str) (nm : Str) : scal (optV m) (.str nm) = true := by
  cases m <;> rfl
abbrev n_leaves_none : List Str := ["program", "places", "name", "place"]
theorem sc_leaves_none : FnScope n_leaves_none ["program", "places", "name"] (defScope s_leaves_none) := ⟨rfl, rfl, rfl, by decide +kernel, rfl, by decide +kernel, by decide +kernel⟩
theorem c_leaves_none (T : Tx K mg) : Cal P w K mg base 2 "leaves_none" (sp_leaves_none K) [] := by
  have k_made_by := c_made_by (P := P) (w := w) (base := base) T
  refine calOf T 14 rfl rfl sc_leaves_none (fun _ _ _ _ _ _ us hl => match us, hl with | [_, _, _], _ => rfl) (fun vs H Q E h => ?_) (fun cdv A outer s H vs Q E hr h => ?_)
  · obtain ⟨_, _, _, _, _, _, _, rfl, _⟩ := h
    rfl
  · obtain ⟨p, a, d, b, ss, ps, nm, rfl, hP, hb, hp, hl, q⟩ := h
    refine ⟨_, (pss_one (ps_ret (pe_callB (xc_all (K := K) rfl) rfl T.f_all (by decide +kernel) (pa_cons (pe_lc (g := gName 3) (tt := tYes) (own := [("place", 3)]) rfl sc_leaves_none.nd (x_list (K := K) (pe_slice (xs_list (K := K)) (pv 1) po_none (po_some (pe_un un_neg pe_int)))) (blkOk_by (own := [("place", 3)]) (N := n_leaves_none) (sc := defScope s_leaves_none) (by decide +kernel)) (fun _ _ _ _ _ => (pg_name (i := 3) sc_leaves_none.nd rfl (.inl rfl))) (fun _ _ _ _ _ => pts_nil) (fun _ _ _ _ _ => (pe_cmpR op_ne (pe_c k_made_by hr (by decide) rfl (pa_cons (pe_ix (xi_tup (K := K)) (x_fld (K := K) (pv 0)) (pv 3) (fun _ _ => rfl)) pa_nil)) (pv 2) (nomark _)))) pa_nil)))), ?_⟩
    have hd : ∀ p ∈ ps.dropLast, p < ss.length := fun p h => hp p (List.dropLast_subset _ h)
    have hdl : ps.dropLast.length ≤ 100 := by rw [List.length_dropLast]; omega
    have ex : cutV (ps.map vN) none (some (-1)) = ps.dropLast.map vN := by rw [cut_init, ← List.map_dropLast]
    have key := el_lcNL (K := K) (σ := [some (.ref p), some (.ref b), some (.str nm), none]) (H := H) (tl := tSl (rSlL K) (tVar 1) tNoPart (tPart (tUn (rU fun i => .int (-i)) (tC (.int 1))))) (j := 3) (vs := [3]) (t := tYes) (te := tOp rNe (tCall (sp_made_by K) [] C8.E0 (tCons (tOp (rIxT K) (tFld K (tVar 0) "kept_steps") (tVar 3)) tNil)) (tVar 2)) (xs := ps.dropLast.map vN) (fun _ => true) (fun i => (ps.dropLast[i]?.map fun p => V.bl (!decide (md ss p = some nm))).getD .non)
      (by rw [← ex]; exact el_sl (ev_var rfl) eo_none (eo_some (ev_neg ev_c)) (sq_of hb)) (by rw [List.length_map]; omega) (fun _ => rfl) (fun _ _ _ _ _ => et_yes) (fun i x G g hi _ => ?_)
    · rw [List.length_map, given_map (fun p => V.bl (!decide (md ss p = some nm)))] at key
      have key2 : (ps.dropLast.map fun p => V.bl (!decide (md ss p = some nm))) = (ps.dropLast.map fun p => !decide (md ss p = some nm)).map V.bl := by rw [List.map_map]; rfl
      rw [key2] at key
      refine s_ret (ev_is (ev_all key) (congrArg V.bl ?_)) q
      rw [List.all_map]
      rfl
    · rw [List.getElem?_map] at hi
      cases e : ps.dropLast[i]? with
      | none => rw [e] at hi; cases hi
      | some k =>
        rw [e] at hi
        obtain rfl := Option.some.inj hi
        obtain ⟨v, s, es, hv, hev⟩ := ev_step (σ := [some (.ref p), some (.ref b), some (.str nm), some (vN k)]) (ta := tFld K (tVar 0) "kept_steps") (tb := tVar 3) (ev_ks T (ev_var rfl) (hP.up g)) (ev_var rfl) (hP.up g).st (hd k (List.mem_of_getElem? e))
        refine ev_is (ev_op (ev_c1 hev (v_made_by hv)) (ev_var rfl) (rv_ne (opt_scal _ _))) ?_
        show V.bl (!decide (optV s.made = V.str nm)) = V.bl (!decide (md ss k = some nm))
        rw [opt_ne, md_of es]

end
end FB
set_option Elab.async false
set_option linter.all false
set_option maxRecDepth 100000
set_option maxHeartbeats 4000000
namespace FB
open PySem PySem.Spec PyProof.Rows L2 Evl
open C8 (Cal Mak pe_c pe_mk pe_gc)
section
variable {P : Program} {w : World} {K : PySem.W.Frag} {mg : Str → Option Value} {base : Heap}
def sp_goals_of (K : PySem.W.Frag) : Sp := fun vs H Q _ => ∃ v s, vs = [v] ∧ StepAt H v s ∧ ∀ r H', Ex H H' → TupI H' r s.goals → Q r H'
theorem p_goals_of {H : Hp} {v : V} {s : Stp} (h : StepAt H v s) : SpP (sp_goals_of K) [v] H fun r H' => TupI H' r s.goals := fun H1 e Q q E => ⟨v, s, rfl, h.up e, fun r H2 e2 t => q r H2 e2 t⟩
abbrev n_goals_of : List Str := ["step"]
theorem sc_goals_of : FnScope n_goals_of ["step"] (defScope s_goals_of) := ⟨rfl, rfl, rfl, by decide +kernel, rfl, by decide +kernel, by decide +kernel⟩
theorem c_goals_of (T : Tx K mg) : Cal P w K mg base 1 "goals_of" (sp_goals_of K) [] := by
  refine calOf T 5 rfl rfl sc_goals_of (fun _ _ _ _ _ _ us hl => match us, hl with | [_], _ => rfl) (fun vs H Q E h => ?_) (fun cdv A outer s H vs Q E hr h => ?_)
  · obtain ⟨_, _, rfl, _⟩ := h
    rfl
  · obtain ⟨v, s, rfl, hs, q⟩ := h
    refine ⟨_, (pss_cons (ps_if (pt_cmpR op_eq (pe_ix (xi_tup (K := K)) (pv 0) pe_int (fun _ _ => rfl)) pe_str (nomark _))
          ((pss_one (ps_ret (pe_tup pa_nil))))
          (pss_nil))
      (pss_one (ps_ret (pe_ifExp (pt_cmpR op_eq (pe_ix (xi_tup (K := K)) (pv 0) pe_int (fun _ _ => rfl)) pe_str (nomark _)) (pe_ix (xi_tup (K := K)) (pv 0) pe_int (fun _ _ => rfl)) (pe_tup (pa_cons (pe_ix (xi_tup (K := K)) (pv 0) (pe_un un_neg pe_int) (fun _ _ => rfl)) pa_nil)))))), ?_⟩
    cases s with
    | mk x rs g =>
      obtain ⟨a, r, rfl, ho, ht⟩ := hs
      refine q_no (et_eq (ev_ixT (ev_var rfl) ev_c ho at0) ev_c rfl k_me) fun H1 e1 => ?_
      exact s_retP (ep_if (et_eq (ev_ixT (ev_var rfl) ev_c (e1 _ _ ho) at0) ev_c rfl k_ms) (fun z => Bool.noConfusion z) fun _ => ep_U (eu_tup (ea_cons (ev_ixT (ev_var rfl) (ev_neg ev_c) (e1 _ _ ho) atL4) ea_nil) (by simp))) fun w H2 e2 ⟨p, hw, hp⟩ => q w H2 (e1.trans e2) ⟨p, hw, hp⟩
    | tell x g =>
      obtain ⟨a, rfl, ho⟩ := hs
      refine q_no (et_eq (ev_ixT (ev_var rfl) ev_c ho at0) ev_c rfl k_te) fun H1 e1 => ?_
      exact s_retP (ep_if (et_eq (ev_ixT (ev_var rfl) ev_c (e1 _ _ ho) at0) ev_c rfl k_ts) (fun z => Bool.noConfusion z) fun _ => ep_U (eu_tup (ea_cons (ev_ixT (ev_var rfl) (ev_neg ev_c) (e1 _ _ ho) atL3) ea_nil) (by simp))) fun w H2 e2 ⟨p, hw, hp⟩ => q w H2 (e1.trans e2) ⟨p, hw, hp⟩
    | test x gs =>
      obtain ⟨a, r, rfl, ho, ht⟩ := hs
      refine q_no (et_eq (ev_ixT (ev_var rfl) ev_c ho at0) ev_c rfl k_se) fun H1 e1 => ?_
      exact s_retP (P := fun w _ => w = r) (ep_if (et_eq (ev_ixT (ev_var rfl) ev_c (e1 _ _ ho) at0) ev_c rfl k_ss) (fun _ => ep_of (ev_ixT (ev_var rfl) ev_c (e1 _ _ ho) at2)) fun z => Bool.noConfusion z) fun w H2 e2 hw => q w H2 (e1.trans e2) (by rw [hw]; exact ht.up (e1.trans e2))
    | go g =>
      obtain ⟨a, rfl, ho⟩ := hs
      refine q_no (et_eq (ev_ixT (ev_var rfl) ev_c ho at0) ev_c rfl k_ge) fun H1 e1 => ?_
      exact s_retP (ep_if (et_eq (ev_ixT (ev_var rfl) ev_c (e1 _ _ ho) at0) ev_c rfl k_gs) (fun z => Bool.noConfusion z) fun _ => ep_U (eu_tup (ea_cons (ev_ixT (ev_var rfl) (ev_neg ev_c) (e1 _ _ ho) atL2) ea_nil) (by simp))) fun w H2 e2 ⟨p, hw, hp⟩ => q w H2 (e1.trans e2) ⟨p, hw, hp⟩
    | fin =>
      obtain ⟨a, rfl, ho⟩ := hs
      refine q_yes (et_eq (ev_ixT (ev_var rfl) ev_c ho at0) ev_c rfl k_ee) fun H1 e1 => ?_
      exact s_retP (ep_U (eu_tup ea_nil (by decide))) fun w H2 e2 ⟨p, hw, hp⟩ => q w H2 (e1.trans e2) ⟨p, hw, hp⟩

end
end FB
set_option Elab.async false
set_option linter.all false
set_option maxRecDepth 100000
set_option maxHeartbeats 4000000
namespace FB
open PySem PySem.Spec PyProof.Rows L2 Evl
open C8 (Cal Mak pe_c pe_mk pe_gc)
section
variable {P : Program} {w : World} {K : PySem.W.Frag} {mg : Str → Option Value} {base : Heap}
theorem Wlk.take {ss : List Stp} {p : Nat} {r ps : List Nat} {q : Nat} (h : Wlk ss p r ps q) : ∀ i, i ≤ r.length → ∃ ps' q', Wlk ss p (r.take i) ps' q' := by
  induction h with
  | nil => exact fun i _ => ⟨[], p, by rw [List.take_nil]; exact .nil⟩
  | @snoc r ps q k g h1 h2 ih =>
    intro i hi
    by_cases e : i ≤ r.length
    · rw [List.take_append_of_le_length e]
      exact ih i e
    · rw [List.length_append] at hi
      have e2 : i = (r ++ [k]).length := by rw [List.length_append]; show i = r.length + 1; have : i ≤ r.length + 1 := hi; omega
      rw [e2, List.take_length]
      exact ⟨_, _, .snoc h1 h2⟩
theorem Wlk.next {ss : List Stp} {p : Nat} {r ps : List Nat} {q : Nat} (h : Wlk ss p r ps q) {i : Nat} (hi : i < r.length) {ps' : List Nat} {q' : Nat} (h' : Wlk ss p (r.take i) ps' q') : ∃ g, (gl ss q')[r[i]]? = some g ∧ Wlk ss p (r.take (i + 1)) (ps' ++ [q']) g := by
  obtain ⟨ps2, q2, w⟩ := h.take (i + 1) hi
  have e : r.take (i + 1) = r.take i ++ [r[i]] := by rw [List.take_succ, List.getElem?_eq_getElem hi]; rfl
  rw [e] at w
  obtain ⟨ps3, q3, w1, w2, rfl⟩ := w.inv
  obtain ⟨rfl, rfl⟩ := h'.det w1
  rw [e]
  exact ⟨q2, w2, w⟩
def sp_places_on (K : PySem.W.Frag) : Sp := fun vs H Q _ => ∃ (p a d : Addr) (ss : List Stp) (pl : Nat) (rt : Addr) (r ps : List Nat) (q : Nat), vs = [.ref p, vN pl, .ref rt] ∧ PrS K H p a d ss ∧ pl < ss.length ∧ H rt = some (.tup (r.map vN)) ∧ Wlk ss pl r ps q ∧ r.length ≤ 100 ∧ ∀ l H', Ex H H' → H' l = some (.lst ((ps ++ [q]).map vN)) → Q (.ref l) H'
abbrev n_places_on : List Str := ["program", "place", "route", "found", "number", "goals"]
theorem sc_places_on : FnScope n_places_on ["program", "place", "route"] (defScope s_places_on) := ⟨rfl, rfl, rfl, by decide +kernel, rfl, by decide +kernel, by decide +kernel⟩
theorem c_places_on (T : Tx K mg) : Cal P w K mg base 3 "places_on" (sp_places_on K) [] := by
  have k_goals_of := c_goals_of (P := P) (w := w) (base := base) T
  have k_is_index := c_is_index (P := P) (w := w) (base := base) T
  refine calOf T 9 rfl rfl sc_places_on (fun _ _ _ _ _ _ us hl => match us, hl with | [_, _, _], _ => rfl) (fun vs H Q E h => ?_) (fun cdv A outer s H vs Q E hr h => ?_)
  · obtain ⟨_, _, _, _, _, _, _, _, _, rfl, _⟩ := h
    rfl
  · obtain ⟨p, a, d, ss, pl, rt, r, ps, q, rfl, hp, hpl, hrt, hw, hrl, k⟩ := h
    refine ⟨_, (pss_cons (ps_if (pt_not (pt_val (pe_callB (xc_isi (K := K)) rfl T.f_isinstance (by decide +kernel) (pa_cons (pv 2) (pa_cons (pe_bltn (v := .ty "tuple") rfl T.f_tuple (by decide +kernel) rfl) pa_nil)))))
          ((pss_one (ps_ret pe_non)))
          (pss_nil))
      (pss_cons (ps_set (i := 3) sc_places_on.nd rfl (.inl rfl) (pe_lst (pa_cons (pv 1) pa_nil)))
      (pss_cons (ps_for PassesOwn.never rfl (x_tup (K := K) (pv 2)) (pg_name (i := 4) sc_places_on.nd rfl (.inl rfl))
          ((pss_cons (ps_set (i := 5) sc_places_on.nd rfl (.inl rfl) (pe_c k_goals_of hr (by decide) rfl (pa_cons (pe_ix (xi_tup (K := K)) (x_fld (K := K) (pv 0)) (pe_ix (xi_list (K := K)) (pv 3) (pe_un un_neg pe_int) (fun _ _ => rfl)) (fun _ _ => rfl)) pa_nil)))
          (pss_cons (ps_if (pt_not (pt_val (pe_c k_is_index hr (by decide) rfl (pa_cons (pv 4) (pa_cons (pe_callB (xc_len (K := K)) rfl T.f_len (by decide +kernel) (pa_cons (pv 5) pa_nil)) pa_nil)))))
              ((pss_one (ps_ret pe_non)))
              (pss_nil))
          (pss_one (ps_expr (pe_bm PySem.F.plainAttrs_list PySem.F.slot_list_append PySem.F.type_list_append mt_append (pv 3) (pa_cons (pe_ix (xi_tup (K := K)) (pv 5) (pv 4) (fun _ _ => rfl)) pa_nil))))))))
      (pss_one (ps_ret (pv 3)))))), ?_⟩
    refine q_no (et_not (et_val (ev_isiT (ev_var rfl) hrt k_tups))) fun H1 e1 => ?_
    refine q_asgL (el_lst (ea_cons (ev_var rfl) ea_nil) (by simp)) fun f H2 hf e2 f2 => ?_
    have e02 := e1.trans e2
    have hfH : H f = none := fresh_back e1 hf
    refine q_forTn (ev_var rfl) (st_of (e02 _ _ hrt)) (fun i σ' G => ∃ u4 u5, σ' = [some (.ref p), some (vN pl), some (.ref rt), some (.ref f), u4, u5] ∧ Ex H G ∧ ∃ ps' q', Wlk ss pl (r.take i) ps' q' ∧ G f = some (.lst ((ps' ++ [q']).map vN)))
      (fun G e => ⟨none, none, rfl, e02.trans e, [], pl, .nil, e _ _ f2⟩) (fun i σ' G _ h => ?_) (fun i x σ' G hi h => ?_) fun σ' G h => ?_
    · obtain ⟨_, _, _, eG, _⟩ := h
      exact st_of (eG _ _ hrt)
    · obtain ⟨u4, u5, rfl, eG, ps', q', w', gf⟩ := h
      have hi2 : i < r.length := by
        have := (List.getElem?_eq_some_iff.mp hi).1
        rw [List.length_map] at this
        exact this
      obtain rfl : x = vN r[i] := by
        rw [List.getElem?_map, List.getElem?_eq_getElem hi2] at hi
        exact (Option.some.inj hi).symm
      obtain ⟨g, hg, w2⟩ := hw.next hi2 w'
      have hpG := hp.up eG
      have hqn := (w'.lt hp.ok hpl).1
      have hlast : atI ((ps' ++ [q']).map vN) (-1) = some (vN q') := by
        rw [List.map_append]
        exact atI_last _ _
      have hpl' := w'.len
      have htk : (r.take i).length ≤ 100 := by rw [List.length_take]; omega
      obtain ⟨v, s, es, hv, hev⟩ := ev_step (σ := [some (.ref p), some (vN pl), some (.ref rt), some (.ref f), some (vN r[i]), u5]) (ta := tFld K (tVar 0) "kept_steps") (tb := tOp (rIxL K) (tVar 3) (tUn (rU fun i => .int (-i)) (tC (.int 1)))) (ev_ks T (ev_var rfl) hpG) (ev_ixL (ev_var rfl) (ev_neg ev_c) gf hlast) hpG.st hqn
      rw [gl_of es] at hg
      have hgk := (List.getElem?_eq_some_iff.mp hg).1
      refine q_asgP (ep_c1 hev (p_goals_of hv)) fun v2 G1 g1 h2 => ?_
      obtain ⟨b, rfl, hb⟩ := h2
      have gf1 := g1 _ _ gf
      refine q_no (et_not (et_val (ev_is (ev_c2 (ev_var rfl) (ev_is (ev_lenE (ev_var rfl) (.inr (st_of hb))) (by rw [List.length_map])) v_is_index) (congrArg V.bl (inR_yes hgk))))) fun G2 g2 => ?_
      refine s_app (g2 _ _ gf1) (ev_var rfl) (ev_ixT (ev_var rfl) (ev_var rfl) (g2 _ _ hb) (v := vN g) (atI_nat (by rw [List.getElem?_map, hg]; rfl))) (by rw [List.length_map, List.length_append]; show ps'.length + 1 < 100000; omega) fun G3 g3 => ?_
      refine ⟨_, _, rfl, Ex.mut (((eG.trans g1).trans g2).trans g3) hfH, _, _, w2, ?_⟩
      rw [upd_same, List.map_append (l₁ := ps' ++ [q'])]
      rfl
    · obtain ⟨u4, u5, rfl, eG, ps', q', w', gf⟩ := h
      rw [List.length_map, List.take_length] at w'
      obtain ⟨rfl, rfl⟩ := hw.det w'
      exact ⟨_, rfl, k f G eG gf⟩

end
end FB
set_option Elab.async false
set_option linter.all false
set_option maxRecDepth 100000
set_option maxHeartbeats 4000000
namespace FB
open PySem PySem.Spec PyProof.Rows L2 Evl
open C8 (Cal Mak pe_c pe_mk pe_gc)
section
variable {P : Program} {w : World} {K : PySem.W.Frag} {mg : Str → Option Value} {base : Heap}
theorem s_forETP {σ : Sg} {H : Hp} {te : TE} {D : Ends} {tu : TS} {ns : List Nat} {i1 i2 : Nat} (h : EP te σ H fun v G => TupI G v ns) (Pv : Addr → Nat → Sg → Hp → Prop) (h0 : ∀ a H1, Ex H H1 → H1 a = some (.tup (ns.map vN)) → Pv a 0 σ H1) (hl : ∀ a i σ' H', Pv a i σ' H' → H' a = some (.tup (ns.map vN)))
    (hs : ∀ a i x σ' H' H2, ns[i]? = some x → Pv a i σ' H' → Ex H' H2 → tu { D with nx := Pv a (i + 1), ct := Pv a (i + 1), bk := D.nx } ((σ'.set i1 (some (vN i))).set i2 (some (vN x))) H2) (hd : ∀ a σ' H', Pv a ns.length σ' H' → D.nx σ' H') :
    tFor (iEnumT K (tCons te tNil)) (gTup K 2 (gCons (gName i1) (gCons (gName i2) gNil))) tu D σ H := h H (Ex.refl H) _ fun w H1 e pw => by
  obtain ⟨a, rfl, ha⟩ := pw
  refine ⟨a, ns.map vN, rfl, st_of ha, for_it walkEnumT (Pv a) (h0 a H1 e ha) (fun i σ' H' hi p => st_of (hl a i σ' H' p)) (fun i v σ' G G' hi p y => ?_) (by rw [List.length_map]; exact hd a)⟩
  obtain ⟨T, x, y', rfl, hT, rfl, h1, h2⟩ := y
  obtain rfl : V.int (i : Nat) = x := Option.some.inj h1
  replace h2 : (ns.map vN)[i]? = some y' := h2
  rw [List.getElem?_map] at h2
  cases hz : ns[i]? with
  | none => rw [hz] at h2; cases h2
  | some k =>
    rw [hz] at h2
    obtain rfl := Option.some.inj h2
    exact ⟨T, [.int (i : Nat), vN k], rfl, st_of upd_same, rfl, .int (i : Nat), [vN k], rfl, vN k, [], rfl, rfl, hs a i k σ' G _ hz p (Ex.new hT)⟩
theorem opt_non (m : Option Str) : decide (optV m = V.non) = m.isNone := by
  cases m <;> rfl
theorem opt_neo (m n : Option Str) : (!decide (optV m = optV n)) = !decide (m = n) := by
  cases n with
  | none => cases m <;> rfl
  | some x => exact opt_ne m x
theorem opt_scal2 (m n : Option Str) : scal (optV m) (optV n) = true := by
  cases m <;> cases n <;> rfl
def sp_routes_without (K : PySem.W.Frag) : Sp := fun vs H Q _ => ∃ (p a d : Addr) (ss : List Stp) (pl : Nat) (nm : Option Str), vs = [.ref p, vN pl, optV nm] ∧ PrS K H p a d ss ∧ pl < ss.length ∧ ∀ r ks H', H r = none → Ex H H' → Spr H' r ks ss.length → (∀ k, k ∈ ks ↔ Rch ss nm pl k) → Q (.ref r) H'
abbrev n_routes_without : List Str := ["program", "place", "name", "routes", "waiting", "at", "here", "step", "number", "there"]
theorem sc_routes_without : FnScope n_routes_without ["program", "place", "name"] (defScope s_routes_without) := ⟨rfl, rfl, rfl, by decide +kernel, rfl, by decide +kernel, by decide +kernel⟩
theorem c_routes_without (T : Tx K mg) : Cal P w K mg base 2 "routes_without" (sp_routes_without K) [] := by
  have k_goals_of := c_goals_of (P := P) (w := w) (base := base) T
  have k_made_by := c_made_by (P := P) (w := w) (base := base) T
  refine calOf T 10 rfl rfl sc_routes_without (fun _ _ _ _ _ _ us hl => match us, hl with | [_, _, _], _ => rfl) (fun vs H Q E h => ?_) (fun cdv A outer s H vs Q E hr h => ?_)
  · obtain ⟨_, _, _, _, _, _, rfl, _⟩ := h
    rfl
  · obtain ⟨p, a, d, ss, pl, nm, rfl, hp, hpl, q⟩ := h
    refine ⟨_, (pss_cons (ps_set (i := 3) sc_routes_without.nd rfl (.inl rfl) (pe_disp (pps_cons (pv 1) (pe_tup pa_nil) pps_nil) (by rfl) (by rfl) (fun z => by cases z) (by decide)))
      (pss_cons (ps_set (i := 4) sc_routes_without.nd rfl (.inl rfl) (pe_lst (pa_cons (pv 1) pa_nil)))
      (pss_cons (ps_set (i := 5) sc_routes_without.nd rfl (.inl rfl) pe_int)
      (pss_cons (ps_while PassesOwn.never (pt_cmpR op_lt (pv 5) (pe_callB (xc_len (K := K)) rfl T.f_len (by decide +kernel) (pa_cons (pv 4) pa_nil)) (nomark _))
          ((pss_cons (ps_set (i := 6) sc_routes_without.nd rfl (.inl rfl) (pe_ix (xi_list (K := K)) (pv 4) (pv 5) (fun _ _ => rfl)))
          (pss_cons (ps_set (i := 7) sc_routes_without.nd rfl (.inl rfl) (pe_ix (xi_tup (K := K)) (x_fld (K := K) (pv 0)) (pv 6) (fun _ _ => rfl)))
          (pss_cons (ps_aug (i := 5) sc_routes_without.nd rfl (.inl rfl) pe_int ip_add)
          (pss_one (ps_if (PW.pt (pw_or (pt_cmpR op_isN1 (pv 2) pe_non (nomark _)) (pw_or1 (pt_cmpR op_ne (pe_c k_made_by hr (by decide) rfl (pa_cons (pv 7) pa_nil)) (pv 2) (nomark _)))))
              ((pss_one (ps_for PassesOwn.never rfl (pi_enumT rfl T.f_enumerate (pa_cons (pe_c k_goals_of hr (by decide) rfl (pa_cons (pv 7) pa_nil)) pa_nil)) (pg_tup rfl (pgs_cons (pg_name (i := 8) sc_routes_without.nd rfl (.inl rfl)) (pgs_cons (pg_name (i := 9) sc_routes_without.nd rfl (.inl rfl)) pgs_nil)))
                  ((pss_one (ps_if (pt_cmp (pc_dnotin (hu_of hr) (pv 9) (pv 3)))
                      ((pss_cons (ps_dput (hu_of hr) (pv 3) (pv 9) (pe_op (xo_catA (K := K)) (pe_dget (hu_of hr) (pv 3) (pv 6) (fun _ _ => rfl)) (pe_tup (pa_cons (pv 8) pa_nil))) rfl)
                      (pss_one (ps_expr (pe_bm PySem.F.plainAttrs_list PySem.F.slot_list_append PySem.F.type_list_append mt_append (pv 4) (pa_cons (pv 9) pa_nil))))))
                      (pss_nil)))))))
              (pss_nil))))))))
      (pss_one (ps_ret (pv 3))))))), ?_⟩
    have ok := hp.ok
    have hl4 := ok.hi
    refine q_dispOne (n := ss.length) (ev_var rfl) hpl fun r H1 hr e1 p1 => ?_
    refine q_asgL (el_lst (ea_cons (ev_var rfl) ea_nil) (by simp)) fun w H2 hw e2 w2 => ?_
    refine q_asg ev_c fun H3 e3 => ?_
    have hwH : H w = none := fresh_back e1 hw
    refine q_while (fun m σ' G => ∃ (at0 : Nat) (u6 u7 u8 u9 : Option V), σ' = [some (.ref p), some (vN pl), some (optV nm), some (.ref r), some (.ref w), some (vN at0), u6, u7, u8, u9] ∧ Ex H G ∧ ∃ ks : List Nat, Spr G r ks ss.length ∧ G w = some (.lst (ks.map vN)) ∧ at0 ≤ ks.length ∧ pl ∈ ks ∧ (∀ k ∈ ks, Rch ss nm pl k) ∧ (∀ j h, j < at0 → ks[j]? = some h → (nm = none ∨ md ss h ≠ nm) → ∀ g ∈ gl ss h, g ∈ ks) ∧ m = ss.length - at0) (ss.length - 0)
      ⟨0, none, none, none, none, rfl, (e1.trans e2).trans e3, [pl], (p1.up e2).up e3, e3 _ _ w2, Nat.zero_le _, List.mem_singleton.mpr rfl, fun k hk => (by rw [List.mem_singleton.mp hk]; exact .refl), fun j h hj => absurd hj (Nat.not_lt_zero _), rfl⟩ fun m σ' G h => ?_
    obtain ⟨at0, u6, u7, u8, u9, rfl, eG, ks, sG, gw, hat, hpk, hrch, hcl, rfl⟩ := h
    have hkl := sG.len
    refine ⟨decide ((at0 : Int) < (ks.length : Int)), et_test (ev_op (ev_var rfl) (ev_is (ev_lenE (ev_var rfl) (.inl (sq_of gw))) (by rw [List.length_map])) rv_I0), fun hb G1 g1 => ?_, fun hb G1 g1 => ?_⟩
    · have hlt : at0 < ks.length := by
        have := of_decide_eq_true hb
        omega
      refine ⟨fun σ2 G2 => ∃ (u6 u7 u8 u9 : Option V), σ2 = [some (.ref p), some (vN pl), some (optV nm), some (.ref r), some (.ref w), some (vN (at0 + 1)), u6, u7, u8, u9] ∧ Ex H G2 ∧ ∃ ks2 : List Nat, Spr G2 r ks2 ss.length ∧ G2 w = some (.lst (ks2.map vN)) ∧ at0 + 1 ≤ ks2.length ∧ pl ∈ ks2 ∧ (∀ k ∈ ks2, Rch ss nm pl k) ∧ (∀ j h, j < at0 + 1 → ks2[j]? = some h → (nm = none ∨ md ss h ≠ nm) → ∀ g ∈ gl ss h, g ∈ ks2), fun σ2 G2 ⟨v6, v7, v8, v9, h1, h2, ks2, h3, h4, h5, h6, h7, h8⟩ => ⟨ss.length - (at0 + 1), by omega, at0 + 1, v6, v7, v8, v9, h1, h2, ks2, h3, h4, h5, h6, h7, h8, rfl⟩, ?_⟩
      refine q_asg (ev_ixL (ev_var rfl) (ev_var rfl) (g1 _ _ gw) (at_nat hlt)) fun G2 g2 => ?_
      have hhk : ks[at0] ∈ ks := List.getElem_mem hlt
      have hhn := sG.lt _ hhk
      have hp2 := hp.up ((eG.trans g1).trans g2)
      obtain ⟨v, s, es, hv, hev⟩ := ev_step (σ := [some (.ref p), some (vN pl), some (optV nm), some (.ref r), some (.ref w), some (vN at0), some (vN ks[at0]), u7, u8, u9]) (ta := tFld K (tVar 0) "kept_steps") (tb := tVar 6) (ev_ks T (ev_var rfl) hp2) (ev_var rfl) hp2.st hhn
      refine q_asg hev fun G3 g3 => ?_
      have hv3 := hv.up g3
      refine q_aug (a := (at0 : Int)) rfl (ev_c (v := .int 1)) fun G4 g4 => ?_
      have hv4 := hv3.up g4
      have e14 := ((g1.trans g2).trans g3).trans g4
      have ea1 : (at0 : Int) + 1 = ((at0 + 1 : Nat) : Int) := by omega
      have hmd := md_of es
      have hgl := gl_of es
      have hg3 := (ok.at es).goals_len
      have hga := (ok.at es).goals
      show tIfS _ _ _ _ [some (.ref p), some (vN pl), some (optV nm), some (.ref r), some (.ref w), some (.int ((at0 : Int) + 1)), some (vN ks[at0]), some v, u8, u9] G4
      rw [ea1]
      have tst : EvT (tOr (tTest (tOp rIsN (tVar 2) (tC .non))) (tTest (tOp rNe (tCall (sp_made_by K) [] C8.E0 (tCons (tVar 7) tNil)) (tVar 2)))) [some (.ref p), some (vN pl), some (optV nm), some (.ref r), some (.ref w), some (vN (at0 + 1)), some (vN ks[at0]), some v, u8, u9] G4 (nm.isNone || !decide (s.made = nm)) :=
        et_or (et_test (ev_is (ev_op (ev_var rfl) ev_c (rv_val fun H1 _ Q2 q2 => ⟨rfl, q2⟩)) (congrArg V.bl (opt_non nm)))) fun _ => et_test (ev_is (ev_op (ev_c1 (ev_var rfl) (v_made_by hv4)) (ev_var rfl) (rv_ne (opt_scal2 _ _))) (congrArg V.bl (opt_neo _ _)))
      refine s_when tst (fun hb2 G5 g5 => ?_) fun hb2 G5 g5 => ?_
      · have hleave : nm = none ∨ md ss ks[at0] ≠ nm := by
          rcases (Bool.or_eq_true _ _).mp hb2 with z | z
          · exact .inl (Option.isNone_iff_eq_none.mp z)
          · right
            rw [hmd]
            simpa using z
        have e15 := e14.trans g5
        refine s_forETP (ns := s.goals) (ep_c1 (ev_var rfl) (p_goals_of (hv4.up g5))) (fun ga j σ' G' => ∃ (u8 u9 : Option V), σ' = [some (.ref p), some (vN pl), some (optV nm), some (.ref r), some (.ref w), some (vN (at0 + 1)), some (vN ks[at0]), some v, u8, u9] ∧ Ex H G' ∧ G' ga = some (.tup (s.goals.map vN)) ∧ ∃ ks2 : List Nat, Spr G' r ks2 ss.length ∧ G' w = some (.lst (ks2.map vN)) ∧ ks <+: ks2 ∧ (∀ k ∈ ks2, Rch ss nm pl k) ∧ ∀ g ∈ s.goals.take j, g ∈ ks2)
          (fun ga G6 g6 hga => ⟨u8, u9, rfl, (eG.trans e15).trans g6, hga, ks, sG.up (e15.trans g6), (e15.trans g6) _ _ gw, List.prefix_rfl, hrch, fun g hg => (by rw [List.take_zero] at hg; cases hg)⟩) (fun ga j σ' G' h => ?_) (fun ga j x σ' G' G6 hx h g6 => ?_) fun ga σ' G' h => ?_
        · obtain ⟨_, _, _, _, h, _⟩ := h
          exact h
        · obtain ⟨u8, u9, rfl, eG', gga, ks2, s2, gw2, pf, hr2, hin⟩ := h
          have htk : s.goals.take (j + 1) = s.goals.take j ++ [x] := by rw [List.take_succ, hx]; rfl
          have hxn := hga x (List.mem_of_getElem? hx)
          have hhk2 : ks[at0] ∈ ks2 := pf.subset hhk
          refine s_when (et_test (ev_dnotin (ev_var rfl) (ev_var rfl) (s2.up g6))) (fun hb3 G7 g7 => ?_) fun hb3 G7 g7 => ⟨_, _, rfl, (eG'.trans g6).trans g7, (g6.trans g7) _ _ gga, ks2, s2.up (g6.trans g7), (g6.trans g7) _ _ gw2, pf, hr2, fun g hg => ?_⟩
          · have hno : ¬ x ∈ ks2 := by
              intro z
              rw [decide_eq_true z] at hb3
              cases hb3
            have s7 := s2.up (g6.trans g7)
            have gw7 := (g6.trans g7) _ _ gw2
            have gga7 := (g6.trans g7) _ _ gga
            refine q_sprPut (ev_var rfl) (ev_var rfl) (ev_var rfl) (ev_var rfl) s7 hhk2 hno hxn (by omega) fun G8 g8 s8 => ?_
            obtain ⟨kvs, hdk, _⟩ := s7.ex
            have nw : w ≠ r := fun z => by rw [z, hdk] at gw7; cases gw7
            have nga : ga ≠ r := fun z => by rw [z, hdk] at gga7; cases gga7
            have gw8 := g8 _ _ nw gw7
            have gga8 := g8 _ _ nga gga7
            refine s_app gw8 (ev_var rfl) (ev_var rfl) (by rw [List.length_map]; have := s7.len; omega) fun G9 g9 => ?_
            have e9 : Ex H G9 := by
              intro b o hb
              by_cases hbr : b = r
              · rw [hbr, hr] at hb
                cases hb
              · exact g9 _ _ (g8 _ _ hbr ((g6.trans g7) _ _ (eG' _ _ hb)))
            refine ⟨_, _, rfl, Ex.mut e9 hwH, ?_, ks2 ++ [x], (s8.up g9).upB (g9 _ _ gw8) ExB.put, ?_, pf.trans (List.prefix_append _ _), fun k hk => ?_, fun g hg => ?_⟩
            · rw [upd_ne (fun z => by rw [z, gw8] at gga8; cases gga8)]
              exact g9 _ _ gga8
            · rw [upd_same, List.map_append]
              rfl
            · rcases List.mem_append.mp hk with z | z
              · exact hr2 k z
              · rw [List.mem_singleton.mp z]
                exact .step (hrch _ hhk) hleave (by rw [hgl]; exact List.mem_of_getElem? hx)
            · rw [htk] at hg
              rcases List.mem_append.mp hg with z | z
              · exact List.mem_append_left _ (hin g z)
              · exact List.mem_append_right _ z
          · have hyes : x ∈ ks2 := by
              have z : (!decide (x ∈ ks2)) = false := hb3
              simpa using z
            rw [htk] at hg
            rcases List.mem_append.mp hg with z | z
            · exact hin g z
            · rw [List.mem_singleton.mp z]
              exact hyes
        · obtain ⟨u8, u9, rfl, eG', gga, ks2, s2, gw2, pf, hr2, hin⟩ := h
          rw [List.take_length] at hin
          have hple := pf.length_le
          refine ⟨_, _, _, _, rfl, eG', ks2, s2, gw2, by omega, pf.subset hpk, hr2, fun j h hj hh hlv g hg => ?_⟩
          by_cases e : j = at0
          · subst e
            have : ks2[j]? = some ks[j] := by
              obtain ⟨t, rfl⟩ := pf
              rw [List.getElem?_append_left hlt, List.getElem?_eq_getElem hlt]
            rw [this] at hh
            obtain rfl := Option.some.inj hh
            rw [hgl] at hg
            exact hin g hg
          · have hj2 : j < at0 := by omega
            have : ks2[j]? = ks[j]? := by
              obtain ⟨t, rfl⟩ := pf
              rw [List.getElem?_append_left (by omega)]
            rw [this] at hh
            exact pf.subset (hcl j h hj2 hh hlv g hg)
      · have hstay : ¬ (nm = none ∨ md ss ks[at0] ≠ nm) := by
          have z := (Bool.or_eq_false_iff).mp hb2
          rintro (y | y)
          · rw [y] at z
            exact Bool.noConfusion z.1
          · rw [hmd] at y
            have z2 : decide (s.made = nm) = true := by simpa using z.2
            exact y (of_decide_eq_true z2)
        have e15 := e14.trans g5
        refine ⟨_, _, _, _, rfl, eG.trans e15, ks, sG.up e15, e15 _ _ gw, by omega, hpk, hrch, fun j h hj hh hlv g hg => ?_⟩
        by_cases e : j = at0
        · subst e
          rw [List.getElem?_eq_getElem hlt] at hh
          obtain rfl := Option.some.inj hh
          exact absurd hlv hstay
        · exact hcl j h (by omega) hh hlv g hg
    · have hge : at0 = ks.length := by
        have := of_decide_eq_false hb
        omega
      refine ⟨_, rfl, q r ks G1 hr (eG.trans g1) (sG.up g1) fun k => ⟨hrch k, fun h => ?_⟩⟩
      induction h with
      | refl => exact hpk
      | step h1 h2 h3 ih =>
        obtain ⟨j, hj, e⟩ := List.getElem_of_mem ih
        exact hcl j _ (by omega) (by rw [List.getElem?_eq_getElem hj, e]) h2 _ h3

end
end FB
set_option Elab.async false
set_option linter.all false
set_option maxRecDepth 100000
set_option maxHeartbeats 4000000
namespace FB
open PySem PySem.Spec PyProof.Rows L2 Evl
open C8 (Cal Mak pe_c pe_mk pe_gc)
section
variable {P : Program} {w : World} {K : PySem.W.Frag} {mg : Str → Option Value} {base : Heap}
def sp_routes_from_first (K : PySem.W.Frag) : Sp := fun vs H Q _ => ∃ (p a d : Addr) (ss : List Stp), vs = [.ref p] ∧ PrF K H p a d ss ∧ ∀ v H', ExB d H H' → PrF K H' p a d ss → RoutesAt H' v ss none 0 → Q v H'
abbrev n_routes_from_first : List Str := ["program"]
theorem sc_routes_from_first : FnScope n_routes_from_first ["program"] (defScope s_routes_from_first) := ⟨rfl, rfl, rfl, by decide +kernel, rfl, by decide +kernel, by decide +kernel⟩
theorem c_routes_from_first (T : Tx K mg) : Cal P w K mg base 3 "routes_from_first" (sp_routes_from_first K) [] := by
  have k_routes_without := c_routes_without (P := P) (w := w) (base := base) T
  refine calOf T 11 rfl rfl sc_routes_from_first (fun _ _ _ _ _ _ us hl => match us, hl with | [_], _ => rfl) (fun vs H Q E h => ?_) (fun cdv A outer s H vs Q E hr h => ?_)
  · obtain ⟨_, _, _, _, rfl, _⟩ := h
    rfl
  · obtain ⟨p, a, d, ss, rfl, hP, q⟩ := h
    refine ⟨_, (pss_cons (ps_if (pt_cmp (pc_dnotin (hu_of hr) pe_str (x_fld (K := K) (pv 0))))
          ((pss_one (ps_dput (hu_of hr) (x_fld (K := K) (pv 0)) pe_str (pe_c k_routes_without hr (by decide) rfl (pa_cons (pv 0) (pa_cons pe_int (pa_cons pe_non pa_nil)))) rfl)))
          (pss_nil))
      (pss_one (ps_ret (pe_dget (hu_of hr) (x_fld (K := K) (pv 0)) pe_str (fun _ _ => rfl))))), ?_⟩
    obtain ⟨kvs, hd, hf⟩ := hP.f
    have hs := hP.s
    have hkl : kvs.length ≤ 3 := by
      have := hf.len
      have b1 := bk_le (valV kvs kRoutes)
      have b2 := bk_le (valV kvs kWays)
      have b3 := bk_le (valV kvs kWanted)
      omega
    refine q_when (et_test (ev_kNo (ev_kf T (ev_var rfl) hs) hd)) (fun hb H1 e1 => ?_) fun hb H1 e1 => ?_
    · have hn : valV kvs kRoutes = none := by
        cases z : valV kvs kRoutes with
        | none => rfl
        | some v =>
          have y : (!(valV kvs (Sum.inr "routes" : Key)).isSome) = true := hb
          rw [show valV kvs (Sum.inr "routes" : Key) = some v from z] at y
          cases y
      refine ⟨_, rfl, p, a, d, ss, 0, none, rfl, hs.up e1, hs.ok.lo, fun r ks H2 hr e2 s2 hks => ?_⟩
      have e12 := e1.trans e2
      have hs2 := hs.up e12
      have hd2 := e12 _ _ hd
      have hf2 := hf.up e12
      have hl4 := hs.ok.hi
      obtain ⟨kr, hkr, hrd⟩ := rtd_of s2 (by omega)
      have nrd : r ≠ d := fun z => by rw [z, e1 _ _ hd] at hr; cases hr
      refine put_fact (ev_kf T (ev_var rfl) hs2) hd2 (by omega) fun H3 e3 => ?_
      have hd3 := e3 _ _ hd2
      have ra : RoutesAt (upd H3 d (.dK (putK kvs kRoutes (.ref r)))) (.ref r) ss none 0 := ⟨r, kr, ks, rfl, by rw [upd_ne nrd]; exact e3 _ _ hkr, (hrd.up e3).upB ExB.put (boxD hd3), hks⟩
      have P4 := PrF.put (k := kRoutes) (v := .ref r) (hs2.up e3) hd3 (hf2.up e3) hn (fun z => nrd (by injection z)) (.inl rfl) (fun _ => ra) (fun z => absurd z nk_rw) (fun z => absurd z nk_rt)
      refine s_ret (ev_kGet (ev_kf T (ev_var rfl) P4.s) upd_same (v := .ref r) (by rw [FB.valV_put hn, if_pos rfl])) fun H4 e4 => ?_
      exact q _ H4 ((((ExB.of e12).trans (ExB.of e3)).trans ExB.put).trans (ExB.of e4)) (P4.up e4) (ra.up e4)
    · have hv : ∃ v, valV kvs kRoutes = some v := by
        cases z : valV kvs kRoutes with
        | none =>
          have y : (!(valV kvs (Sum.inr "routes" : Key)).isSome) = false := hb
          rw [show valV kvs (Sum.inr "routes" : Key) = none from z] at y
          cases y
        | some v => exact ⟨v, rfl⟩
      obtain ⟨v, hv⟩ := hv
      refine s_ret (ev_kGet (ev_kf T (ev_var rfl) (hs.up e1)) (e1 _ _ hd) hv) fun H2 e2 => ?_
      exact q v H2 (ExB.of (e1.trans e2)) (hP.up (e1.trans e2)) ((hf.ro v hv).up (e1.trans e2))

end
end FB
set_option Elab.async false
set_option linter.all false
set_option maxRecDepth 100000
set_option maxHeartbeats 4000000
namespace FB
open PySem PySem.Spec PyProof.Rows L2 Evl
open C8 (Cal Mak pe_c pe_mk pe_gc)
section
variable {P : Program} {w : World} {K : PySem.W.Frag} {mg : Str → Option Value} {base : Heap}
def FlagsAt (H : Hp) (l : Addr) (ss : List Stp) (fl : List Bool) : Prop := H l = some (.lst (fl.map V.bl)) ∧ fl.length = ss.length ∧ ∀ i b, fl[i]? = some b → (b = true ↔ Rch ss none 0 i)
def sp_reached_flags (K : PySem.W.Frag) : Sp := fun vs H Q _ => ∃ (p a d : Addr) (ss : List Stp), vs = [.ref p] ∧ PrF K H p a d ss ∧ ∀ l fl H', ExB d H H' → PrF K H' p a d ss → FlagsAt H' l ss fl → Q (.ref l) H'
abbrev n_reached_flags : List Str := ["program", "routes", "place"]
theorem sc_reached_flags : FnScope n_reached_flags ["program"] (defScope s_reached_flags) := ⟨rfl, rfl, rfl, by decide +kernel, rfl, by decide +kernel, by decide +kernel⟩
theorem c_reached_flags (T : Tx K mg) : Cal P w K mg base 4 "reached_flags" (sp_reached_flags K) [] := by
  have k_routes_from_first := c_routes_from_first (P := P) (w := w) (base := base) T
  refine calOf T 12 rfl rfl sc_reached_flags (fun _ _ _ _ _ _ us hl => match us, hl with | [_], _ => rfl) (fun vs H Q E h => ?_) (fun cdv A outer s H vs Q E hr h => ?_)
  · obtain ⟨_, _, _, _, rfl, _⟩ := h
    rfl
  · obtain ⟨p, a, d, ss, rfl, hP, q⟩ := h
    refine ⟨_, (pss_cons (ps_set (i := 1) sc_reached_flags.nd rfl (.inr rfl) (pe_c k_routes_from_first hr (by decide) rfl (pa_cons (pv 0) pa_nil)))
      (pss_one (ps_ret (pe_lc (g := gName 2) (tt := tYes) (own := [("place", 2)]) rfl sc_reached_flags.nd (pi_range1 rfl T.f_range (pa_cons (pe_callB (xc_len (K := K)) rfl T.f_len (by decide +kernel) (pa_cons (x_fld (K := K) (pv 0)) pa_nil)) pa_nil)) (blkOk_by (own := [("place", 2)]) (N := n_reached_flags) (sc := defScope s_reached_flags) (by decide +kernel)) (fun _ _ _ _ _ => (pg_name (i := 2) sc_reached_flags.nd rfl (.inl rfl))) (fun _ _ _ _ _ => pts_nil) (fun _ _ _ _ _ => (pe_cmp (pc_din (hu_of hr) (pv 2) (pv 1)) rfl)))))), ?_⟩
    refine ⟨_, rfl, p, a, d, ss, rfl, hP, fun v H1 e1 P1 hr => ?_⟩
    obtain ⟨r, kvs, ks, rfl, hrd, hrt, hks⟩ := hr
    have hl4 := P1.s.ok.hi
    have hel := el_lcR1 (σ := [some (.ref p), some (.ref r), none]) (H := H1) (j := 2) (vs := [2]) (n := (ss.length : Int)) (ta := tCons (tCB (rLenS K) (tCons (tFld K (tVar 0) "kept_steps") tNil)) tNil) (t := tYes) (te := tDIn (tVar 2) (tVar 1)) (fun _ => true) (fun i => .bl (decide (i ∈ ks)))
      (ea_cons (ev_ksLen T (ev_var rfl) P1.s) ea_nil) ⟨by omega, by omega⟩ (fun _ => rfl) (fun _ _ _ _ => et_yes) (fun i G g _ _ => ev_dinR (ev_var rfl) (ev_var rfl) (g _ _ hrd) (hrt.up g))
    rw [given_true] at hel
    refine s_retL hel fun l H2 hl e2 h2 => ?_
    refine q l ((List.range ss.length).map fun i => decide (i ∈ ks)) H2 (e1.trans (ExB.of e2)) (P1.up e2) ⟨by rw [h2, List.map_map]; rfl, by rw [List.length_map, List.length_range], fun i b hb => ?_⟩
    rw [List.getElem?_map] at hb
    cases hi : (List.range ss.length)[i]? with
    | none => rw [hi] at hb; cases hb
    | some j =>
      rw [hi] at hb
      have hj : j = i := by
        rw [List.getElem?_range] at hi
        · exact (Option.some.inj hi).symm
        · have := (List.getElem?_eq_some_iff.mp hi).1
          rw [List.length_range] at this
          exact this
      subst hj
      obtain rfl := Option.some.inj hb
      rw [decide_eq_true_iff]
      exact hks j

end
end FB
set_option Elab.async false
set_option linter.all false
set_option maxRecDepth 100000
set_option maxHeartbeats 4000000
namespace FB
open PySem PySem.Spec PyProof.Rows L2 Evl
open C8 (Cal Mak pe_c pe_mk pe_gc)
section
variable {P : Program} {w : World} {K : PySem.W.Frag} {mg : Str → Option Value} {base : Heap}
def sp_is_want_route (K : PySem.W.Frag) : Sp := fun vs H Q _ => ∃ (p a d : Addr) (ss : List Stp) (pl : Nat) (nm : Str) (rt : Addr) (r ps : List Nat) (ql : Nat), vs = [.ref p, vN pl, .str nm, .ref rt] ∧ PrF K H p a d ss ∧ pl < ss.length ∧ Nm nm ∧ H rt = some (.tup (r.map vN)) ∧ Wlk ss pl r ps ql ∧ r.length ≤ 90 ∧ ∀ b H', ExB d H H' → PrF K H' p a d ss → (b = true ↔ (Rch ss none 0 pl ∧ nm ∈ rd ss ql ∧ leavesB ss (ps ++ [ql]) nm = true)) → Q (.bl b) H'
abbrev n_is_want_route : List Str := ["program", "place", "name", "thing", "places"]
theorem sc_is_want_route : FnScope n_is_want_route ["program", "place", "name", "thing"] (defScope s_is_want_route) := ⟨rfl, rfl, rfl, by decide +kernel, rfl, by decide +kernel, by decide +kernel⟩
theorem c_is_want_route (T : Tx K mg) : Cal P w K mg base 5 "is_want_route" (sp_is_want_route K) [] := by
  have k_check_name := c_check_name (P := P) (w := w) (base := base) T
  have k_check_place := c_check_place (P := P) (w := w) (base := base) T
  have k_leaves_none := c_leaves_none (P := P) (w := w) (base := base) T
  have k_places_on := c_places_on (P := P) (w := w) (base := base) T
  have k_reached_flags := c_reached_flags (P := P) (w := w) (base := base) T
  have k_reads_of := c_reads_of (P := P) (w := w) (base := base) T
  refine calOf T 19 rfl rfl sc_is_want_route (fun _ _ _ _ _ _ us hl => match us, hl with | [_, _, _, _], _ => rfl) (fun vs H Q E h => ?_) (fun cdv A outer s H vs Q E hr h => ?_)
  · obtain ⟨_, _, _, _, _, _, _, _, _, _, rfl, _⟩ := h
    rfl
  · obtain ⟨p, a, d, ss, pl, nm, rt, r, ps, ql, rfl, hP, hpl, hnm, hrt, hw, hrl, q⟩ := h
    refine ⟨_, (pss_cons (ps_expr (pe_c k_check_place hr (by decide) rfl (pa_cons (pv 0) (pa_cons (pv 1) pa_nil))))
      (pss_cons (ps_expr (pe_c k_check_name hr (by decide) rfl (pa_cons (pv 2) pa_nil)))
      (pss_cons (ps_set (i := 4) sc_is_want_route.nd rfl (.inl rfl) (pe_c k_places_on hr (by decide) rfl (pa_cons (pv 0) (pa_cons (pv 1) (pa_cons (pv 3) pa_nil)))))
      (pss_cons (ps_if (PW.pt (pw_or (pt_cmpR op_isN1 (pv 4) pe_non (nomark _)) (pw_or (pt_not (pt_val (pe_ix (xi_list (K := K)) (pe_c k_reached_flags hr (by decide) rfl (pa_cons (pv 0) pa_nil)) (pv 1) (fun _ _ => rfl)))) (pw_or1 (pt_cmpR (xo_notIn (K := K)) (pv 2) (pe_c k_reads_of hr (by decide) rfl (pa_cons (pe_ix (xi_tup (K := K)) (x_fld (K := K) (pv 0)) (pe_ix (xi_list (K := K)) (pv 4) (pe_un un_neg pe_int) (fun _ _ => rfl)) (fun _ _ => rfl)) pa_nil)) rfl)))))
          ((pss_one (ps_ret pe_bl)))
          (pss_nil))
      (pss_one (ps_ret (pe_c k_leaves_none hr (by decide) rfl (pa_cons (pv 0) (pa_cons (pv 4) (pa_cons (pv 2) pa_nil)))))))))), ?_⟩
    have ok := hP.s.ok
    have hl4 := ok.hi
    have hwl := hw.len
    have hlt := hw.lt ok hpl
    have hpsn : ∀ x ∈ ps ++ [ql], x < ss.length := fun x hx => by
      rcases List.mem_append.mp hx with z | z
      · exact hlt.2 x z
      · rw [List.mem_singleton.mp z]
        exact hlt.1
    refine q_drop (ev_c2 (ev_var rfl) (ev_var rfl) (v_check_place hP.s hpl)) fun H1 e1 => ?_
    refine q_drop (ev_c1 (ev_var rfl) (v_check_name hnm)) fun H2 e2 => ?_
    have e12 := e1.trans e2
    refine ⟨_, rfl, _, rfl, _, rfl, p, a, d, ss, pl, rt, r, ps, ql, rfl, hP.s.up e12, hpl, e12 _ _ hrt, hw, by omega, fun l H3 e3 hl => ?_⟩
    have e13 := e12.trans e3
    have P3 := hP.up e13
    -- places is no None
    refine ⟨_, rfl, rfl, false, rfl, ?_⟩
    refine iteF ?_
    -- the flags
    refine ⟨_, rfl, p, a, d, ss, rfl, P3, fun fl fls H4 e4 P4 hfl => ?_⟩
    obtain ⟨hfl1, hfl2, hfl3⟩ := hfl
    obtain ⟨bf, hbf⟩ : ∃ bf, fls[pl]? = some bf := ⟨_, List.getElem?_eq_getElem (by rw [hfl2]; exact hpl)⟩
    have hr := hfl3 pl bf hbf
    obtain ⟨k3, hd3, _⟩ := P3.f
    have hl4' := e4 _ _ (fun z => by rw [z, hd3] at hl; cases hl) hl
    have eB := (ExB.of (d := d) e13).trans e4
    refine ⟨_, rfl, fl, _, _, _, rfl, rfl, sq_of hfl1, atI_nat (by rw [List.getElem?_map, hbf]; rfl), bf, rfl, ?_⟩
    cases bf with
    | false =>
      refine iteT ?_
      refine iteT ?_
      exact q false H4 eB P4 ⟨fun z => Bool.noConfusion z, fun z => hr.mpr z.1⟩
    | true =>
      refine iteF ?_
      have hlast : atI ((ps ++ [ql]).map vN) (-1) = some (vN ql) := by
        rw [List.map_append]
        exact atI_last _ _
      obtain ⟨v, s, es, hv, hev⟩ := ev_step (σ := [some (.ref p), some (vN pl), some (.str nm), some (.ref rt), some (.ref l)]) (ta := tFld K (tVar 0) "kept_steps") (tb := tOp (rIxL K) (tVar 4) (tUn (rU fun i => .int (-i)) (tC (.int 1)))) (ev_ks T (ev_var rfl) P4.s) (ev_ixL (ev_var rfl) (ev_neg ev_c) hl4' hlast) P4.s.st hlt.1
      have hrd := rd_of es
      refine et_inP (neg := true) (xs := s.reads.map V.str) (ev_var rfl) (ep_c1 hev (p_reads_of hv)) (fun v H1 e ⟨p, hw, hp⟩ => ⟨p, hw, .inr (st_of hp)⟩) rfl (flat_strs2 _) rfl H4 (Ex.refl H4) _ fun H5 e5 => ?_
      refine ite2 (fun hb => ?_) fun hb => ?_
      · have hno : ¬ nm ∈ rd ss ql := by
          rw [hrd]
          intro z
          have hb' : (!inV (V.str nm) (s.reads.map V.str)) = true := hb
          rw [inV_str, decide_eq_true z] at hb'
          cases hb'
        exact q false H5 (eB.trans (ExB.of e5)) (P4.up e5) ⟨fun z => Bool.noConfusion z, fun z => absurd z.2.1 hno⟩
      · have hyes : nm ∈ rd ss ql := by
          rw [hrd]
          by_cases z : nm ∈ s.reads
          · exact z
          · have hb' : ¬ ((!inV (V.str nm) (s.reads.map V.str)) = true) := hb
            rw [inV_str, decide_eq_false z] at hb'
            exact absurd rfl hb'
        refine s_ret (ev_c3 (ev_var rfl) (ev_var rfl) (ev_var rfl) (v_leaves_none (P4.s.up e5) (e5 _ _ hl4') hpsn (by rw [List.length_append]; show ps.length + 1 ≤ 100; omega))) fun H6 e6 => ?_
        exact q _ H6 (eB.trans (ExB.of (e5.trans e6))) (P4.up (e5.trans e6)) ⟨fun z => ⟨hr.mp rfl, hyes, z⟩, fun z => z.2.2⟩

end
end FB
set_option Elab.async false
set_option linter.all false
set_option maxRecDepth 100000
set_option maxHeartbeats 4000000
namespace FB
open PySem PySem.Spec PyProof.Rows L2 Evl
open C8 (Cal Mak pe_c pe_mk pe_gc)
section
variable {P : Program} {w : World} {K : PySem.W.Frag} {mg : Str → Option Value} {base : Heap}
def sp_reached (K : PySem.W.Frag) : Sp := fun vs H Q _ => ∃ (p a d : Addr) (ss : List Stp), vs = [.ref p] ∧ PrF K H p a d ss ∧ ∀ l (ns : List Nat) H', ExB d H H' → PrF K H' p a d ss → H' l = some (.lst (ns.map vN)) → ns.length ≤ 100 → (∀ k, k ∈ ns ↔ Rch ss none 0 k) → Q (.ref l) H'
abbrev n_reached : List Str := ["program", "flag", "place"]
theorem sc_reached : FnScope n_reached ["program"] (defScope s_reached) := ⟨rfl, rfl, rfl, by decide +kernel, rfl, by decide +kernel, by decide +kernel⟩
theorem c_reached (T : Tx K mg) : Cal P w K mg base 5 "reached" (sp_reached K) [] := by
  have k_reached_flags := c_reached_flags (P := P) (w := w) (base := base) T
  refine calOf T 13 rfl rfl sc_reached (fun _ _ _ _ _ _ us hl => match us, hl with | [_], _ => rfl) (fun vs H Q E h => ?_) (fun cdv A outer s H vs Q E hr h => ?_)
  · obtain ⟨_, _, _, _, rfl, _⟩ := h
    rfl
  · obtain ⟨p, a, d, ss, rfl, hP, q⟩ := h
    refine ⟨_, (pss_one (ps_ret (pe_lc (g := gTup K 2 (gCons (gName 2) (gCons (gName 1) (gNil)))) (tt := _) (own := [("place", 2), ("flag", 1)]) rfl sc_reached.nd (pi_enum rfl T.f_enumerate (pa_cons (pe_c k_reached_flags hr (by decide) rfl (pa_cons (pv 0) pa_nil)) pa_nil)) (blkOk_by (own := [("place", 2), ("flag", 1)]) (N := n_reached) (sc := defScope s_reached) (by decide +kernel)) (fun _ _ _ _ _ => (pg_tup rfl (pgs_cons (pg_name (i := 2) sc_reached.nd rfl (.inl rfl)) (pgs_cons (pg_name (i := 1) sc_reached.nd rfl (.inl rfl)) pgs_nil)))) (fun _ _ _ _ _ => (pts_one (pt_val (pv 1)))) (fun _ _ _ _ _ => (pv 2))))), ?_⟩
    refine go_ret (go_lcE ?_)
    refine ⟨_, rfl, p, a, d, ss, rfl, hP, fun l fl H1 e1 P1 hfl => ?_⟩
    obtain ⟨hl, hlen, hfs⟩ := hfl
    have hl4 := P1.s.ok.hi
    refine el_lcELx (K := K) (a := l) (xs := fl.map V.bl) (fun i => (fl[i]?).getD false) (fun i => vN i) ev_c hl (by rw [List.length_map]; omega) (fun _ _ => rfl) (fun i x G g hx => ?_) (fun i x G g hx _ => ev_var rfl) H1 (Ex.refl H1) _ fun m H2 hm e2 h2 => ?_
    · rw [List.getElem?_map] at hx
      cases hz : fl[i]? with
      | none => rw [hz] at hx; cases hx
      | some b =>
        rw [hz] at hx
        obtain rfl := Option.some.inj hx
        exact et_val (ev_var rfl)
    · refine q m ((List.range fl.length).filter fun i => (fl[i]?).getD false) H2 (e1.trans (ExB.of e2)) (P1.up e2) ?_ ?_ fun k => ?_
      · rw [h2]
        unfold given
        rw [List.length_map]
      · refine Nat.le_trans (List.length_filter_le _ _) ?_
        rw [List.length_range]
        omega
      · rw [List.mem_filter, List.mem_range]
        constructor
        · rintro ⟨h1, h3⟩
          have e := List.getElem?_eq_getElem h1
          rw [e] at h3
          exact (hfs k _ e).mp h3
        · intro h
          have hk : k < fl.length := by
            rw [hlen]
            exact h.lt P1.s.ok P1.s.ok.lo
          have e := List.getElem?_eq_getElem hk
          refine ⟨hk, ?_⟩
          rw [e]
          exact (hfs k _ e).mpr h

end
end FB
set_option Elab.async false
set_option linter.all false
set_option maxRecDepth 100000
set_option maxHeartbeats 4000000
namespace FB
open PySem PySem.Spec PyProof.Rows L2 Evl
open C8 (Cal Mak pe_c pe_mk pe_gc)
section
variable {P : Program} {w : World} {K : PySem.W.Frag} {mg : Str → Option Value} {base : Heap}
theorem TriAt.put {H : Hp} {Dl : Addr} {acc : List V} {o : HO} (hD : H Dl = some (.lst acc)) {v : V} {w : Nat × Nat × Nat} (h : TriAt H v w) : TriAt (upd H Dl o) v w := TriAt.upB ExB.put (boxL hD) h
/-- a comprehension over enumerate of a new tuple of numbers -/
theorem er_lcETP {σ : Sg} {H : Hp} {tl te : TE} {t : TT} {i1 i2 : Nat} {ns : List Nat} {vs : List Nat} (R : Nat → List V → Hp → Prop) (Pi : Nat → V → Hp → Prop) (h : EP tl σ H fun v G => TupI G v ns) (hz : ns.length ≤ 40000) (hw : ∀ x y, wipe (((wipe σ vs).set i1 x).set i2 y) vs = wipe σ vs)
    (hE : ∀ i acc H1 H2, Ex H1 H2 → R i acc H1 → R i acc H2) (hB : ∀ Dl i acc y H1, H1 Dl = some (.lst acc) → R i (acc ++ [y]) H1 → R i (acc ++ [y]) (upd H1 Dl (.lst (acc ++ [y])))) (h0 : ∀ H1, Ex H H1 → R 0 [] H1)
    (ht : ∀ (i x : Nat) H1, Ex H H1 → ns[i]? = some x → EvT t (((wipe σ vs).set i1 (some (vN i))).set i2 (some (vN x))) H1 true) (he : ∀ (i x : Nat) H1, Ex H H1 → ns[i]? = some x → EP te (((wipe σ vs).set i1 (some (vN i))).set i2 (some (vN x))) H1 (Pi i))
    (hy : ∀ i acc y H1, i < ns.length → R i acc H1 → Pi i y H1 → R (i + 1) (acc ++ [y]) H1) :
    EvR (tLc (iEnumT K (tCons tl tNil)) (gTup K 2 (gCons (gName i1) (gCons (gName i2) gNil))) t te vs) σ H (R ns.length) := fun H0 e Q q => h H0 e _ fun w H1 e1 pw => by
  obtain ⟨a, rfl, ha⟩ := pw
  refine ⟨a, ns.map vN, rfl, st_of ha, fun Dl hD => lc_it walkEnumT (Cp H1 R Dl) ⟨hD, Ex.new hD, [], Nat.le_refl _, upd_same, h0 _ ((e.trans e1).trans (Ex.new hD))⟩ (fun i H' _ p => ex_t p.2.1 (st_of ha)) (fun i v G G' hi p y => ?_) fun H' p => ?_⟩
  · obtain ⟨T, x, y', rfl, hT, rfl, h1, h2⟩ := y
    obtain rfl : V.int (i : Nat) = x := Option.some.inj h1
    replace h2 : (ns.map vN)[i]? = some y' := h2
    rw [List.length_map] at hi
    rw [List.getElem?_map] at h2
    cases hz2 : ns[i]? with
    | none => rw [hz2] at h2; cases h2
    | some k =>
      rw [hz2] at h2
      obtain rfl := Option.some.inj h2
      have p' : Cp H1 R Dl i (upd G T (.tup [.int (i : Nat), vN k])) := by
        obtain ⟨p1, p2, acc, p3, p4, p5⟩ := p
        exact ⟨p1, p2.trans (Ex.new hT), acc, p3, Ex.new hT _ _ p4, hE _ _ _ _ (Ex.new hT) p5⟩
      exact ⟨T, [.int (i : Nat), vN k], rfl, st_of upd_same, rfl, .int (i : Nat), [vN k], rfl, vN k, [], rfl, rfl, hw _ _, cp_turn2 (P := Pi i) p' hE (hB Dl) (by omega) (ht i k H1 (e.trans e1) hz2) (he i k H1 (e.trans e1) hz2) (fun acc y G hr hp => hy i acc y G hi hr hp)⟩
  · obtain ⟨p1, p2, acc, p3, p4, p5⟩ := p
    rw [List.length_map] at p5
    exact q Dl acc H' (fresh_back e1 p1) (e1.trans p2) p4 p5
theorem s_extR {σ : Sg} {H : Hp} {ta te : TE} {D : Ends} {l : Addr} {xs : List V} {R : List V → Hp → Prop} (hl : H l = some (.lst xs)) (ha : Ev ta σ H (.ref l)) (h : EvR te σ H R) (hz : ∀ ys G, R ys G → xs.length + ys.length ≤ 100000) (k : ∀ ys H1, Ex H H1 → R ys H1 → D.nx σ (upd H1 l (.lst (xs ++ ys)))) :
    tDrop (tBM K "list" rExtend ta (tCons te tNil)) D σ H := ha H (Ex.refl H) _ fun H1 e1 =>
  ⟨Or.inl ⟨rfl, xs, sq_of (e1 l _ hl)⟩, h H1 e1 _ fun p ys H2 hp e2 h2 r => ⟨l, p, xs, ys, rfl, rfl, e2 l _ (e1 l _ hl), h2, sz_of (hz ys H2 r), k ys H2 (e1.trans e2) r⟩⟩
/-- new facts are new objects -/
def Fre (d : Addr) (H H' : Hp) : Prop := ∀ kvs', H' d = some (.dK kvs') → ∀ k v, valV kvs' k = some v → (∃ kvs, H d = some (.dK kvs) ∧ valV kvs k = some v) ∨ ∃ b, v = V.ref b ∧ H b = none
theorem Fre.same {d : Addr} {H H' : Hp} (h : H' d = H d) : Fre d H H' := fun kvs' e k v m => .inl ⟨kvs', by rw [← h]; exact e, m⟩
theorem Fre.trans {d : Addr} {H H1 H2 : Hp} {kvs1 : List (Key × V)} (e : ExB d H H1) (hd : H1 d = some (.dK kvs1)) (a : Fre d H H1) (b : Fre d H1 H2) : Fre d H H2 := fun kvs' h k v m => by
  rcases b kvs' h k v m with ⟨k1, h1, m1⟩ | ⟨c, h1, h2⟩
  · exact a k1 h1 k v m1
  · refine .inr ⟨c, h1, ?_⟩
    cases z : H c with
    | none => rfl
    | some o =>
      by_cases hc : c = d
      · rw [hc, hd] at h2
        cases h2
      · rw [e c o hc z] at h2
        cases h2
structure ExF (d : Addr) (H G : Hp) : Prop where
  e : ExB d H G
  f : Fre d H G
theorem ExF.of {K : PySem.W.Frag} {H G : Hp} {p a d : Addr} {ss : List Stp} (P : PrF K H p a d ss) (e : Ex H G) : ExF d H G := by
  obtain ⟨kvs, hd, _⟩ := P.f
  exact ⟨ExB.of e, Fre.same (by rw [hd, e _ _ hd])⟩
theorem ExF.trans {K : PySem.W.Frag} {H G G' : Hp} {p a d : Addr} {ss : List Stp} (h : ExF d H G) (P : PrF K G p a d ss) (k : ExF d G G') : ExF d H G' := by
  obtain ⟨kvs, hd, _⟩ := P.f
  exact ⟨h.e.trans k.e, Fre.trans h.e hd h.f k.f⟩
theorem ExF.up {K : PySem.W.Frag} {H G G' : Hp} {p a d : Addr} {ss : List Stp} (h : ExF d H G) (P : PrF K G p a d ss) (e : Ex G G') : ExF d H G' := h.trans P (ExF.of P e)
def sp_ways_of (K : PySem.W.Frag) : Sp := fun vs H Q _ => ∃ (p a d : Addr) (ss : List Stp), vs = [.ref p] ∧ PrF K H p a d ss ∧ ∀ v H', ExF d H H' → PrF K H' p a d ss → WaysAt H' v ss → Q v H'
abbrev n_ways_of : List Str := ["program", "found", "place", "step", "number", "there"]
theorem sc_ways_of : FnScope n_ways_of ["program"] (defScope s_ways_of) := ⟨rfl, rfl, rfl, by decide +kernel, rfl, by decide +kernel, by decide +kernel⟩
theorem c_ways_of (T : Tx K mg) : Cal P w K mg base 2 "ways_of" (sp_ways_of K) [] := by
  have k_goals_of := c_goals_of (P := P) (w := w) (base := base) T
  refine calOf T 8 rfl rfl sc_ways_of (fun _ _ _ _ _ _ us hl => match us, hl with | [_], _ => rfl) (fun vs H Q E h => ?_) (fun cdv A outer s H vs Q E hr h => ?_)
  · obtain ⟨_, _, _, _, rfl, _⟩ := h
    rfl
  · obtain ⟨p, a, d, ss, rfl, hP, q⟩ := h
    refine ⟨_, (pss_cons (ps_if (pt_cmp (pc_dnotin (hu_of hr) pe_str (x_fld (K := K) (pv 0))))
          ((pss_cons (ps_set (i := 1) sc_ways_of.nd rfl (.inl rfl) (pe_lst pa_nil))
          (pss_cons (ps_for PassesOwn.never rfl (pi_enumT rfl T.f_enumerate (pa_cons (x_fld (K := K) (pv 0)) pa_nil)) (pg_tup rfl (pgs_cons (pg_name (i := 2) sc_ways_of.nd rfl (.inr rfl)) (pgs_cons (pg_name (i := 3) sc_ways_of.nd rfl (.inl rfl)) pgs_nil)))
              ((pss_one (ps_expr (pe_bm PySem.F.plainAttrs_list PySem.F.slot_list_extend PySem.F.type_list_extend mt_extend (pv 1) (pa_cons (pe_lc (g := gTup K 2 (gCons (gName 4) (gCons (gName 5) (gNil)))) (tt := tYes) (own := [("number", 4), ("there", 5)]) rfl sc_ways_of.nd (pi_enumT rfl T.f_enumerate (pa_cons (pe_c k_goals_of hr (by decide) rfl (pa_cons (pv 3) pa_nil)) pa_nil)) (blkOk_by (own := [("number", 4), ("there", 5)]) (N := n_ways_of) (sc := defScope s_ways_of) (by decide +kernel)) (fun _ _ _ _ _ => (pg_tup rfl (pgs_cons (pg_name (i := 4) sc_ways_of.nd rfl (.inl rfl)) (pgs_cons (pg_name (i := 5) sc_ways_of.nd rfl (.inl rfl)) pgs_nil)))) (fun _ _ _ _ _ => pts_nil) (fun _ _ _ _ _ => (pe_tup (pa_cons (pv 2) (pa_cons (pv 4) (pa_cons (pv 5) pa_nil)))))) pa_nil))))))
          (pss_one (ps_dput (hu_of hr) (x_fld (K := K) (pv 0)) pe_str (pv 1) rfl)))))
          (pss_nil))
      (pss_one (ps_ret (pe_dget (hu_of hr) (x_fld (K := K) (pv 0)) pe_str (fun _ _ => rfl))))), ?_⟩
    obtain ⟨kvs, hd, hf⟩ := hP.f
    have hs := hP.s
    have ok := hs.ok
    have hl4 := ok.hi
    have hkl : kvs.length ≤ 3 := by
      have := hf.len
      have b1 := bk_le (valV kvs kRoutes)
      have b2 := bk_le (valV kvs kWays)
      have b3 := bk_le (valV kvs kWanted)
      omega
    refine q_when (et_test (ev_kNo (ev_kf T (ev_var rfl) hs) hd)) (fun hb H1 e1 => ?_) fun hb H1 e1 => ?_
    · have hn : valV kvs kWays = none := by
        cases z : valV kvs kWays with
        | none => rfl
        | some v =>
          have y : (!(valV kvs (Sum.inr "ways" : Key)).isSome) = true := hb
          rw [show valV kvs (Sum.inr "ways" : Key) = some v from z] at y
          cases y
      refine q_asgL (el_lst ea_nil (by simp)) fun l H2 hl e2 l2 => ?_
      have e12 := e1.trans e2
      have hlH : H l = none := fresh_back e1 hl
      obtain ⟨vs, hv, hpr⟩ := id hs.st
      have hvl := hpr.length
      have nld : l ≠ d := fun z => by rw [z, e1 _ _ hd] at hl; cases hl
      refine q_forET (ev_ks T (ev_var rfl) (hs.up e12)) (st_of (e12 _ _ hv)) (fun i σ' G => ∃ u2 u3 u4 u5, σ' = [some (.ref p), some (.ref l), u2, u3, u4, u5] ∧ Ex H G ∧ ∃ (us : List V) (ws : List (Nat × Nat × Nat)), G l = some (.lst us) ∧ Paired (TriAt G) us ws ∧ (∀ w ∈ ws, w.2.2 ∈ gl ss w.1) ∧ (∀ p' q', p' < i → q' ∈ gl ss p' → ∃ k, (p', k, q') ∈ ws) ∧ ws.length ≤ 3 * i)
        (fun G e => ⟨none, none, none, none, rfl, e12.trans e, [], [], e _ _ l2, .nil, fun w hw => (by cases hw), fun p' q' h => absurd h (Nat.not_lt_zero _), Nat.le_refl _⟩) (fun i σ' G _ h => ?_) (fun i x σ' G G2 hi h g2 => ?_) fun σ' G h => ?_
      · obtain ⟨_, _, _, _, _, eG, _⟩ := h
        exact st_of (eG _ _ hv)
      · obtain ⟨u2, u3, u4, u5, rfl, eG, us, ws, gl1, pw, sw, fw, lw⟩ := h
        obtain ⟨s, es, hx⟩ := prd_get' hpr hi
        have hgl := gl_of es
        have hg3 := (ok.at es).goals_len
        have hin := (List.getElem?_eq_some_iff.mp es).1
        have pl := pw.length
        refine s_extR (R := fun ys G => ∃ yw, Paired (TriAt G) ys yw ∧ yw.length ≤ s.goals.length ∧ (∀ w ∈ yw, w.1 = i ∧ w.2.2 ∈ s.goals) ∧ ∀ j q', j < s.goals.length → s.goals[j]? = some q' → (i, j, q') ∈ yw) (g2 _ _ gl1) (ev_var rfl) (er_lcETP (ns := s.goals) (fun j ys G => ∃ yw, Paired (TriAt G) ys yw ∧ yw.length ≤ j ∧ (∀ w ∈ yw, w.1 = i ∧ w.2.2 ∈ s.goals) ∧ ∀ j' q', j' < j → s.goals[j']? = some q' → (i, j', q') ∈ yw)
            (fun j v G => ∃ q', s.goals[j]? = some q' ∧ TriAt G v (i, j, q')) (ep_c1 (ev_var rfl) (p_goals_of ((hx.up eG).up g2))) (by omega) (fun _ _ => rfl) ?_ ?_ ?_ (fun _ _ _ _ _ => et_yes) ?_ ?_) ?_ fun ys G3 g3 hR => ?_
        · rintro j acc G5 G6 z ⟨yw, a1, a2⟩
          exact ⟨yw, prd_imp (fun _ _ => TriAt.up z) a1, a2⟩
        · rintro Dl j acc y G5 hD ⟨yw, a1, a2⟩
          exact ⟨yw, prd_imp (fun _ _ => TriAt.put hD) a1, a2⟩
        · exact fun G5 _ => ⟨[], .nil, Nat.le_refl _, fun w hw => (by cases hw), fun j' q' h => absurd h (Nat.not_lt_zero _)⟩
        · intro j x2 G5 g5 hj
          exact EP.imp (ep_U (eu_tup (ea_cons (ev_var rfl) (ea_cons (ev_var rfl) (ea_cons (ev_var rfl) ea_nil))) (by simp))) fun v G6 _ ⟨t, h1, h2⟩ => ⟨x2, hj, t, h1, h2⟩
        · rintro j acc y G5 hj ⟨yw, a1, a2, a3, a4⟩ ⟨q', b1, b2⟩
          refine ⟨yw ++ [(i, j, q')], prd_app a1 (.cons b2 .nil), by rw [List.length_append]; show yw.length + 1 ≤ j + 1; omega, fun w hw => ?_, fun j' q2 hj' hq2 => ?_⟩
          · rcases List.mem_append.mp hw with z | z
            · exact a3 w z
            · rw [List.mem_singleton.mp z]
              exact ⟨rfl, List.mem_of_getElem? b1⟩
          · by_cases e : j' = j
            · subst e
              rw [b1] at hq2
              rw [Option.some.inj hq2]
              exact List.mem_append_right _ (List.mem_singleton.mpr rfl)
            · exact List.mem_append_left _ (a4 j' q2 (by omega) hq2)
        · rintro ys G5 ⟨yw, a1, a2, _⟩
          have z1 := a1.length
          omega
        · obtain ⟨yw, a1, a2, a3, a4⟩ := hR
          have gl3 := (g2.trans g3) _ _ gl1
          refine ⟨_, _, _, _, rfl, Ex.mut ((eG.trans g2).trans g3) hlH, us ++ ys, ws ++ yw, upd_same, prd_app (prd_imp (fun _ _ h => TriAt.put gl3 (TriAt.up (g2.trans g3) h)) pw) (prd_imp (fun _ _ => TriAt.put gl3) a1), fun w hw => ?_, fun p' q' hp' hq' => ?_, ?_⟩
          · rcases List.mem_append.mp hw with z | z
            · exact sw w z
            · obtain ⟨b1, b2⟩ := a3 w z
              rw [b1, hgl]
              exact b2
          · by_cases e : p' = i
            · subst e
              rw [hgl] at hq'
              obtain ⟨k, hk, e2⟩ := List.getElem_of_mem hq'
              exact ⟨k, List.mem_append_right _ (a4 k q' hk (by rw [List.getElem?_eq_getElem hk, e2]))⟩
            · obtain ⟨k, hk⟩ := fw p' q' (by omega) hq'
              exact ⟨k, List.mem_append_left _ hk⟩
          · rw [List.length_append]
            omega
      · obtain ⟨u2, u3, u4, u5, rfl, eG, us, ws, gl1, pw, sw, fw, lw⟩ := h
        have wok : WaysOk ss ws := ⟨sw, fun p' q' h => fw p' q' (by have := gl_in h; omega) h, by omega⟩
        refine ⟨_, rfl, ?_⟩
        have hsG := hs.up eG
        have hdG := eG _ _ hd
        refine put_fact (ev_kf T (ev_var rfl) hsG) hdG (by omega) fun H3 e3 => ?_
        have hd3 := e3 _ _ hdG
        have wa : WaysAt (upd H3 d (.dK (putK kvs kWays (.ref l)))) (.ref l) ss := ⟨l, us, ws, rfl, by rw [upd_ne nld]; exact e3 _ _ gl1, prd_imp (fun _ _ h => TriAt.upB ExB.put (boxD hd3) (TriAt.up e3 h)) pw, wok⟩
        have P4 := PrF.put (k := kWays) (v := .ref l) (hsG.up e3) hd3 ((hf.up eG).up e3) hn (fun z => nld (by injection z)) (.inr (.inl rfl)) (fun z => absurd z nk_wr) (fun _ => wa) (fun z => absurd z nk_wt)
        refine s_ret (ev_kGet (ev_kf T (ev_var rfl) P4.s) upd_same (v := .ref l) (by rw [FB.valV_put hn, if_pos rfl])) fun H4 e4 => ?_
        have hd4 := e4 _ _ (upd_same (H := H3) (a := d) (o := .dK (putK kvs kWays (.ref l))))
        refine q _ H4 ⟨(((ExB.of eG).trans (ExB.of e3)).trans ExB.put).trans (ExB.of e4), fun kvs' h k v m => ?_⟩ (P4.up e4) (wa.up e4)
        rw [hd4] at h
        have hk : putK kvs kWays (.ref l) = kvs' := by injection h with h; injection h
        rw [← hk] at m
        rw [FB.valV_put hn] at m
        by_cases e : k = kWays
        · rw [if_pos e] at m
          exact .inr ⟨l, (Option.some.inj m).symm, hlH⟩
        · rw [if_neg e] at m
          exact .inl ⟨kvs, hd, m⟩
    · have hv : ∃ v, valV kvs kWays = some v := by
        cases z : valV kvs kWays with
        | none =>
          have y : (!(valV kvs (Sum.inr "ways" : Key)).isSome) = false := hb
          rw [show valV kvs (Sum.inr "ways" : Key) = none from z] at y
          cases y
        | some v => exact ⟨v, rfl⟩
      obtain ⟨v, hv⟩ := hv
      refine s_ret (ev_kGet (ev_kf T (ev_var rfl) (hs.up e1)) (e1 _ _ hd) hv) fun H2 e2 => ?_
      exact q v H2 (ExF.of hP (e1.trans e2)) (hP.up (e1.trans e2)) ((hf.wa v hv).up (e1.trans e2))

end
end FB
set_option Elab.async false
set_option linter.all false
set_option maxRecDepth 100000
set_option maxHeartbeats 4000000
namespace FB
open PySem PySem.Spec PyProof.Rows L2 Evl
open C8 (Cal Mak pe_c pe_mk pe_gc)
section
variable {P : Program} {w : World} {K : PySem.W.Frag} {mg : Str → Option Value} {base : Heap}
/-- a comprehension over a tuple whose items are new lists of texts -/
theorem lc_lists {σ : Sg} {H : Hp} {tl te : TE} {j : Nat} {vs : List Nat} {a : Addr} {xs : List V} {Q : VK} (ys : List (List Str)) (h : Ev tl σ H (.ref a)) (hx : H a = some (.tup xs)) (hl : xs.length = ys.length) (hz : xs.length ≤ 40000) (hw : ∀ x, wipe ((wipe σ vs).set j (some x)) vs = wipe σ vs)
    (he : ∀ (i : Nat) (x : V) (z : List Str) H1, Ex H H1 → xs[i]? = some x → ys[i]? = some z → EvL te ((wipe σ vs).set j (some x)) H1 (z.map V.str))
    (q : ∀ D ls H2, H D = none → Ex H H2 → ls.Nodup → ¬ D ∈ ls → (∀ b ∈ ls, H b = none) → FndI D ls H2 ys → Q (.ref D) H2) : tLc (iTup K tl) (gName j) tYes te vs σ H Q := by
  refine h H (Ex.refl H) _ fun H1 e1 => ⟨a, rfl, ⟨xs, st_of (e1 _ _ hx)⟩, fun Dl hD => ?_⟩
  refine lc_tup (xs := xs) (fun i G => Ex H1 G ∧ ∃ ls : List Addr, ls.length = i ∧ ls.Nodup ∧ ¬ Dl ∈ ls ∧ (∀ b ∈ ls, H1 b = none) ∧ G Dl = some (.lst (ls.map V.ref)) ∧ ∀ (k : Nat) (b : Addr) (z : List Str), ls[k]? = some b → ys[k]? = some z → G b = some (.lst (z.map V.str)))
    ⟨Ex.new hD, [], rfl, List.nodup_nil, List.not_mem_nil, fun b hb => (by cases hb), upd_same, fun k b z hk => (by cases hk)⟩ (fun i G _ p => st_of (p.1 _ _ (e1 _ _ hx))) (fun i x G hi p => ?_) fun G p => ?_
  · obtain ⟨eG, ls, l1, l2, l3, l4, l5, l6⟩ := p
    have hil := (List.getElem?_eq_some_iff.mp hi).1
    have hy : ys[i]? = some ys[i] := List.getElem?_eq_getElem (by omega)
    refine ⟨hw x, y_go (he i x _ G (e1.trans eG) hi hy G (Ex.refl G) _ fun p G2 hp g2 hp2 => ?_)⟩
    have npD : p ≠ Dl := fun z => by rw [z, l5] at hp; cases hp
    have npl : ¬ p ∈ ls := fun m => by
      obtain ⟨k, hk, e⟩ := List.getElem_of_mem m
      have := l6 k p ys[k] (by rw [List.getElem?_eq_getElem hk, e]) (List.getElem?_eq_getElem (by omega))
      rw [this] at hp
      cases hp
    refine ⟨ls.map V.ref, g2 _ _ l5, sz_lt (by rw [List.length_map]; omega), Ex.mut (eG.trans g2) hD, ls ++ [p], by rw [List.length_append, l1]; rfl, ?_, ?_, ?_, ?_, ?_⟩
    · exact List.nodup_append.mpr ⟨l2, List.nodup_cons.mpr ⟨List.not_mem_nil, List.nodup_nil⟩, fun a ha b hb z => npl (by rw [← List.mem_singleton.mp hb, ← z]; exact ha)⟩
    · intro m
      rcases List.mem_append.mp m with z | z
      · exact l3 z
      · exact npD (List.mem_singleton.mp z).symm
    · intro b m
      rcases List.mem_append.mp m with z | z
      · exact l4 b z
      · rw [List.mem_singleton.mp z]
        exact fresh_back eG hp
    · rw [upd_same, List.map_append]
      rfl
    · intro k b z hk hz2
      by_cases e : k < ls.length
      · rw [List.getElem?_append_left e] at hk
        rw [upd_ne (fun y => l3 (by rw [← y]; exact List.mem_of_getElem? hk))]
        exact g2 _ _ (l6 k b z hk hz2)
      · rw [List.getElem?_append_right (by omega)] at hk
        have hk0 : k - ls.length = 0 := by
          have := (List.getElem?_eq_some_iff.mp hk).1
          have : k - ls.length < 1 := this
          omega
        rw [hk0] at hk
        obtain rfl := Option.some.inj hk
        have ki : k = i := by omega
        subst ki
        rw [hy] at hz2
        obtain rfl := Option.some.inj hz2
        rw [upd_ne npD]
        exact hp2
  · obtain ⟨eG, ls, l1, l2, l3, l4, l5, l6⟩ := p
    exact q Dl ls G (fresh_back e1 hD) (e1.trans eG) l2 l3 (fun b hb => fresh_back e1 (l4 b hb)) ⟨l5, by omega, l6⟩
theorem ne_opt (m : Option Str) (nm : Str) : (!decide (V.str nm = optV m)) = !decide (m = some nm) := by
  rw [← opt_ne]
  congr 1
  exact decide_eq_decide.mpr eq_comm
theorem scal_opt (m : Option Str) (nm : Str) : scal (.str nm) (optV m) = true := by
  cases m <;> rfl
def sp_wants_all (K : PySem.W.Frag) : Sp := fun vs H Q _ => ∃ (p a d : Addr) (ss : List Stp), vs = [.ref p] ∧ PrF K H p a d ss ∧ ∀ f ls F H', ExF d H H' → PrF K H' p a d ss → FndI f ls H' F → H f = none → (∀ b ∈ ls, H b = none) → F.length = ss.length → (∀ (k : Nat) (xs : List Str), F[k]? = some xs → xs.length ≤ 12 ∧ ∀ x, x ∈ xs ↔ Wnt ss x k) → Q (.ref f) H'
abbrev n_wants_all : List Str := ["program", "found", "changed", "place", "number", "there", "made", "name", "step"]
theorem sc_wants_all : FnScope n_wants_all ["program"] (defScope s_wants_all) := ⟨rfl, rfl, rfl, by decide +kernel, rfl, by decide +kernel, by decide +kernel⟩
theorem c_wants_all (T : Tx K mg) : Cal P w K mg base 3 "wants_all" (sp_wants_all K) [] := by
  have k_made_by := c_made_by (P := P) (w := w) (base := base) T
  have k_reads_of := c_reads_of (P := P) (w := w) (base := base) T
  have k_ways_of := c_ways_of (P := P) (w := w) (base := base) T
  refine calOf T 15 rfl rfl sc_wants_all (fun _ _ _ _ _ _ us hl => match us, hl with | [_], _ => rfl) (fun vs H Q E h => ?_) (fun cdv A outer s H vs Q E hr h => ?_)
  · obtain ⟨_, _, _, _, rfl, _⟩ := h
    rfl
  · obtain ⟨p, a, d, ss, rfl, hP, q⟩ := h
    refine ⟨_, (pss_cons (ps_setLc (i := 1) (g := gName 8) (tt := tYes) (own := [("step", 8)]) rfl sc_wants_all.nd rfl rfl (sw_true rfl rfl rfl (by decide +kernel)) (x_tup (K := K) (x_fld (K := K) (pv 0))) (blkOk_by (own := [("step", 8)]) (N := n_wants_all) (sc := defScope s_wants_all) (by decide +kernel)) (fun _ _ _ _ _ => (pg_name (i := 8) sc_wants_all.nd rfl (.inl rfl))) (fun _ _ _ _ _ => pts_nil) (fun _ _ _ _ _ => (pe_callTy (xc_list (K := K)) rfl T.f_list (by decide +kernel) (pa_cons (pe_c k_reads_of hr (by decide) rfl (pa_cons (pv 8) pa_nil)) pa_nil))))
      (pss_cons (ps_set (i := 2) sc_wants_all.nd rfl (.inl rfl) pe_bl)
      (pss_cons (ps_while PassesOwn.never (pt_val (pv 2))
          ((pss_cons (ps_set (i := 2) sc_wants_all.nd rfl (.inl rfl) pe_bl)
          (pss_one (ps_for PassesOwn.never rfl (x_list (K := K) (pe_c k_ways_of hr (by decide) rfl (pa_cons (pv 0) pa_nil))) (pg_tup rfl (pgs_cons (pg_name (i := 3) sc_wants_all.nd rfl (.inl rfl)) (pgs_cons (pg_name (i := 4) sc_wants_all.nd rfl (.inl rfl)) (pgs_cons (pg_name (i := 5) sc_wants_all.nd rfl (.inl rfl)) pgs_nil))))
              ((pss_cons (ps_set (i := 6) sc_wants_all.nd rfl (.inl rfl) (pe_c k_made_by hr (by decide) rfl (pa_cons (pe_ix (xi_tup (K := K)) (x_fld (K := K) (pv 0)) (pv 3) (fun _ _ => rfl)) pa_nil)))
              (pss_one (ps_for PassesOwn.never rfl (x_list (K := K) (pe_ix (xi_list (K := K)) (pv 1) (pv 5) (fun _ _ => rfl))) (pg_name (i := 7) sc_wants_all.nd rfl (.inl rfl))
                  ((pss_one (ps_if (PW.pt (pw_and (pt_cmpR op_ne (pv 7) (pv 6) (nomark _)) (pw_and1 (pt_cmpR (xo_notIn (K := K)) (pv 7) (pe_ix (xi_list (K := K)) (pv 1) (pv 3) (fun _ _ => rfl)) rfl))))
                      ((pss_cons (ps_expr (pe_bm PySem.F.plainAttrs_list PySem.F.slot_list_append PySem.F.type_list_append mt_append (pe_ix (xi_list (K := K)) (pv 1) (pv 3) (fun _ _ => rfl)) (pa_cons (pv 7) pa_nil)))
                      (pss_one (ps_set (i := 2) sc_wants_all.nd rfl (.inl rfl) pe_bl))))
                      (pss_nil)))))))))))))
      (pss_one (ps_ret (pv 1)))))), ?_⟩
    have hs := hP.s
    have ok := hs.ok
    have hl4 := ok.hi
    obtain ⟨vs, hv, hpr⟩ := id hs.st
    have hvl := hpr.length
    obtain ⟨kvs0, hd0, _⟩ := hP.f
    refine go_qasg ?_
    refine lc_lists (a := a) (xs := vs) (ss.map Stp.reads) (ev_ks T (ev_var rfl) hs) hv (by rw [List.length_map]; exact hvl) (by omega) (fun _ => rfl) (fun i x z G g hi hz => ?_) fun f ls H1 hf e1 nd nf hls i1 => ?_
    · obtain ⟨s, es, hx⟩ := prd_get' hpr hi
      rw [List.getElem?_map, es] at hz
      obtain rfl := Option.some.inj hz
      exact el_listP (ep_c1 (ev_var rfl) (p_reads_of (hx.up g))) fun v G2 _ ⟨b, h1, h2⟩ => ⟨b, h1, .inr (st_of h2)⟩
    refine q_asg ev_c fun H2 e2 => ?_
    have e12 := e1.trans e2
    have hll : ls.length = ss.length := by rw [i1.len, List.length_map]
    have nld : ∀ b ∈ ls, b ≠ d := fun b hb z => by
      have := hls b hb
      rw [z, hd0] at this
      cases this
    have nfd : f ≠ d := fun z => by rw [z, hd0] at hf; cases hf
    refine q_while (fun m σ' G => ∃ (ch : Bool) (u3 u4 u5 u6 u7 : Option V) (F : List (List Str)), σ' = [some (.ref p), some (.ref f), some (.bl ch), u3, u4, u5, u6, u7, none] ∧ ExF d H G ∧ PrF K G p a d ss ∧ FndI f ls G F ∧ Snd ss F ∧ (ch = false → Cls ss F) ∧ m = mu (allRd ss) F + (if ch then 1 else 0)) (mu (allRd ss) (ss.map Stp.reads) + 1)
      ⟨true, none, none, none, none, none, _, rfl, ExF.of hP e12, hP.up e12, i1.up e2, Snd.init ok, fun z => Bool.noConfusion z, rfl⟩ fun m σ' G h => ?_
    obtain ⟨ch, u3, u4, u5, u6, u7, F, rfl, eG, PG, iG, sF, cF, rfl⟩ := h
    refine ⟨ch, et_val (ev_var rfl), fun hb G1 g1 => ?_, fun hb G1 g1 => ?_⟩
    · subst hb
      refine ⟨_, fun σ2 G2 h => h, ?_⟩
      refine q_asg ev_c fun G2 g2 => ?_
      have g12 := g1.trans g2
      refine go_forS ?_
      refine ⟨_, rfl, p, a, d, ss, rfl, PG.up g12, fun wv G3 g3 P3 hw => ?_⟩
      obtain ⟨wl, wvs, ws, rfl, hwl, hwp, hwo⟩ := hw
      obtain ⟨kvs2, hd2, _⟩ := (PG.up g12).f
      have i3 : FndI f ls G3 F := (iG.up g12).upB hd2 g3.e
      have hwvl := hwp.length
      refine s_forL (ev_c) (sq_of hwl) (fun i σ' G' => ∃ (b : Bool) (u3 u4 u5 u6 u7 : Option V) (F' : List (List Str)), σ' = [some (.ref p), some (.ref f), some (.bl b), u3, u4, u5, u6, u7, none] ∧ ExF d H G' ∧ PrF K G' p a d ss ∧ FndI f ls G' F' ∧ Snd ss F' ∧ mu (allRd ss) F' ≤ mu (allRd ss) F ∧ (b = true → mu (allRd ss) F' < mu (allRd ss) F) ∧ (b = false → F' = F ∧ ∀ (i' : Nat) (w : Nat × Nat × Nat), i' < i → ws[i']? = some w → ∀ (xp xq : List Str), F[w.1]? = some xp → F[w.2.2]? = some xq → ∀ x ∈ xq, md ss w.1 ≠ some x → x ∈ xp) ∧ G' wl = some (.lst wvs) ∧ Paired (TriAt G') wvs ws)
        (fun G' e => ⟨false, u3, u4, u5, u6, u7, F, rfl, ((eG.up PG g12).trans (PG.up g12) g3).up P3 e, P3.up e, i3.up e, sF, Nat.le_refl _, fun z => Bool.noConfusion z, fun _ => ⟨rfl, fun i' w h => absurd h (Nat.not_lt_zero _)⟩, e _ _ hwl, prd_imp (fun _ _ => TriAt.up e) hwp⟩) (fun i σ' G' _ h => ?_) (fun i x σ' G' hi h => ?_) fun σ' G' h => ?_
      · obtain ⟨_, _, _, _, _, _, _, _, _, _, _, _, _, _, _, h, _⟩ := h
        exact sq_of h
      · obtain ⟨b, u3, u4, u5, u6, u7, F', rfl, eG', P', i', s', hm, hbt, hbf, gwl, gwp⟩ := h
        obtain ⟨w, hw, t, rfl, ht⟩ := prd_get' gwp hi
        obtain ⟨pl, kn, ql⟩ := w
        have hgq : ql ∈ gl ss pl := hwo.sound _ (List.mem_of_getElem? hw)
        have hpn := gl_in hgq
        have hqn := gl_lt ok hgq
        refine ⟨t, [vN pl, vN kn, vN ql], rfl, st_of ht, rfl, vN pl, [vN kn, vN ql], rfl, vN kn, [vN ql], rfl, vN ql, [], rfl, rfl, ?_⟩
        obtain ⟨v, s, es, hvv, hev⟩ := ev_step (σ := [some (.ref p), some (.ref f), some (.bl b), some (vN pl), some (vN kn), some (vN ql), u6, u7, none]) (ta := tFld K (tVar 0) "kept_steps") (tb := tVar 3) (ev_ks T (ev_var rfl) P'.s) (ev_var rfl) P'.s.st hpn
        have hmd := md_of es
        refine q_asg (ev_c1 hev (v_made_by hvv)) fun G4 g4 => ?_
        -- the lists of the goal and of the place
        have hsome : ∀ {α : Type} (l : List α) (k : Nat), k < l.length → ∃ x, l[k]? = some x := fun l k h => ⟨_, List.getElem?_eq_getElem h⟩
        obtain ⟨aq, hq2⟩ := hsome ls ql (by omega)
        obtain ⟨ap, hp2⟩ := hsome ls pl (by omega)
        obtain ⟨xq, hFq⟩ := hsome F' ql (by rw [s'.len]; exact hqn)
        have i4 := i'.up g4
        have gaq := i4.it ql aq xq hq2 hFq
        have nwl : ∀ (G : Hp) (ys : List Str), G wl = some (.lst wvs) → G ap = some (.lst (ys.map V.str)) → wl ≠ ap := fun G ys h1 h2 z => by
          rw [z, h2] at h1
          have e : ys.map V.str = wvs := by injection h1 with h1; injection h1
          have m := List.mem_of_getElem? hi
          rw [← e] at m
          obtain ⟨y, _, hy⟩ := List.mem_map.mp m
          cases hy
        have hxl := s'.fit ql xq hFq
        refine s_forLn (ev_ixL (ev_var rfl) (ev_var rfl) i4.li (atI_nat (by rw [List.getElem?_map, hq2]; rfl))) (sq_of gaq) (fun j σ' G' => ∃ (b : Bool) (u7 : Option V) (F2 : List (List Str)), σ' = [some (.ref p), some (.ref f), some (.bl b), some (vN pl), some (vN kn), some (vN ql), some (optV s.made), u7, none] ∧ ExF d H G' ∧ PrF K G' p a d ss ∧ FndI f ls G' F2 ∧ Snd ss F2 ∧ mu (allRd ss) F2 ≤ mu (allRd ss) F ∧ (b = true → mu (allRd ss) F2 < mu (allRd ss) F) ∧ (b = false → F2 = F ∧ ∀ (i' : Nat) (w : Nat × Nat × Nat), i' < i → ws[i']? = some w → ∀ (xp xq : List Str), F[w.1]? = some xp → F[w.2.2]? = some xq → ∀ x ∈ xq, md ss w.1 ≠ some x → x ∈ xp) ∧ G' wl = some (.lst wvs) ∧ Paired (TriAt G') wvs ws ∧ F2[ql]? = some xq ∧ (∀ (j' : Nat) (x : Str), j' < j → xq[j']? = some x → md ss pl ≠ some x → ∀ (xp : List Str), F2[pl]? = some xp → x ∈ xp))
          (fun G5 e => ⟨b, u7, F', rfl, eG'.up P' (g4.trans e), P'.up (g4.trans e), i'.up (g4.trans e), s', hm, hbt, hbf, (g4.trans e) _ _ gwl, prd_imp (fun _ _ => TriAt.up (g4.trans e)) gwp, hFq, fun j' x h => absurd h (Nat.not_lt_zero _)⟩) (fun j σ' G5 _ h => ?_) (fun j y σ' G5 hj h => ?_) fun σ' G5 h => ?_
        · obtain ⟨_, _, F2, _, _, _, h1, _, _, _, _, _, _, h2, _⟩ := h
          exact sq_of (h1.it ql aq xq hq2 h2)
        · obtain ⟨b, u7, F2, rfl, eG5, P5, i5, s5, hm5, hbt5, hbf5, gwl5, gwp5, hFq5, hin⟩ := h
          obtain ⟨x, hx, rfl⟩ : ∃ x, xq[j]? = some x ∧ y = V.str x := by
            rw [List.getElem?_map] at hj
            cases e : xq[j]? with
            | none => rw [e] at hj; cases hj
            | some z =>
              rw [e] at hj
              exact ⟨z, rfl, (Option.some.inj hj).symm⟩
          obtain ⟨xp, hFp⟩ := hsome F2 pl (by rw [s5.len]; exact hpn)
          have hlip : ∀ {G : Hp}, Ex G5 G → Ev (tOp (rIxL K) (tVar 1) (tVar 3)) [some (.ref p), some (.ref f), some (.bl b), some (vN pl), some (vN kn), some (vN ql), some (optV s.made), some (V.str x), none] G (.ref ap) := fun g => ev_ixL (ev_var rfl) (ev_var rfl) (i5.up g).li (atI_nat (by rw [List.getElem?_map, hp2]; rfl))
          have gap5 := i5.it pl ap xp hp2 hFp
          refine s_when (et_and (et_test (ev_is (ev_op (ev_var rfl) (ev_var rfl) (rv_ne (scal_opt _ _))) (congrArg V.bl (ne_opt _ _)))) fun _ => et_inP (neg := true) (xs := xp.map V.str) (ev_var rfl) (ep_of (hlip (Ex.refl G5))) (fun v G6 e hv => ⟨ap, hv, .inl (sq_of (e _ _ gap5))⟩) rfl (flat_strs2 xp) rfl) (fun hb6 G6 g6 => ?_) fun hb6 G6 g6 => ?_
          · have hb7 := (Bool.and_eq_true _ _).mp hb6
            have hmx : md ss pl ≠ some x := by
              rw [hmd]
              simpa using hb7.1
            have hnx : ¬ x ∈ xp := by
              have z := hb7.2
              rw [inV_str] at z
              simpa using z
            have hpq : pl ≠ ql := fun z => by
              subst z
              rw [hFp] at hFq5
              obtain rfl := Option.some.inj hFq5
              exact hnx (List.mem_of_getElem? hx)
            obtain ⟨s6, m6⟩ := s5.put hFp hFq5 (List.mem_of_getElem? hx) hmx hgq hnx
            have hfit := s5.fit pl xp hFp
            refine q_app (g6 _ _ gap5) (hlip g6) (ev_var rfl) (by rw [List.length_map]; omega) fun G7 g7 => ?_
            have g67 := g6.trans g7
            have gap7 := g67 _ _ gap5
            have e8 : (xp.map V.str ++ [V.str x]) = (xp ++ [x]).map V.str := by rw [List.map_append]; rfl
            rw [e8]
            have i8 := (i5.up g67).put (ys := xp ++ [x]) nd nf hp2
            have P8 := (P5.up g67).str gap7 (o := .lst ((xp ++ [x]).map V.str)) ⟨pl, ql, hgq⟩
            have nap : ap ≠ d := nld ap (List.mem_of_getElem? hp2)
            have hapH : H ap = none := hls ap (List.mem_of_getElem? hp2)
            have ex8 : ExB d H (upd G7 ap (.lst ((xp ++ [x]).map V.str))) := fun c o hc h => by
              rw [upd_ne (ne_of_none h hapH)]
              exact g67 _ _ (eG5.e _ _ hc h)
            have xf8 : ExF d H (upd G7 ap (.lst ((xp ++ [x]).map V.str))) := ⟨ex8, fun kvs' h k v m => (eG5.up P5 g67).f kvs' (by rw [upd_ne nap.symm] at h; exact h) k v m⟩
            refine s_asg ev_c fun G9 g9 => ⟨true, _, F2.set pl (xp ++ [x]), rfl, xf8.up P8 g9, P8.up g9, i8.up g9, s6, by omega, fun _ => by omega, fun z => Bool.noConfusion z, g9 _ _ (by rw [upd_ne (nwl G5 xp gwl5 gap5)]; exact g67 _ _ gwl5), prd_imp (fun _ _ h => TriAt.up g9 (TriAt.upB ExB.put (boxL gap7) (TriAt.up g67 h))) gwp5, by rw [List.getElem?_set_ne hpq]; exact hFq5, fun j' x' hj' hx' hm' xp' hxp' => ?_⟩
            rw [List.getElem?_set_self (List.getElem?_eq_some_iff.mp hFp).1] at hxp'
            obtain rfl := Option.some.inj hxp'
            by_cases e : j' = j
            · subst e
              rw [hx] at hx'
              rw [← Option.some.inj hx']
              exact List.mem_append_right _ (List.mem_singleton.mpr rfl)
            · exact List.mem_append_left _ (hin j' x' (by omega) hx' hm' xp hFp)
          · refine ⟨b, _, F2, rfl, eG5.up P5 g6, P5.up g6, i5.up g6, s5, hm5, hbt5, hbf5, g6 _ _ gwl5, prd_imp (fun _ _ => TriAt.up g6) gwp5, hFq5, fun j' x' hj' hx' hm' xp' hxp' => ?_⟩
            rw [hFp] at hxp'
            obtain rfl := Option.some.inj hxp'
            by_cases e : j' = j
            · subst e
              rw [hx] at hx'
              obtain rfl := Option.some.inj hx'
              rcases (Bool.and_eq_false_iff).mp hb6 with z | z
              · rw [← hmd] at z
                exact absurd (by simpa using z) hm'
              · rw [inV_str] at z
                simpa using z
            · exact hin j' x' (by omega) hx' hm' xp hFp
        · obtain ⟨b, u7, F2, rfl, eG5, P5, i5, s5, hm5, hbt5, hbf5, gwl5, gwp5, hFq5, hin⟩ := h
          rw [List.length_map] at hin
          refine ⟨b, _, _, _, _, _, F2, rfl, eG5, P5, i5, s5, hm5, hbt5, fun hb => ?_, gwl5, gwp5⟩
          obtain ⟨rfl, hc⟩ := hbf5 hb
          refine ⟨rfl, fun i2 w hi2 hw2 xp xq2 hxp hxq2 x hx hmx => ?_⟩
          by_cases e : i2 = i
          · subst e
            rw [hw] at hw2
            obtain rfl := Option.some.inj hw2
            rw [hFq5] at hxq2
            obtain rfl := Option.some.inj hxq2
            obtain ⟨j, hj, ej⟩ := List.getElem_of_mem hx
            exact hin j x hj (by rw [List.getElem?_eq_getElem hj, ej]) hmx xp hxp
          · exact hc i2 w (by omega) hw2 xp xq2 hxp hxq2 x hx hmx
      · obtain ⟨b, u3, u4, u5, u6, u7, F', rfl, eG', P', i', s', hm, hbt, hbf, gwl, gwp⟩ := h
        rw [hwvl] at hbf
        refine ⟨mu (allRd ss) F' + (if b then 1 else 0), ?_, b, _, _, _, _, _, F', rfl, eG', P', i', s', fun hb => ?_, rfl⟩
        · cases b with
          | true =>
            have := hbt rfl
            show mu (allRd ss) F' + 1 < mu (allRd ss) F + 1
            omega
          | false =>
            show mu (allRd ss) F' + 0 < mu (allRd ss) F + 1
            omega
        · obtain ⟨rfl, hc⟩ := hbf hb
          intro p' q' hq' xp xq hxp hxq x hx hmx
          obtain ⟨k, hk⟩ := hwo.full p' q' hq'
          obtain ⟨i2, hi2, e⟩ := List.getElem_of_mem hk
          exact hc i2 (p', k, q') hi2 (by rw [List.getElem?_eq_getElem hi2, e]) xp xq hxp hxq x hx hmx
    · subst hb
      have cls := cF rfl
      refine ⟨_, rfl, q f ls F G1 (eG.up PG g1) (PG.up g1) (iG.up g1) hf hls sF.len fun k xs hk => ⟨?_, fun x => ⟨fun hx => (sF.want k xs hk x hx).1, fun hw => cls.all ok sF hw xs hk⟩⟩⟩
      have := sF.fit k xs hk
      omega

end
end FB
set_option Elab.async false
set_option linter.all false
set_option maxRecDepth 100000
set_option maxHeartbeats 4000000
namespace FB
open PySem PySem.Spec PyProof.Rows L2 Evl
open C8 (Cal Mak pe_c pe_mk pe_gc)
section
variable {P : Program} {w : World} {K : PySem.W.Frag} {mg : Str → Option Value} {base : Heap}
/-- the set of the texts of a list -/
theorem ep_scL {X : Cx} {σ : Sg} {H : Hp} {te : TE} {a : Addr} {xs : List Str} {j : Nat} (h : Ev te σ H (.ref a)) (hx : H a = some (.lst (xs.map V.str))) (hl : xs.length ≤ 60) (h1 : j < σ.length) (hw : ∀ x, wipe ((wipe σ [j]).set j (some x)) [j] = wipe σ [j]) :
    EP (tScT X (iList K te) (gName j) tYes (tVar j) [j]) σ H fun v G => ∃ D S n, v = .ref D ∧ G D = some (SetT X.prog X.w D S n) ∧ n ≤ xs.length ∧ ∀ x, S x = true ↔ x ∈ xs := fun H0 e Q q => h H0 e _ fun H1 e1 => by
  have hx1 := (e.trans e1) _ _ hx
  refine ⟨a, rfl, ⟨_, sq_of hx1⟩, fun D hD => ⟨fun i m G => m = xs.length - i ∧ i ≤ xs.length ∧ Ex H1 G ∧ ∃ S k, k ≤ i ∧ G D = some (SetT X.prog X.w D S k) ∧ ∀ x, S x = true ↔ x ∈ xs.take i, ⟨xs.length, by simp, Nat.zero_le _, Ex.new hD, _, 0, Nat.le_refl _, upd_same, fun x => by simp⟩, ?_⟩⟩
  rintro i m G ⟨rfl, hi, eG, S, k, hk, gS, hS⟩
  by_cases hlt : i < xs.length
  · have hxi : (xs.map V.str)[i]? = some (.str xs[i]) := by rw [List.getElem?_map, List.getElem?_eq_getElem hlt]; rfl
    refine .inr ⟨⟨_, _, sq_of (eG _ _ hx1), hxi⟩, fun G2 => i + 1 ≤ xs.length ∧ Ex H1 G2 ∧ ∃ S k, k ≤ i + 1 ∧ G2 D = some (SetT X.prog X.w D S k) ∧ ∀ x, S x = true ↔ x ∈ xs.take (i + 1), fun G2 ⟨p1, p2, p3⟩ => ⟨xs.length - (i + 1), by omega, rfl, p1, p2, p3⟩, fun x G2 y => ?_⟩
    obtain ⟨rfl, y⟩ := y
    obtain rfl : V.str xs[i] = x := Option.some.inj (hxi.symm.trans (y _ (sq_of (eG _ _ hx1))))
    refine ⟨hw _, ?_⟩
    refine y_go ⟨.str xs[i], by rw [List.getElem?_set_self (by rw [wipe_length]; exact h1)], xs[i], S, k, rfl, gS, by show k + 1 < 4096; omega, fun n' hn' => ⟨hlt, Ex.mut eG hD, _, n', by omega, upd_same, fun x => ?_⟩⟩
    have e2 : xs.take (i + 1) = xs.take i ++ [xs[i]] := by rw [List.take_succ, List.getElem?_eq_getElem hlt]; rfl
    rw [e2, List.mem_append, List.mem_singleton, Bool.or_eq_true, hS x, decide_eq_true_iff]
  · refine .inl ⟨⟨_, sq_of (eG _ _ hx1), by rw [List.length_map]; omega⟩, q _ G (e1.trans eG) ⟨D, S, k, rfl, gS, by omega, fun x => ?_⟩⟩
    rw [hS x, List.take_of_length_le (by omega)]
/-- the ascending tuple of a set -/
theorem ep_sortT {P : Program} {w : World} {σ : Sg} {H : Hp} {te : TE} {xs : List Str} (h : EP te σ H fun v G => ∃ D S n, v = .ref D ∧ G D = some (SetT P w D S n) ∧ n ≤ xs.length ∧ ∀ x, S x = true ↔ x ∈ xs) (hl : xs.length ≤ 60) :
    EP (tCB (rTupS K) (tCons (tCB (rSortST P w) (tCons te tNil)) tNil)) σ H fun v G => ∃ ys, TupS G v ys ∧ ∀ x, x ∈ ys ↔ x ∈ xs := fun H1 e Q q =>
  h H1 e _ fun v H2 e2 pv => by
    obtain ⟨D, S, n, rfl, hD, hn, hS⟩ := pv
    refine ⟨D, S, n, rfl, hD, by omega, fun ys p hy _ hp => ?_⟩
    refine ⟨p, _, rfl, .inl ⟨sq_of upd_same, fun l hl => q _ _ ((e2.trans (Ex.new hp)).trans (Ex.new hl)) ⟨ys, ⟨l, rfl, upd_same⟩, fun x => by rw [hy x, hS x]⟩⟩⟩
theorem s_appP {σ : Sg} {H : Hp} {te ta : TE} {D : Ends} {l : Addr} {xs : List V} {P : V → Hp → Prop} (hl : H l = some (.lst xs)) (ha : Ev ta σ H (.ref l)) (h : EP te σ H P) (hz : xs.length < 100000) (k : ∀ v H1, Ex H H1 → P v H1 → D.nx σ (upd H1 l (.lst (xs ++ [v])))) :
    tDrop (tBM K "list" rAppend ta (tCons te tNil)) D σ H := ha H (Ex.refl H) _ fun H1 e1 =>
  ⟨Or.inl ⟨rfl, xs, sq_of (e1 l _ hl)⟩, h H1 e1 _ fun v H2 e2 p => ⟨l, xs, v, rfl, rfl, e2 l _ (e1 l _ hl), sz_lt hz, k v H2 (e1.trans e2) p⟩⟩
theorem q_forEL {σ : Sg} {H : Hp} {te : TE} {D : Ends} {tu tz : TS} {a : Addr} {xs : List V} {i1 i2 : Nat} (h : Ev te σ H (.ref a)) (hx : H a = some (.lst xs)) (Pv : Nat → Sg → Hp → Prop) (h0 : ∀ H1, Ex H H1 → Pv 0 σ H1) (hl : ∀ i σ' H', i ≤ xs.length → Pv i σ' H' → H' a = some (.lst xs))
    (hs : ∀ i x σ' H' H2, xs[i]? = some x → Pv i σ' H' → Ex H' H2 → tu { D with nx := Pv (i + 1), ct := Pv (i + 1), bk := tz D } ((σ'.set i1 (some (vN i))).set i2 (some x)) H2) (hd : ∀ σ' H', Pv xs.length σ' H' → tz D σ' H') :
    tSeq (tFor (iEnum K (tCons te tNil)) (gTup K 2 (gCons (gName i1) (gCons (gName i2) gNil))) tu) tz D σ H := h H (Ex.refl H) _ fun H1 e => ⟨a, xs, rfl, sq_of (e _ _ hx), for_it walk_enum Pv (h0 H1 e) (fun i σ' H' hi p => sq_of (hl i σ' H' hi p)) (fun i v σ' G G' hi p y => by
    obtain ⟨T, x, y', rfl, hT, rfl, h1, h2⟩ := y
    obtain rfl : V.int (i : Nat) = x := Option.some.inj h1
    exact ⟨T, [.int (i : Nat), y'], rfl, st_of upd_same, rfl, .int (i : Nat), [y'], rfl, y', [], rfl, rfl, hs i y' σ' G _ h2 p (Ex.new hT)⟩) hd⟩
/-- the list at l is none of the facts -/
def Off (d l : Addr) (G : Hp) : Prop := ∀ kvs, G d = some (.dK kvs) → ∀ k, k = kRoutes ∨ k = kWays ∨ k = kWanted → ∀ v, valV kvs k = some v → v ≠ V.ref l
theorem Off.new {p a d l : Addr} {ss : List Stp} {G G' : Hp} (P : PrF K G p a d ss) (hl : G l = none) (e : Ex G G') : Off d l G' := fun kvs h k hk v hv z => by
  obtain ⟨k2, hd, hf⟩ := P.f
  rw [e _ _ hd] at h
  have hk2 : k2 = kvs := by injection h with h; injection h
  subst hk2
  subst z
  rcases hk with rfl | rfl | rfl
  · obtain ⟨r, _, _, h1, h2, _⟩ := hf.ro _ hv
    injection h1 with h1
    rw [← h1, hl] at h2
    cases h2
  · obtain ⟨r, _, _, h1, h2, _⟩ := hf.wa _ hv
    injection h1 with h1
    rw [← h1, hl] at h2
    cases h2
  · obtain ⟨r, _, _, h1, h2, _⟩ := hf.to _ hv
    injection h1 with h1
    rw [← h1, hl] at h2
    cases h2
theorem Off.fre {d l : Addr} {G G' : Hp} {o : HO} (h : Off d l G) (hl : G l = some o) (f : Fre d G G') : Off d l G' := fun kvs e k hk v hv z => by
  rcases f kvs e k v hv with ⟨k1, h1, h2⟩ | ⟨b, h1, h2⟩
  · exact h k1 h1 k hk v h2 z
  · rw [h1] at z
    injection z with z
    rw [z, hl] at h2
    cases h2
theorem Off.ex {p a d l : Addr} {ss : List Stp} {G G' : Hp} (P : PrF K G p a d ss) (h : Off d l G) (e : Ex G G') : Off d l G' := fun kvs q => by
  obtain ⟨k2, hd, _⟩ := P.f
  rw [e _ _ hd] at q
  exact h kvs (by rw [hd]; exact q)
theorem PrF.off {p a d l : Addr} {ss : List Stp} {G : Hp} {us : List V} {o : HO} (h : PrF K G p a d ss) (hl : G l = some (.lst us)) (f : Off d l G) : PrF K (upd G l o) p a d ss ∧ Off d l (upd G l o) := by
  obtain ⟨⟨⟨dx, ho⟩, st, ok⟩, kvs, hd, hf⟩ := h
  have b := boxL hl
  have e : ExB l G (upd G l o) := ExB.put
  have ndl : d ≠ l := fun z => by rw [z, hl] at hd; cases hd
  refine ⟨⟨⟨⟨dx, e _ _ (fun z => by rw [z, hl] at ho; cases ho) ho⟩, st.upB e b, ok⟩, kvs, e _ _ ndl hd, hf.len, hf.ne, fun v q => ?_, fun v q => ?_, fun v q => ?_⟩, fun k2 q => f k2 (by rw [upd_ne ndl] at q; exact q)⟩
  · obtain ⟨r, k2, ks, rfl, h1, h2, h3⟩ := hf.ro v q
    exact ⟨r, k2, ks, rfl, e _ _ (fun z => by rw [z, hl] at h1; cases h1) h1, h2.upB e b, h3⟩
  · obtain ⟨r, vs, ws, rfl, h1, h2, h3⟩ := hf.wa v q
    exact ⟨r, vs, ws, rfl, e _ _ (fun z => f kvs hd _ (.inr (.inl rfl)) _ q (by rw [z])) h1, prd_imp (fun _ _ => TriAt.upB e b) h2, h3⟩
  · obtain ⟨r, vs, ws, rfl, h1, h2, h3⟩ := hf.to v q
    exact ⟨r, vs, ws, rfl, e _ _ (fun z => f kvs hd _ (.inr (.inr rfl)) _ q (by rw [z])) h1, prd_imp (fun _ _ => TupS.upB e b) h2, h3⟩
theorem putK_mem2 {kvs : List (Key × V)} {k : Key} {v : V} {kv : Key × V} (h : kv ∈ putK kvs k v) : kv ∈ kvs ∨ kv.2 = v := by
  unfold putK at h
  split at h
  · obtain ⟨x, hx, e⟩ := List.mem_map.mp h
    split at e
    · exact .inr (by rw [← e])
    · exact .inl (by rw [← e]; exact hx)
  · rcases List.mem_append.mp h with h | h
    · exact .inl h
    · exact .inr (by rw [List.mem_singleton.mp h])
/-- the wanted names among the facts -/
theorem Facts.told {H : Hp} {d : Addr} {ss : List Stp} {kvs : List (Key × V)} {v : V} (h : Facts H d ss kvs) (hd : H d = some (.dK kvs)) (hv : v ≠ V.ref d) (to : ToldAt (upd H d (.dK (putK kvs kWanted v))) v ss) : Facts (upd H d (.dK (putK kvs kWanted v))) d ss (putK kvs kWanted v) := by
  have b := h.upB hd (ExB.put (d := d) (H := H) (o := .dK (putK kvs kWanted v)))
  have r1 : valV (putK kvs kWanted v) kRoutes = valV kvs kRoutes := by rw [L2.valV_put, if_neg nk_rt]
  have r2 : valV (putK kvs kWanted v) kWays = valV kvs kWays := by rw [L2.valV_put, if_neg nk_wt]
  have r3 : valV (putK kvs kWanted v) kWanted = some v := by rw [L2.valV_put, if_pos rfl]
  refine ⟨?_, fun kv m => ?_, fun u q => ?_, fun u q => ?_, fun u q => ?_⟩
  · rw [r1, r2, r3]
    have l := h.len
    cases z : valV kvs kWanted with
    | none =>
      rw [putK_len z]
      rw [z] at l
      have e0 : bk (none : Option V) = 0 := rfl
      have e1 : bk (some v) = 1 := rfl
      omega
    | some w =>
      have hl : (putK kvs kWanted v).length = kvs.length := by
        unfold putK
        rw [valV_any, z]
        exact List.length_map _
      rw [hl]
      rw [z] at l
      have e0 : bk (some w) = 1 := rfl
      have e1 : bk (some v) = 1 := rfl
      omega
  · rcases putK_mem2 m with m | m
    · exact h.ne kv m
    · rw [m]
      exact hv
  · rw [r1] at q
    exact b.ro u q
  · rw [r2] at q
    exact b.wa u q
  · rw [r3] at q
    rw [← Option.some.inj q]
    exact to
def sp_wanted_of (K : PySem.W.Frag) : Sp := fun vs H Q _ => ∃ (p a d : Addr) (ss : List Stp), vs = [.ref p] ∧ PrF K H p a d ss ∧ ∀ v H', ExB d H H' → PrF K H' p a d ss → ToldAt H' v ss → Q v H'
abbrev n_wanted_of : List Str := ["program", "flags", "found", "place", "names", "name"]
theorem sc_wanted_of : FnScope n_wanted_of ["program"] (defScope s_wanted_of) := ⟨rfl, rfl, rfl, by decide +kernel, rfl, by decide +kernel, by decide +kernel⟩
theorem c_wanted_of (T : Tx K mg) : Cal P w K mg base 5 "wanted_of" (sp_wanted_of K) [] := by
  have k_reached_flags := c_reached_flags (P := P) (w := w) (base := base) T
  have k_wants_all := c_wants_all (P := P) (w := w) (base := base) T
  refine calOf T 16 rfl rfl sc_wanted_of (fun _ _ _ _ _ _ us hl => match us, hl with | [_], _ => rfl) (fun vs H Q E h => ?_) (fun cdv A outer s H vs Q E hr h => ?_)
  · obtain ⟨_, _, _, _, rfl, _⟩ := h
    rfl
  · obtain ⟨p, a, d, ss, rfl, hP, q⟩ := h
    refine ⟨_, (pss_cons (ps_if (pt_cmp (pc_dnotin (hu_of hr) pe_str (x_fld (K := K) (pv 0))))
          ((pss_cons (ps_set (i := 1) sc_wanted_of.nd rfl (.inl rfl) (pe_c k_reached_flags hr (by decide) rfl (pa_cons (pv 0) pa_nil)))
          (pss_cons (ps_set (i := 2) sc_wanted_of.nd rfl (.inl rfl) (pe_lst pa_nil))
          (pss_cons (ps_for PassesOwn.never rfl (pi_enum rfl T.f_enumerate (pa_cons (pe_c k_wants_all hr (by decide) rfl (pa_cons (pv 0) pa_nil)) pa_nil)) (pg_tup rfl (pgs_cons (pg_name (i := 3) sc_wanted_of.nd rfl (.inl rfl)) (pgs_cons (pg_name (i := 4) sc_wanted_of.nd rfl (.inl rfl)) pgs_nil)))
              ((pss_one (ps_expr (pe_bm PySem.F.plainAttrs_list PySem.F.slot_list_append PySem.F.type_list_append mt_append (pv 2) (pa_cons (pe_ifExp (pt_val (pe_ix (xi_list (K := K)) (pv 1) (pv 3) (fun _ _ => rfl))) (pe_callTy (xc_tup (K := K)) rfl T.f_tuple (by decide +kernel) (pa_cons (pe_callB (cr_sortST rfl) rfl T.f_sorted (by decide +kernel) (pa_cons (pe_scT (own := [("name", 5)]) rfl sc_wanted_of.nd (x_list (K := K) (pv 4)) (blkOk_by (own := [("name", 5)]) (N := n_wanted_of) (sc := defScope s_wanted_of) (by decide +kernel)) (fun _ _ _ _ _ => (pg_name (i := 5) sc_wanted_of.nd rfl (.inl rfl))) (fun _ _ _ _ _ => pts_nil) (fun _ _ _ _ _ => (pv 5))) pa_nil)) pa_nil)) (pe_tup pa_nil)) pa_nil))))))
          (pss_one (ps_dput (hu_of hr) (x_fld (K := K) (pv 0)) pe_str (pv 2) rfl))))))
          (pss_nil))
      (pss_one (ps_ret (pe_dget (hu_of hr) (x_fld (K := K) (pv 0)) pe_str (fun _ _ => rfl))))), ?_⟩
    obtain ⟨kvs, hd, hf⟩ := hP.f
    have hs := hP.s
    have ok := hs.ok
    have hl4 := ok.hi
    refine q_when (et_test (ev_kNo (ev_kf T (ev_var rfl) hs) hd)) (fun hb H1 e1 => ?_) fun hb H1 e1 => ?_
    · refine ⟨_, rfl, p, a, d, ss, rfl, hP.up e1, fun fl fls H2 e2 P2 hfl => ?_⟩
      obtain ⟨hfl1, hfl2, hfl3⟩ := hfl
      refine q_asgL (el_lst ea_nil (by simp)) fun fd H3 hfd e3 f3 => ?_
      have eB13 : ExB d H H3 := ((ExB.of e1).trans e2).trans (ExB.of e3)
      have P3 := P2.up e3
      have off3 : Off d fd H3 := Off.new P2 hfd e3
      have nfdd : fd ≠ d := fun z => by
        obtain ⟨k2, hd2, _⟩ := P2.f
        rw [z, hd2] at hfd
        cases hfd
      have hfdH : H fd = none := by
        cases z : H fd with
        | none => rfl
        | some o =>
          rw [e2 _ _ nfdd (e1 _ _ z)] at hfd
          cases hfd
      refine go_qforE ?_
      refine ⟨_, rfl, p, a, d, ss, rfl, P3, fun f ls F H4 e4 P4 i4 hf4 hls4 hFl hF => ?_⟩
      have hfl4 := e4.e _ _ (fun z => by
        obtain ⟨k2, hd2, _⟩ := P3.f
        rw [z] at hfl1
        rw [e3 _ _ hfl1] at hd2
        cases hd2) (e3 _ _ hfl1)
      have f4 := e4.e _ _ nfdd f3
      have off4 := off3.fre f3 e4.f
      have nffd : fd ≠ f := fun z => by rw [← z, f3] at hf4; cases hf4
      have nlsfd : ∀ b ∈ ls, b ≠ fd := fun b hb z => by
        have := hls4 b hb
        rw [z, f3] at this
        cases this
      have nflfd : fl ≠ fd := fun z => by rw [← z, hfl1] at hfd; cases hfd
      refine q_forEL ev_c i4.li (fun i σ' G => ∃ u3 u4, σ' = [some (.ref p), some (.ref fl), some (.ref fd), u3, u4, none] ∧ ExB d H G ∧ PrF K G p a d ss ∧ Off d fd G ∧ G fl = some (.lst (fls.map V.bl)) ∧ FndI f ls G F ∧ ∃ (us : List V) (told : List (List Str)), G fd = some (.lst us) ∧ Paired (TupS G) us told ∧ told.length = i ∧ ∀ (k : Nat) (xs : List Str), told[k]? = some xs → ∀ x, x ∈ xs ↔ (Rch ss none 0 k ∧ Wnt ss x k))
        (fun G e => ⟨none, none, rfl, (eB13.trans e4.e).trans (ExB.of e), P4.up e, off4.ex P4 e, e _ _ hfl4, i4.up e, [], [], e _ _ f4, .nil, rfl, fun k xs h => by cases h⟩) (fun i σ' G _ h => ?_) (fun i x σ' G G2 hi h g2 => ?_) fun σ' G h => ?_
      · obtain ⟨_, _, _, _, _, _, _, h, _⟩ := h
        exact h.li
      · obtain ⟨u3, u4, rfl, eG, PG, offG, gfl, iG, us, told, gfd, hpr, htl, hts⟩ := h
        have hil : i < ls.length := by
          have := (List.getElem?_eq_some_iff.mp hi).1
          rw [List.length_map] at this
          exact this
        obtain ⟨b, hb2, rfl⟩ : ∃ b, ls[i]? = some b ∧ x = V.ref b := by
          rw [List.getElem?_map, List.getElem?_eq_getElem hil] at hi
          exact ⟨_, List.getElem?_eq_getElem hil, (Option.some.inj hi).symm⟩
        obtain ⟨xs, hxs⟩ : ∃ xs, F[i]? = some xs := ⟨_, List.getElem?_eq_getElem (by rw [← iG.len]; exact hil)⟩
        obtain ⟨hx12, hxw⟩ := hF i xs hxs
        obtain ⟨bf, hbf⟩ : ∃ bf, fls[i]? = some bf := ⟨_, List.getElem?_eq_getElem (by rw [hfl2, ← hFl, ← iG.len]; exact hil)⟩
        have hrch := hfl3 i bf hbf
        have gb := g2 _ _ (iG.it i b xs hb2 hxs)
        have hul := hpr.length
        have hil4 : i < 4 := by
          have := iG.len
          omega
        refine s_appP (P := fun v G => ∃ ys, TupS G v ys ∧ ∀ x, x ∈ ys ↔ (Rch ss none 0 i ∧ Wnt ss x i)) (g2 _ _ gfd) (ev_var rfl) (ep_if (b := bf) (et_val (ev_ixL (ev_var rfl) (ev_var rfl) (g2 _ _ gfl) (atI_nat (by rw [List.getElem?_map, hbf]; rfl)))) (fun hb3 => ?_) fun hb3 => ?_) (by omega) fun v G3 g3 hv => ?_
        · refine EP.imp (ep_sortT (xs := xs) (ep_scL (ev_var rfl) gb (by omega) (show 5 < 6 by omega) (fun _ => rfl)) (by omega)) fun v G3 _ ⟨ys, h1, h2⟩ => ⟨ys, h1, fun x => ?_⟩
          rw [h2 x, hxw x]
          exact ⟨fun h => ⟨hrch.mp hb3, h⟩, fun h => h.2⟩
        · refine EP.imp (ep_U (eu_tup ea_nil (by simp))) fun v G3 _ ⟨t, h1, h2⟩ => ⟨[], ⟨t, h1, h2⟩, fun x => ⟨fun h => (by cases h), fun h => ?_⟩⟩
          have := hrch.mpr h.1
          rw [hb3] at this
          cases this
        · obtain ⟨ys, hv1, hv2⟩ := hv
          have g23 := g2.trans g3
          have gfd3 := g23 _ _ gfd
          obtain ⟨P5, off5⟩ := (PG.up g23).off (o := .lst (us ++ [v])) gfd3 (offG.ex PG g23)
          have bx := boxL gfd3
          refine ⟨_, _, rfl, fun c o hc h => ?_, P5, off5, ?_, ⟨?_, iG.len, fun k c zs h1 h2 => ?_⟩, us ++ [v], told ++ [ys], upd_same, prd_app (prd_imp (fun _ _ h => TupS.upB ExB.put bx (TupS.up g23 h)) hpr) (.cons (TupS.upB ExB.put bx hv1) .nil), by rw [List.length_append, htl]; rfl, fun k zs hk => ?_⟩
          · rw [upd_ne (ne_of_none h hfdH)]
            exact g23 _ _ (eG _ _ hc h)
          · rw [upd_ne nflfd]
            exact g23 _ _ gfl
          · rw [upd_ne nffd.symm]
            exact g23 _ _ iG.li
          · rw [upd_ne (nlsfd c (List.mem_of_getElem? h1))]
            exact g23 _ _ (iG.it k c zs h1 h2)
          · by_cases e : k < told.length
            · rw [List.getElem?_append_left e] at hk
              exact hts k zs hk
            · rw [List.getElem?_append_right (by omega)] at hk
              have hk0 : k - told.length = 0 := by
                have := (List.getElem?_eq_some_iff.mp hk).1
                have : k - told.length < 1 := this
                omega
              rw [hk0] at hk
              obtain rfl := Option.some.inj hk
              have ki : k = i := by omega
              rw [ki]
              exact hv2
      · obtain ⟨u3, u4, rfl, eG, PG, offG, gfl, iG, us, told, gfd, hpr, htl, hts⟩ := h
        rw [List.length_map, iG.len, hFl] at htl
        have tok : ToldOk ss told := ⟨htl, hts⟩
        obtain ⟨k5, hd5, hf5⟩ := PG.f
        have k5l : k5.length ≤ 3 := by
          have := hf5.len
          have b1 := bk_le (valV k5 kRoutes)
          have b2 := bk_le (valV k5 kWays)
          have b3 := bk_le (valV k5 kWanted)
          omega
        refine ⟨_, rfl, ?_⟩
        refine put_fact (ev_kf T (ev_var rfl) PG.s) hd5 (by omega) fun H6 e6 => ?_
        have hd6 := e6 _ _ hd5
        have ta : ToldAt (upd H6 d (.dK (putK k5 kWanted (.ref fd)))) (.ref fd) ss := ⟨fd, us, told, rfl, by rw [upd_ne nfdd]; exact e6 _ _ gfd, prd_imp (fun _ _ h => TupS.upB ExB.put (boxD hd6) (TupS.up e6 h)) hpr, tok⟩
        have P7 : PrF K (upd H6 d (.dK (putK k5 kWanted (.ref fd)))) p a d ss := ⟨(PG.s.up e6).upB hd6 ExB.put, _, upd_same, (hf5.up e6).told hd6 (fun z => nfdd (by injection z)) ta⟩
        refine s_ret (ev_kGet (ev_kf T (ev_var rfl) P7.s) upd_same (v := .ref fd) (by rw [L2.valV_put, if_pos rfl])) fun H8 e8 => ?_
        exact q _ H8 (((eG.trans (ExB.of e6)).trans ExB.put).trans (ExB.of e8)) (P7.up e8) (ta.up e8)
    · have hv : ∃ v, valV kvs kWanted = some v := by
        cases z : valV kvs kWanted with
        | none =>
          have y : (!(valV kvs (Sum.inr "wanted" : Key)).isSome) = false := hb
          rw [show valV kvs (Sum.inr "wanted" : Key) = none from z] at y
          cases y
        | some v => exact ⟨v, rfl⟩
      obtain ⟨v, hv⟩ := hv
      refine s_ret (ev_kGet (ev_kf T (ev_var rfl) (hs.up e1)) (e1 _ _ hd) hv) fun H2 e2 => ?_
      exact q v H2 (ExB.of (e1.trans e2)) (hP.up (e1.trans e2)) ((hf.to v hv).up (e1.trans e2))

end
end FB
set_option Elab.async false
set_option linter.all false
set_option maxRecDepth 100000
set_option maxHeartbeats 4000000
namespace FB
open PySem PySem.Spec PyProof.Rows L2 Evl
open C8 (Cal Mak pe_c pe_mk pe_gc)
section
variable {P : Program} {w : World} {K : PySem.W.Frag} {mg : Str → Option Value} {base : Heap}
theorem PrS.upR {H G : Hp} {p a d r : Addr} {ss : List Stp} {kvs : List (Key × V)} (h : PrS K H p a d ss) (hr : H r = some (.dK kvs)) (e : ExB r H G) : PrS K G p a d ss := by
  obtain ⟨⟨dx, o⟩, s, k⟩ := h
  exact ⟨⟨dx, e _ _ (fun z => by rw [z, hr] at o; cases o) o⟩, s.upB e (boxD hr), k⟩
theorem unlock {H G : Hp} {r : Addr} {u : HO} {od : Obj} (hr : H r = some u) (e : Ex (upd H r (.frz od u)) G) : Ex H (upd G r u) := fun b o h => by
  by_cases z : b = r
  · rw [z] at h ⊢
    rw [upd_same, ← h, hr]
  · rw [upd_ne z]
    exact e _ _ (by rw [upd_ne z]; exact h)
def sp_want_route (K : PySem.W.Frag) : Sp := fun vs H Q _ => ∃ (p a d : Addr) (ss : List Stp) (pl : Nat) (nm : Str), vs = [.ref p, vN pl, .str nm] ∧ PrF K H p a d ss ∧ pl < ss.length ∧ Nm nm ∧ ∀ v H', ExB d H H' → PrF K H' p a d ss → (v = .non ∨ ∃ t, v = .ref t) → (v ≠ .non ↔ (Rch ss none 0 pl ∧ Wnt ss nm pl)) → Q v H'
abbrev n_want_route : List Str := ["program", "place", "name", "routes", "there"]
theorem sc_want_route : FnScope n_want_route ["program", "place", "name"] (defScope s_want_route) := ⟨rfl, rfl, rfl, by decide +kernel, rfl, by decide +kernel, by decide +kernel⟩
theorem c_want_route (T : Tx K mg) : Cal P w K mg base 6 "want_route" (sp_want_route K) [] := by
  have k_check_name := c_check_name (P := P) (w := w) (base := base) T
  have k_check_place := c_check_place (P := P) (w := w) (base := base) T
  have k_reads_of := c_reads_of (P := P) (w := w) (base := base) T
  have k_routes_without := c_routes_without (P := P) (w := w) (base := base) T
  have k_wanted_of := c_wanted_of (P := P) (w := w) (base := base) T
  refine calOf T 18 rfl rfl sc_want_route (fun _ _ _ _ _ _ us hl => match us, hl with | [_, _, _], _ => rfl) (fun vs H Q E h => ?_) (fun cdv A outer s H vs Q E hr h => ?_)
  · obtain ⟨_, _, _, _, _, _, rfl, _⟩ := h
    rfl
  · obtain ⟨p, a, d, ss, pl, nm, rfl, hP, hpl, hnm, q⟩ := h
    refine ⟨_, (pss_cons (ps_expr (pe_c k_check_place hr (by decide) rfl (pa_cons (pv 0) (pa_cons (pv 1) pa_nil))))
      (pss_cons (ps_expr (pe_c k_check_name hr (by decide) rfl (pa_cons (pv 2) pa_nil)))
      (pss_cons (ps_if (pt_cmpR (xo_notIn (K := K)) (pv 2) (pe_ix (xi_list (K := K)) (pe_c k_wanted_of hr (by decide) rfl (pa_cons (pv 0) pa_nil)) (pv 1) (fun _ _ => rfl)) rfl)
          ((pss_one (ps_ret pe_non)))
          (pss_nil))
      (pss_cons (ps_set (i := 3) sc_want_route.nd rfl (.inl rfl) (pe_c k_routes_without hr (by decide) rfl (pa_cons (pv 0) (pa_cons (pv 1) (pa_cons (pv 2) pa_nil)))))
      (pss_cons (ps_lock (ps_for PassesOwn.never rfl (pi_keys (pv 3)) (pg_name (i := 4) sc_want_route.nd rfl (.inl rfl))
          ((pss_one (ps_if (pt_cmpR (xo_in (K := K)) (pv 2) (pe_c k_reads_of hr (by decide) rfl (pa_cons (pe_ix (xi_tup (K := K)) (x_fld (K := K) (pv 0)) (pv 4) (fun _ _ => rfl)) pa_nil)) rfl)
              ((pss_one (ps_ret (pe_dget (hu_of hr) (pv 3) (pv 4) (fun _ _ => rfl)))))
              (pss_nil))))))
      (pss_one (ps_ret pe_non))))))), ?_⟩
    have hl4 := hP.s.ok.hi
    refine q_drop (ev_c2 (ev_var rfl) (ev_var rfl) (v_check_place hP.s hpl)) fun H1 e1 => ?_
    refine q_drop (ev_c1 (ev_var rfl) (v_check_name hnm)) fun H2 e2 => ?_
    have e12 := e1.trans e2
    refine ⟨_, rfl, _, rfl, p, a, d, ss, rfl, hP.up e12, fun w H3 e3 P3 ht => ?_⟩
    obtain ⟨l, us, told, rfl, h1, h2, h3⟩ := ht
    obtain ⟨xs, hxs⟩ : ∃ xs, told[pl]? = some xs := ⟨_, List.getElem?_eq_getElem (by rw [h3.len]; exact hpl)⟩
    obtain ⟨u, hu, t, rfl, ht⟩ := prd_get h2 hxs
    have hsay := h3.says pl xs hxs nm
    have eB := (ExB.of (d := d) e12).trans e3
    refine ⟨_, rfl, l, _, _, _, rfl, rfl, sq_of h1, atI_nat hu, t, xs.map V.str, rfl, .inr (st_of ht), rfl, flat_strs2 xs, _, rfl, ?_⟩
    have hin : (if true = true then !inV (V.str nm) (xs.map V.str) else inV (V.str nm) (xs.map V.str)) = !decide (nm ∈ xs) := by rw [inV_str]; rfl
    refine ite2 (fun hb => ?_) fun hb => ?_
    · have hno : ¬ nm ∈ xs := by
        intro z
        have hb' : (!inV (V.str nm) (xs.map V.str)) = true := hb
        rw [inV_str, decide_eq_true z] at hb'
        cases hb'
      exact q .non H3 eB P3 (.inl rfl) ⟨fun z => absurd rfl z, fun z => absurd (hsay.mpr z) hno⟩
    · have hyes : nm ∈ xs := by
        by_cases z : nm ∈ xs
        · exact z
        · have hb' : ¬ ((!inV (V.str nm) (xs.map V.str)) = true) := hb
          rw [inV_str, decide_eq_false z] at hb'
          exact absurd rfl hb'
      have hw := hsay.mp hyes
      refine ⟨_, rfl, _, rfl, _, rfl, p, a, d, ss, pl, some nm, rfl, P3.s, hpl, fun r ks H5 hr e5 s5 hks => ?_⟩
      obtain ⟨kvs, hkr, hrd⟩ := rtd_of s5 (by omega)
      have P5 := P3.up e5
      refine ⟨r, .dK kvs, hkr, trivial, fun od => ?_⟩
      have hkeys := hrd.keys
      have hkl : kvs.length = ks.length := by
        have z := congrArg List.length hkeys
        rw [List.length_map, List.length_map] at z
        exact z
      refine ⟨_, rfl, r, od, rfl, .inl ⟨kvs, upd_same, ?_⟩⟩
      refine for_it walk_keys (fun i σ' G => ∃ u4, σ' = [some (.ref p), some (vN pl), some (.str nm), some (.ref r), u4] ∧ Ex (upd H5 r (.frz od (.dK kvs))) G ∧ ∀ j k, j < i → ks[j]? = some k → ¬ nm ∈ rd ss k) ⟨none, rfl, Ex.refl _, fun j k h => absurd h (Nat.not_lt_zero _)⟩ (fun i σ' G _ h => h.choose_spec.2.1 _ _ upd_same) (fun i x σ' G G2 hi h y => ?_) fun σ' G h => ?_
      · obtain ⟨u4, rfl, eG, hno⟩ := h
        obtain ⟨rfl, k, v, hkv, rfl⟩ := y
        have hik : i < ks.length := by omega
        have hkk : k = kI ks[i] := by
          have z := congrArg (fun l => l[i]?) hkeys
          simp only [List.getElem?_map, hkv, List.getElem?_eq_getElem hik] at z
          exact Option.some.inj z
        subst hkk
        have hPG : PrS K G2 p a d ss := (PrS.upR P5.s hkr ExB.put).up eG
        have hkn := s5.lt _ (List.getElem_mem hik)
        obtain ⟨w2, s, es, hv2, hev⟩ := ev_step (σ := [some (.ref p), some (vN pl), some (.str nm), some (.ref r), some (vN ks[i])]) (ta := tFld K (tVar 0) "kept_steps") (tb := tVar 4) (ev_ks T (ev_var rfl) hPG) (ev_var rfl) hPG.st hkn
        refine s_when (et_inP (neg := false) (xs := s.reads.map V.str) (ev_var rfl) (ep_c1 hev (p_reads_of hv2)) (fun v H1 e ⟨p, hw, hp⟩ => ⟨p, hw, .inr (st_of hp)⟩) rfl (flat_strs2 _) rfl) (fun hb G3 g3 => ?_) fun hb G3 g3 => ?_
        · have g := eG.trans g3
          have hfr := g _ _ (upd_same (H := H5) (a := r) (o := .frz od (.dK kvs)))
          obtain ⟨t2, xs2, hd2, ht2, _⟩ := s5.get (List.getElem_mem hik)
          have hval : valV kvs (kI ks[i]) = some (.ref t2) := by
            rcases hd2 with ⟨kvs', k', hk1, hk2, hk3⟩ | ⟨kvs', k', b, hk1, hk2, _⟩
            · have e1 : kvs' = kvs := by
                rcases hk1 with z | ⟨o, z⟩
                · rw [hkr] at z
                  injection z with z
                  injection z with z
                  exact z.symm
                · rw [hkr] at z
                  cases z
              subst e1
              have e2 : k' = kI ks[i] := by
                cases k' with
                | inl j =>
                  have z : V.int (ks[i] : Int) = V.int j := hk2
                  injection z with z
                  rw [← z]
                | inr j => cases hk2
              rw [← e2]
              exact hk3.symm
            · cases hk2
          refine ⟨_, rfl, _, rfl, r, .ref t2, rfl, .inl ⟨kvs, kI ks[i], .inr ⟨od, hfr⟩, rfl, hval.symm⟩, hfr, ?_⟩
          have eu := unlock hkr g
          exact q _ _ (eB.trans (ExB.of (e5.trans eu))) (P5.up eu) (.inr ⟨t2, rfl⟩) ⟨fun _ => hw, fun _ z => by cases z⟩
        · refine ⟨_, rfl, eG.trans g3, fun j k hj hk => ?_⟩
          by_cases e : j = i
          · subst e
            rw [List.getElem?_eq_getElem hik] at hk
            obtain rfl := Option.some.inj hk
            rw [rd_of es]
            have hb' : inV (V.str nm) (s.reads.map V.str) = false := hb
            rw [inV_str] at hb'
            exact of_decide_eq_false hb'
          · exact hno j k (by omega) hk
      · exfalso
        obtain ⟨u4, rfl, eG, hno⟩ := h
        obtain ⟨k, hk1, hk2⟩ := wnt_iff.mp hw.2
        obtain ⟨j, hj, e⟩ := List.getElem_of_mem ((hks k).mpr hk1)
        exact hno j k (by omega) (by rw [List.getElem?_eq_getElem hj, e]) hk2

end
end FB
set_option Elab.async false
set_option linter.all false
set_option maxRecDepth 100000
set_option maxHeartbeats 4000000
namespace FB
open PySem PySem.Spec PyProof.Rows L2 Evl
open C8 (Cal Mak pe_c pe_mk pe_gc)
section
variable {P : Program} {w : World} {K : PySem.W.Frag} {mg : Str → Option Value} {base : Heap}
def sp_wanted (K : PySem.W.Frag) : Sp := fun vs H Q _ => ∃ (p a d : Addr) (ss : List Stp), vs = [.ref p] ∧ PrF K H p a d ss ∧ ∀ (l : Addr) (us : List V) (told : List (List Str)) H', ExB d H H' → PrF K H' p a d ss → H' l = some (.lst us) → Paired (TupS H') us told → ToldOk ss told → Q (.ref l) H'
abbrev n_wanted : List Str := ["program"]
theorem sc_wanted : FnScope n_wanted ["program"] (defScope s_wanted) := ⟨rfl, rfl, rfl, by decide +kernel, rfl, by decide +kernel, by decide +kernel⟩
theorem c_wanted (T : Tx K mg) : Cal P w K mg base 6 "wanted" (sp_wanted K) [] := by
  have k_wanted_of := c_wanted_of (P := P) (w := w) (base := base) T
  refine calOf T 17 rfl rfl sc_wanted (fun _ _ _ _ _ _ us hl => match us, hl with | [_], _ => rfl) (fun vs H Q E h => ?_) (fun cdv A outer s H vs Q E hr h => ?_)
  · obtain ⟨_, _, _, _, rfl, _⟩ := h
    rfl
  · obtain ⟨p, a, d, ss, rfl, hP, q⟩ := h
    refine ⟨_, (pss_one (ps_ret (pe_callTy (xc_list (K := K)) rfl T.f_list (by decide +kernel) (pa_cons (pe_c k_wanted_of hr (by decide) rfl (pa_cons (pv 0) pa_nil)) pa_nil)))), ?_⟩
    refine ⟨_, rfl, p, a, d, ss, rfl, hP, fun v H1 e1 P1 ht => ?_⟩
    obtain ⟨l, us, told, rfl, h1, h2, h3⟩ := ht
    exact ⟨l, us, rfl, .inl (sq_of h1), fun m hm => q m us told _ (e1.trans (ExB.of (Ex.new hm))) (P1.up (Ex.new hm)) upd_same (prd_imp (fun _ _ => TupS.up (Ex.new hm)) h2) h3⟩

end
end FB
set_option Elab.async false
set_option linter.all false
set_option maxRecDepth 100000
set_option maxHeartbeats 4000000
namespace FB
open PySem PySem.Spec PyProof.Rows L2 Evl
open C8 (Cal Mak pe_c pe_mk pe_gc)
section
variable {P : Program} {w : World} {K : PySem.W.Frag} {mg : Str → Option Value} {base : Heap}
/-! routes as data -/
def tupD (r : List Nat) : PyData := .tuple (r.map fun k : Nat => PyData.int (k : Int))
theorem eqv_ints : ∀ r s : List Nat, PyData.eqvAll (r.map fun k : Nat => PyData.int (k : Int)) (s.map fun k : Nat => PyData.int (k : Int)) = decide (r = s)
  | [], [] => rfl
  | [], _ :: _ => rfl
  | _ :: _, [] => rfl
  | x :: r, y :: s => by
    have ih := eqv_ints r s
    show (PyData.eqv (.int (x : Int)) (.int (y : Int)) && PyData.eqvAll (r.map fun k : Nat => PyData.int (k : Int)) (s.map fun k : Nat => PyData.int (k : Int))) = _
    rw [ih]
    show (((x : Int) == (y : Int)) && decide (r = s)) = _
    by_cases e : x = y
    · subst e
      simp
    · have e2 : ¬ ((x : Int) = (y : Int)) := fun z => e (by omega)
      simp [e, e2]
theorem eqv_tupD (r s : List Nat) : PyData.eqv (tupD r) (tupD s) = decide (r = s) := eqv_ints r s
theorem ints_lay : ∀ r : List Nat, PyData.canLayAll0 (r.map fun k : Nat => PyData.int (k : Int)) = true
  | [] => by simp [PyData.canLayAll0]
  | x :: r => by simp [PyData.canLayAll0, PyData.canLay0, ints_lay r]
theorem ints_depth : ∀ r : List Nat, PyData.depthAll (r.map fun k : Nat => PyData.int (k : Int)) ≤ 2
  | [] => by simp [PyData.depthAll]
  | x :: r => by
    have := ints_depth r
    simp [PyData.depthAll, PyData.depth]
    omega
theorem tupD_lay (r : List Nat) : (tupD r).canLay0 = true := by simp [tupD, PyData.canLay0, ints_lay r]
theorem tupD_depth (r : List Nat) : (tupD r).depth ≤ 4 := by
  have := ints_depth r
  simp [tupD, PyData.depth]
  omega
theorem tupDs_lay : ∀ rs : List (List Nat), PyData.canLayAll0 (rs.map tupD) = true
  | [] => by simp [PyData.canLayAll0]
  | r :: rs => by simp [PyData.canLayAll0, tupD_lay r, tupDs_lay rs]
theorem tupDs_depth : ∀ rs : List (List Nat), PyData.depthAll (rs.map tupD) ≤ 8
  | [] => by simp [PyData.depthAll]
  | r :: rs => by
    have h1 := tupD_depth r
    have h2 := tupDs_depth rs
    simp [PyData.depthAll]
    omega
theorem tupD_shaped (r : List Nat) : SeqAt.shaped (tupD r) = true := by
  unfold SeqAt.shaped
  have := tupD_depth r
  rw [tupD_lay, decide_eq_true (by omega)]
  rfl
theorem tupDs_shaped (rs : List (List Nat)) : SeqAt.shaped (.list (rs.map tupD)) = true := by
  unfold SeqAt.shaped
  have := tupDs_depth rs
  have h1 : (PyData.list (rs.map tupD)).canLay0 = true := by simp [PyData.canLay0, tupDs_lay rs]
  have h2 : (PyData.list (rs.map tupD)).depth ≤ 64 := by
    simp [PyData.depth]
    omega
  rw [h1, decide_eq_true h2]
  rfl
theorem dp_ints {H : Hp} : ∀ r : List Nat, DpAll K H (r.map vN) (r.map fun k : Nat => PyData.int (k : Int))
  | [] => .nil
  | x :: r => .cons (.int _) (dp_ints r)
theorem dp_tup {H : Hp} {v : V} {r : List Nat} (h : TupI H v r) : Dp K H v (tupD r) := by
  obtain ⟨a, rfl, h⟩ := h
  exact .tup (st_of h) (dp_ints r)
theorem dp_tups {H : Hp} : ∀ {vs : List V} {rs : List (List Nat)}, Paired (TupI H) vs rs → DpAll K H vs (rs.map tupD)
  | _, _, .nil => .nil
  | _, _, .cons r t => .cons (dp_tup r) (dp_tups t)
theorem any_tupD (rs : List (List Nat)) (r : List Nat) : ((rs.map tupD).any fun z => PyData.eqv z (tupD r)) = decide (r ∈ rs) := by
  rw [List.any_map]
  induction rs with
  | nil => rfl
  | cons x rs ih =>
    rw [List.any_cons, ih]
    show (PyData.eqv (tupD x) (tupD r) || decide (r ∈ rs)) = _
    rw [eqv_tupD]
    by_cases e : x = r
    · subst e
      simp
    · have e2 : ¬ r = x := fun z => e z.symm
      simp [e, e2]
theorem ev_inD {σ : Sg} {H : Hp} {ta tb : TE} {v : V} {l : Addr} {r : List Nat} {vs : List V} {rs : List (List Nat)} (ha : Ev ta σ H v) (hv : TupI H v r) (hb : Ev tb σ H (.ref l)) (hl : H l = some (.lst vs)) (hp : Paired (TupI H) vs rs) : Ev (tOp (rInD K) ta tb) σ H (.bl (decide (r ∈ rs))) :=
  ev_op ha hb fun H1 e Q q => ⟨tupD r, rs.map tupD, dp_tup (TupI.up e hv), .lst (sq_of (e _ _ hl)) (dp_tups (prd_imp (fun _ _ => TupI.up e) hp)), tupD_shaped r, tupDs_shaped rs, by rw [any_tupD]; exact q H1 (Ex.refl H1)⟩
/-- a route that shows the name wanted -/
def goodB (ss : List Stp) (nm : Str) (w : Row) : Bool := decide (nm ∈ rd ss w.2.2) && leavesB ss (w.2.1 ++ [w.2.2]) nm
theorem leavesB_iff {ss : List Stp} {ps : List Nat} {q : Nat} {nm : Str} : leavesB ss (ps ++ [q]) nm = true ↔ ∀ x ∈ ps, md ss x ≠ some nm := by
  unfold leavesB
  rw [List.dropLast_concat, List.all_eq_true]
  exact ⟨fun h x hx => by simpa using h x hx, fun h x hx => by simpa using h x hx⟩
theorem good_some {ss : List Stp} (ok : Okp ss) {p : Nat} (hp : p < ss.length) {nm : Str} {ws : List Row} (h : RowsOk ss p ws) : (∃ w ∈ ws, goodB ss nm w = true) ↔ Wnt ss nm p := by
  rw [wnt_wlk ok hp]
  constructor
  · rintro ⟨w, hw, hg⟩
    obtain ⟨h1, h2⟩ := h.sound w hw
    obtain ⟨g1, g2⟩ := (Bool.and_eq_true _ _).mp hg
    exact ⟨_, _, _, h1, h2, leavesB_iff.mp g2, of_decide_eq_true g1⟩
  · rintro ⟨r, ps, q, h1, h2, h3, h4⟩
    exact ⟨(r, ps, q), h.full r ps q h1 h2, (Bool.and_eq_true _ _).mpr ⟨decide_eq_true h4, leavesB_iff.mpr h3⟩⟩
theorem good_one {ss : List Stp} {p : Nat} {nm : Str} {ws : List Row} (h : RowsOk ss p ws) {w : Row} (hw : w ∈ ws) : (∃ w' ∈ ws, goodB ss nm w' = true ∧ w'.1 = w.1) ↔ goodB ss nm w = true := by
  constructor
  · rintro ⟨w', h1, h2, h3⟩
    have k1 := (h.sound w hw).1
    have k2 := (h.sound w' h1).1
    rw [h3] at k2
    obtain ⟨e1, e2⟩ := k1.det k2
    unfold goodB at h2 ⊢
    rw [← e1, ← e2]
    exact h2
  · exact fun h => ⟨w, hw, h, rfl⟩
/-- the comprehension over rows: the routes of some -/
theorem er_rows {σ : Sg} {H : Hp} {tl : TE} {t : TT} {j1 j2 : Nat} {vs : List Nat} {l : Addr} {us : List V} {ws : List Row} (f : Row → Bool) (h : Ev tl σ H (.ref l)) (hl : H l = some (.lst us)) (hp : Paired (RowAt H) us ws) (hz : us.length ≤ 40000) (hw : ∀ x y, wipe (((wipe σ vs).set j1 x).set j2 y) vs = wipe σ vs) (h1 : j1 < σ.length) (h12 : j1 ≠ j2)
    (ht : ∀ (w : Row) (a b : Addr) G, Ex H G → w ∈ ws → G a = some (.tup (w.1.map vN)) → G b = some (.lst ((w.2.1 ++ [w.2.2]).map vN)) → EvT t (((wipe σ vs).set j1 (some (.ref a))).set j2 (some (.ref b))) G (f w)) :
    EvR (tLc (iList K tl) (gTup K 2 (gCons (gName j1) (gCons (gName j2) gNil))) t (tVar j1) vs) σ H fun acc G => ∃ rs, Paired (TupI G) acc rs ∧ ∀ r, r ∈ rs ↔ ∃ w ∈ ws, f w = true ∧ w.1 = r := fun H0 e Q q => h H0 e _ fun H1 e1 => by
  have e01 := e.trans e1
  have hpl := hp.length
  refine ⟨l, rfl, ⟨us, sq_of (e01 _ _ hl)⟩, fun Dl hD => ?_⟩
  refine lc_list (xs := us) (fun i G => Ex H1 G ∧ ∃ acc rs, acc.length ≤ i ∧ G Dl = some (.lst acc) ∧ Paired (TupI G) acc rs ∧ ∀ r, r ∈ rs ↔ ∃ w ∈ ws.take i, f w = true ∧ w.1 = r) ⟨Ex.new hD, [], [], Nat.le_refl _, upd_same, .nil, fun r => by simp⟩ (fun i G _ p => sq_of (p.1 _ _ (e01 _ _ hl))) (fun i x G hi p => ?_) fun G p => ?_
  · obtain ⟨eG, acc, rs, hal, hac, hpr, hrs⟩ := p
    obtain ⟨w, hwi, hrow⟩ := prd_get' hp hi
    have hil := (List.getElem?_eq_some_iff.mp hi).1
    obtain ⟨T, a, b, rfl, hT, ha, hb⟩ := RowAt.up (e01.trans eG) hrow
    have hwm := List.mem_of_getElem? hwi
    have htk : ws.take (i + 1) = ws.take i ++ [w] := by rw [List.take_succ, hwi]; rfl
    refine ⟨T, [.ref a, .ref b], rfl, st_of hT, rfl, .ref a, [.ref b], rfl, .ref b, [], rfl, rfl, hw _ _, ?_⟩
    refine ht w a b G (e01.trans eG) hwm ha hb G (Ex.refl G) _ fun G2 g2 => ?_
    cases hf : f w with
    | true =>
      refine iteT ?_
      refine ⟨.ref a, ?_, acc, g2 _ _ hac, sz_lt (by omega), Ex.mut (eG.trans g2) hD, acc ++ [.ref a], rs ++ [w.1], by rw [List.length_append]; show acc.length + 1 ≤ i + 1; omega, upd_same, ?_, fun r => ?_⟩
      · rw [List.getElem?_set_ne (fun z => h12 z.symm), List.getElem?_set_self (by rw [wipe_length]; exact h1)]
      · have bx := boxL (g2 _ _ hac)
        exact prd_app (prd_imp (fun _ _ h => TupI.upB ExB.put bx (TupI.up g2 h)) hpr) (.cons (TupI.upB ExB.put bx ⟨a, rfl, g2 _ _ ha⟩) .nil)
      · rw [List.mem_append, hrs r, htk]
        constructor
        · rintro (⟨w', m, h2, h3⟩ | m)
          · exact ⟨w', List.mem_append_left _ m, h2, h3⟩
          · exact ⟨w, List.mem_append_right _ (List.mem_singleton.mpr rfl), hf, (List.mem_singleton.mp m).symm⟩
        · rintro ⟨w', m, h2, h3⟩
          rcases List.mem_append.mp m with m | m
          · exact .inl ⟨w', m, h2, h3⟩
          · rw [List.mem_singleton.mp m] at h3
            exact .inr (List.mem_singleton.mpr h3.symm)
    | false =>
      refine iteF (B := (_ : Prop)) ?_
      refine ⟨eG.trans g2, acc, rs, by omega, g2 _ _ hac, prd_imp (fun _ _ => TupI.up g2) hpr, fun r => ?_⟩
      rw [hrs r, htk]
      constructor
      · rintro ⟨w', m, h2, h3⟩
        exact ⟨w', List.mem_append_left _ m, h2, h3⟩
      · rintro ⟨w', m, h2, h3⟩
        rcases List.mem_append.mp m with m | m
        · exact ⟨w', m, h2, h3⟩
        · rw [List.mem_singleton.mp m, hf] at h2
          cases h2
  · obtain ⟨eG, acc, rs, hal, hac, hpr, hrs⟩ := p
    refine q Dl acc G (fresh_back e1 hD) (e1.trans eG) hac ⟨rs, hpr, fun r => ?_⟩
    rw [hrs r, List.take_of_length_le (by omega)]
theorem s_forTN {n : Nat} {σ : Sg} {H : Hp} {tl : TE} {gs : TGs} {D : Ends} {tu : TS} {xs : List V} (h : EvL tl σ H xs) (Pv : Addr → Nat → L2.St → Hp → Prop) (h0 : ∀ m H1, Ex H H1 → H1 m = some (.lst xs) → Pv m 0 σ H1) (hl : ∀ m i σ' H', i ≤ xs.length → Pv m i σ' H' → SqL K H' m xs)
    (hs : ∀ m i x σ' H', xs[i]? = some x → Pv m i σ' H' → gTup K n gs x σ' H' fun σ2 H2 => tu { D with nx := Pv m (i + 1), ct := Pv m (i + 1), bk := D.nx } σ2 H2) (hd : ∀ m σ' H', Pv m xs.length σ' H' → D.nx σ' H') : tFor (iList K tl) (gTup K n gs) tu D σ H :=
  h H (Ex.refl H) _ fun m H1 hm e hx => ⟨m, rfl, ⟨xs, sq_of hx⟩, for_list (Pv m) (h0 m H1 e hx) (hl m) (hs m) (hd m)⟩
theorem hu65_of {A : Around} {k : Nat} (hr : Room k A) : A.units + 65 < cLine := by
  have := hr.un
  omega
theorem okOf (T : Tx K mg) {x : Str} {st : Stmt} {N ps : List Str} {k : Nat} {sp : Sp} {fd : FuncData} (F : FunD K x x (defArgs st) (defBody st) (defScope st) [] [] (He.ga K x) fd) (S : FnScope N ps (defScope st)) (len : ∀ vs H Q E, sp vs H Q E → vs.length = ps.length)
    (hbody : ∀ (cdv : Value) (A : Around) (outer : List Env) (s : Shared) (H : Hp) (vs : List V) (Q : VK) (E : XK), Room k (A.deeper (envOfC x (defScope st) s.heap.objs.size (He.ga K x) cdv)) → sp vs H Q E →
      ∃ t, PSs (cxOf C8.CX0 P w K mg base N x (defScope st) (He.ga K x) cdv A outer s H E).nox (defBody st) t ∧ t { nx := fun _ H' => Q .non H', rt := Q } (start N vs) H) : FnOk P w K mg base C8.CX0 (k + 1) (He.ga K x) fd ps sp := by
  refine F.ok S len fun cdv A outer s H vs Q E hr h => ?_
  obtain ⟨t, h1, h2⟩ := hbody cdv A outer s H vs Q E hr h
  exact ⟨t, h1.nox, h2⟩
def sp_law (K : PySem.W.Frag) : Sp := fun vs H Q _ => ∃ (a : Addr) (ns : List Int), vs = [.ref a] ∧ SqL K H a (ns.map V.int) ∧ ns.length ≤ 63 ∧ ∀ H', Q (.bl true) H'
abbrev n_law : List Str := ["_law_script", "_law_tape_here", "_law_steps_here", "_law_program", "_law_told", "_law_there", "_law_names_here", "_law_step_here", "_law_place", "_law_name", "_law_routes_here", "_law_good", "_law_due", "_law_route", "_law_places"]
theorem sc_law : FnScope n_law ["_law_script"] (defScope s_law) := ⟨rfl, rfl, rfl, by decide +kernel, rfl, by decide +kernel, by decide +kernel⟩
theorem ok_law (T : Tx K mg) {fd : FuncData} (F : FunD K "law" "law" (defArgs s_law) (defBody s_law) (defScope s_law) [] [] (He.ga K "law") fd) : FnOk P w K mg base C8.CX0 8 (He.ga K "law") fd ["_law_script"] (sp_law K) := by
  have m_Program := m_init (P := P) (w := w) (base := base) T
  have k_law_leaves := c_law_leaves (P := P) (w := w) (base := base) T
  have k_law_mended := c_law_mended (P := P) (w := w) (base := base) T
  have k_law_reads := c_law_reads (P := P) (w := w) (base := base) T
  have k_law_routes := c_law_routes (P := P) (w := w) (base := base) T
  have k_law_steps := c_law_steps (P := P) (w := w) (base := base) T
  have k_law_tape := c_law_tape (P := P) (w := w) (base := base) T
  have k_is_want_route := c_is_want_route (P := P) (w := w) (base := base) T
  have k_reached := c_reached (P := P) (w := w) (base := base) T
  have k_want_route := c_want_route (P := P) (w := w) (base := base) T
  have k_wanted := c_wanted (P := P) (w := w) (base := base) T
  refine okOf T F sc_law (fun vs H Q E h => ?_) (fun cdv A outer s H vs Q E hr h => ?_)
  · obtain ⟨_, _, rfl, _⟩ := h
    rfl
  · obtain ⟨a, ns0, rfl, hs0, hl0, q⟩ := h
    refine ⟨_, (pss_cons (ps_set (i := 1) sc_law.nd rfl (.inl rfl) (pe_c k_law_tape hr (by decide) rfl (pa_cons (pv 0) pa_nil)))
      (pss_cons (ps_set (i := 2) sc_law.nd rfl (.inr rfl) (pe_c k_law_mended hr (by decide) rfl (pa_cons (pe_c k_law_steps hr (by decide) rfl (pa_cons (pv 1) (pa_cons pe_int pa_nil))) pa_nil)))
      (pss_cons (ps_set (i := 3) sc_law.nd rfl (.inl rfl) (pe_mk (C := CP K) m_Program hr (by decide) rfl (pa_cons (pv 2) pa_nil)))
      (pss_cons (ps_set (i := 4) sc_law.nd rfl (.inl rfl) (pe_c k_wanted hr (by decide) rfl (pa_cons (pv 3) pa_nil)))
      (pss_cons (ps_set (i := 5) sc_law.nd rfl (.inl rfl) (pe_c k_reached hr (by decide) rfl (pa_cons (pv 3) pa_nil)))
      (pss_cons (ps_set (i := 6) sc_law.nd rfl (.inl rfl) (pe_lst pa_nil))
      (pss_cons (ps_for PassesOwn.never rfl (x_tup (K := K) (pv 2)) (pg_name (i := 7) sc_law.nd rfl (.inl rfl))
          ((pss_one (ps_for PassesOwn.never rfl (x_list (K := K) (pe_c k_law_reads hr (by decide) rfl (pa_cons (pv 7) pa_nil))) (pg_name (i := 9) sc_law.nd rfl (.inr rfl))
              ((pss_one (ps_if (pt_cmpR (xo_notIn (K := K)) (pv 9) (pv 6) rfl)
                  ((pss_one (ps_expr (pe_bm PySem.F.plainAttrs_list PySem.F.slot_list_append PySem.F.type_list_append mt_append (pv 6) (pa_cons (pv 9) pa_nil)))))
                  (pss_nil))))))))
      (pss_cons (ps_for PassesOwn.never rfl (pi_range1 rfl T.f_range (pa_cons (pe_callB (xc_len (K := K)) rfl T.f_len (by decide +kernel) (pa_cons (pv 2) pa_nil)) pa_nil)) (pg_name (i := 8) sc_law.nd rfl (.inl rfl))
          ((pss_cons (ps_set (i := 10) sc_law.nd rfl (.inl rfl) (pe_c k_law_routes hr (by decide) rfl (pa_cons (pv 2) (pa_cons (pv 8) (pa_cons pe_int pa_nil)))))
          (pss_one (ps_for PassesOwn.never rfl (x_list (K := K) (pv 6)) (pg_name (i := 9) sc_law.nd rfl (.inr rfl))
              ((pss_cons (ps_setLc (i := 11) (g := gTup K 2 (gCons (gName 13) (gCons (gName 14) (gNil)))) (tt := _) (own := [("_law_route", 13), ("_law_places", 14)]) rfl sc_law.nd rfl rfl (sw_true rfl rfl rfl (by decide +kernel)) (x_list (K := K) (pv 10)) (blkOk_by (own := [("_law_route", 13), ("_law_places", 14)]) (N := n_law) (sc := defScope s_law) (by decide +kernel)) (fun _ _ _ _ _ => (pg_tup rfl (pgs_cons (pg_name (i := 13) sc_law.nd rfl (.inl rfl)) (pgs_cons (pg_name (i := 14) sc_law.nd rfl (.inl rfl)) pgs_nil)))) (fun _ _ _ _ _ => (pts_one (PW.pt (pw_and (pt_cmpR (xo_in (K := K)) (pv 9) (pe_c k_law_reads hr (by decide) rfl (pa_cons (pe_ix (xi_tup (K := K)) (pv 2) (pe_ix (xi_list (K := K)) (pv 14) (pe_un un_neg pe_int) (fun _ _ => rfl)) (fun _ _ => rfl)) pa_nil)) rfl) (pw_and1 (pt_val (pe_c k_law_leaves hr (by decide) rfl (pa_cons (pv 2) (pa_cons (pv 14) (pa_cons (pv 9) pa_nil)))))))))) (fun _ _ _ _ _ => (pv 13)))
              (pss_cons (ps_set (i := 12) sc_law.nd rfl (.inl rfl) (pe_and (pe_cmpR (xo_in (K := K)) (pv 8) (pv 5) rfl) (pe_one (pe_cmpR op_gt (pe_callB (xc_len (K := K)) rfl T.f_len (by decide +kernel) (pa_cons (pv 11) pa_nil)) pe_int (nomark _)))))
              (pss_cons (ps_if (PW.pt (pw_or (pt_cmpR op_ne (pe_cmpR (xo_in (K := K)) (pv 9) (pe_ix (xi_list (K := K)) (pv 4) (pv 8) (fun _ _ => rfl)) rfl) (pv 12) (nomark _)) (pw_or1 (pt_cmpR op_ne (pe_cmpR op_notN1 (pe_c k_want_route hr (by decide) rfl (pa_cons (pv 3) (pa_cons (pv 8) (pa_cons (pv 9) pa_nil)))) pe_non (nomark _)) (pv 12) (nomark _)))))
                  ((pss_one (ps_ret pe_bl)))
                  (pss_nil))
              (pss_one (ps_for PassesOwn.never rfl (x_list (K := K) (pe_op op_cat (pe_slice (xs_list (K := K)) (pv 10) po_none (po_some pe_int)) (pe_slice (xs_list (K := K)) (pv 10) (po_some (pe_un un_neg pe_int)) po_none))) (pg_tup rfl (pgs_cons (pg_name (i := 13) sc_law.nd rfl (.inl rfl)) (pgs_cons (pg_name (i := 14) sc_law.nd rfl (.inl rfl)) pgs_nil)))
                  ((pss_one (ps_if (pt_cmpR op_ne (pe_c k_is_want_route hr (by decide) rfl (pa_cons (pv 3) (pa_cons (pv 8) (pa_cons (pv 9) (pa_cons (pv 13) pa_nil))))) (pe_and (pe_cmpR (xo_in (K := K)) (pv 8) (pv 5) rfl) (pe_one (pe_cmpR (xo_inD (K := K) (hu65_of hr)) (pv 13) (pv 11) rfl))) (nomark _))
                      ((pss_one (ps_ret pe_bl)))
                      (pss_nil)))))))))))))))
      (pss_one (ps_ret pe_bl)))))))))), ?_⟩
    refine ⟨_, rfl, a, ns0, rfl, hs0, hl0, fun t l H1 e1 t1 => ?_⟩
    refine ⟨_, rfl, t, l, rfl, t1, fun r0 ss0 H2 s2 ok2 e2 t2 => ?_⟩
    refine ⟨r0, ss0, rfl, s2, ok2, fun r ss H3 e3 s3 ok => ?_⟩
    refine ⟨_, rfl, fun p dx hp hdx hne => ?_⟩
    have hp' : (upd H3 dx (.own p)) p = none := by rw [upd_ne hne.symm]; exact hp
    refine ⟨p, dx, r, ss, rfl, upd_same, s3.up ((Ex.new hdx).trans (Ex.new hp')), ok, fun d H4 hd e4 P4 => ⟨rfl, ?_⟩⟩
    refine ⟨_, rfl, p, r, d, ss, rfl, P4, fun tl us told H5 e5 P5 htl hus htold => ?_⟩
    refine ⟨_, rfl, p, r, d, ss, rfl, P5, fun th ns H6 e6 P6 hth hnl hns => ?_⟩
    have hl4 := ok.hi
    obtain ⟨k5, hd5, _⟩ := P5.f
    have htl6 := e6 _ _ (fun z => by rw [z, hd5] at htl; cases htl) htl
    have hus6 : Paired (TupS H6) us told := prd_imp (fun _ _ => TupS.upB e6 (boxD hd5)) hus
    -- the names
    refine q_asgL (el_lst ea_nil (by simp)) fun nl H7 hnl0 e7 n7 => ?_
    obtain ⟨vs, hv, hpr⟩ := id P6.s.st
    have hvl := hpr.length
    refine q_forTn (ev_var rfl) (st_of (e7 _ _ hv)) (fun i σ' G => ∃ u7 u9, σ' = [some (.ref a), some (.ref t), some (.ref r), some (.ref p), some (.ref tl), some (.ref th), some (.ref nl), u7, none, u9, none, none, none, none, none] ∧ Ex H6 G ∧ ∃ xs : List Str, G nl = some (.lst (xs.map V.str)) ∧ xs.length ≤ 2 * i ∧ ∀ x ∈ xs, Nm x)
      (fun G e => ⟨none, none, rfl, e7.trans e, [], e _ _ n7, Nat.zero_le _, fun x hx => (by cases hx)⟩) (fun i σ' G hi h => ?_) (fun i x σ' G hi h => ?_) fun σ' G h => ?_
    · obtain ⟨_, _, _, eG, _⟩ := h
      exact st_of (eG _ _ hv)
    · obtain ⟨u7, u9, rfl, eG, xs, gn, hxl, hxn⟩ := h
      obtain ⟨s, es, hx⟩ := prd_get' hpr hi
      have hrl := (ok.at es).reads_len
      have hrn := (ok.at es).reads
      have hil := (List.getElem?_eq_some_iff.mp es).1
      refine s_forE (er_L (el_call (ea_cons (ev_var rfl) ea_nil) (l_law_reads (hx.up eG)))) (fun m ys j σ' G' => ys = s.reads.map V.str ∧ ∃ u9, σ' = [some (.ref a), some (.ref t), some (.ref r), some (.ref p), some (.ref tl), some (.ref th), some (.ref nl), some x, none, u9, none, none, none, none, none] ∧ m ≠ nl ∧ Ex H6 G' ∧ G' m = some (.lst ys) ∧ ∃ xs : List Str, G' nl = some (.lst (xs.map V.str)) ∧ xs.length ≤ 2 * i + j ∧ ∀ x ∈ xs, Nm x)
        (fun m ys G' hp e h1 h2 => ⟨h2, u9, rfl, fun z => (by rw [z, gn] at hp; cases hp), eG.trans e, h1, xs, e _ _ gn, hxl, hxn⟩) (fun m ys j σ' G' _ h => ?_) (fun m ys j y σ' G' hj h => ?_) fun m ys σ' G' h => ?_
      · obtain ⟨_, _, _, _, _, h, _⟩ := h
        exact sq_of h
      · obtain ⟨rfl, u9, rfl, nmn, eG', gm, xs', gn', hxl', hxn'⟩ := h
        have hjl : j < 2 := by
          have := (List.getElem?_eq_some_iff.mp hj).1
          rw [List.length_map] at this
          omega
        obtain ⟨z, hz, rfl⟩ : ∃ z, s.reads[j]? = some z ∧ y = V.str z := by
          rw [List.getElem?_map] at hj
          cases e : s.reads[j]? with
          | none => rw [e] at hj; cases hj
          | some z =>
            rw [e] at hj
            exact ⟨z, rfl, (Option.some.inj hj).symm⟩
        refine s_when (et_inP (neg := true) (xs := xs'.map V.str) (ev_var rfl) (ep_of (ev_var rfl)) (fun v H1 e hv => ⟨nl, hv, .inl (sq_of (e _ _ gn'))⟩) rfl (flat_strs2 xs') rfl) (fun _ G1 g1 => ?_) fun _ G1 g1 => ⟨rfl, _, rfl, nmn, eG'.trans g1, g1 _ _ gm, xs', g1 _ _ gn', by omega, hxn'⟩
        refine s_app (g1 _ _ gn') (ev_var rfl) (ev_var rfl) (by rw [List.length_map]; omega) fun G2 g2 => ?_
        refine ⟨rfl, _, rfl, nmn, Ex.mut ((eG'.trans g1).trans g2) hnl0, ?_, xs' ++ [z], ?_, ?_, fun x hx => ?_⟩
        · rw [upd_ne nmn]
          exact g2 _ _ (g1 _ _ gm)
        · rw [upd_same, List.map_append]
          rfl
        · rw [List.length_append]
          show xs'.length + 1 ≤ _
          omega
        · rcases List.mem_append.mp hx with h | h
          · exact hxn' x h
          · rw [List.mem_singleton.mp h]
            exact hrn z (List.mem_of_getElem? hz)
      · obtain ⟨rfl, u9, rfl, nmn, eG', gm, xs', gn', hxl', hxn'⟩ := h
        rw [List.length_map] at hxl'
        exact ⟨_, _, rfl, eG', xs', gn', by omega, hxn'⟩
    · obtain ⟨u7, u9, rfl, eG, xs, gn, hxl, hxn⟩ := h
      have P8 := P6.up eG
      have htl8 := eG _ _ htl6
      have hus8 : Paired (TupS G) us told := prd_imp (fun _ _ => TupS.up eG) hus6
      have hth8 := eG _ _ hth
      have hx8 : xs.length ≤ 8 := by omega
      clear eG
      -- what stays
      let St : Hp → Prop := fun G' => PrF K G' p r d ss ∧ G' tl = some (.lst us) ∧ Paired (TupS G') us told ∧ G' th = some (.lst (ns.map vN)) ∧ G' nl = some (.lst (xs.map V.str))
      have St0 : St G := ⟨P8, htl8, hus8, hth8, gn⟩
      have Sup : ∀ {G1 G2 : Hp}, St G1 → Ex G1 G2 → St G2 := fun ⟨s1, s2, s3, s4, s5⟩ e => ⟨s1.up e, e _ _ s2, prd_imp (fun _ _ => TupS.up e) s3, e _ _ s4, e _ _ s5⟩
      have SupB : ∀ {G1 G2 : Hp}, St G1 → ExB d G1 G2 → PrF K G2 p r d ss → St G2 := fun ⟨s1, s2, s3, s4, s5⟩ e P => by
        obtain ⟨k1, hd1, _⟩ := s1.f
        exact ⟨P, e _ _ (fun z => by rw [z, hd1] at s2; cases s2) s2, prd_imp (fun _ _ => TupS.upB e (boxD hd1)) s3, e _ _ (fun z => by rw [z, hd1] at s4; cases s4) s4, e _ _ (fun z => by rw [z, hd1] at s5; cases s5) s5⟩
      have lstB : ∀ {G1 G2 : Hp} {m : Addr} {ys : List V}, St G1 → ExB d G1 G2 → G1 m = some (.lst ys) → G2 m = some (.lst ys) := fun s e h => by
        obtain ⟨k1, hd1, _⟩ := s.1.f
        exact e _ _ (fun z => by rw [z, hd1] at h; cases h) h
      refine q_forR1 (n := (ss.length : Int)) (ea_cons (ev_is (ev_lenE (ev_var rfl) (.inr (st_of P8.s.st.choose_spec.1))) (congrArg V.int (by rw [P8.s.st.choose_spec.2.length]))) ea_nil) ⟨by omega, by omega⟩
        (fun i σ' G' => ∃ u8 u9 u10 u11 u12 u13 u14, σ' = [some (.ref a), some (.ref t), some (.ref r), some (.ref p), some (.ref tl), some (.ref th), some (.ref nl), u7, u8, u9, u10, u11, u12, u13, u14] ∧ St G')
        (fun G' e => ⟨_, _, _, _, _, _, _, rfl, Sup St0 e⟩) (fun i σ' G1 hi h => ?_) fun σ' G1 h => q G1
      obtain ⟨u8, u9, u10, u11, u12, u13, u14, rfl, S1⟩ := h
      have hil : i < ss.length := by omega
      refine ⟨_, rfl, _, rfl, r, ss, i, rfl, S1.1.s.st, ok, hil, fun rl rus rws G2 g2 hrl hrp hrk => ?_⟩
      have S2 := Sup S1 g2
      have hrlen : rus.length ≤ 1000 := by
        rw [hrp.length]
        exact hrk.len
      refine s_forLn (ev_var rfl) (sq_of S2.2.2.2.2) (fun j σ' G' => ∃ u9 u11 u12 u13 u14, σ' = [some (.ref a), some (.ref t), some (.ref r), some (.ref p), some (.ref tl), some (.ref th), some (.ref nl), u7, some (vN i), u9, some (.ref rl), u11, u12, u13, u14] ∧ St G' ∧ G' rl = some (.lst rus) ∧ Paired (RowAt G') rus rws)
        (fun G' e => ⟨_, _, _, _, _, rfl, Sup S2 e, e _ _ hrl, prd_imp (fun _ _ => RowAt.up e) hrp⟩) (fun j σ' G' _ h => ?_) (fun j x σ' G3 hj h => ?_) fun σ' G' h => ?_
      · obtain ⟨_, _, _, _, _, _, S, _⟩ := h
        exact sq_of S.2.2.2.2
      · obtain ⟨u9, u11, u12, u13, u14, rfl, S3, hrl3, hrp3⟩ := h
        obtain ⟨nm, hnmx, rfl⟩ : ∃ nm, nm ∈ xs ∧ x = V.str nm := by
          obtain ⟨z, hz, e⟩ := List.mem_map.mp (List.mem_of_getElem? hj)
          exact ⟨z, hz, e.symm⟩
        have hnm := hxn nm hnmx
        refine q_asgP (ep_R (er_rows (goodB ss nm) (ev_var rfl) hrl3 hrp3 (by omega) (fun _ _ => rfl) (show 13 < 15 by omega) (show 13 ≠ 14 by omega) fun w ra rb G4 g4 hw hra hrb => ?_)) fun v G4 g4 hv => ?_
        · have hwk := (hrk.sound w hw).1
          have hlt := hwk.lt ok hil
          have hwl := hwk.len
          have hw4 := (hrk.sound w hw).2
          have S4 := Sup S3 g4
          have hpsn : ∀ x ∈ w.2.1 ++ [w.2.2], x < ss.length := fun x hx => by
            rcases List.mem_append.mp hx with z | z
            · exact hlt.2 x z
            · rw [List.mem_singleton.mp z]
              exact hlt.1
          have hlast : atI ((w.2.1 ++ [w.2.2]).map vN) (-1) = some (vN w.2.2) := by
            rw [List.map_append]
            exact atI_last _ _
          obtain ⟨v, s, es, hv, hev⟩ := ev_step (σ := [some (.ref a), some (.ref t), some (.ref r), some (.ref p), some (.ref tl), some (.ref th), some (.ref nl), u7, some (vN i), some (.str nm), some (.ref rl), u11, u12, some (.ref ra), some (.ref rb)]) (ta := tVar 2) (tb := tOp (rIxL K) (tVar 14) (tUn (rU fun i => .int (-i)) (tC (.int 1)))) (ev_var rfl) (ev_ixL (ev_var rfl) (ev_neg ev_c) hrb hlast) S4.1.s.st hlt.1
          refine et_is (et_and (et_inP (neg := false) (xs := s.reads.map V.str) (ev_var rfl) (ep_L (el_call (ea_cons hev ea_nil) (l_law_reads hv))) (fun v H1 e ⟨p, hw, hp⟩ => ⟨p, hw, .inl (sq_of hp)⟩) rfl (flat_strs2 _) rfl) fun _ => et_val (ev_c3 (ev_var rfl) (ev_var rfl) (ev_var rfl) (v_law_leaves S4.1.s.st hrb hpsn (by rw [List.length_append]; show w.2.1.length + 1 ≤ 100; omega)))) ?_
          show (inV (V.str nm) (s.reads.map V.str) && leavesB ss (w.2.1 ++ [w.2.2]) nm) = goodB ss nm w
          rw [inV_str]
          unfold goodB
          rw [rd_of es]
        · obtain ⟨gl, acc, rfl, hgl, rs, hap, hrs⟩ := hv
          have S4 := Sup S3 g4
          have hal := hap.length
          -- what is due
          have hdue : ∃ due : Bool, due = (decide (i ∈ ns) && decide ((0 : Int) < (acc.length : Int))) ∧ (due = true ↔ (Rch ss none 0 i ∧ Wnt ss nm i)) := ⟨_, rfl, by
            rw [Bool.and_eq_true, decide_eq_true_iff, decide_eq_true_iff, hns i, ← good_some ok hil hrk]
            refine and_congr Iff.rfl ⟨fun h => ?_, fun h => ?_⟩
            · have h0 : 0 < rs.length := by omega
              obtain ⟨w, hw, h1, _⟩ := (hrs rs[0]).mp (List.getElem_mem h0)
              exact ⟨w, hw, h1⟩
            · obtain ⟨w, hw, h1⟩ := h
              have := List.length_pos_of_mem ((hrs w.1).mpr ⟨w, hw, h1, rfl⟩)
              omega⟩
          obtain ⟨due, hdue1, hdue2⟩ := hdue
          have inth : ∀ {σ : Sg} {G : Hp}, St G → σ[8]? = some (some (vN i)) → σ[5]? = some (some (.ref th)) → Ev (tOp (rIn K false) (tVar 8) (tVar 5)) σ G (.bl (decide (i ∈ ns))) := fun S h8 h5 =>
            ev_is (ev_inP (neg := false) (xs := ns.map vN) (ev_var h8) (ep_of (ev_var h5)) (fun v H1 e hv => ⟨th, hv, .inl (sq_of (e _ _ S.2.2.2.1))⟩) rfl (flat_ints ns)) (congrArg V.bl (inV_int i ns))
          refine q_asg (ev_is (ev_andV (inth S4 rfl rfl) fun _ => ev_op (ev_lenE (ev_var rfl) (.inl (sq_of hgl))) ev_c rv_I0) (congrArg V.bl hdue1.symm)) fun G5 g5 => ?_
          have S5 := Sup S4 g5
          -- told, and a route that shows it
          obtain ⟨txs, htx⟩ : ∃ txs, told[i]? = some txs := ⟨_, List.getElem?_eq_getElem (by rw [htold.len]; exact hil)⟩
          obtain ⟨tu, htu, tt, rfl, htt⟩ := prd_get S5.2.2.1 htx
          have hsay := htold.says i txs htx nm
          have c1 : (!decide (V.bl (decide (nm ∈ txs)) = V.bl due)) = false := by
            have e : decide (nm ∈ txs) = due := by
              rw [Bool.eq_iff_iff, decide_eq_true_iff, hsay]
              exact hdue2.symm
            rw [e]
            simp
          refine et_test (ev_is (ev_op (ev_is (ev_inP (neg := false) (xs := txs.map V.str) (ev_var rfl) (ep_of (ev_ixL (ev_var rfl) (ev_var rfl) S5.2.1 (atI_nat htu))) (fun v H1 e hv => ⟨tt, hv, .inr (st_of (e _ _ htt))⟩) rfl (flat_strs2 _)) (congrArg V.bl (inV_str nm txs))) (ev_var rfl) (rv_ne rfl)) (congrArg V.bl c1)) G5 (Ex.refl G5) _ fun G6 g6 => ?_
          refine iteF ?_
          have S6 := Sup S5 g6
          refine ⟨_, rfl, _, rfl, _, rfl, p, r, d, ss, i, nm, rfl, S6.1, hil, hnm, fun v G7 g7 P7 hv1 hv2 => ?_⟩
          have S7 := SupB S6 g7 P7
          have c2 : (!decide (V.bl (!decide (v = V.non)) = V.bl due)) = false := by
            have e : (!decide (v = V.non)) = due := by
              rw [Bool.eq_iff_iff]
              have e1 : (!decide (v = V.non)) = true ↔ v ≠ V.non := by simp
              rw [e1, hv2]
              exact hdue2.symm
            rw [e]
            simp
          refine ⟨rfl, _, rfl, rfl, false, congrArg V.bl c2, iteF ?_⟩
          dsimp only
          have g46 := g5.trans g6
          have hrl7 := lstB S6 g7 ((g4.trans g46) _ _ hrl3)
          have hgl7 := lstB S6 g7 (g46 _ _ hgl)
          obtain ⟨k6, hd6, _⟩ := S6.1.f
          have hrp7 : Paired (RowAt G7) rus rws := prd_imp (fun _ _ h => RowAt.upB hd6 g7 (RowAt.up (g4.trans g46) h)) hrp3
          have hap7 : Paired (TupI G7) acc rs := prd_imp (fun _ _ h => TupI.upB g7 (boxD hd6) (TupI.up g46 h)) hap
          have hc1 := cutV_length rus none (some 40)
          have hc2 := cutV_length rus (some (-20)) none
          refine s_forTN (xs := cutV rus none (some 40) ++ cutV rus (some (-20)) none) (el_cat (el_sl (ev_var rfl) eo_none (eo_some ev_c) (sq_of hrl7)) (el_sl (ev_var rfl) (eo_some (ev_neg ev_c)) eo_none (sq_of hrl7)) (by omega))
            (fun m k σ' G' => ∃ u13 u14, σ' = [some (.ref a), some (.ref t), some (.ref r), some (.ref p), some (.ref tl), some (.ref th), some (.ref nl), u7, some (vN i), some (.str nm), some (.ref rl), some (.ref gl), some (.bl due), u13, u14] ∧ St G' ∧ G' m = some (.lst (cutV rus none (some 40) ++ cutV rus (some (-20)) none)) ∧ G' rl = some (.lst rus) ∧ Paired (RowAt G') rus rws ∧ G' gl = some (.lst acc) ∧ Paired (TupI G') acc rs)
            (fun m G' e h => ⟨_, _, rfl, Sup S7 e, h, e _ _ hrl7, prd_imp (fun _ _ => RowAt.up e) hrp7, e _ _ hgl7, prd_imp (fun _ _ => TupI.up e) hap7⟩) (fun m k σ' G' _ h => ?_) (fun m k x σ' G8 hx h => ?_) fun m σ' G' h => ?_
          · obtain ⟨_, _, _, _, h, _⟩ := h
            exact sq_of h
          · obtain ⟨u13, u14, rfl, S8, hm8, hrl8, hrp8, hgl8, hap8⟩ := h
            have hxr : x ∈ rus := by
              rcases List.mem_append.mp (List.mem_of_getElem? hx) with z | z
              · exact List.mem_of_mem_drop (List.mem_of_mem_take z)
              · exact List.mem_of_mem_drop (List.mem_of_mem_take z)
            obtain ⟨j2, hj2, ej⟩ := List.getElem_of_mem hxr
            obtain ⟨w, hwi, T2, ra, rb, rfl, hT2, hra, hrb⟩ := prd_get' hrp8 (by rw [List.getElem?_eq_getElem hj2, ej])
            have hwm := List.mem_of_getElem? hwi
            obtain ⟨hwk, hw4⟩ := hrk.sound w hwm
            refine ⟨T2, [.ref ra, .ref rb], rfl, st_of hT2, rfl, .ref ra, [.ref rb], rfl, .ref rb, [], rfl, rfl, ?_⟩
            refine ⟨_, rfl, _, rfl, _, rfl, _, rfl, p, r, d, ss, i, nm, ra, w.1, w.2.1, w.2.2, rfl, S8.1, hil, hnm, hra, hwk, by omega, fun b G9 g9 P9 hb => ?_⟩
            have S9 := SupB S8 g9 P9
            obtain ⟨k8, hd8, _⟩ := S8.1.f
            have hgl9 := lstB S8 g9 hgl8
            have hap9 : Paired (TupI G9) acc rs := prd_imp (fun _ _ => TupI.upB g9 (boxD hd8)) hap8
            have hti : TupI G9 (.ref ra) w.1 := TupI.upB g9 (boxD hd8) ⟨ra, rfl, hra⟩
            refine ev_andV (inth S9 rfl rfl) (fun _ => ev_inD (ev_var rfl) hti (ev_var rfl) hgl9 hap9) G9 (Ex.refl G9) _ fun G10 g10 => ⟨rfl, false, ?_, iteF ?_⟩
            · refine congrArg V.bl ?_
              have e : b = (decide (i ∈ ns) && decide (w.1 ∈ rs)) := by
                rw [Bool.eq_iff_iff, hb, Bool.and_eq_true, decide_eq_true_iff, decide_eq_true_iff, hns i, hrs w.1, good_one hrk hwm]
                unfold goodB
                rw [Bool.and_eq_true, decide_eq_true_iff]
              rw [e]
              simp
            · exact ⟨_, _, rfl, Sup S9 g10, g10 _ _ (lstB S8 g9 hm8), g10 _ _ (lstB S8 g9 hrl8), prd_imp (fun _ _ h => RowAt.up g10 (RowAt.upB hd8 g9 h)) hrp8, g10 _ _ hgl9, prd_imp (fun _ _ => TupI.up g10) hap9⟩
          · obtain ⟨u13, u14, rfl, S8, hm8, hrl8, hrp8, hgl8, hap8⟩ := h
            exact ⟨_, _, _, _, _, rfl, S8, hrl8, hrp8⟩
      · obtain ⟨u9, u11, u12, u13, u14, rfl, S3, hrl3, hrp3⟩ := h
        exact ⟨_, _, _, _, _, _, _, rfl, S3⟩

end
end FB
set_option Elab.async false
set_option linter.all false
set_option maxRecDepth 100000
set_option maxHeartbeats 0
namespace FB
open PySem PySem.Spec PyProof.Rows L2
theorem facts {P : Program} {w : World} {K : PySem.W.Frag} {h : Heap} {mg : Str → Option Value} {f : Addr} (X : K.In h) (G : h.Ns mainGlobals mg) (hfa : mg ("law" : Str) = some (.ref f)) (c : He.SaysD fa fn K) :
    ∃ fd : FuncData, (∀ (s : Shared) (v : Value), BindsTo s fd ⟨[v], []⟩ [("_law_script", v)]) ∧ ∀ base : Heap, K.In base → base.Ns mainGlobals mg → FnOk P w K mg base C8.CX0 8 f fd ["_law_script"] (sp_law K) := by
  have T : Tx K mg := ⟨⟨h, X, G⟩, c⟩
  obtain ⟨fd, F⟩ := c.def_ 39 (d := datum "law" s_law) rfl
  have F : FunD K "law" "law" (defArgs s_law) (defBody s_law) (defScope s_law) [] [] (He.ga K "law") fd := F
  have e := hfa.symm.trans (T.gloOf (x := "law") 39 rfl)
  cases e
  have b := FunD.bindsA (ps := ["_law_script"]) F fun _ _ _ _ _ _ us hl => match us, hl with | [_], _ => rfl
  exact ⟨fd, fun s v => b s [v] rfl, fun base _ _ => ok_law T F⟩
end FB
open PySem PySem.W PySem.Calls PyProof.Rows
theorem PySem.Challenge.cw_fullbelts_k10_whole_wanted_by_all_routes_holds : PySem.Challenge.rw_fullbelts_k10_whole_wanted_by_all_routes.Holds := by
  w_on; o_law
  refine HandSHeadRun.head_any (r := OpenLaw.row PySem.Challenge.rw_fullbelts_k10_whole_wanted_by_all_routes) (q := view (OpenLaw.row PySem.Challenge.rw_fullbelts_k10_whole_wanted_by_all_routes).prog [54]) (H := FB.hk) (ob := FB.ob) (M := 6000) (loose := FB.names) (d := HandSHeadRun.topDef (OpenLaw.row PySem.Challenge.rw_fullbelts_k10_whole_wanted_by_all_routes).prog 54) (kwd := []) FB.ob_eq
    (by kernel_rfl) (fun s => by kernel_rfl) FB.run (by kernel_rfl) (by kernel_rfl) (by kernel_rfl) (by rfl) (by first | assumption | decide +kernel) (by decide +kernel) ⟨rfl, rfl, rfl, rfl, rfl, by decide +kernel⟩ ?hw ?hc
  case hw => w_witness2
  case hc =>
    refine L2.walk_ofE (l := PySem.Challenge.rw_fullbelts_k10_whole_wanted_by_all_routes) (n := 63) (k := 8) (x := "_law_script") (CX := C8.CX0) rfl (by decide) (by kernel_rfl) ⟨rfl, by decide, by decide⟩ ?F (fun _ _ _ _ z => z)
    intro w mg fa h Y G hmg0
    obtain ⟨K, KX, c⟩ := Y
    have hmg : mg ("law" : PySem.Str) = some (.ref fa) := by
      have e : (HandSHeadRun.topDef (OpenLaw.row PySem.Challenge.rw_fullbelts_k10_whole_wanted_by_all_routes).prog 54).name = ("law" : PySem.Str) := by kernel_rfl
      rw [← e]
      exact hmg0
    obtain ⟨fd, hb, hF⟩ := FB.facts (P := (PySem.Challenge.rw_fullbelts_k10_whole_wanted_by_all_routes).prog) (w := w) KX G hmg c
    exact ⟨K, fd, FB.sp_law K, KX, hb, fun H a ns hl _ hS => ⟨a, ns, rfl, hS, hl, fun _ => rfl⟩, hF⟩
