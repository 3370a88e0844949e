import PyProof.Rows.All
import Wide.All
import OpenK.AllK
import Wide.FinOn
import HandS.ForMost
import PySem.Challenge.RW_seatbuttons_k42_whole_standings_reached
import KE.KStateDown
import Lean
import HandS.WordsExc
import HandS.Defaults
import HandS.Head0
import HandS.Head1
import HandS.Head2
import HandS.HeadEnd
import HandS.HeadHook1
import HandS.HeadHook2
import KE.GoesEnum
import HandS.Walk
import KE.KDictZip
import KE.SortData
import HandS.More
import PyProof.ReprRoads
import PyProof.ReprLen
import HandS.FStrTup
import HandS.IsInst
import HandS.Style
import HandS.Conv
set_option Elab.async false
set_option linter.all false
set_option maxRecDepth 100000
set_option maxHeartbeats 0
namespace SB
open PySem PySem.Spec PyProof.Rows L2
/-! ### the text -/
def top (i : Nat) : Stmt := PySem.Challenge.pw_seatbuttons_k42_whole_standings_reached.main.body.getD i (.Pass ⟨0, 0, 0, 0⟩)
abbrev s_is_integer : Stmt := top 20
abbrev s_is_between : Stmt := top 21
abbrev s_check_number : Stmt := top 22
abbrev s_is_name : Stmt := top 23
abbrev s_is_turn : Stmt := top 26
abbrev s_turned_back : Stmt := top 27
abbrev s_is_button_name : Stmt := top 30
abbrev s_is_button : Stmt := top 31
abbrev s_buttons_fault : Stmt := top 32
abbrev s_ties_fault : Stmt := top 34
abbrev s_check_board : Stmt := top 38
abbrev s_is_standing : Stmt := top 41
abbrev s_check_standing : Stmt := top 42
abbrev s_led_standing : Stmt := top 43
abbrev s_single_presses : Stmt := top 45
abbrev s_paths_from : Stmt := top 46
abbrev s_check_stood : Stmt := top 47
abbrev s_check_both : Stmt := top 48
abbrev s_count_reached : Stmt := top 49
abbrev s_all_reached : Stmt := top 50
abbrev s_least : Stmt := top 51
abbrev s_goes : Stmt := top 52
abbrev s_w_cup : Stmt := top 54
abbrev s_w_sip : Stmt := top 55
abbrev s_w_one : Stmt := top 56
abbrev s_w_mixed : Stmt := top 57
abbrev s_w_turn : Stmt := top 58
abbrev s_w_buttons : Stmt := top 59
abbrev s_w_standing : Stmt := top 60
abbrev s_w_led : Stmt := top 61
abbrev s_w_back : Stmt := top 62
abbrev s_w_layers : Stmt := top 64
abbrev s_w_right : Stmt := top 65
abbrev s_law : Stmt := top 66
abbrev s_init : Stmt := inClass (top 35) 0
end SB
set_option Elab.async false
set_option linter.all false
set_option maxRecDepth 100000
set_option maxHeartbeats 0
namespace SB
open PySem PySem.Spec PyProof.Rows L2
/-! ### the facts behind the top -/
def dOf (c : Str × Option Str) (x q : Str) (st : Stmt) : He.DefD := ⟨c, x, q, defArgs st, defBody st, defScope st, [], []⟩
def d_is_integer : He.DefD := dOf ("is_integer", none) "is_integer" "is_integer" s_is_integer
def d_is_between : He.DefD := dOf ("is_between", none) "is_between" "is_between" s_is_between
def d_check_number : He.DefD := dOf ("check_number", none) "check_number" "check_number" s_check_number
def d_is_name : He.DefD := dOf ("is_name", none) "is_name" "is_name" s_is_name
def d_is_turn : He.DefD := dOf ("is_turn", none) "is_turn" "is_turn" s_is_turn
def d_turned_back : He.DefD := dOf ("turned_back", none) "turned_back" "turned_back" s_turned_back
def d_is_button_name : He.DefD := dOf ("is_button_name", none) "is_button_name" "is_button_name" s_is_button_name
def d_is_button : He.DefD := dOf ("is_button", none) "is_button" "is_button" s_is_button
def d_buttons_fault : He.DefD := dOf ("buttons_fault", none) "buttons_fault" "buttons_fault" s_buttons_fault
def d_ties_fault : He.DefD := dOf ("ties_fault", none) "ties_fault" "ties_fault" s_ties_fault
def d_check_board : He.DefD := dOf ("check_board", none) "check_board" "check_board" s_check_board
def d_is_standing : He.DefD := dOf ("is_standing", none) "is_standing" "is_standing" s_is_standing
def d_check_standing : He.DefD := dOf ("check_standing", none) "check_standing" "check_standing" s_check_standing
def d_led_standing : He.DefD := dOf ("led_standing", none) "led_standing" "led_standing" s_led_standing
def d_single_presses : He.DefD := dOf ("single_presses", none) "single_presses" "single_presses" s_single_presses
def d_paths_from : He.DefD := dOf ("paths_from", none) "paths_from" "paths_from" s_paths_from
def d_check_stood : He.DefD := dOf ("check_stood", none) "check_stood" "check_stood" s_check_stood
def d_check_both : He.DefD := dOf ("check_both", none) "check_both" "check_both" s_check_both
def d_count_reached : He.DefD := dOf ("count_reached", none) "count_reached" "count_reached" s_count_reached
def d_all_reached : He.DefD := dOf ("all_reached", none) "all_reached" "all_reached" s_all_reached
def d_least : He.DefD := dOf ("least", none) "least" "least" s_least
def d_goes : He.DefD := dOf ("goes", none) "goes" "goes" s_goes
def d_w_cup : He.DefD := dOf ("_law_cup", none) "_law_cup" "_law_cup" s_w_cup
def d_w_sip : He.DefD := dOf ("_law_sip", none) "_law_sip" "_law_sip" s_w_sip
def d_w_one : He.DefD := dOf ("_law_one", none) "_law_one" "_law_one" s_w_one
def d_w_mixed : He.DefD := dOf ("_law_mixed", none) "_law_mixed" "_law_mixed" s_w_mixed
def d_w_turn : He.DefD := dOf ("_law_turn", none) "_law_turn" "_law_turn" s_w_turn
def d_w_buttons : He.DefD := dOf ("_law_buttons", none) "_law_buttons" "_law_buttons" s_w_buttons
def d_w_standing : He.DefD := dOf ("_law_standing", none) "_law_standing" "_law_standing" s_w_standing
def d_w_led : He.DefD := dOf ("_law_led", none) "_law_led" "_law_led" s_w_led
def d_w_back : He.DefD := dOf ("_law_back", none) "_law_back" "_law_back" s_w_back
def d_w_layers : He.DefD := dOf ("_law_layers", none) "_law_layers" "_law_layers" s_w_layers
def d_w_right : He.DefD := dOf ("_law_right", none) "_law_right" "_law_right" s_w_right
def d_law : He.DefD := dOf ("law", none) "law" "law" s_law
def d_init : He.DefD := dOf ("Board", some "__init__") "__init__" "Board.__init__" s_init
def fn : List He.DefD := [d_is_integer, d_is_between, d_check_number, d_is_name, d_is_turn, d_turned_back, d_is_button_name, d_is_button, d_buttons_fault, d_ties_fault, d_check_board, d_is_standing, d_check_standing, d_led_standing, d_single_presses, d_paths_from, d_check_stood, d_check_both, d_count_reached, d_all_reached, d_least, d_goes, d_w_cup, d_w_sip, d_w_one, d_w_mixed, d_w_turn, d_w_buttons, d_w_standing, d_w_led, d_w_back, d_w_layers, d_w_right, d_law, d_init]
def fa1 : List He.Fa := [.glo "is_integer", .glo "is_between", .glo "check_number", .glo "is_name", .glo "is_turn", .glo "turned_back", .glo "is_button_name", .glo "is_button", .glo "buttons_fault", .glo "ties_fault", .glo "check_board", .glo "is_standing", .glo "check_standing", .glo "led_standing", .glo "single_presses", .glo "paths_from", .glo "check_stood", .glo "check_both", .glo "count_reached", .glo "all_reached", .glo "least", .glo "goes", .glo "_law_cup", .glo "_law_sip", .glo "_law_one", .glo "_law_mixed", .glo "_law_turn", .glo "_law_buttons", .glo "_law_standing", .glo "_law_led"]
def fa2 : List He.Fa := [.glo "_law_back", .glo "_law_layers", .glo "_law_right", .glo "law", .glo "Board", .free "isinstance", .free "len", .free "all", .free "sorted", .free "list", .free "range", .free "tuple", .free "dict", .free "zip", .free "enumerate", .free "int", .free "str", .free "bool", .free "abs", .free "min", .free "max", .free "repr", .int "MOST_PLACES" 24, .int "MOST_BUTTONS" 8, .int "MOST_REACHED" 50000, .int "LONGEST_NAME" 8, .str "LETTERS" "abcdefghijklmnopqrstuvwxyz", .str "TIE" "tie", .str "EMPTY" "-", .cls "Board", .noat "Board" "size", .noat "Board" "buttons", .noat "Board" "ties", .mkr "Board"]
def fa : List He.Fa := fa1 ++ fa2
abbrev R : PySem.W.OpenRow := PySem.W.OpenLaw.row PySem.Challenge.rw_seatbuttons_k42_whole_standings_reached
/-! ### one more look: a Board's type as isinstance takes it -/
def ex (K : PySem.W.Frag) : Bool := He.eqO (PySem.W.findIn K (.ref (He.ga K "Board")) "__class__") (some (some (.builtin "object.__class__")))
  && (He.eqO (PySem.W.specialIn K (.builtin "object.__class__") "__get__") (some (some (.builtin "getset_descriptor.__get__")))
  && (decide (PySem.W.takesIn K (.builtin "object.__class__") = some true)
  && decide (PySem.W.mroIn K (He.ga K "Board") (.type "object") = some true)))
abbrev AlB : Type := He.AlD × Bool
def obsB (g : Addr → Option Obj) : AlB := (He.obsDG 5 fa fn g, ex (He.frG g (He.asD g 5)))
def SaysB (K : PySem.W.Frag) : Prop := He.SaysD fa fn K ∧ ex K = true
def hk : PySem.W.Hook where
  α := AlB
  obs := fun s => obsB s.heap.get?
  val := fun _ => (He.valD fn, true)
  says := fun _ h => ∃ K : PySem.W.Frag, K.In h ∧ SaysB K
  of := fun _ _ e => ⟨_, He.frG_in, congrArg (fun z : AlB => z.1) e, congrArg (fun z : AlB => z.2) e⟩
  keeps := fun _ _ _ ⟨K, hK, c⟩ k => ⟨K, PySem.W.Frag.In.keeps hK k, c⟩
def ob (s : PySem.W.SharedT) : AlB := obsB (HandSHeadRun.getT s)
theorem ob_eq (s : PySem.W.SharedT) : ob s = hk.obs s.abs := by
  have e : HandSHeadRun.getT s = s.abs.heap.get? := funext (HandSHeadRun.getT_eq s)
  unfold ob
  rw [e] <;> rfl
def loose1 : List PySem.Str := ["NotRight", "InvalidText", "InvalidNumber", "InvalidStanding", "NotABoard", "InvalidButtons", "InvalidTies", "NotKnown", "UnknownName", "NotPossible", "TooMany", "MOST_PLACES", "MOST_BUTTONS", "MOST_REACHED", "LETTERS", "FIGURES", "LONGEST_NAME", "MOST_FIGURES", "is_integer", "is_between", "check_number", "is_name", "number_in", "is_turn", "turned_back", "TIE", "is_button_name", "is_button", "buttons_fault"]
def loose2 : List PySem.Str := ["is_tie", "ties_fault", "Board", "part_in", "parts_in", "check_board", "EMPTY", "is_standing", "check_standing", "led_standing", "single_presses", "paths_from", "check_stood", "check_both", "count_reached", "all_reached", "least", "goes", "_law_cup", "_law_sip", "_law_one", "_law_mixed", "_law_turn", "_law_buttons", "_law_standing", "_law_led", "_law_back", "_law_behind", "_law_layers", "_law_right"]
def loose : List PySem.Str := loose1 ++ loose2
theorem run (w : World) : HandSHeadRun.RunEq R (PySem.W.view R.prog [66]) hk ob 8000 loose w := by
  intro os
  kernel_rfl
end SB
set_option Elab.async false
set_option linter.all false
set_option maxRecDepth 100000
set_option maxHeartbeats 4000000
/-! enumerate(t) over a tuple, as a walk of the hand layer -/
namespace SB
open PySem PySem.Spec PyProof.Rows L2

theorem enum_new1 {v : Value} {o : Obj} {G : Heap → Prop} (B : Begins v o G) :
    Meets (Builtin.«enumerate.__new__» ⟨[.type "enumerate", v], []⟩) (fun _ R s => G s.heap ∧
      R (.ok (.ret (.ref (s.heap.push o).objs.size)))
        { s with heap := (s.heap.push o).push { cls := .type "enumerate", data := .fields #[.none, .bool false, .ref s.heap.objs.size, rawInt 0, .none, .none] } }) :=
  .of_wp fun prog w A R s h => by
    obtain ⟨hp, g, d, tk, os⟩ := s
    obtain ⟨hG, hR⟩ := h
    have sb := sub_enumerate
    have begin_ : ∀ {A' : Around} {E' : Value → Shared → Prop} {Q' : Value → Shared → Prop}, Q' (.ref hp.objs.size) ⟨hp.push o, g, d, tk, os⟩ → wpAny (model prog w) A' (pyIter v) Q' E' ⟨hp, g, d, tk, os⟩ :=
      fun q => B.iter prog w _ _ ⟨hp, g, d, tk, os⟩ _ hG q
    wp_walk using begin_
    refine wpAny_stack_any fun st => wpAny_pure ?_
    split
    · rename_i c _ _ _ _ _
      cases (c == Value.type "enumerate") <;> (wp_walk using begin_; exact ⟨_, rfl, hR⟩)
    · wp_walk using begin_
      exact ⟨_, rfl, hR⟩

theorem enum_call1 {prog : Program} {w : World} {A : Around} {E : Value → Shared → Prop} {s : Shared} {v : Value} {o : Obj} {G : Heap → Prop} {Q : Value → Shared → Prop} (B : Begins v o G) (hG : G s.heap)
    (h : ∀ h', IsEnum h' (s.heap.objs.size + 1) s.heap.objs.size 0 .none → h'.get? s.heap.objs.size = some o → (∀ b u, s.heap.get? b = some u → h'.get? b = some u) → Q (.ref (s.heap.objs.size + 1)) { s with heap := h' }) :
    wpAny (model prog w) A (call (.type "enumerate") [v]) Q E s := by
  refine callType_new F.called_enumerate (by decide) (F.typeCall_enumerate_1 _) (F.newCall_enumerate_1 _) (fun obj => F.args_object_init_2 obj _) F.entry_enumerate_new (enum_new1 B) ⟨hG, ?_⟩
  have sz : (s.heap.push o).objs.size = s.heap.objs.size + 1 := Heap.size_push ..
  show _ ∧ _
  rw [sz]
  have en : IsEnum ((s.heap.push o).push { cls := .type "enumerate", data := .fields #[.none, .bool false, .ref s.heap.objs.size, rawInt 0, .none, .none] }) (s.heap.objs.size + 1) s.heap.objs.size 0 .none := by
    have z := Heap.get?_push_size (s.heap.push o) (o := { cls := .type "enumerate", data := .fields #[.none, .bool false, .ref s.heap.objs.size, rawInt 0, .none, .none] }) rfl
    rwa [sz] at z
  exact ⟨⟨_, en, rfl⟩, h _ en (Heap.get?_push_of_some _ (Heap.get?_push_size _ B.free)) fun b u x => Heap.get?_push_of_some _ (Heap.get?_push_of_some _ x)⟩

/-- the tuple at a, each item in a new pair -/
def IteT (K : PySem.W.Frag) (a : Addr) : It :=
  ⟨fun i H => ∃ xs x, SqT K H a xs ∧ xs[i]? = some x, fun i H v H' => ∃ T x, v = .ref T ∧ H T = none ∧ H' = upd H T (.tup [.int (i : Nat), x]) ∧ ∀ xs, SqT K H a xs → xs[i]? = some x,
    fun i H => ∃ xs : List V, SqT K H a xs ∧ xs.length ≤ i⟩

theorem turn_enumT {P : Program} {w : World} {K : PySem.W.Frag} {elts : List Expr} {kk : Nat} {tpos : Pos} (a e it : Addr) :
    Turn P w K (.Tuple elts kk tpos) (IteT K a) [e, it] e (fun i h => (∃ old, IsEnum h e it ((i : Nat) : Int) old) ∧ h.IsTupleIter it a i ∧ e ≠ it ∧ a ≠ it ∧ a ≠ e) where
  mem := by simp
  obj := fun i h st b hb => by
    obtain ⟨⟨old, he⟩, ⟨o, ho, hc, hd⟩, _⟩ := st
    rcases (by simpa using hb : b = e ∨ b = it) with rfl | rfl
    · exact ⟨_, he, fun v q => nomatch q⟩
    · exact ⟨o, ho, fun v q => by rw [hd] at q; cases q⟩
  keep := fun i h h' st k => let ⟨⟨old, he⟩, hi, r⟩ := st; ⟨⟨old, k e (by simp) _ he⟩, hi.at fun o q => k it (by simp) o q, r⟩
  item := by
    intro X hP hw hK hc i pins s σ H E I hf st hg
    subst hP hw hK
    obtain ⟨⟨old, he⟩, hit, n1, n2, n3⟩ := st
    obtain ⟨xs, x, hq, hx⟩ := hg
    obtain ⟨its, rv, p, hz⟩ := I.tuple hq
    obtain ⟨u, hu, ru⟩ := rv.get hx
    have hel : e < s.heap.objs.size := Heap.lt_size he
    have hil : it < s.heap.objs.size := let ⟨_, q, _⟩ := hit; Heap.lt_size q
    have D : Draws X.prog X.w X.A.in1 it [it, a] its.toArray.size (fun i v => its.toArray[i]? = some v) (fun i h => h.IsTupleIter it a i ∧ h.IsTuple a its.toArray) := Draws.tuple (A := X.A.in1) (I.ok.hd hc) it a n2 its.toArray
    have hlt : i < its.toArray.size := by
      have := (List.getElem?_eq_some_iff.mp hu).1
      simpa using this
    refine wpAny_pyNext_enum_itemD D he ⟨hit, p⟩ hlt n1 (by simp [n1, Ne.symm n3]) fun y h' tk hy ho st' hT _ hk => ?_
    have ey : y = u := by
      have : its[i]? = some y := by simpa using hy
      rw [hu] at this
      exact (Option.some.inj this).symm
    subst ey
    refine ⟨_, rfl, wpAny_letOwnedTupleGo_enum (s := { s with heap := h', toks := tk + 1 }) ho fun h'' he' sb => ?_⟩
    have hT2 : h''.get? s.heap.objs.size = some { cls := .type "tuple", data := .seq #[.int i tk, y] } := (sb.2 _ (Nat.ne_of_gt hel)).trans hT
    have new : ObjOk X.prog X.w (upd H s.heap.objs.size (.tup [.int (i : Nat), x])) h'' s.heap.objs.size (.tup [.int (i : Nat), x]) :=
      ⟨by show 2 ≤ sizeLine; decide, [.int i tk, y], .cons ⟨_, rfl⟩ (.cons ru .nil), ⟨_, hT2, rfl, _, rfl⟩⟩
    have I1 : Inv X pins σ (upd H s.heap.objs.size (.tup [.int (i : Nat), x])) { s with heap := h'', toks := tk + 1 } :=
      I.turnedNew (ch := [e, it]) (fun b ob hb q => (sb.2 b (fun z => hb (by simp [z]))).trans (hk b ob (fun z => hb (by simp [z])) (fun z => hb (by simp [z])) q)) hf (Nat.le_refl _) new
    refine ⟨.ref s.heap.objs.size, _, I1, rfl, ⟨_, x, rfl, I.hok.fresh (Nat.le_refl _), rfl, fun ys hy => by rw [I.tuple_inj hy hq]; exact hx⟩, ⟨⟨y, ?_⟩, st'.1.at fun o q => (sb.2 it (Ne.symm n1)).trans q, n1, n2, n3⟩, fun b hb => ?_⟩
    · have e1 : ((i + 1 : Nat) : Int) = (i : Int) + 1 := by omega
      rw [e1]; exact he'
    · have hb' : b < s.heap.objs.size := by
        rcases (by simpa using hb : b = e ∨ b = it) with rfl | rfl
        · exact hel
        · exact hil
      rw [upd_ne (Nat.ne_of_lt hb')]
      exact (hf b hb).1
  done := by
    intro X hP hw hK hc i pins s σ H E I hf st hg
    subst hP hw hK
    obtain ⟨⟨old, he⟩, hit, n1, n2, n3⟩ := st
    obtain ⟨xs, hq, hx⟩ := hg
    obtain ⟨its, rv, p, hz⟩ := I.tuple hq
    obtain ⟨f0, f1, f2, f3, f4, f5⟩ := hf it (by simp)
    have hl := rv.length
    have end_ : its.toArray.size ≤ i := by simp; omega
    have D : Draws X.prog X.w X.A.in1 it [it, a] i (fun _ _ => False) (fun j h => h.IsTupleIter it a j ∧ h.IsTuple a its.toArray ∧ its.toArray.size ≤ i ∧ i ≤ j) :=
      { live := fun _ _ st => let ⟨o, ho, _⟩ := st.1; ⟨o, ho⟩
        frame := fun _ _ _ st hk => ⟨st.1.at fun o e => hk it (by simp) o e, st.2.1.at fun o e => hk a (by simp) o e, st.2.2⟩
        item := fun j s Q E hi st hQ => absurd st.2.2.2 (by omega)
        done := fun s Q E st hE => wpAny_nextOf_tuple_end (I.ok.hd hc) st.1 st.2.1 (by rw [Array.getElem?_eq_none]; exact st.2.2.1) hE }
    exact wpAny_pyNext_enum_endD D he ⟨hit, p, end_, Nat.le_refl _⟩ fun h' eb => ⟨rfl, I.turned (t' := s.toks) (fun b o hb q => eb b o hb q) f0 f1 f3 f4 f5⟩
  self := fun A i s Q E st h => let ⟨⟨_, he⟩, _⟩ := st; wpAny_pyIter_enum he h

def iEnumT (K : PySem.W.Frag) (ta : TA) : TI := fun σ H R => ta σ H fun vs H1 => ∃ a xs, vs = [.ref a] ∧ SqT K H1 a xs ∧ R (IteT K a) H1
theorem pi_enumT {X : Cx} {e : Expr} {ta : TA} {p pos tpos : Pos} {elts : List Expr} {kk : Nat} (hg : Gl X "enumerate") (hm : X.mg "enumerate" = none) (ha : PA X [e] ta) (hs : starEach [e] X.env = [(false, eval e X.env)] := by rfl) :
    PI X (.Tuple elts kk tpos) (.Call (.Name "enumerate" p) [e] [] pos) (iEnumT X.K ta) := by
  refine ⟨fun pins s σ H R I h => ?_⟩
  refine Call_ (ld_blt I hg hm boot_enumerate (PyProof.Rows.callWith_type1 (thn (ha.run pos pins s σ H _ I h) fun us s1 ⟨vs, H1, I1, r1, q1⟩ => ?_) hs rfl))
  obtain ⟨a, xs, rfl, hq, q⟩ := q1
  obtain ⟨u, rfl, ru⟩ := vals1 r1
  cases (show u = Value.ref a from ru)
  obtain ⟨its, rv, p', hz⟩ := I1.tuple hq
  have pt : s1.heap.IsTuple a its.toArray := p'
  have al : a < s1.heap.objs.size := p'.lt
  refine enum_call1 (begins_tuple a its.toArray) pt fun h' he hit hk => wpAny_pyIter_enum he ?_
  have I2 : Inv X pins σ H1 { s1 with heap := h' } := I1.kept (t' := s1.toks) hk
  refine ⟨s1.heap.objs.size + 1, [s1.heap.objs.size + 1, s1.heap.objs.size], _, _, H1, rfl, I2, turn_enumT a (s1.heap.objs.size + 1) s1.heap.objs.size,
    ⟨⟨.none, he⟩, ⟨_, hit, rfl, rfl⟩, Nat.succ_ne_self _, Nat.ne_of_lt al, Nat.ne_of_lt (Nat.lt_succ_of_lt al)⟩, fun b hb => ?_, q⟩
  have hle : s1.heap.objs.size ≤ b := by
    rcases (by simpa using hb : b = s1.heap.objs.size + 1 ∨ b = s1.heap.objs.size) with z | z <;> rw [z]
    · exact Nat.le_succ _
    · exact Nat.le_refl _
  exact I1.fpOk hle (I1.hok.fresh hle)
theorem walk_enumT {K : PySem.W.Frag} {a : Addr} {xs : List V} : Walk (IteT K a) xs.length (fun H => SqT K H a xs) (YPair (fun i => some (.int (i : Nat))) (fun i => xs[i]?)) := by
  refine ⟨fun i _ hi q => ⟨xs, xs[i], q, by simp [hi]⟩, fun _ q => ⟨xs, q, Nat.le_refl _⟩, fun i H v H' _ q y => ?_⟩
  obtain ⟨T, x, h1, h2, h3, h4⟩ := y
  exact ⟨T, .int (i : Nat), x, h1, h2, h3, rfl, h4 xs q⟩
end SB
set_option Elab.async false
set_option linter.all false
set_option maxRecDepth 100000
set_option maxHeartbeats 4000000
/-! dict(zip(t, z)) over a tuple and a text -/
namespace SB
open PySem PySem.Spec PyProof.Rows L2

section
variable {prog : Program} {w : World} {A : Around} {E : Value → Shared → Prop} {s : Shared} {z TI TO i1 i2 T : Addr} {fp1 fp2 : List Addr} {n1 n2 i : Nat} {P1 P2 : Nat → Value → Prop} {St1 St2 : Nat → Heap → Prop} {f : Bool} {oT : Obj}

/-- the next pair while an elder one is still out -/
theorem zh_item {Q : Value → Shared → Prop} (S : ZipSep2 z TI TO i1 i2 fp1 fp2) (D1 : Draws prog w A i1 fp1 n1 P1 St1) (D2 : Draws prog w A i2 fp2 n2 P2 St2)
    (hz : IsZipHeld s.heap z TI TO T f) (hT : s.heap.get? T = some oT) (hTI : IsTupOf2 s.heap TI (.ref i1) (.ref i2)) (st1 : St1 i s.heap) (st2 : St2 i s.heap) (l1 : i < n1) (l2 : i < n2)
    (hQ : ∀ x y h' tk, P1 i x → P2 i y → IsZipHeld h' z TI TO T true → St1 (i + 1) h' → St2 (i + 1) h' → IsTupOf2 h' s.heap.objs.size x y →
      (∀ c o, c ≠ z → c ≠ i1 → c ≠ i2 → s.heap.get? c = some o → h'.get? c = some o) → Q (.ref s.heap.objs.size) { s with heap := h', toks := tk }) :
    wpAny (model prog w) A (Builtin.«zip.__next__» ⟨[.ref z], []⟩) (fun fin s' => ∃ v, fin = .done (.ret v) ∧ Q v s') E s := by
  obtain ⟨hp, g, d, tk0, os⟩ := s
  show wpAny _ _ (field (.ref z) 2 >>= _) _ _ _
  refine wpAny_bind (wpAny_field hz rfl rfl ?_)
  show wpAny _ _ (field (.ref z) 3 >>= _) _ _ _
  refine wpAny_bind (wpAny_field hz rfl rfl ?_)
  refine wpAny_bind (wpAny_seqItems hTI rfl ?_)
  show wpAny _ _ (Builtin.SmallTypes.ownedTupleIsFree (.ref z) >>= _) _ _ _
  refine wpAny_bind (wpAny_tupleHeld_zip hz hT fun g0 hz0 b0 => ?_)
  simp only [Bool.false_eq_true, if_false]
  refine wpAny_bind ?_
  rw [← Array.forIn_toList]
  simp only [List.forIn_cons, List.forIn_nil]
  refine wpAny_bind (wpAny_bind (wpAny_holding ?_))
  show wpAny _ _ (Builtin.SmallTypes.nextOf (.ref i1) >>= _) _ _ _
  refine wpAny_bind (D1.item i _ _ _ l1 (D1.over st1 b0 S.zf1) fun x g1 t1 px sx b1 => wpAny_pure (wpAny_pure ?_))
  refine wpAny_bind (wpAny_bind (wpAny_holding ?_))
  show wpAny _ _ (Builtin.SmallTypes.nextOf (.ref i2) >>= _) _ _ _
  refine wpAny_bind (D2.item i _ _ _ l2 (D2.over (D2.over st2 b0 S.zf2) b1 S.sep1_2) fun y g2 t2 py sy b2 => wpAny_pure (wpAny_pure (wpAny_pure ?_)))
  show wpAny _ _ (newTuple [x, y] >>= _) _ _ _
  refine wpAny_bind (wpAny_newTuple (wpAny_pure ⟨_, rfl, ?_⟩))
  replace b0 : Heap.SameBut z hp g0 := b0
  replace b1 : Heap.SameBut i1 g0 g1 := b1
  replace b2 : Heap.SameBut i2 g1 g2 := b2
  have sz : g2.objs.size = hp.objs.size := by rw [b2.1, b1.1, b0.1]
  show Q (.ref g2.objs.size) _
  have zz : IsZipHeld g2 z TI TO T true := b2.extBut _ _ S.zi2 (b1.extBut _ _ S.zi1 hz0)
  have kk : ∀ c o, c ≠ z → c ≠ i1 → c ≠ i2 → hp.get? c = some o → g2.get? c = some o := fun c o cz c1 c2 e => b2.extBut _ _ c2 (b1.extBut _ _ c1 (b0.extBut _ _ cz e))
  have pr : IsTupOf2 (g2.push { cls := .type "tuple", data := .seq #[x, y] }) g2.objs.size x y := Heap.get?_push_size _ rfl
  rw [sz] at pr ⊢
  exact hQ x y _ t2 px py (Heap.get?_push_of_some _ zz) (D1.frame _ _ _ (D1.over sx b2 S.sep2_1) fun b _ o e => Heap.get?_push_of_some _ e) (D2.frame _ _ _ sy fun b _ o e => Heap.get?_push_of_some _ e) pr
    fun c o cz c1 c2 e => Heap.get?_push_of_some _ (kk c o cz c1 c2 e)

theorem zh_end {Q : Fin → Shared → Prop} (S : ZipSep2 z TI TO i1 i2 fp1 fp2) (D1 : Draws prog w A i1 fp1 n1 P1 St1) (D2 : Draws prog w A i2 fp2 n2 P2 St2)
    (hz : IsZipHeld s.heap z TI TO T f) (hT : s.heap.get? T = some oT) (hTI : IsTupOf2 s.heap TI (.ref i1) (.ref i2)) (st1 : St1 n1 s.heap)
    (hE : ∀ h' e, (∀ c o, c ≠ z → c ≠ i1 → c ≠ i2 → s.heap.get? c = some o → h'.get? c = some o) → (∃ o, h'.get? e = some o ∧ o.cls = .type "StopIteration") → E (.ref e) { s with heap := h' }) :
    wpAny (model prog w) A (Builtin.«zip.__next__» ⟨[.ref z], []⟩) Q E s := by
  obtain ⟨hp, g, d, tk0, os⟩ := s
  show wpAny _ _ (field (.ref z) 2 >>= _) _ _ _
  refine wpAny_bind (wpAny_field hz rfl rfl ?_)
  show wpAny _ _ (field (.ref z) 3 >>= _) _ _ _
  refine wpAny_bind (wpAny_field hz rfl rfl ?_)
  refine wpAny_bind (wpAny_seqItems hTI rfl ?_)
  show wpAny _ _ (Builtin.SmallTypes.ownedTupleIsFree (.ref z) >>= _) _ _ _
  refine wpAny_bind (wpAny_tupleHeld_zip hz hT fun g0 hz0 b0 => ?_)
  simp only [Bool.false_eq_true, if_false]
  refine wpAny_bind ?_
  rw [← Array.forIn_toList]
  simp only [List.forIn_cons, List.forIn_nil]
  refine wpAny_bind (wpAny_bind (wpAny_holding ?_))
  show wpAny _ _ (Builtin.SmallTypes.nextOf (.ref i1) >>= _) _ _ _
  refine wpAny_bind (D1.done _ _ _ (D1.over st1 b0 S.zf1) fun g1 e b1 he => ?_)
  replace b0 : Heap.SameBut z hp g0 := b0
  exact hE g1 e (fun c o cz c1 _ x => b1 _ _ c1 (b0.extBut _ _ cz x)) he

theorem zh_next_item {Q : Option Value → Shared → Prop} (S : ZipSep2 z TI TO i1 i2 fp1 fp2) (D1 : Draws prog w A.in1 i1 fp1 n1 P1 St1) (D2 : Draws prog w A.in1 i2 fp2 n2 P2 St2)
    (hz : IsZipHeld s.heap z TI TO T f) (hT : s.heap.get? T = some oT) (hTI : IsTupOf2 s.heap TI (.ref i1) (.ref i2)) (st1 : St1 i s.heap) (st2 : St2 i s.heap) (l1 : i < n1) (l2 : i < n2)
    (hQ : ∀ x y h' tk, P1 i x → P2 i y → IsZipHeld h' z TI TO T true → St1 (i + 1) h' → St2 (i + 1) h' → IsTupOf2 h' s.heap.objs.size x y →
      (∀ c o, c ≠ z → c ≠ i1 → c ≠ i2 → s.heap.get? c = some o → h'.get? c = some o) → Q (some (.ref s.heap.objs.size)) { s with heap := h', toks := tk }) :
    wpAny (model prog w) A (pyNext (.ref z)) Q E s := by
  have ty : s.TypeIs (.ref z) "zip" := ⟨_, hz, rfl⟩
  unfold pyNext
  exact wpAny_bind (wpAny_attempt (wpAny_callSpecial?_slot (name := Str.ofString "__next__") ty F.slot_zip_next
    (wpAny_call_entry F.slot_zip_next ty F.entry_zip_next
      (zh_item S D1 D2 hz hT hTI st1 st2 l1 l2 fun x y h' tk c1 c2 c3 c4 c5 c6 c7 => wpAny_pure (hQ x y h' tk c1 c2 c3 c4 c5 c6 c7)) (F.args_zip_next_1 _))))
theorem zh_next_end {Q : Option Value → Shared → Prop} (S : ZipSep2 z TI TO i1 i2 fp1 fp2) (D1 : Draws prog w A.in1 i1 fp1 n1 P1 St1) (D2 : Draws prog w A.in1 i2 fp2 n2 P2 St2)
    (hz : IsZipHeld s.heap z TI TO T f) (hT : s.heap.get? T = some oT) (hTI : IsTupOf2 s.heap TI (.ref i1) (.ref i2)) (st1 : St1 n1 s.heap)
    (hQ : ∀ h', (∀ c o, c ≠ z → c ≠ i1 → c ≠ i2 → s.heap.get? c = some o → h'.get? c = some o) → Q none { s with heap := h' }) : wpAny (model prog w) A (pyNext (.ref z)) Q E s := by
  have ty : s.TypeIs (.ref z) "zip" := ⟨_, hz, rfl⟩
  unfold pyNext
  refine wpAny_bind (wpAny_attempt (wpAny_callSpecial?_slot (name := Str.ofString "__next__") ty F.slot_zip_next
    (wpAny_call_entry F.slot_zip_next ty F.entry_zip_next (zh_end S D1 D2 hz hT hTI st1 fun h' e hk he => ?_) (F.args_zip_next_1 _))))
  obtain ⟨o, ho, hc⟩ := he
  exact wpAny_bind (wpAny_isInstance (T := "StopIteration") (b := true) ⟨o, ho, hc⟩ isSubtype_stop (wpAny_pure (hQ _ hk)))
end

/-- zip over two iterators of any kind, as dict()'s argument: n turns of the first, the second has as many -/
theorem zipArg {prog : Program} {w : World} {z TI TO i1 i2 : Addr} {fp1 fp2 : List Addr} {n : Nat} {P1 P2 : Nat → Value → Prop} {St1 St2 : Nat → Heap → Prop} (S : ZipSep2 z TI TO i1 i2 fp1 fp2) (hTI1 : TI ∉ fp1) (hTI2 : TI ∉ fp2)
    (D1 : ∀ A : Around, A.handled = none → Draws prog w A i1 fp1 n P1 St1) (D2 : ∀ A : Around, A.handled = none → Draws prog w A i2 fp2 n P2 St2)
    (F1 : ∀ h, St1 0 h → ∀ b ∈ fp1, ∃ o, h.get? b = some o) (F2 : ∀ h, St2 0 h → ∀ b ∈ fp2, ∃ o, h.get? b = some o) :
    PairArg prog w "zip" z (z :: TI :: TO :: (fp1 ++ fp2)) [z, TO, i1, i2] n (fun i k v => P1 i k ∧ P2 i v)
      (fun h => IsZip h z TI TO .none ∧ IsTupOf2 h TI (.ref i1) (.ref i2) ∧ (∃ a b, IsTupOf2 h TO a b) ∧ St1 0 h ∧ St2 0 h) where
  type := fun s ok => ⟨_, ok.1, rfl⟩
  notDict := by decide
  keep := fun h h' ok hk => by
    obtain ⟨hz, hTI, ⟨a, b, hTO⟩, s1, s2⟩ := ok
    have h0 : ({} : Around).handled = none := rfl
    exact ⟨hk _ _ hz, hk _ _ hTI, ⟨a, b, hk _ _ hTO⟩, (D1 {} h0).frame _ _ _ s1 fun b _ o e => hk b o e, (D2 {} h0).frame _ _ _ s2 fun b _ o e => hk b o e⟩
  there := fun h ok b hb => by
    obtain ⟨hz, hTI, ⟨a, c, hTO⟩, s1, s2⟩ := ok
    simp only [List.mem_cons, List.mem_append] at hb
    rcases hb with rfl | rfl | rfl | hb | hb
    · exact ⟨_, hz⟩
    · exact ⟨_, hTI⟩
    · exact ⟨_, hTO⟩
    · exact F1 h s1 b hb
    · exact F2 h s2 b hb
  sub := fun b hb => by
    simp only [List.mem_cons, List.not_mem_nil, or_false] at hb
    simp only [List.mem_cons, List.mem_append]
    rcases hb with rfl | rfl | rfl | rfl
    · exact .inl rfl
    · exact .inr (.inr (.inl rfl))
    · exact .inr (.inr (.inr (.inl S.mem1)))
    · exact .inr (.inr (.inr (.inr S.mem2)))
  noKeys := fun A s Q E hA ok h => getAttrOr_miss_zip ok.1 rfl rfl rfl zip_no_keys (by decide +kernel) hA h
  iter := fun A s d Q E hA ok hd hdf h => by
    obtain ⟨hz, hTI, ⟨a, b, hTO⟩, s1, s2⟩ := ok
    simp only [List.mem_cons, List.mem_append, not_or] at hdf
    obtain ⟨dz, dTI, dTO, d1, d2⟩ := hdf
    have D1' := D1 A.in1 hA
    have D2' := D2 A.in1 hA
    refine wpAny_pyIter_zip hz (h z [z, TO, i1, i2] (fun i h => IsTupOf2 h TI (.ref i1) (.ref i2) ∧ St1 i h ∧ St2 i h ∧
      ((IsZip h z TI TO .none ∧ ∃ a b, IsTupOf2 h TO a b) ∨ ∃ T f oT, IsZipHeld h z TI TO T f ∧ h.get? T = some oT ∧ T ≠ z ∧ T ≠ i1 ∧ T ≠ i2 ∧ T ≠ d)) s.heap s.toks ?_
      ⟨hTI, s1, s2, .inl ⟨hz, a, b, hTO⟩⟩ (fun _ _ e => e) fun b hb => .inl hb)
    have ne1 : d ≠ i1 := fun e => d1 (e ▸ S.mem1)
    have ne2 : d ≠ i2 := fun e => d2 (e ▸ S.mem2)
    refine { off := fun hm => ?_, frame := fun i h1 h2 st hk => ?_, item := fun i t Q1 E1 hi st hds hQ => ?_, done := fun t Q1 E1 st hQ => ?_ }
    · simp only [List.mem_cons, List.not_mem_nil, or_false] at hm
      rcases hm with e | e | e | e
      · exact dz e
      · exact dTO e
      · exact ne1 e
      · exact ne2 e
    · obtain ⟨hTI, q1, q2, hz⟩ := st
      refine ⟨hk _ _ (Ne.symm dTI) hTI, D1'.frame _ _ _ q1 fun b hb o e => hk b o (fun q => d1 (q ▸ hb)) e, D2'.frame _ _ _ q2 fun b hb o e => hk b o (fun q => d2 (q ▸ hb)) e, ?_⟩
      rcases hz with ⟨hz, a, b, hTO⟩ | ⟨T, f, oT, hz, hT, r1, r2, r3, r4⟩
      · exact .inl ⟨hk _ _ (Ne.symm dz) hz, a, b, hk _ _ (Ne.symm dTO) hTO⟩
      · exact .inr ⟨T, f, oT, hk _ _ (Ne.symm dz) hz, hk _ _ r4 hT, r1, r2, r3, r4⟩
    · obtain ⟨hTI, q1, q2, hz⟩ := st
      have lt : ∀ {c o}, t.heap.get? c = some o → t.heap.objs.size ≠ c := fun e => Nat.ne_of_gt (Heap.lt_size e)
      have m1 : t.heap.objs.size ≠ i1 := let ⟨_, e⟩ := D1'.live _ _ q1; lt e
      have m2 : t.heap.objs.size ≠ i2 := let ⟨_, e⟩ := D2'.live _ _ q2; lt e
      rcases hz with ⟨hz, a, b, hTO⟩ | ⟨T, f, oT, hz, hT, r1, r2, r3, r4⟩
      · refine wpAny_pyNext_zipD2_item S D1' D2' hz hTI hTO q1 q2 hi hi fun x y h' tk px py c1 c2 c3 c4 c5 c6 hk => ?_
        exact hQ t.heap.objs.size x y h' tk ⟨px, py⟩ (.inl ⟨_, c5, rfl, _, rfl⟩) ⟨hk _ _ S.TIz S.TITO S.TIi1 S.TIi2 hTI, c3, c4, .inr ⟨t.heap.objs.size, false, _, c1, c5, lt hz, m1, m2, Nat.ne_of_gt hds⟩⟩
          fun c o hc e => hk c o (fun q => hc (by simp [q])) (fun q => hc (by simp [q])) (fun q => hc (by simp [q])) (fun q => hc (by simp [q])) e
      · refine zh_next_item S D1' D2' hz hT hTI q1 q2 hi hi fun x y h' tk px py c1 c3 c4 c5 hk => ?_
        exact hQ t.heap.objs.size x y h' tk ⟨px, py⟩ (.inl ⟨_, c5, rfl, _, rfl⟩) ⟨hk _ _ S.TIz S.TIi1 S.TIi2 hTI, c3, c4, .inr ⟨T, true, oT, c1, hk _ _ r1 r2 r3 hT, r1, r2, r3, r4⟩⟩
          fun c o hc e => hk c o (fun q => hc (by simp [q])) (fun q => hc (by simp [q])) (fun q => hc (by simp [q])) e
    · obtain ⟨hTI, q1, q2, hz⟩ := st
      rcases hz with ⟨hz, a, b, hTO⟩ | ⟨T, f, oT, hz, hT, r1, r2, r3, r4⟩
      · exact wpAny_pyNext_zipD2_end S D1' D2' hz hTI hTO q1 q2 (Nat.le_refl _) (Nat.le_refl _) (.inl rfl) fun h' tk hk => hQ h' tk fun c o hc e => hk c o (fun q => hc (by simp [q])) (fun q => hc (by simp [q])) (fun q => hc (by simp [q])) (fun q => hc (by simp [q])) e
      · exact zh_next_end S D1' D2' hz hT hTI q1 fun h' hk => hQ h' t.toks fun c o hc e => hk c o (fun q => hc (by simp [q])) (fun q => hc (by simp [q])) (fun q => hc (by simp [q])) e
end SB
set_option Elab.async false
set_option linter.all false
set_option maxRecDepth 100000
set_option maxHeartbeats 4000000
namespace SB
open PySem PySem.Spec PyProof.Rows L2

theorem mergeK_take {ps : List (Key × V)} {i : Nat} {p : Key × V} (h : ps[i]? = some p) : mergeK [] (ps.take (i + 1)) = putK (mergeK [] (ps.take i)) p.1 p.2 := by
  unfold mergeK
  rw [List.take_add_one, h]
  simp [List.foldl_append]

/-- dict(an argument of pairs), the pairs told up to tokens -/
theorem dict_of_arg {prog : Program} {w : World} {A : Around} {E : Value → Shared → Prop} {s : Shared} {T : String} {a : Addr} {fp wr : List Addr} {n : Nat} {Rel : Nat → Value → Value → Prop} {OK : Heap → Prop} {Q : Value → Shared → Prop}
    (P : PairArg prog w T a fp wr n Rel OK) (hh : A.handled = none) (ok : OK s.heap) {ps : List (Key × V)} (hl : ps.length = n) (hsz : n ≤ sizeLine)
    (hc : ∀ i k v, Rel i k v → ∃ p, ps[i]? = some p ∧ keyIs p.1 k = true ∧ RelV p.2 v)
    (h : ∀ h' tk vs, KV (mergeK [] ps) vs → h'.DictOf (mixKind prog w) s.heap.objs.size vs → (∀ b o, b ∉ wr → s.heap.get? b = some o → h'.get? b = some o) → Q (.ref s.heap.objs.size) { s with heap := h', toks := tk }) :
    wpAny (model prog w) A (call (.type "dict") [.ref a]) Q E s := by
  refine call_dict_arg P ok fun s1 hs1 hdf ok1 => ?_
  subst hs1
  refine updateFrom_arg (A := A.in1) (d := s.heap.objs.size) (Tab := fun i h => ∃ vs, KV (mergeK [] (ps.take i)) vs ∧ h.DictOf (mixKind prog w) s.heap.objs.size vs) P .none hh ok1 hdf ⟨[], .nil, Heap.DictOf.new s.heap⟩ ?_ ?_ ?_ ?_
  · rintro i h ⟨vs, _, tb⟩
    exact tb.lt_size
  · rintro i h h' wr' hd _ ⟨vs, r, tb⟩ hk
    exact ⟨vs, r, tb.at' fun o e => hk _ o hd e⟩
  · rintro i key v s' Q' E' hi hrel ⟨vs, r, tb⟩ _ hQ
    obtain ⟨p, hp, his, rv⟩ := hc i key v hrel
    have hvl : vs.length + 1 ≤ sizeLine := by
      have e1 := r.length
      have e2 := length_mergeK (ps.take i) []
      rw [List.length_take, List.length_nil] at e2
      omega
    refine wpAny_dictSet_pairs (hsz := by omega) (show (mixKind prog w).is p.1 key = true from his) tb fun h' hm' hs => ?_
    exact hQ h' _ ⟨_, by rw [mergeK_take hp]; exact r.put p.1 rv, hm'⟩ hs
  · rintro h' tk ⟨vs, r, tb⟩ hk
    rw [List.take_of_length_le (Nat.le_of_eq hl)] at r
    exact ⟨rfl, h h' tk vs r tb fun b o hw e => hk b o (Nat.ne_of_lt (Heap.lt_size e)) hw (Heap.get?_push_of_some _ e)⟩

/-- the pairs that zip makes of places and signs -/
def zipPs (xs : List Int) (z : Str) : List (Key × V) := (xs.zip z.cps.toList).map fun p => (Sum.inl p.1, V.str ⟨#[p.2]⟩)

theorem zipPs_length {xs : List Int} {z : Str} (h : xs.length = z.cps.size) : (zipPs xs z).length = xs.length := by
  have e : z.cps.toList.length = z.cps.size := Array.length_toList
  simp only [zipPs, List.length_map, List.length_zip]
  omega
theorem zipPs_get {xs : List Int} {z : Str} {i c : Nat} {x : Int} (h1 : xs[i]? = some x) (h2 : z.cps[i]? = some c) : (zipPs xs z)[i]? = some (Sum.inl x, V.str ⟨#[c]⟩) := by
  have e2 : z.cps.toList[i]? = some c := by rw [Array.getElem?_toList]; exact h2
  have e3 : (xs.zip z.cps.toList)[i]? = some (x, c) := List.getElem?_zip_eq_some.mpr ⟨h1, e2⟩
  unfold zipPs
  rw [List.getElem?_map, e3] <;> rfl

def tDZ (K : PySem.W.Frag) (ta : TA) : TE := fun σ H Q => ta σ H fun vs H1 => ∃ (t : Addr) (xs : List Int) (z : Str), vs = [.ref t, .str z] ∧ SqT K H1 t (xs.map V.int) ∧ xs.length = z.cps.size ∧
  ∀ p, H1 p = none → Q (.ref p) (upd H1 p (.dK (mergeK [] (zipPs xs z))))

theorem pe_dictzip {X : Cx} {a b : Expr} {ta : TA} {p p2 q pos : Pos} (hg : Gl X "dict") (hm : X.mg "dict" = none) (hg2 : Gl X "zip") (hm2 : X.mg "zip" = none) (ha : PA X [a, b] ta) (hc : X.calm = true := by rfl)
    (na : starEach [a, b] X.env = (false, eval a X.env) :: starEach [b] X.env := by rfl) (nb : (backTo q (starEach [b] X.env)).any (·.1) = false := by rfl)
    (nc : starEach [.Call (.Name "zip" p2) [a, b] [] q] X.env = (false, eval (.Call (.Name "zip" p2) [a, b] [] q) X.env) :: starEach [] X.env := by rfl) : PE X (.Call (.Name "dict" p) [.Call (.Name "zip" p2) [a, b] [] q] [] pos) (tDZ X.K ta) := by
  refine ⟨fun pins s σ H Q I h => ?_⟩
  refine Call_ (ld_blt I hg hm (u := .type "dict") (by decide +kernel) ?_)
  refine PyProof.Rows.callWith_type1 (PyProof.Rows.args_cons ?_ nc) nc rfl
  refine Call_ (ld_blt I hg2 hm2 (u := .type "zip") (by decide +kernel) ?_)
  refine PyProof.Rows.callWith_type1 (thn (ha.run q pins s σ H _ I h) fun us s1 ⟨vs, H1, I1, r1, q1⟩ => ?_) na nb
  obtain ⟨t, xs, z, rfl, hq, hl, q1⟩ := q1
  obtain ⟨u1, u2, rfl, ru1, ru2⟩ := vals2 r1
  cases (show u1 = Value.ref t from ru1)
  obtain ⟨tz, rfl⟩ := (show ∃ tk, u2 = Value.str z tk from ru2)
  obtain ⟨its, rv, p', hz⟩ := I1.tuple hq
  have pt : s1.heap.IsTuple t its.toArray := p'
  have hh := I1.ok.hd hc
  have tl : t < s1.heap.objs.size := p'.lt
  have il : its.length = xs.length := by rw [← rv.length, List.length_map]
  refine zip_begins2 (begins_tuple t its.toArray) (begins_text z tz) pt trivial fun h' hZ hTI hTO g1 g2 gs hk => ?_
  refine PyProof.Rows.args_nil ?_
  have n5 : s1.heap.objs.size + 5 = h'.objs.size := gs.symm
  -- the walk's parts
  have S : ZipSep2 (s1.heap.objs.size + 4) (s1.heap.objs.size + 2) (s1.heap.objs.size + 3) s1.heap.objs.size (s1.heap.objs.size + 1) [s1.heap.objs.size, t] [s1.heap.objs.size + 1] :=
    zip_sep2 (N := s1.heap.objs.size) (fp1 := [t]) (fp2 := []) (fun b hb => by rw [List.mem_singleton.mp hb]; exact tl) (fun b hb => by cases hb)
  have P := zipArg (prog := X.prog) (w := X.w) (n := its.toArray.size) S
    (fun hm => by
      rcases List.mem_cons.mp hm with e | hm
      · exact absurd e (by show s1.heap.objs.size + 2 ≠ s1.heap.objs.size; exact Nat.ne_of_gt (Nat.lt_add_of_pos_right (by decide)))
      · have e : s1.heap.objs.size + 2 = t := List.mem_singleton.mp hm
        exact absurd e (Nat.ne_of_gt (Nat.lt_add_right 2 tl)))
    (fun hm => absurd (List.mem_singleton.mp hm) (by show s1.heap.objs.size + 2 ≠ s1.heap.objs.size + 1; exact Nat.ne_of_gt (Nat.lt_succ_self _)))
    (fun A hA => Draws.tuple hA s1.heap.objs.size t (Nat.ne_of_lt tl) its.toArray)
    (fun A hA => by
      have e : its.toArray.size = z.cps.size := by rw [List.size_toArray, il, hl]
      rw [e]
      exact Draws.text hA (s1.heap.objs.size + 1) z tz)
    (fun h st b hb => by
      obtain ⟨⟨o1, e1, _⟩, ⟨o2, e2, _⟩⟩ := st
      rcases List.mem_cons.mp hb with e | hb
      · exact ⟨o1, by rw [e]; exact e1⟩
      · exact ⟨o2, by rw [List.mem_singleton.mp hb]; exact e2⟩)
    (fun h st b hb => by
      obtain ⟨o, e, _⟩ := st
      exact ⟨o, by rw [List.mem_singleton.mp hb]; exact e⟩)
  refine dict_of_arg (ps := zipPs xs z) P hh ⟨hZ, hTI, ⟨_, _, hTO⟩, ⟨⟨_, g1, rfl, rfl⟩, pt.at fun o e => hk _ o e⟩, ⟨_, g2, rfl, rfl⟩⟩ ?_ ?_ ?_ ?_
  · rw [zipPs_length hl, List.size_toArray, il]
  · rw [List.size_toArray, il, ← List.length_map (f := V.int)]
    exact hz
  · rintro i k v ⟨h1, c, u, h2, rfl⟩
    have hi : its[i]? = some k := by simpa using h1
    have hix : i < xs.length := by
      rw [← il]
      exact (List.getElem?_eq_some_iff.mp hi).1
    have e1 : xs[i]? = some xs[i] := List.getElem?_eq_getElem hix
    obtain ⟨k', hk', rk⟩ := rv.get (i := i) (x := V.int xs[i]) (by rw [List.getElem?_map, e1] <;> rfl)
    rw [hi] at hk'
    cases hk'
    obtain ⟨tk, rfl⟩ := rk
    exact ⟨(Sum.inl xs[i], V.str ⟨#[c]⟩), zipPs_get e1 h2, keyIs_int _ _, ⟨u, rfl⟩⟩
  · intro h'' tk vs rel dd hkk
    have big : sysModules < s1.heap.objs.size := I1.big
    have sz : ({ s1 with heap := h' } : Shared).heap.objs.size = s1.heap.objs.size + 5 := gs
    have ne : (({ s1 with heap := h' } : Shared).heap.objs.size == sysModules) = false := beq_eq_false_iff_ne.mpr (by rw [sz]; exact Nat.ne_of_gt (Nat.lt_add_right 5 big))
    have le : s1.heap.objs.size ≤ ({ s1 with heap := h' } : Shared).heap.objs.size := by rw [sz]; exact Nat.le_add_right _ _
    have keepB : ∀ b o, s1.heap.get? b = some o → h''.get? b = some o := fun b o e => by
      have lb : b < s1.heap.objs.size := Heap.lt_size e
      refine hkk b o (fun hm => ?_) (hk b o e)
      have hm' : b = s1.heap.objs.size + 4 ∨ b = s1.heap.objs.size + 3 ∨ b = s1.heap.objs.size ∨ b = s1.heap.objs.size + 1 := by simpa using hm
      have : ∀ j : Nat, b ≠ s1.heap.objs.size + j := fun j => Nat.ne_of_lt (Nat.lt_add_right j lb)
      rcases hm' with e | e | e | e
      · exact this 4 e
      · exact this 3 e
      · exact this 0 e
      · exact this 1 e
    have hlen : (mergeK [] (zipPs xs z)).length ≤ sizeLine := by
      refine Nat.le_trans (length_mergeK _ []) ?_
      rw [List.length_nil, Nat.zero_add, zipPs_length hl, ← List.length_map (f := V.int)]
      exact hz
    exact ⟨.ref ({ s1 with heap := h' } : Shared).heap.objs.size, upd H1 ({ s1 with heap := h' } : Shared).heap.objs.size (.dK (mergeK [] (zipPs xs z))),
      I1.laid (t' := tk) keepB le (show ObjOk X.prog X.w _ _ _ (.dK (mergeK [] (zipPs xs z))) from ⟨hlen, ne, vs, rel, dd⟩), rfl, q1 _ (I1.hok.fresh le)⟩
end SB
set_option Elab.async false
set_option linter.all false
set_option maxRecDepth 100000
set_option maxHeartbeats 4000000
/-! sorted of a list, a tuple, a dict's keys: any length, any data -/
namespace SB
open PySem PySem.Spec PyProof.Rows L2
open PySem.W (EachIs AllAlike Sortable dataLe)

section
variable {prog : Program} {w : World} {A : Around} {E : Value → Shared → Prop} {s : Shared}
theorem collect_tup {t : Addr} {vs : List Value} {Q : List Value → Shared → Prop} (ht : s.heap.IsTuple t vs.toArray) (hsz : vs.length ≤ sizeLine)
    (h : ∀ h', (∀ b u, s.heap.get? b = some u → h'.get? b = some u) → Q vs { s with heap := h' }) : wpAny (model prog w) A (collect (.ref t)) Q E s := by
  obtain ⟨o, ho, hc, n, hd⟩ := id ht
  unfold collect
  refine wpAny_bind (wpAny_runValue (codeAny_builtin entry_proto_collect' ?_))
  show wpAny _ _ (newList [] >>= fun l => again (.builtin "list.__iadd__" ⟨[l, .ref t], []⟩)) _ _ s
  refine wpAny_bind (wpAny_newList (wpAny_pure ⟨Code.quiet_builtin _ (by decide +kernel), codeAny_builtin entry_list_iadd' ?_⟩))
  show wpAny _ _ (Builtin.List.listExtendWith (.ref s.heap.objs.size) (.ref t) (.ref s.heap.objs.size)) _ _ { s with heap := s.heap.push (seqObj "list" #[] 0) }
  unfold Builtin.List.listExtendWith
  have ho' : (s.heap.push (seqObj "list" #[] 0)).get? t = some o := Heap.get?_push_of_some _ ho
  have hnew : (s.heap.push (seqObj "list" #[] 0)).get? s.heap.objs.size = some (seqObj "list" #[] 0) := Heap.get?_push_size _ rfl
  refine wpAny_bind (wpAny_typeOf (T := "tuple") ⟨o, ho', hc⟩ ?_)
  have ht : (Value.type "tuple" == Value.type "tuple") = true := by rfl
  rw [if_pos (by rw [ht, Bool.or_true])]
  refine wpAny_bind (listItems_at ho' hd ?_)
  refine wpAny_bind (listItems_at hnew rfl ?_)
  rw [if_neg (by simp)]
  refine wpAny_bind (listUpdate_at hnew rfl ?_ (Nat.zero_le _) (by show (#[] ++ vs.toArray).size ≤ sizeLine + 1; simp only [Array.size_append, List.size_toArray, List.length_nil]; omega))
  refine wpAny_pure ?_
  show wpAny (model prog w) A (do
      let o ← load s.heap.objs.size
      match o.data with
      | .seq xs _ => pure xs.toList
      | _ => unsupported "internal:collect") Q E { s with heap := (s.heap.push (seqObj "list" #[] 0)).update s.heap.objs.size (Obj.mapSeq (· ++ vs.toArray)) }
  refine wpAny_bind (wpAny_load (get?_update_seq hnew _) ?_)
  show wpAny _ _ (pure ((#[] : Array Value) ++ vs.toArray).toList) Q E _
  rw [show ((#[] : Array Value) ++ vs.toArray).toList = vs by simp]
  refine wpAny_pure (h _ fun b u e => ?_)
  rw [Heap.get?_update_other _ _ (Ne.symm (Nat.ne_of_lt (Heap.lt_size e)))]
  exact Heap.get?_push_of_some _ e
end

theorem each_vals {β : Type} {R : Value → β → Prop} {f : β → V} (hR : ∀ u b, R u b → RelV (f b) u) : ∀ {vs : List Value} {bs : List β}, EachIs R vs bs → Vals (bs.map f) vs
  | _, _, .nil => .nil
  | _, _, .cons h t => .cons (hR _ _ h) (each_vals hR t)

section
variable {X : Cx} {pins : List (Addr × Obj)} {σ : L2.St} {H : Hp} {s : Shared}
theorem sorted_core (I : L2.Inv X pins σ H s) (hu : X.A.units + 64 < cLine) {β : Type} {bs : List β} {enc : β → PyData} {f : β → V} {v : Value} {Q : VK}
    (coll : ∀ (R' : List Value → Shared → Prop) (E : Value → Shared → Prop), (∀ h' tk vs, (∀ b u, s.heap.get? b = some u → h'.get? b = some u) → EachIs (fun u b => RelV (f b) u ∧ Reads h' u (enc b) []) vs bs → R' vs { s with heap := h', toks := tk }) →
      wpAny (model X.prog X.w) X.A.in1 (collect v) R' E s)
    (hargs : argsOk "sorted" ⟨[v], []⟩) (hal : AllAlike (bs.map enc)) (hk : Sortable (bs.map enc)) (hL : bs.length ≤ sizeLine) (hd : ∀ b, b ∈ bs → (enc b).depth ≤ 8)
    (q : ∀ p, H p = none → Q (.ref p) (upd H p (.lst ((bs.mergeSort (dataLe false enc)).map f)))) :
    wpAny (model X.prog X.w) X.A (call (.builtin "sorted") [v]) (EP X pins σ Q) X.xe s := by
  refine Calls.call_function_entry PyProof.Rows.kind_sorted PyProof.Rows.plain_sorted PyProof.Rows.entry_sorted hargs ?_
  unfold Builtin.«sorted»
  refine wpAny_bind (m := checkCount "sorted" 1 1 _) (wpAny_pure ?_)
  refine wpAny_bind (coll _ _ fun h' tk vs hkp e => ?_)
  have I1 : L2.Inv X pins σ H { s with heap := h', toks := tk } := I.kept hkp
  have hvl : vs.length = bs.length := e.length
  refine wpAny_bind (wpAny_newList ?_ (by rw [hvl]; exact hL))
  have ho : (h'.push (seqObj "list" vs.toArray 0)).get? h'.objs.size = some (seqObj "list" vs.toArray 0) := Heap.get?_push_size _ rfl
  show wpAny _ _ _ _ _ { s with heap := h'.push (seqObj "list" vs.toArray 0), toks := tk }
  refine wpAny_bind (wpAny_holding ?_)
  refine PySem.W.list_sort_data (s := { s with heap := h'.push (seqObj "list" vs.toArray 0), toks := tk }) (R := fun u b => RelV (f b) u) ho (e.mono fun _ _ z => z.1)
    (e.mono fun u b z => ⟨[], PyProof.Rows.Reads.keeps (fun _ _ => Heap.get?_push_of_some _) z.2, by simp⟩) hal hk hL (fun b hb => ?_) fun out hol eo => ?_
  · have := hd b hb
    show X.A.units + 1 + 1 + (enc b).depth < cLine
    omega
  obtain ⟨e', he'⟩ := PyProof.Rows.sortedHeap_at (vs := vs) (out := out.toArray) ho
  have rv := each_vals (f := f) (fun _ _ z => z) eo
  refine wpAny_pure ⟨_, rfl, .ref h'.objs.size, upd H h'.objs.size (.lst ((bs.mergeSort (dataLe false enc)).map f)), I1.laid (t' := tk) (fun b u z => ?_) (Nat.le_refl _)
    (show ObjOk X.prog X.w _ _ _ (.lst _) from ⟨?_, out, e', rv, he'⟩), rfl, q _ (I1.hok.fresh (Nat.le_refl _))⟩
  · have hb : b < h'.objs.size := Heap.lt_size z
    rw [PyProof.Rows.sortedHeap_old (Nat.ne_of_lt hb) (by rw [size_push']; exact Nat.lt_succ_of_lt hb)]
    exact Heap.get?_push_of_some _ z
  · rw [rv.length, hol]
    exact hL
end

def leI (a b : Int) : Bool := decide (a ≤ b)
def leS (a b : Str) : Bool := decide (a.cps.toList ≤ b.cps.toList)
theorem alike_all_int (ns : List Int) : AllAlike (ns.map PyData.int) := by
  intro d hd d' hd'
  obtain ⟨_, _, rfl⟩ := List.mem_map.mp hd
  obtain ⟨_, _, rfl⟩ := List.mem_map.mp hd'
  rfl
theorem alike_all_str (ns : List Str) : AllAlike (ns.map PyData.str) := by
  intro d hd d' hd'
  obtain ⟨_, _, rfl⟩ := List.mem_map.mp hd
  obtain ⟨_, _, rfl⟩ := List.mem_map.mp hd'
  rfl
theorem sortable_int (ns : List Int) : Sortable (ns.map PyData.int) := .inr fun d hd => by
  obtain ⟨_, _, rfl⟩ := List.mem_map.mp hd
  exact ⟨nofun, nofun⟩
theorem sortable_str (ns : List Str) : Sortable (ns.map PyData.str) := .inr fun d hd => by
  obtain ⟨_, _, rfl⟩ := List.mem_map.mp hd
  exact ⟨nofun, nofun⟩
theorem each_ints {h : Heap} : ∀ {ns : List Int} {vs : List Value}, Vals (ns.map V.int) vs → EachIs (fun u b => RelV (V.int b) u ∧ Reads h u (PyData.int b) []) vs ns
  | [], _, .nil => .nil
  | n :: ns, _, .cons r t => by
    obtain ⟨tk, rfl⟩ := r
    exact .cons ⟨⟨tk, rfl⟩, .int n tk⟩ (each_ints t)
theorem each_strs {h : Heap} : ∀ {ns : List Str} {vs : List Value}, Vals (ns.map V.str) vs → EachIs (fun u b => RelV (V.str b) u ∧ Reads h u (PyData.str b) []) vs ns
  | [], _, .nil => .nil
  | n :: ns, _, .cons r t => by
    obtain ⟨tk, rfl⟩ := r
    exact .cons ⟨⟨tk, rfl⟩, .str n tk⟩ (each_strs t)

section
variable {X : Cx}
/-- sorted(tuple of ints) -/
theorem cr_sortTI (hu : X.A.units + 64 < cLine) : CallR X (.builtin "sorted") (fun xs H Q => ∃ (a : Addr) (ns : List Int), xs = [.ref a] ∧ SqT X.K H a (ns.map V.int) ∧
    ∀ p, H p = none → Q (.ref p) (upd H p (.lst ((ns.mergeSort leI).map V.int)))) := by
  intro pins s σ H xs us Q I r h
  obtain ⟨a, ns, rfl, hq, q⟩ := h
  obtain ⟨u, rfl, ru⟩ := vals1 r
  cases (show u = Value.ref a from ru)
  obtain ⟨its, rv, pt, hz⟩ := I.tuple hq
  have e0 : dataLe false (fun b : Int => PyData.int b) = leI := PySem.W.dataLe_int fun b => b
  refine sorted_core I hu (bs := ns) (enc := PyData.int) (f := V.int) (fun R' E hR => collect_tup (show s.heap.IsTuple a its.toArray from pt) (by rw [← rv.length]; exact hz) fun h' k => hR h' s.toks its k (each_ints rv))
    (PyProof.Rows.args_sorted1 _) (alike_all_int ns) (sortable_int ns) (by rw [← List.length_map (f := V.int)]; exact hz) (fun b _ => Nat.zero_le _) fun p hp => ?_
  rw [show dataLe false PyData.int = leI from e0]
  exact q p hp
/-- sorted(list of texts), any length -/
theorem cr_sortLS (hu : X.A.units + 64 < cLine) : CallR X (.builtin "sorted") (fun xs H Q => ∃ (a : Addr) (ns : List Str), xs = [.ref a] ∧ SqL X.K H a (ns.map V.str) ∧
    ∀ p, H p = none → Q (.ref p) (upd H p (.lst ((ns.mergeSort leS).map V.str)))) := by
  intro pins s σ H xs us Q I r h
  obtain ⟨a, ns, rfl, hq, q⟩ := h
  obtain ⟨u, rfl, ru⟩ := vals1 r
  cases (show u = Value.ref a from ru)
  obtain ⟨its, rv, pl, hz⟩ := I.list hq
  have e0 : dataLe false (fun b : Str => PyData.str b) = leS := PySem.W.dataLe_str fun b => b
  have hz2 : its.length ≤ sizeLine := by rw [← rv.length]; exact hz
  refine sorted_core I hu (bs := ns) (enc := PyData.str) (f := V.str) (fun R' E hR => PyProof.Rows.collect_list pl.isList (hR _ s.toks its (fun b u z => ?_) (each_strs rv)) hz2)
    (PyProof.Rows.args_sorted1 _) (alike_all_str ns) (sortable_str ns) (by rw [← List.length_map (f := V.str)]; exact hz) (fun b _ => Nat.zero_le _) fun p hp => ?_
  · rw [Heap.get?_update_other _ _ (Ne.symm (Nat.ne_of_lt (Heap.lt_size z)))]
    exact Heap.get?_push_of_some _ z
  · rw [show dataLe false PyData.str = leS from e0]
    exact q p hp
/-- sorted(dict with text keys), any length -/
theorem cr_sortDS (hu : X.A.units + 64 < cLine) (hcalm : X.calm = true) : CallR X (.builtin "sorted") (fun xs H Q => ∃ (a : Addr) (kvs : List (Key × V)) (ks : List Str), xs = [.ref a] ∧ Rd H a (.dK kvs) ∧ kvs.map (·.1) = ks.map Sum.inr ∧
    ∀ p, H p = none → Q (.ref p) (upd H p (.lst ((ks.mergeSort leS).map V.str)))) := by
  intro pins s σ H xs us Q I r h
  obtain ⟨a, kvs, ks, rfl, hd, hks, q⟩ := h
  obtain ⟨u, rfl, ru⟩ := vals1 r
  cases (show u = Value.ref a from ru)
  obtain ⟨z, lo, vs, rel, dd⟩ := dk_rd I.hok hd
  obtain ⟨ep, hat⟩ := dd.dictAt
  have hkeys : vs.map (·.1) = ks.map Sum.inr := rel.keys.symm.trans hks
  have hl : vs.length = ks.length := by
    have e := congrArg List.length hkeys
    simpa using e
  have hzl : vs.length ≤ sizeLine := by rw [← rel.length]; exact z
  have e0 : dataLe false (fun b : Str => PyData.str b) = leS := PySem.W.dataLe_str fun b => b
  refine sorted_core I hu (bs := ks) (enc := PyData.str) (f := V.str) (fun R' E hR => PySem.W.kdu_collect (A := X.A.in1) (PySem.W.kdl_dict (knd := mixKind X.prog X.w) (kvs := vs) (ep := ep) lo) (I.ok.hd hcalm) hat hzl fun h' tk acc hk hacc => hR h' tk acc.toList hk (each_strs ?_))
    (PyProof.Rows.args_sorted1 _) (alike_all_str ks) (sortable_str ks) (by rw [← hl]; exact hzl) (fun b _ => Nat.zero_le _) fun p hp => ?_
  · have hal : acc.toList.length = ks.length := by rw [Array.length_toList, hacc.1, hl]
    have hS : StrsAre acc.toList ks := strs_at hal fun j v e => by
      obtain ⟨k, x, e1, e2⟩ := hacc.2 j v (by rw [← Array.getElem?_toList]; exact e)
      have e3 : (vs.map (·.1))[j]? = some k := by rw [List.getElem?_map, e1] <;> rfl
      rw [hkeys, List.getElem?_map] at e3
      cases e4 : ks[j]? with
      | none => rw [e4] at e3; cases e3
      | some y =>
        rw [e4] at e3
        have e5 : Sum.inr y = k := Option.some.inj e3
        subst e5
        obtain ⟨t, ev⟩ := Value.isStrOf_shape (x := y) (v := v) e2
        exact ⟨y, t, rfl, ev⟩
    exact vals_of_strs hS
  · rw [show dataLe false PyData.str = leS from e0]
    exact q p hp
end

/-! sorted of a tuple of buttons: some arrangement of them -/
structure Btn where
  ad : Addr
  nm : Str
  ta : Addr
  tn : List Int
def Btn.enc (b : Btn) : PyData := .tuple [.str b.nm, .tuple (b.tn.map .int)]
def Btn.at (H : Hp) (b : Btn) : Prop := H b.ad = some (.tup [.str b.nm, .ref b.ta]) ∧ H b.ta = some (.tup (b.tn.map V.int))
theorem Btn.alike (b c : Btn) : PySem.W.alike b.enc c.enc = true := by
  have e := PySem.W.alike_ints b.tn c.tn
  show (true && (PySem.W.alikeAll (b.tn.map .int) (c.tn.map .int) && true)) = true
  rw [e] <;> rfl
theorem readsAll_ints {h : Heap} : ∀ {ns : List Int} {vs : List Value}, Vals (ns.map V.int) vs → ReadsAll h vs (ns.map PyData.int) []
  | [], _, .nil => .nil
  | n :: ns, _, .cons r t => by
    obtain ⟨tk, rfl⟩ := r
    exact ReadsAll.cons (as := []) (bs := []) (.int n tk) (readsAll_ints t)
section
variable {X : Cx} {pins : List (Addr × Obj)} {σ : L2.St} {H : Hp} {s : Shared}
theorem Btn.reads (I : L2.Inv X pins σ H s) {b : Btn} (h : b.at H) : Reads s.heap (.ref b.ad) b.enc [] := by
  obtain ⟨h1, h2⟩ := h
  obtain ⟨its, r, ⟨o, ho, hc, n, hd⟩, _⟩ := I.tuple (xs := [.str b.nm, .ref b.ta]) (.inl (.inl h1))
  obtain ⟨its2, r2, ⟨o2, ho2, hc2, n2, hd2⟩, _⟩ := I.tuple (xs := b.tn.map V.int) (.inl (.inl h2))
  obtain ⟨u1, u2, rfl, r3, r4⟩ := vals2 r
  obtain ⟨tk, rfl⟩ := r3
  cases (show u2 = Value.ref b.ta from r4)
  refine .tuple ho hc hd ?_
  exact ReadsAll.cons (as := []) (bs := []) (.str b.nm tk) (ReadsAll.cons (as := []) (bs := []) (.tuple ho2 hc2 hd2 (readsAll_ints r2)) .nil)
theorem each_btns (I : L2.Inv X pins σ H s) {h' : Heap} (k : ∀ b u, s.heap.get? b = some u → h'.get? b = some u) : ∀ {bs : List Btn} {vs : List Value}, (∀ b ∈ bs, b.at H) → Vals (bs.map fun b => V.ref b.ad) vs →
    EachIs (fun u b => RelV (V.ref b.ad) u ∧ Reads h' u b.enc []) vs bs
  | [], _, _, .nil => .nil
  | b :: bs, _, h, .cons r t => by
    cases r
    exact .cons ⟨rfl, PyProof.Rows.Reads.keeps k (Btn.reads I (h b List.mem_cons_self))⟩ (each_btns I k (fun c hc => h c (List.mem_cons_of_mem _ hc)) t)
end
section
variable {X : Cx}
theorem cr_sortTB (hu : X.A.units + 64 < cLine) : CallR X (.builtin "sorted") (fun xs H Q => ∃ (a : Addr) (bs : List Btn), xs = [.ref a] ∧ SqT X.K H a (bs.map fun b => V.ref b.ad) ∧ (∀ b ∈ bs, b.at H) ∧
    ∀ p (ys : List Btn), H p = none → ys.Perm bs → Q (.ref p) (upd H p (.lst (ys.map fun b => V.ref b.ad)))) := by
  intro pins s σ H xs us Q I r h
  obtain ⟨a, bs, rfl, hq, hb, q⟩ := h
  obtain ⟨u, rfl, ru⟩ := vals1 r
  cases (show u = Value.ref a from ru)
  obtain ⟨its, rv, pt, hz⟩ := I.tuple hq
  have hz2 : bs.length ≤ sizeLine := by rw [← List.length_map (f := fun b : Btn => V.ref b.ad)]; exact hz
  refine sorted_core I hu (bs := bs) (enc := Btn.enc) (f := fun b => V.ref b.ad) (fun R' E hR => collect_tup (show s.heap.IsTuple a its.toArray from pt) (by rw [← rv.length]; exact hz) fun h' k => hR h' s.toks its k (each_btns I k hb rv))
    (PyProof.Rows.args_sorted1 _) (PySem.W.AllAlike.of Btn.alike) (PySem.W.Sortable.tuples fun b => ⟨_, _, rfl⟩) hz2 (fun b _ => ?_) fun p hp => q p _ hp (List.mergeSort_perm _ _)
  have e := PySem.W.depth_ints b.tn
  show PyData.depth (.tuple [.str b.nm, .tuple (b.tn.map .int)]) ≤ 8
  simp [PyData.depth, PyData.depthAll, e]
end
end SB
set_option Elab.async false
set_option linter.all false
set_option maxRecDepth 100000
set_option maxHeartbeats 4000000
/-! repr of a bool; of a list of a number, a tuple of texts, a text -/
namespace SB
open PySem PySem.Spec PyProof.Rows L2

def toldD (n : Int) (ks : List Str) (z : Str) : PyData := .list [.int n, .tuple (ks.map .str), .str z]
theorem shownAll_strs : ∀ ks : List Str, PyData.shownAll (ks.map .str) = ks.map reprText
  | [] => rfl
  | k :: ks => by
    show PyData.shown (.str k) :: PyData.shownAll (ks.map .str) = _
    rw [shownAll_strs ks] <;> rfl
theorem showable_strs : ∀ ks : List Str, PyData.showableAll (ks.map .str) = true
  | [] => rfl
  | k :: ks => by
    show (PyData.showable (.str k) && PyData.showableAll (ks.map .str)) = true
    rw [showable_strs ks] <;> rfl
theorem noDict_strs : ∀ ks : List Str, PyData.hasDictAll (ks.map .str) = false
  | [] => rfl
  | k :: ks => by
    show (PyData.hasDict (.str k) || PyData.hasDictAll (ks.map .str)) = false
    rw [noDict_strs ks] <;> rfl
theorem depth_strs : ∀ ks : List Str, PyData.depthAll (ks.map .str) = 0
  | [] => rfl
  | k :: ks => by
    show max (PyData.depth (.str k)) (PyData.depthAll (ks.map .str)) = 0
    rw [depth_strs ks] <;> rfl
theorem readsAll_strs {h : Heap} : ∀ {ns : List Str} {vs : List Value}, Vals (ns.map V.str) vs → ReadsAll h vs (ns.map PyData.str) []
  | [], _, .nil => .nil
  | n :: ns, _, .cons r t => by
    obtain ⟨tk, rfl⟩ := r
    exact ReadsAll.cons (as := []) (bs := []) (.str n tk) (readsAll_strs t)
/-- the sizes at which such a list is written out -/
structure ToldFits (n : Int) (ks : List Str) (z : Str) : Prop where
  n : 0 ≤ n ∧ n ≤ 100000
  len : ks.length ≤ 20000
  ks : ∀ k ∈ ks, k.length ≤ 30 ∧ ∀ c ∈ k.cps.toList, c < 16 ^ 8
  z : z.length ≤ 30 ∧ ∀ c ∈ z.cps.toList, c < 16 ^ 8
theorem fmtCost_le {ks : List Str} (h : ∀ k ∈ ks, k.length ≤ 30) : fmtCost ks ≤ 304 * ks.length := by
  induction ks with
  | nil => exact Nat.le_refl _
  | cons k r ih =>
    have e1 := ih fun x hx => h x (List.mem_cons_of_mem _ hx)
    have e2 := h k List.mem_cons_self
    have e3 : (k :: r).length = r.length + 1 := rfl
    rw [fmtCost_cons, e3]
    omega
theorem log_small {n : Int} (h : 0 ≤ n ∧ n ≤ 100000) : n.natAbs.log2 < 1920 := by
  have h1 : n.natAbs ≤ 100000 := by omega
  have h2 : n.natAbs < 2 ^ 17 := Nat.lt_of_le_of_lt h1 (by decide)
  by_cases h0 : n.natAbs = 0
  · rw [h0]
    decide
  · have := (Nat.log2_lt h0).mpr h2
    omega
theorem told_fits {n : Int} {ks : List Str} {z : Str} (F : ToldFits n ks z) : (toldD n ks z).shown.length ≤ sizeLine ∧ (toldD n ks z).showable = true := by
  have hl := log_small F.n
  have h1 : (PyData.shown (.int n)).length ≤ 1921 := int_text_len_1921 hl
  have h2 : (PyData.shown (.tuple (ks.map .str))).length ≤ 304 * ks.length + 2 := by
    show (tupleText (PyData.shownAll (ks.map .str))).length ≤ _
    rw [shownAll_strs]
    have e1 := fmt_text (ks.map reprText)
    have e2 := fmt_piled ks fun k hk => (F.ks k hk).2
    have e3 := fmtCost_le fun k hk => (F.ks k hk).1
    omega
  have h3 : (PyData.shown (.str z)).length ≤ 302 := by
    show (reprText z).length ≤ _
    have e1 := StrLaws.reprText_len z F.z.2
    have e2 := F.z.1
    omega
  refine ⟨?_, ?_⟩
  · show (listText [PyData.shown (.int n), PyData.shown (.tuple (ks.map .str)), PyData.shown (.str z)]).length ≤ sizeLine
    have e1 := textFrom_len_le [PyData.shown (.int n), PyData.shown (.tuple (ks.map .str)), PyData.shown (.str z)] 0 "["
    have e2 : (listText [PyData.shown (.int n), PyData.shown (.tuple (ks.map .str)), PyData.shown (.str z)]).length = (textFrom 0 "[" [PyData.shown (.int n), PyData.shown (.tuple (ks.map .str)), PyData.shown (.str z)]).length + 1 := by
      unfold listText
      rw [strLen_append] <;> rfl
    have e3 : (("[" : String) : Str).length = 1 := rfl
    simp only [List.map_cons, List.map_nil, List.sum_cons, List.sum_nil, List.length_cons, List.length_nil] at e1
    have := F.len
    rw [e2, sizeLine_eq]
    omega
  · show (decide (n.natAbs.log2 < 1920) && (PyData.showableAll (ks.map .str) && (true && true))) = true
    rw [decide_eq_true hl, showable_strs] <;> rfl
section
variable {X : Cx}
/-- the text that repr writes of such a list -/
def toldText (n : Int) (ks : List Str) (z : Str) : Str := (toldD n ks z).shown
theorem cr_reprTold (hg : X.A.guards = some []) (hu : X.A.units + 64 < cLine) : CallR X (.builtin "repr") (fun xs H Q => ∃ (a t : Addr) (n : Int) (ks : List Str) (z : Str), xs = [.ref a] ∧ SqL X.K H a [.int n, .ref t, .str z] ∧ SqT X.K H t (ks.map V.str) ∧
    ToldFits n ks z ∧ Q (.str (toldText n ks z)) H) := by
  intro pins s σ H xs us Q I r h
  obtain ⟨a, t, n, ks, z, rfl, ha, ht, F, q⟩ := h
  obtain ⟨u, rfl, ru⟩ := vals1 r
  cases (show u = Value.ref a from ru)
  obtain ⟨its, rv, ⟨o, m, ho, hc, hdd, hd⟩, _⟩ := I.list ha
  obtain ⟨its2, rv2, ⟨o2, ho2, hc2, m2, hd2⟩, _⟩ := I.tuple ht
  have hR : Reads s.heap (.ref a) (toldD n ks z) [a] := by
    cases rv with
    | cons r1 rr =>
      obtain ⟨t1, rfl⟩ := r1
      cases rr with
      | cons r2 rr =>
        cases r2
        cases rr with
        | cons r3 rr =>
          obtain ⟨t3, rfl⟩ := r3
          cases rr
          exact .list ho hc hd (ReadsAll.cons (as := []) (bs := []) (.int n t1) (ReadsAll.cons (as := []) (bs := []) (.tuple ho2 hc2 hd2 (readsAll_strs rv2)) (ReadsAll.cons (as := []) (bs := []) (.str z t3) .nil)))
  obtain ⟨f1, f2⟩ := told_fits F
  have hdict : (toldD n ks z).hasDict = false := by
    show (PyData.hasDict (.int n) || (PyData.hasDictAll (ks.map .str) || (PyData.hasDict (.str z) || false))) = false
    rw [noDict_strs] <;> rfl
  have hdep : (toldD n ks z).depth ≤ 3 := by
    simp [toldD, PyData.depth, PyData.depthAll, depth_strs]
  exact repr_of_reads' hR f2 (PyData.noDict_hsm hdict) hg (by omega) (fun _ _ e => e) (fun h' u tk hk => ⟨.str (toldText n ks z), H, I.kept hk, ⟨u, rfl⟩, q⟩) f1
def boolText (b : Bool) : Str := if b then "True" else "False"
theorem cr_reprBl : CallR X (.builtin "repr") (fun xs H Q => ∃ b : Bool, xs = [.bl b] ∧ Q (.str (boolText b)) H) := by
  intro pins s σ H xs us Q I r h
  obtain ⟨b, rfl, q⟩ := h
  obtain ⟨u, rfl, ru⟩ := vals1 r
  cases (show u = Value.bool b from ru)
  exact PySem.P.repr_of_bool ⟨.str (boolText b), H, I.tok _, ⟨_, rfl⟩, q⟩
theorem boolText_eq {a b : Bool} : decide (V.str (boolText a) = V.str (boolText b)) = (a == b) := by
  cases a <;> cases b <;> decide +kernel
end
end SB
set_option Elab.async false
set_option linter.all false
set_option maxRecDepth 100000
set_option maxHeartbeats 4000000
/-! defs that are called where no repr is under way: what repr writes is known there -/
namespace SB
open PySem PySem.Spec PyProof.Rows L2

/-- a def's promise, kept where no guard is under way; nothing is raised -/
structure FnG (P : Program) (w : World) (K : PySem.W.Frag) (mg : Str → Option Value) (base : Heap) (k : Nat) (f : Addr) (fd : FuncData) (ps : List Str) (sp : Sp) : Prop where
  len : ∀ vs H Q E, sp vs H Q E → vs.length = ps.length
  run : ∀ (A : Around) (outer : List Env) (s : Shared) (H : Hp) (args : Args) (us : List Value) (vs : List V) (Q : VK), Room k A → A.guards = some [] → Env0 P w K mg base A outer s H → BindsTo s fd args (ps.zip us) → Vals vs us → sp vs H Q E0 →
    codeAny (model P w) A (.call (.ref f) args) (fun r s' => ∃ u, r = .ok (.ret u) ∧ CE outer P w H s Q u s') s

section
variable {P : Program} {w : World} {K : PySem.W.Frag} {mg : Str → Option Value} {base : Heap}
theorem fnG_of {x qual : Str} {st : Stmt} {f : Addr} {fd : FuncData} {N ps : List Str} {k : Nat} {sp : Sp} (F : Fun K x qual st f fd) (S : FnScope N ps (defScope st)) (len : ∀ vs H Q E, sp vs H Q E → vs.length = ps.length)
    (hbody : ∀ (cdv : Value) (A : Around) (outer : List Env) (s : Shared) (H : Hp) (vs : List V) (Q : VK), Room k (A.deeper (envOfC qual (defScope st) s.heap.objs.size f cdv)) → A.guards = some [] → sp vs H Q E0 →
      ∃ t, PSs (cxOf CX0 P w K mg base N qual (defScope st) f cdv A outer s H E0).nox (defBody st) t ∧ t { nx := fun _ H' => Q .non H', rt := Q } (start N vs) H) : FnG P w K mg base (k + 1) f fd ps sp := by
  obtain ⟨oc, od, kV, doc, pm, an, cdv, ct, osl, rfl, lk, hcd⟩ := F.ex
  refine ⟨len, fun A outer s H args us vs Q hr hg e0 hb r hsp => ?_⟩
  have keepB : ∀ b o, base.get? b = some o → s.heap.get? b = some o := fun b o e => (e0.bs b o e).1
  have KX : K.In s.heap := e0.mod.kin.keeps keepB
  have kinds : ∀ y ∈ ps.zip us, (defScope st).names.lookup y.1 = some .local ∨ ((defScope st).names.lookup y.1 = some .cell ∧ ((cellsFrom (s.heap.objs.size + 1) (defScope st).names []).lookup y.1).isSome = true) := by
    rintro ⟨n, v⟩ hy
    exact (S.par n (List.of_mem_zip hy).1).imp id fun q => ⟨q, PySem.W.cellsFrom_some _ _ _ (.inl q)⟩
  refine codeAny_call_function hr.depth (KX _ _ lk) rfl S.co S.gen rfl (PySem.W.codeRec_of KX hcd) (hb _ _ _ _ (wpAny_newFunctionEnv_cells S.kind kinds fun env he s1 inn => ?_))
  subst he
  refine ⟨(e0.mod.nolimit.keeps keepB).keeps inn.toInCall.keep, codeAny_func ?_⟩
  obtain ⟨t, ht, hq⟩ := hbody cdv A outer s H vs Q (hr.deeper _) hg hsp
  have I := inv_start (CX := CX0) (E := E0) S hr.hd e0 (len _ _ _ _ hsp) r inn
  refine wpAny_mono (ht.nox.run [] s1 (start N vs) H _ I hq) (fun fl s' hs => ?_) fun e s' hs => wpAny_mono hs (fun _ _ z => z.elim) fun _ _ z => z.elim
  cases fl with
  | ret u => exact let ⟨v, _, H', J, rv, q⟩ := hs; ⟨u, rfl, v, H', J.os, J.bare, J.base, J.hok, rv, q⟩
  | next => exact let ⟨_, H', J, q⟩ := hs; ⟨.none, rfl, .non, H', J.os, J.bare, J.base, J.hok, rfl, q⟩
  | brk => exact let ⟨_, _, _, q⟩ := hs; q.elim
  | cont => exact let ⟨_, _, _, q⟩ := hs; q.elim
end

section
variable {X : Cx} {k : Nat} {f : Addr} {fd : FuncData} {ps : List Str} {sp : Sp} {x : Str} {p pos : Pos} {e : Expr} {es : List Expr} {t : TA}
/-- such a def called -/
theorem pe_callG (F : FnG X.prog X.w X.K X.mg X.base k f fd ps sp) (hr : Room k X.A) (hgd : X.A.guards = some []) (hg : Gl X x) (hm : X.mg x = some (.ref f)) (hk : PySem.W.keepIn X.K (.ref f) = true) (hb : Binds X.K fd ps [])
    (ha : PA X (e :: es) t) (hdb : (x == ("__debug__" : Str)) = false := by decide) (he : starEach (e :: es) X.env = (false, eval e X.env) :: starEach es X.env := by rfl) (hpl : (backTo pos (starEach es X.env)).any (·.1) = false := by rfl) :
    PE X (.Call (.Name x p) (e :: es) [] pos) (fun σ H Q => t σ H fun vs H1 => sp vs H1 Q E0) := by
  refine ⟨fun pins s σ H Q I h => ?_⟩
  refine wpAny_Call_Name_kw (ld_glob I hg hm ?_ hdb)
  refine PySem.W.callWith_K (h₀ := X.base) I.ok.mod.kin hk (thn (ha.run pos pins s σ H _ I h) fun us s1 ⟨vs, H1, I1, r, q⟩ => ⟨I1.kIn, ?_⟩) he hpl
  have hl : us.length = ps.length := by rw [← r.length]; exact F.len _ _ _ _ q
  have hbs := hb s1 us I1.kIn (by rw [List.append_nil]; exact hl)
  rw [List.append_nil] at hbs
  refine wpAny_call (codeAny_mono (F.run X.A X.stack s1 H1 ⟨us, []⟩ us vs Q hr hgd I1.env0 hbs r q) fun r' s' hq => ?_)
  obtain ⟨u, rfl, z⟩ := hq
  exact I1.after z
end

/-! ### the law's own end -/
section
open Classical in
/-- the script's own place: known to its object, unless it is one of the module's -/
noncomputable def scriptH (K : PySem.W.Frag) (a : Addr) (o : Obj) (xs : List V) : Hp := fun b => if b = a ∧ K.lookup a = none then some (.frz o (.lst xs)) else none
theorem scriptH_some {K : PySem.W.Frag} {a b : Addr} {o : Obj} {xs : List V} {u : HO} (h : scriptH K a o xs b = some u) : b = a ∧ K.lookup a = none ∧ u = .frz o (.lst xs) := by
  unfold scriptH at h
  split at h
  · rename_i c
    exact ⟨c.1, c.2, (Option.some.inj h).symm⟩
  · cases h

theorem walkG {l : PySem.W.OpenLaw} {n k : Nat} {q : Program} {loose : List Str} {XP : (Str → Option Value) → Heap → Prop} {YP : World → Heap → Prop} {d : DefRec} {x : Str}
    (hn : l.most = some n) (hn2 : n ≤ sizeLine) (hdf : d.params.defaults = []) (hr : Room k callerA)
    (F : ∀ (w : World) (mg : Str → Option Value) (fa : Addr) (h : Heap), YP w h → h.Ns mainGlobals mg → mg d.name = some (.ref fa) →
      ∃ (K : PySem.W.Frag) (fd : FuncData) (sp : Sp), K.In h ∧ (∀ (s : Shared) (u : Value), BindsTo s fd ⟨[u], []⟩ [(x, u)]) ∧
        (∀ (H : Hp) (a : Addr) (ns : List Int), ns.length ≤ n → SqL K H a (ns.map V.int) → sp [.ref a] H (fun v _ => v = .bl true) E0) ∧
        ∀ base : Heap, K.In base → base.Ns mainGlobals mg → FnG l.prog w K mg base k fa fd [x] sp) :
    PySem.W.WalkO q loose XP YP l.row.toRowW d [] (fun f vs => PySem.call f vs) := by
  refine Att.attach_call hn hdf fun w s0 s1 mg mb fa o pm cd doc a vs ns G Y ho hd hcd hmg hobj hints hlen hgens => ?_
  obtain ⟨K, fd, sp, KX, hb, hsp, hF⟩ := F w mg fa _ Y G.T.g hmg
  have rv := vals_ints hints
  have lenV := hints.length
  have nsl : (ns.map V.int).length ≤ sizeLine := by rw [List.length_map]; exact Nat.le_trans hlen hn2
  -- the abstract heap, the base
  let ob : Obj := { cls := .type "list", data := .seq vs.toArray }
  let H : Hp := scriptH K a ob (ns.map V.int)
  have freeK : ∀ b u, K.lookup b = some u → H b = none := fun b u e => by
    cases z : H b with
    | none => rfl
    | some v =>
      obtain ⟨e1, e2, _⟩ := scriptH_some z
      rw [e1, e2] at e
      cases e
  have freeD : ∀ b u es ep, s1.heap.get? b = some u → u.data = .dict es ep → H b = none := fun b u es ep e dd => by
    cases z : H b with
    | none => rfl
    | some v =>
      obtain ⟨e1, _, _⟩ := scriptH_some z
      rw [e1, hobj] at e
      cases e
      cases dd
  have nsB : ∀ b m, s1.heap.Ns b m → (hidT s1.heap H).Ns b m := fun b m ⟨u, es, ep, e, dd, r⟩ => ⟨u, es, ep, hidT_get e (freeD b u es ep e dd), dd, r⟩
  have KB : K.In (hidT s1.heap H) := fun b u e => hidT_get (KX b u e) (freeK b u e)
  have hok : HOk l.prog w H s1.heap := fun b u z => by
    obtain ⟨rfl, _, rfl⟩ := scriptH_some z
    exact ⟨hobj, nsl, vs, _, rv, hobj⟩
  have sq : SqL K H a (ns.map V.int) := by
    cases z : K.lookup a with
    | some u =>
      have e := KX a u z
      rw [hobj] at e
      cases e
      exact .inr ⟨_, vs.toArray, _, z, rfl, rfl, rfl, by rw [List.size_toArray, lenV]; exact Nat.le_trans hlen hn2, by simpa using rv⟩
    | none =>
      have e : H a = some (.frz ob (.lst (ns.map V.int))) := by
        show scriptH K a ob (ns.map V.int) a = _
        unfold scriptH
        rw [if_pos ⟨rfl, z⟩]
      exact .inl (.inr ⟨ob, e⟩)
  have md : Mod K mg (hidT s1.heap H) := by
    obtain ⟨mc, l1, l2⟩ := G.T.nolimit
    exact ⟨KB, nsB _ _ G.T.g, ⟨mb, nsB _ _ G.T.b, G.T.builtins⟩, ⟨mc, nsB _ _ l1, l2⟩⟩
  have e0 : Env0 l.prog w K mg (hidT s1.heap H) callerA [] s1 H := ⟨rfl, md, fun b u e => of_hidT e, Nat.le_of_eq (hidT_size _ _), trivial, fun b hb => absurd (show b ∈ ([] : List Addr) from hb) (by simp), hok, .of_eq hgens⟩
  refine codeAny_mono ((hF _ KB (nsB _ _ G.T.g)).run callerA [] s1 H ⟨[.ref a], []⟩ [.ref a] [.ref a] (fun v _ => v = .bl true) hr rfl e0 (hb s1 (.ref a)) (.cons rfl .nil) (hsp H a ns hlen sq)) fun r s' h => ?_
  obtain ⟨u, rfl, v, H', os, bare, un, hok', rr, qv⟩ := h
  have qv' : v = .bl true := qv
  subst qv'
  obtain rfl : u = Value.bool true := rr
  refine ⟨rfl, OldK.of_keep fun b u e => ?_, os, bare⟩
  cases z : H b with
  | none => exact un.keep b u e z (by intro m; cases m) (by simp)
  | some y =>
    obtain ⟨rfl, _, rfl⟩ := scriptH_some z
    obtain ⟨e1, _⟩ := hok _ _ z
    obtain ⟨e2, _⟩ := hok' _ _ (un.frzs _ _ _ z)
    rw [e] at e1
    cases e1
    exact e2
end
end SB
set_option Elab.async false
set_option linter.all false
set_option maxRecDepth 100000
set_option autoImplicit false
set_option maxHeartbeats 4000000
namespace SB
open PySem PySem.Spec PyProof.Rows L2

/-! ### facts of the top -/
structure Tx (K : PySem.W.Frag) (mg : Str → Option Value) (C : Addr) : Prop where
  isinstance : mg "isinstance" = none
  len : mg "len" = none
  all : mg "all" = none
  sorted : mg "sorted" = none
  list : mg "list" = none
  range : mg "range" = none
  tuple : mg "tuple" = none
  dict : mg "dict" = none
  zip : mg "zip" = none
  enumerate : mg "enumerate" = none
  int : mg "int" = none
  str : mg "str" = none
  bool : mg "bool" = none
  abs : mg "abs" = none
  min : mg "min" = none
  max : mg "max" = none
  repr : mg "repr" = none
  places : ∃ t, mg "MOST_PLACES" = some (.int 24 t)
  buttons : ∃ t, mg "MOST_BUTTONS" = some (.int 8 t)
  reached : ∃ t, mg "MOST_REACHED" = some (.int 50000 t)
  longest : ∃ t, mg "LONGEST_NAME" = some (.int 8 t)
  letters : ∃ t, mg "LETTERS" = some (.str "abcdefghijklmnopqrstuvwxyz" t)
  tie : ∃ t, mg "TIE" = some (.str "tie" t)
  empty : ∃ t, mg "EMPTY" = some (.str "-" t)
  mgC : mg "Board" = some (.ref C)
  cl : Cls K C
  nS : NoAttr K C "size"
  nB : NoAttr K C "buttons"
  nT : NoAttr K C "ties"
  cls : PySem.W.findIn K (.ref C) "__class__" = some (some (.builtin "object.__class__"))
  get : PySem.W.specialIn K (.builtin "object.__class__") "__get__" = some (some (.builtin "getset_descriptor.__get__"))
  takes : PySem.W.takesIn K (.builtin "object.__class__") = some true
  mro : PySem.W.mroIn K C (.type "object") = some true

/-- a def of the text, where it stands -/
def DefAt (K : PySem.W.Frag) (mg : Str → Option Value) (x : Str) (st : Stmt) : Prop := ∃ f fd, mg x = some (.ref f) ∧ Fun K x x st f fd
/-- a def that may be called: what it promises -/
def Callee (P : Program) (w : World) (K : PySem.W.Frag) (mg : Str → Option Value) (base : Heap) (k : Nat) (x : Str) (ps : List Str) (sp : Sp) : Prop :=
  ∃ f fd, mg x = some (.ref f) ∧ PySem.W.keepIn K (.ref f) = true ∧ Binds K fd ps [] ∧ FnOk P w K mg base CX0 k f fd ps sp
section
variable {X : Cx} {k : Nat} {x : Str} {ps : List Str} {sp : Sp} {p pos : Pos} {e : Expr} {es : List Expr} {t : TA}
theorem pe_cl (c : Callee X.prog X.w X.K X.mg X.base k x ps sp) (hr : Room k X.A) (hg : Gl X x) (ha : PA X (e :: es) t) (hdb : (x == ("__debug__" : Str)) = false := by decide)
    (he : starEach (e :: es) X.env = (false, eval e X.env) :: starEach es X.env := by rfl) (hpl : (backTo pos (starEach es X.env)).any (·.1) = false := by rfl) :
    PE X (.Call (.Name x p) (e :: es) [] pos) (tCall sp [] E0 t) := by
  obtain ⟨f, fd, h1, h2, h3, h4⟩ := c
  exact pe_call h4 hr hg h1 h2 h3 .nil pass0 ha hdb he hpl
end
theorem Callee.mono {P : Program} {w : World} {K : PySem.W.Frag} {mg : Str → Option Value} {base : Heap} {j k : Nat} {x : Str} {ps : List Str} {sp : Sp} (c : Callee P w K mg base j x ps sp) (h : j ≤ k) : Callee P w K mg base k x ps sp := by
  obtain ⟨f, fd, h1, h2, h3, h4⟩ := c
  exact ⟨f, fd, h1, h2, h3, h4.mono h⟩

/-! ### built-ins, constants by their names -/
theorem bt_isinstance : bootBuiltins "isinstance" = some (.builtin "isinstance") := by decide +kernel
theorem bt_len : bootBuiltins "len" = some (.builtin "len") := by decide +kernel
theorem bt_all : bootBuiltins "all" = some (.builtin "all") := by decide +kernel
theorem bt_sorted : bootBuiltins "sorted" = some (.builtin "sorted") := by decide +kernel
theorem bt_abs : bootBuiltins "abs" = some (.builtin "abs") := by decide +kernel
theorem bt_min : bootBuiltins "min" = some (.builtin "min") := by decide +kernel
theorem bt_max : bootBuiltins "max" = some (.builtin "max") := by decide +kernel
theorem bt_repr : bootBuiltins "repr" = some (.builtin "repr") := by decide +kernel
theorem bt_list : bootBuiltins "list" = some (.type "list") := by decide +kernel
theorem bt_range : bootBuiltins "range" = some (.type "range") := by decide +kernel
theorem bt_tuple : bootBuiltins "tuple" = some (.type "tuple") := by decide +kernel
theorem bt_dict : bootBuiltins "dict" = some (.type "dict") := by decide +kernel
theorem bt_zip : bootBuiltins "zip" = some (.type "zip") := by decide +kernel
theorem bt_enumerate : bootBuiltins "enumerate" = some (.type "enumerate") := by decide +kernel
theorem bt_int : bootBuiltins "int" = some (.type "int") := by decide +kernel
theorem bt_str : bootBuiltins "str" = some (.type "str") := by decide +kernel
theorem bt_bool : bootBuiltins "bool" = some (.type "bool") := by decide +kernel
section
variable {X : Cx} {x : Str} {pos : Pos}
theorem pe_gi {i : Int} (h : ∃ t, X.mg x = some (.int i t)) (hg : Gl X x := by rfl) (hd : (x == ("__debug__" : Str)) = false := by decide) : PE X (.Name x pos) (tC (.int i)) := by
  obtain ⟨t, h⟩ := h
  exact pe_glob hg h ⟨t, rfl⟩ hd
theorem pe_gs {z : Str} (h : ∃ t, X.mg x = some (.str z t)) (hg : Gl X x := by rfl) (hd : (x == ("__debug__" : Str)) = false := by decide) : PE X (.Name x pos) (tC (.str z)) := by
  obtain ⟨t, h⟩ := h
  exact pe_glob hg h ⟨t, rfl⟩ hd
/-- a built-in class as a value -/
theorem pe_ty {n : String} (hm : X.mg x = none) (hv : bootBuiltins x = some (.type n)) (hg : Gl X x := by rfl) (hn : x ≠ "__name__" := by decide) (hd : (x == ("__debug__" : Str)) = false := by decide) : PE X (.Name x pos) (tC (.ty n)) :=
  pe_bltn hg hm hv rfl hn hd
end

/-! ### heaps -/
theorem same_upd {H : Hp} {p : Addr} {o : HO} (h : H p = none) : Same H (upd H p o) := fun b x e => by
  rw [upd_ne (ne_of_none e h)]
  exact e
theorem _root_.L2.Same.sqt {K : PySem.W.Frag} {H H' : Hp} {a : Addr} {xs : List V} (e : Same H H') (h : SqT K H a xs) : SqT K H' a xs := by
  rcases h with (h | ⟨o, h⟩) | h
  · exact .inl (.inl (e _ _ h))
  · exact .inl (.inr ⟨o, e _ _ h⟩)
  · exact .inr h
/-- all that was tracked but what stands at c is as it was -/
def But (c : Addr) (H H' : Hp) : Prop := ∀ b o, b ≠ c → H b = some o → H' b = some o
theorem But.of {c : Addr} {H H' : Hp} (h : Same H H') : But c H H' := fun b o _ e => h b o e
theorem But.trans {c : Addr} {H H1 H2 : Hp} (a : But c H H1) (b : But c H1 H2) : But c H H2 := fun d o n e => b d o n (a d o n e)
theorem But.upd {c : Addr} {H : Hp} {o : HO} : But c H (upd H c o) := fun b u n e => by rw [upd_ne n]; exact e
theorem But.free {c : Addr} {H H' : Hp} {o : HO} (h : But c H H') (hc : H' c = some o) {l : Addr} (e : H' l = none) : H l = none := by
  cases q : H l with
  | none => rfl
  | some u =>
    have n : l ≠ c := fun z => by
      rw [z, hc] at e
      cases e
    rw [h l u n q] at e
    cases e
/-- a list that is made anew is changed: what stood ahead of it stays -/
theorem same_put {H H' : Hp} {p : Addr} {o : HO} (s : Same H H') (h : H p = none) : Same H (upd H' p o) := fun b u e => by
  rw [upd_ne (ne_of_none e h)]
  exact s b u e

/-! ### comprehensions -/
theorem lc_put {H1 : Hp} {D : Addr} {l : List V} {y : V} {R : Hp → Prop} (hl : l.length < sizeLine) (next : R (upd H1 D (.lst (l ++ [y])))) :
    ∃ acc, upd H1 D (.lst l) D = some (.lst acc) ∧ acc.length < sizeLine ∧ R (upd (upd H1 D (.lst l)) D (.lst (acc ++ [y]))) := ⟨l, upd_same, hl, by rw [upd_upd]; exact next⟩
/-- a comprehension without a test: its element -/
theorem yes_el {A B : Hp → Prop} {σ : L2.St} {H : Hp} (h : A H) : tYes σ H fun b H3 => if b = true then A H3 else B H3 := by
  show if true = true then A H else B H
  rw [if_pos rfl]
  exact h
theorem rep_succ (n : Nat) (v : V) : List.replicate n v ++ [v] = List.replicate (n + 1) v := by
  rw [List.replicate_succ']
theorem all_rep : ∀ n : Nat, (List.replicate n true).all id = true
  | 0 => rfl
  | n + 1 => by
    rw [List.replicate_succ]
    show (true && (List.replicate n true).all id) = true
    rw [all_rep n] <;> rfl

/-! ### turns, standings -/
/-- places as ints -/
def iz (t : List Nat) : List Int := t.map fun n : Nat => (n : Int)
def vz (t : List Nat) : List V := (iz t).map V.int
theorem iz_get {t : List Nat} {i n : Nat} (h : t[i]? = some n) : (iz t)[i]? = some (n : Int) := by
  unfold iz
  rw [List.getElem?_map, h] <;> rfl
theorem vz_get {t : List Nat} {i n : Nat} (h : t[i]? = some n) : (vz t)[i]? = some (V.int (n : Int)) := by
  unfold vz
  rw [List.getElem?_map, iz_get h] <;> rfl
theorem vz_len (t : List Nat) : (vz t).length = t.length := by
  unfold vz iz
  rw [List.length_map, List.length_map]
theorem iz_len (t : List Nat) : (iz t).length = t.length := by
  unfold iz
  rw [List.length_map]
theorem vz_append (t u : List Nat) : vz (t ++ u) = vz t ++ vz u := by
  unfold vz iz
  rw [List.map_append, List.map_append]
theorem vz_one (n : Nat) : vz [n] = [V.int (n : Int)] := rfl
/-- a text of signs -/
def sOf (l : List Nat) : Str := ⟨l.toArray⟩
theorem sOf_len (l : List Nat) : (sOf l).length = l.length := by
  show l.toArray.size = _
  exact List.size_toArray ..
theorem sOf_inj {l m : List Nat} (h : sOf l = sOf m) : l = m := by
  have e : l.toArray = m.toArray := congrArg Str.cps h
  simpa using congrArg Array.toList e
theorem sOf_list (z : Str) : sOf z.cps.toList = z := by
  obtain ⟨a⟩ := z
  show (⟨a.toList.toArray⟩ : Str) = ⟨a⟩
  rw [Array.toArray_toList]
def IsTurn (n : Nat) (t : List Nat) : Prop := t.Perm (List.range n)
theorem IsTurn.len {n : Nat} {t : List Nat} (h : IsTurn n t) : t.length = n := by
  have := h.length_eq
  simpa using this
theorem IsTurn.nd {n : Nat} {t : List Nat} (h : IsTurn n t) : t.Nodup := h.nodup_iff.mpr List.nodup_range
theorem IsTurn.mem {n : Nat} {t : List Nat} (h : IsTurn n t) {i : Nat} : i ∈ t ↔ i < n := by
  rw [h.mem_iff, List.mem_range]
/-- the standing that a turn makes; the turn that leads back -/
def led (t z : List Nat) : List Nat := (List.range z.length).map fun j => z.getD (t.idxOf j) 0
def back (t : List Nat) : List Nat := (List.range t.length).map fun j => t.idxOf j
theorem led_len (t z : List Nat) : (led t z).length = z.length := by
  unfold led
  rw [List.length_map, List.length_range]
theorem back_len (t : List Nat) : (back t).length = t.length := by
  unfold back
  rw [List.length_map, List.length_range]
/-- what is reached from s by moves -/
inductive RT (ms : List (List Nat)) (s : List Nat) : List Nat → Prop
  | refl : RT ms s s
  | step {x t : List Nat} : RT ms s x → t ∈ ms → RT ms s (led t x)
/-- the turns of some buttons, and back -/
def mvs (ts : List (List Nat)) : List (List Nat) := ts ++ ts.map back
/-- all that are reached, ascending -/
structure IsDue (ms : List (List Nat)) (s : List Nat) (D : List (List Nat)) : Prop where
  asc : D.Pairwise (· < ·)
  mem : ∀ x, x ∈ D ↔ RT ms s x
/-- signs that may stand: small letters and the empty place's -/
def Sign (c : Nat) : Prop := (97 ≤ c ∧ c ≤ 122) ∨ c = 45
/-- not too many are reached -/
def Few (ms : List (List Nat)) (s : List Nat) : Prop := ∀ L : List (List Nat), L.Nodup → (∀ x ∈ L, RT ms s x) → L.length ≤ 840

/-! ### boards -/
def Good (n : Nat) (b : Btn) : Prop := ∃ t, b.tn = iz t ∧ IsTurn n t
structure NameOk (x : Str) : Prop where
  len : 1 ≤ x.length ∧ x.length ≤ 8
  low : ∀ c ∈ x.cps.toList, 97 ≤ c ∧ c ≤ 122
  tie : x ≠ "tie"
/-- the turns of buttons -/
def turnsOf (bs : List Btn) : List (List Nat) := bs.map fun b => b.tn.map Int.toNat
theorem toNat_iz (t : List Nat) : (iz t).map Int.toNat = t := by
  unfold iz
  rw [List.map_map]
  induction t with
  | nil => rfl
  | cons a r ih => rw [List.map_cons, ih] <;> rfl
/-- a board of n places with buttons bs stands at b -/
structure BoardAt (C : Addr) (H : Hp) (b : Addr) (n : Nat) (bs : List Btn) : Prop where
  ob : ∃ dx bt ti, H b = some (.ins C dx [("size", .int (n : Int)), ("buttons", .ref bt), ("ties", .ref ti)]) ∧ H bt = some (.tup (bs.map fun b => V.ref b.ad))
  at_ : ∀ b ∈ bs, b.at H
  good : ∀ b ∈ bs, Good n b
theorem BoardAt.same {C : Addr} {H H' : Hp} {b : Addr} {n : Nat} {bs : List Btn} (h : BoardAt C H b n bs) (s : Same H H') : BoardAt C H' b n bs := by
  obtain ⟨dx, bt, ti, h1, h2⟩ := h.ob
  exact ⟨⟨dx, bt, ti, s _ _ h1, s _ _ h2⟩, fun c hc => ⟨s _ _ (h.at_ c hc).1, s _ _ (h.at_ c hc).2⟩, h.good⟩
end SB
set_option Elab.async false
set_option linter.all false
set_option maxRecDepth 100000
set_option autoImplicit false
set_option maxHeartbeats 4000000
/-! plain lists: turns step by step -/
namespace SB

theorem perm_asc {α : Type} {r : α → α → Prop} (anti : ∀ a b, r a b → r b a → a = b) : ∀ {l m : List α}, l.Perm m → l.Pairwise r → m.Pairwise r → l = m
  | [], m, p, _, _ => (List.Perm.eq_nil p.symm).symm
  | a :: l, [], p, _, _ => List.Perm.eq_nil p
  | a :: l, b :: m, p, hl, hm => by
    obtain ⟨ha, hl'⟩ := List.pairwise_cons.mp hl
    obtain ⟨hb, hm'⟩ := List.pairwise_cons.mp hm
    have e : a = b := by
      rcases List.mem_cons.mp (p.mem_iff.mp List.mem_cons_self) with e | h1
      · exact e
      rcases List.mem_cons.mp (p.mem_iff.mpr (List.mem_cons_self (a := b) (l := m))) with e | h2
      · exact e.symm
      exact anti a b (ha b h2) (hb a h1)
    subst e
    rw [perm_asc anti (List.Perm.cons_inv p) hl' hm']

/-! ### the turn that leads back, place by place -/
def bkTo (t : List Nat) : Nat → List Nat
  | 0 => List.replicate t.length 0
  | i + 1 => (bkTo t i).set (t.getD i 0) i
theorem bkTo_len (t : List Nat) : ∀ i, (bkTo t i).length = t.length
  | 0 => List.length_replicate ..
  | i + 1 => by
    show ((bkTo t i).set _ i).length = _
    rw [List.length_set, bkTo_len t i]
theorem bkTo_get {n : Nat} {t : List Nat} (ht : IsTurn n t) : ∀ (i : Nat), i ≤ n → ∀ j, j < n → (bkTo t i)[j]? = some (if t.idxOf j < i then t.idxOf j else 0)
  | 0, _, j, hj => by
    show (List.replicate t.length 0)[j]? = _
    rw [List.getElem?_replicate, if_pos (by rw [ht.len]; exact hj)] <;> simp
  | i + 1, hi, j, hj => by
    have hit : i < t.length := by rw [ht.len]; omega
    have hjt : j ∈ t := ht.mem.mpr hj
    have hjl : t.idxOf j < t.length := List.idxOf_lt_length_of_mem hjt
    have ej : t[t.idxOf j] = j := List.getElem_idxOf hjl
    have ed : t.getD i 0 = t[i] := by rw [List.getD_eq_getElem?_getD, List.getElem?_eq_getElem hit] <;> rfl
    show ((bkTo t i).set (t.getD i 0) i)[j]? = _
    rw [ed, List.getElem?_set]
    by_cases e : t[i] = j
    · have ei : t.idxOf j = i := by
        rw [← e]
        exact List.Nodup.idxOf_getElem ht.nd i hit
      rw [if_pos e, if_pos (by rw [bkTo_len]; rw [e, ht.len]; exact hj), ei, if_pos (Nat.lt_succ_self i)]
    · rw [if_neg e, bkTo_get ht i (by omega) j hj]
      have ne : t.idxOf j ≠ i := fun z => e (by simpa [z] using ej)
      by_cases h1 : t.idxOf j < i
      · rw [if_pos h1, if_pos (by omega)]
      · rw [if_neg h1, if_neg (by omega)]
theorem bkTo_back {n : Nat} {t : List Nat} (ht : IsTurn n t) : bkTo t n = back t := by
  apply List.ext_getElem?
  intro j
  by_cases hj : j < n
  · have hjl : t.idxOf j < n := by rw [← ht.len]; exact List.idxOf_lt_length_of_mem (ht.mem.mpr hj)
    rw [bkTo_get ht n (Nat.le_refl _) j hj, if_pos hjl]
    unfold back
    rw [List.getElem?_map, List.getElem?_range (by rw [ht.len]; exact hj)] <;> rfl
  · rw [List.getElem?_eq_none (by rw [bkTo_len, ht.len]; omega), List.getElem?_eq_none (by rw [back_len, ht.len]; omega)]

/-! ### the standing that a turn makes, place by place -/
def ldTo (t z : List Nat) : Nat → List (List Nat)
  | 0 => List.replicate t.length []
  | i + 1 => (ldTo t z i).set (t.getD i 0) [z.getD i 0]
theorem ldTo_len (t z : List Nat) : ∀ i, (ldTo t z i).length = t.length
  | 0 => List.length_replicate ..
  | i + 1 => by
    show ((ldTo t z i).set _ _).length = _
    rw [List.length_set, ldTo_len t z i]
theorem ldTo_get {n : Nat} {t : List Nat} (z : List Nat) (ht : IsTurn n t) : ∀ (i : Nat), i ≤ n → ∀ j, j < n → (ldTo t z i)[j]? = some (if t.idxOf j < i then [z.getD (t.idxOf j) 0] else [])
  | 0, _, j, hj => by
    show (List.replicate t.length [])[j]? = _
    rw [List.getElem?_replicate, if_pos (by rw [ht.len]; exact hj)] <;> simp
  | i + 1, hi, j, hj => by
    have hit : i < t.length := by rw [ht.len]; omega
    have hjt : j ∈ t := ht.mem.mpr hj
    have hjl : t.idxOf j < t.length := List.idxOf_lt_length_of_mem hjt
    have ej : t[t.idxOf j] = j := List.getElem_idxOf hjl
    have ed : t.getD i 0 = t[i] := by rw [List.getD_eq_getElem?_getD, List.getElem?_eq_getElem hit] <;> rfl
    show ((ldTo t z i).set (t.getD i 0) [z.getD i 0])[j]? = _
    rw [ed, List.getElem?_set]
    by_cases e : t[i] = j
    · have ei : t.idxOf j = i := by
        rw [← e]
        exact List.Nodup.idxOf_getElem ht.nd i hit
      rw [if_pos e, if_pos (by rw [ldTo_len]; rw [e, ht.len]; exact hj), ei, if_pos (Nat.lt_succ_self i)]
    · rw [if_neg e, ldTo_get z ht i (by omega) j hj]
      have ne : t.idxOf j ≠ i := fun z => e (by simpa [z] using ej)
      by_cases h1 : t.idxOf j < i
      · rw [if_pos h1, if_pos (by omega)]
      · rw [if_neg h1, if_neg (by omega)]
theorem ldTo_led {t z : List Nat} (ht : IsTurn z.length t) : ldTo t z z.length = (led t z).map fun c => [c] := by
  apply List.ext_getElem?
  intro j
  by_cases hj : j < z.length
  · have hjl : t.idxOf j < z.length := by
      have := List.idxOf_lt_length_of_mem (ht.mem.mpr hj)
      rwa [ht.len] at this
    rw [ldTo_get z ht z.length (Nat.le_refl _) j hj, if_pos hjl]
    unfold led
    rw [List.getElem?_map, List.getElem?_map, List.getElem?_range hj] <;> rfl
  · rw [List.getElem?_eq_none (by rw [ldTo_len, ht.len]; omega), List.getElem?_eq_none (by rw [List.length_map, led_len]; omega)]
/-! ### dicts of unlike keys -/
open PySem PySem.Spec PyProof.Rows L2 in
theorem mergeK_from : ∀ (ps acc : List (Key × V)), ((acc ++ ps).map (·.1)).Nodup → mergeK acc ps = acc ++ ps
  | [], acc, _ => by
    show acc = acc ++ []
    rw [List.append_nil]
  | p :: ps, acc, h => by
    have h1 : valV acc p.1 = none := by
      cases e : valV acc p.1 with
      | none => rfl
      | some v =>
        have hm := valV_in e
        rw [List.map_append, List.map_cons] at h
        have := (List.nodup_append.mp h).2.2 _ hm _ List.mem_cons_self
        exact absurd rfl this
    show mergeK (putK acc p.1 p.2) ps = _
    rw [putK_new p.2 h1, mergeK_from ps (acc ++ [(p.1, p.2)]) (by simpa using h)]
    simp
open PySem PySem.Spec PyProof.Rows L2 in
theorem valV_at : ∀ {ps : List (Key × V)} {i : Nat} {k : Key} {v : V}, (ps.map (·.1)).Nodup → ps[i]? = some (k, v) → valV ps k = some v
  | [], i, k, v, _, h => by simp at h
  | p :: ps, 0, k, v, _, h => by
    have e : p = (k, v) := Option.some.inj h
    rw [valV_pos (by rw [e]), e]
  | p :: ps, i + 1, k, v, hn, h => by
    have h' : ps[i]? = some (k, v) := h
    rw [List.map_cons, List.nodup_cons] at hn
    have hm : k ∈ ps.map (·.1) := List.mem_map.mpr ⟨_, List.mem_of_getElem? h', rfl⟩
    rw [valV_neg (fun e => hn.1 (by rw [e]; exact hm)), valV_at hn.2 h']
open PySem PySem.Spec PyProof.Rows L2 in
/-- what the program's own dict of places and signs holds -/
theorem zip_look {t z : List Nat} (ht : IsTurn z.length t) {j : Nat} (hj : j < z.length) : valV (mergeK [] (zipPs (iz t) (sOf z))) (Sum.inl (j : Int)) = some (V.str (sOf [z.getD (t.idxOf j) 0])) := by
  have sz : (sOf z).cps.size = z.length := sOf_len z
  have hl : (iz t).length = (sOf z).cps.size := by rw [iz_len, ht.len, sz]
  have key : (zipPs (iz t) (sOf z)).map (·.1) = (iz t).map Sum.inl := by
    apply List.ext_getElem?
    intro i
    by_cases hi : i < (iz t).length
    · have e1 : (iz t)[i]? = some (iz t)[i] := List.getElem?_eq_getElem hi
      have hi2 : i < (sOf z).cps.size := by rw [← hl]; exact hi
      have e2 : (sOf z).cps[i]? = some (sOf z).cps[i] := Array.getElem?_eq_getElem hi2
      rw [List.getElem?_map, zipPs_get e1 e2, List.getElem?_map, e1] <;> rfl
    · rw [List.getElem?_eq_none (by rw [List.length_map, zipPs_length hl]; omega), List.getElem?_eq_none (by rw [List.length_map]; omega)]
  have nd : ((zipPs (iz t) (sOf z)).map (·.1)).Nodup := by
    rw [key]
    unfold iz
    rw [List.map_map]
    exact List.Pairwise.map _ (fun a b h e => h (by
      have e' : (Sum.inl ((a : Nat) : Int) : Key) = Sum.inl ((b : Nat) : Int) := e
      have := Sum.inl.inj e'
      omega)) ht.nd
  have hjl : t.idxOf j < t.length := List.idxOf_lt_length_of_mem (ht.mem.mpr hj)
  have hjz : t.idxOf j < z.length := by rw [← ht.len]; exact hjl
  have e1 : t[t.idxOf j]? = some j := by rw [List.getElem?_eq_getElem hjl, List.getElem_idxOf hjl]
  have e3 : z.getD (t.idxOf j) 0 = z[t.idxOf j] := by rw [List.getD_eq_getElem?_getD, List.getElem?_eq_getElem hjz] <;> rfl
  have e2 : (sOf z).cps[t.idxOf j]? = some (z.getD (t.idxOf j) 0) := by
    rw [e3]
    show z.toArray[t.idxOf j]? = _
    rw [List.getElem?_toArray, List.getElem?_eq_getElem hjz]
  rw [mergeK_from _ [] (by simpa using nd)]
  exact valV_at nd (zipPs_get (iz_get e1) e2)
end SB
set_option Elab.async false
set_option linter.all false
set_option maxRecDepth 100000
set_option autoImplicit false
set_option maxHeartbeats 4000000
/-! plain lists: what is reached -/
namespace SB

theorem getD_at {z : List Nat} {i : Nat} (h : i < z.length) : z.getD i 0 = z[i] := by
  rw [List.getD_eq_getElem?_getD, List.getElem?_eq_getElem h] <;> rfl
theorem back_turn {n : Nat} {t : List Nat} (ht : IsTurn n t) : IsTurn n (back t) := by
  refine (List.perm_ext_iff_of_nodup ?_ List.nodup_range).mpr fun i => ?_
  · unfold back
    rw [ht.len]
    have : ∀ l : List Nat, (∀ j ∈ l, j < n) → l.Nodup → (l.map fun j => t.idxOf j).Nodup := by
      intro l hl nd
      refine List.pairwise_map.mpr (nd.imp_of_mem fun {a b} ha hb hab e => hab ?_)
      have e1 : t[t.idxOf a]'(List.idxOf_lt_length_of_mem (ht.mem.mpr (hl a ha))) = a := List.getElem_idxOf _
      have e2 : t[t.idxOf b]'(List.idxOf_lt_length_of_mem (ht.mem.mpr (hl b hb))) = b := List.getElem_idxOf _
      rw [← e1, ← e2]
      simp only [e]
    exact this _ (fun j hj => List.mem_range.mp hj) List.nodup_range
  · unfold back
    rw [ht.len, List.mem_map, List.mem_range]
    constructor
    · rintro ⟨j, hj, rfl⟩
      rw [← ht.len]
      exact List.idxOf_lt_length_of_mem (ht.mem.mpr (List.mem_range.mp hj))
    · intro hi
      have hi' : i < t.length := by rw [ht.len]; exact hi
      exact ⟨t[i], List.mem_range.mpr (ht.mem.mp (List.getElem_mem hi')), List.Nodup.idxOf_getElem ht.nd i hi'⟩
theorem mvs_turn {n : Nat} {ts : List (List Nat)} (h : ∀ t ∈ ts, IsTurn n t) : ∀ t ∈ mvs ts, IsTurn n t := by
  intro t ht
  rcases List.mem_append.mp ht with h1 | h1
  · exact h t h1
  · obtain ⟨u, hu, rfl⟩ := List.mem_map.mp h1
    exact back_turn (h u hu)
theorem led_mem {t z : List Nat} (ht : IsTurn z.length t) : ∀ c ∈ led t z, c ∈ z := by
  intro c hc
  obtain ⟨j, hj, rfl⟩ := List.mem_map.mp hc
  have hl : t.idxOf j < z.length := by
    have := List.idxOf_lt_length_of_mem (ht.mem.mpr (List.mem_range.mp hj))
    rwa [ht.len] at this
  rw [getD_at hl]
  exact List.getElem_mem hl
theorem RT.shape {n : Nat} {ms : List (List Nat)} {z x : List Nat} (hm : ∀ t ∈ ms, IsTurn n t) (hz : z.length = n) (h : RT ms z x) : x.length = n ∧ ∀ c ∈ x, c ∈ z := by
  induction h with
  | refl => exact ⟨hz, fun c h => h⟩
  | @step x t _ ht ih =>
    refine ⟨by rw [led_len, ih.1], fun c hc => ih.2 c (led_mem (by rw [ih.1]; exact hm t ht) c hc)⟩
theorem RT.mono {ms ms' : List (List Nat)} {z x : List Nat} (hm : ∀ t ∈ ms, t ∈ ms') (h : RT ms z x) : RT ms' z x := by
  induction h with
  | refl => exact .refl
  | step _ ht ih => exact .step ih (hm _ ht)
theorem RT.trans {ms : List (List Nat)} {z y x : List Nat} (a : RT ms z y) (b : RT ms y x) : RT ms z x := by
  induction b with
  | refl => exact a
  | step _ ht ih => exact .step ih ht
theorem RT.closed {ms ks : List (List Nat)} {z x : List Nat} (hz : z ∈ ks) (hc : ∀ y ∈ ks, ∀ t ∈ ms, led t y ∈ ks) (h : RT ms z x) : x ∈ ks := by
  induction h with
  | refl => exact hz
  | step _ ht ih => exact hc _ ih _ ht
end SB
set_option Elab.async false
set_option linter.all false
set_option maxRecDepth 100000
set_option autoImplicit false
set_option maxHeartbeats 4000000
/-! plain lists: sorted standings, one list of all that is reached -/
namespace SB
open PySem PySem.Spec PyProof.Rows L2

theorem nat_lt_irrefl (a : List Nat) : ¬ a < a := List.lt_irrefl a
theorem asc_nd {D : List (List Nat)} (h : D.Pairwise (· < ·)) : D.Nodup := List.Pairwise.imp (S := fun a b => a ≠ b) (fun {a b} hab e => nat_lt_irrefl b (by rw [e] at hab; exact hab)) h
theorem IsDue.nd {ms : List (List Nat)} {s : List Nat} {D : List (List Nat)} (h : IsDue ms s D) : D.Nodup := asc_nd h.asc
theorem asc_le {D : List (List Nat)} (h : D.Pairwise (· < ·)) : D.Pairwise (· ≤ ·) := h.imp fun hab => List.le_of_lt hab
theorem asc_uniq {D D' : List (List Nat)} (h : D.Pairwise (· < ·)) (h' : D'.Pairwise (· < ·)) (e : ∀ x, x ∈ D ↔ x ∈ D') : D = D' := by
  have nd := asc_nd h
  have nd' := asc_nd h'
  exact perm_asc (r := fun a b => a ≤ b) (fun a b h1 h2 => List.le_antisymm h1 h2) ((List.perm_ext_iff_of_nodup nd nd').mpr e) (asc_le h) (asc_le h')
theorem leS_sOf (a b : List Nat) : leS (sOf a) (sOf b) = true ↔ a ≤ b := by
  unfold leS sOf
  simp only [decide_eq_true_eq]
/-- unlike standings sorted -/
theorem sorted_due {ks D : List (List Nat)} (nd : ks.Nodup) (h : D.Pairwise (· < ·)) (e : ∀ x, x ∈ ks ↔ x ∈ D) : (ks.map sOf).mergeSort leS = D.map sOf := by
  have ndD := asc_nd h
  refine perm_asc (r := fun a b => leS a b = true) (fun a b h1 h2 => ?_) ((List.mergeSort_perm _ _).trans (((List.perm_ext_iff_of_nodup nd ndD).mpr e).map _)) ?_ ?_
  · rw [← sOf_list a, ← sOf_list b] at h1 h2 ⊢
    rw [List.le_antisymm ((leS_sOf _ _).mp h1) ((leS_sOf _ _).mp h2)]
  · refine List.pairwise_mergeSort (fun a b c h1 h2 => ?_) (fun a b => ?_) _
    · rw [← sOf_list a, ← sOf_list b] at h1
      rw [← sOf_list b, ← sOf_list c] at h2
      rw [← sOf_list a, ← sOf_list c]
      exact (leS_sOf _ _).mpr (List.le_trans ((leS_sOf _ _).mp h1) ((leS_sOf _ _).mp h2))
    · rw [← sOf_list a, ← sOf_list b, Bool.or_eq_true, leS_sOf, leS_sOf]
      exact List.le_total _ _
  · exact List.pairwise_map.mpr ((asc_le h).imp fun hab => (leS_sOf _ _).mpr hab)
theorem sub_len : ∀ {L D : List (List Nat)}, L.Nodup → (∀ x ∈ L, x ∈ D) → L.length ≤ D.length
  | [], D, _, _ => Nat.zero_le _
  | a :: L, D, nd, h => by
    obtain ⟨h1, h2⟩ := List.nodup_cons.mp nd
    have ha := h a List.mem_cons_self
    have := sub_len (D := D.erase a) h2 fun x hx => (List.mem_erase_of_ne (fun e => h1 (by rw [← e]; exact hx))).mpr (h x (List.mem_cons_of_mem _ hx))
    rw [List.length_erase_of_mem ha] at this
    have : 0 < D.length := List.length_pos_of_mem ha
    rw [List.length_cons]
    omega
theorem nd_len {ks D : List (List Nat)} (nd : ks.Nodup) (ndD : D.Nodup) (e : ∀ x, x ∈ ks ↔ x ∈ D) : ks.length = D.length :=
  Nat.le_antisymm (sub_len nd fun x hx => (e x).mp hx) (sub_len ndD fun x hx => (e x).mpr hx)
end SB
set_option Elab.async false
set_option linter.all false
set_option maxRecDepth 100000
set_option autoImplicit false
set_option maxHeartbeats 4000000
/-! plain lists: rings -/
namespace SB
open PySem PySem.Spec PyProof.Rows L2

theorem sub_len1 : ∀ {L D : List Nat}, L.Nodup → (∀ x ∈ L, x ∈ D) → L.length ≤ D.length
  | [], D, _, _ => Nat.zero_le _
  | a :: L, D, nd, h => by
    obtain ⟨h1, h2⟩ := List.nodup_cons.mp nd
    have ha := h a List.mem_cons_self
    have := sub_len1 (D := D.erase a) h2 fun x hx => (List.mem_erase_of_ne (fun e => h1 (by rw [← e]; exact hx))).mpr (h x (List.mem_cons_of_mem _ hx))
    rw [List.length_erase_of_mem ha] at this
    have : 0 < D.length := List.length_pos_of_mem ha
    rw [List.length_cons]
    omega
theorem turn_of {n : Nat} {l : List Nat} (hl : l.length = n) (nd : l.Nodup) (h : ∀ x ∈ l, x < n) : IsTurn n l := by
  refine (List.perm_ext_iff_of_nodup nd List.nodup_range).mpr fun i => ⟨fun hi => List.mem_range.mpr (h i hi), fun hi => ?_⟩
  by_cases q : i ∈ l
  · exact q
  · have := sub_len1 (L := i :: l) (D := List.range n) (List.nodup_cons.mpr ⟨q, nd⟩) fun x hx => by
      rcases List.mem_cons.mp hx with e | hx
      · rw [e]; exact hi
      · exact List.mem_range.mpr (h x hx)
    rw [List.length_cons, List.length_range, hl] at this
    omega
def prev (m a : Nat) : Nat := if a = 0 then m - 1 else a - 1
def rgTo (sm : List Nat) (n : Nat) : Nat → List Nat
  | 0 => List.range n
  | k + 1 => (rgTo sm n k).set (sm.getD k 0) (sm.getD (prev sm.length k) 0)
theorem rgTo_len (sm : List Nat) (n : Nat) : ∀ k, (rgTo sm n k).length = n
  | 0 => List.length_range
  | k + 1 => by
    show ((rgTo sm n k).set _ _).length = _
    rw [List.length_set, rgTo_len sm n k]
theorem rgTo_get {sm : List Nat} {n : Nat} (nd : sm.Nodup) (lt : ∀ x ∈ sm, x < n) : ∀ k, k ≤ sm.length → ∀ j, j < n → (rgTo sm n k)[j]? = some (if sm.idxOf j < k then sm.getD (prev sm.length (sm.idxOf j)) 0 else j)
  | 0, _, j, hj => by
    show (List.range n)[j]? = _
    rw [List.getElem?_range hj, if_neg (by omega)]
  | k + 1, hk, j, hj => by
    have hkl : k < sm.length := by omega
    show ((rgTo sm n k).set _ _)[j]? = _
    rw [getD_at hkl, List.getElem?_set]
    by_cases e : sm[k] = j
    · have ei : sm.idxOf j = k := by
        rw [← e]
        exact List.Nodup.idxOf_getElem nd k hkl
      rw [if_pos e, if_pos (by rw [rgTo_len, e]; exact hj), ei, if_pos (Nat.lt_succ_self k)]
    · rw [if_neg e, rgTo_get nd lt k (by omega) j hj]
      have ne : sm.idxOf j ≠ k := fun z => by
        have hm : j ∈ sm := by
          have : sm.idxOf j < sm.length := by omega
          exact List.idxOf_lt_length_iff.mp this
        have := List.getElem_idxOf (List.idxOf_lt_length_of_mem hm)
        simp only [z] at this
        exact e this
      by_cases h1 : sm.idxOf j < k
      · rw [if_pos h1, if_pos (by omega)]
      · rw [if_neg h1, if_neg (by omega)]
theorem rgTo_turn {sm : List Nat} {n : Nat} (nd : sm.Nodup) (lt : ∀ x ∈ sm, x < n) : IsTurn n (rgTo sm n sm.length) := by
  have gt := rgTo_get nd lt sm.length (Nat.le_refl _)
  have pl : ∀ a, a < sm.length → prev sm.length a < sm.length := fun a h => by
    unfold prev
    split <;> omega
  have pinj : ∀ a b, a < sm.length → b < sm.length → prev sm.length a = prev sm.length b → a = b := fun a b h h' e => by
    unfold prev at e
    split at e <;> split at e <;> omega
  have ix : ∀ j, sm.idxOf j < sm.length ↔ j ∈ sm := fun j => List.idxOf_lt_length_iff
  have ginj : ∀ a b, a < sm.length → b < sm.length → sm.getD a 0 = sm.getD b 0 → a = b := fun a b h h' e => by
    rw [getD_at h, getD_at h'] at e
    have e1 := List.Nodup.idxOf_getElem nd a h
    have e2 := List.Nodup.idxOf_getElem nd b h'
    rw [← e1, ← e2, e]
  have iinj : ∀ a b, a ∈ sm → b ∈ sm → sm.idxOf a = sm.idxOf b → a = b := fun a b h h' e => by
    have e1 := List.getElem_idxOf (List.idxOf_lt_length_of_mem h)
    have e2 := List.getElem_idxOf (List.idxOf_lt_length_of_mem h')
    rw [← e1, ← e2]
    simp only [e]
  have vmem : ∀ a, a < sm.length → sm.getD a 0 ∈ sm := fun a h => by
    rw [getD_at h]
    exact List.getElem_mem h
  refine turn_of (rgTo_len _ _ _) ?_ fun x hx => ?_
  · refine List.pairwise_iff_getElem.mpr fun i j hi hj hij e => ?_
    have hi' : i < n := by rw [rgTo_len] at hi; exact hi
    have hj' : j < n := by rw [rgTo_len] at hj; exact hj
    have ei := gt i hi'
    have ej := gt j hj'
    rw [List.getElem?_eq_getElem hi] at ei
    rw [List.getElem?_eq_getElem hj] at ej
    have e0 : (rgTo sm n sm.length)[i] = (rgTo sm n sm.length)[j] := e
    rw [Option.some.inj ei, Option.some.inj ej] at e0
    have : i = j := by
      by_cases h1 : sm.idxOf i < sm.length
      · by_cases h2 : sm.idxOf j < sm.length
        · rw [if_pos h1, if_pos h2] at e0
          exact iinj i j ((ix i).mp h1) ((ix j).mp h2) (pinj _ _ h1 h2 (ginj _ _ (pl _ h1) (pl _ h2) e0))
        · rw [if_pos h1, if_neg h2] at e0
          exact absurd ((ix j).mpr (by rw [← e0]; exact vmem _ (pl _ h1))) h2
      · by_cases h2 : sm.idxOf j < sm.length
        · rw [if_neg h1, if_pos h2] at e0
          exact absurd ((ix i).mpr (by rw [e0]; exact vmem _ (pl _ h2))) h1
        · rw [if_neg h1, if_neg h2] at e0
          exact e0
    omega
  · obtain ⟨i, hi, rfl⟩ := List.getElem_of_mem hx
    have hi' : i < n := by rw [rgTo_len] at hi; exact hi
    have ei := gt i hi'
    rw [List.getElem?_eq_getElem hi] at ei
    rw [Option.some.inj ei]
    by_cases h1 : sm.idxOf i < sm.length
    · rw [if_pos h1]
      exact lt _ (vmem _ (pl _ h1))
    · rw [if_neg h1]
      exact hi'
/-- a mixed list of ints -/
theorem perm_vz {ys : List V} {l : List Nat} (h : ys.Perm (vz l)) : ∃ ps, ps.Perm l ∧ ys = vz ps := by
  let g : V → Nat := fun v => match v with | .int i => i.toNat | _ => 0
  have gl : ∀ l : List Nat, (vz l).map g = l := fun l => by
    unfold vz iz
    rw [List.map_map, List.map_map]
    have : ((g ∘ V.int) ∘ fun n : Nat => (n : Int)) = id := by
      funext a
      rfl
    rw [this, List.map_id]
  refine ⟨ys.map g, by rw [← gl l]; exact h.map g, ?_⟩
  have all : ∀ y ∈ ys, V.int ((g y : Nat) : Int) = y := fun y hy => by
    have hm := h.mem_iff.mp hy
    unfold vz iz at hm
    rw [List.map_map] at hm
    obtain ⟨a, _, rfl⟩ := List.mem_map.mp hm
    rfl
  unfold vz iz
  rw [List.map_map, List.map_map]
  have : ys.map id = ys := List.map_id ys
  rw [← this]
  conv => rhs; rw [List.map_id]
  exact List.map_congr_left fun y hy => (all y hy).symm
theorem cut_vz (ps : List Nat) (b : Nat) : cutV (vz ps) none (some (b : Int)) = vz (ps.take b) := by
  unfold cutV
  rw [HT.sIx_none, HT.sIx_nat, vz_len]
  unfold vz iz
  rw [List.drop_zero, Nat.sub_zero, ← List.map_take, ← List.map_take]
  by_cases h : b ≤ ps.length
  · rw [Nat.min_eq_left h]
  · rw [Nat.min_eq_right (by omega), List.take_length, List.take_of_length_le (by omega)]
end SB
set_option Elab.async false
set_option linter.all false
set_option maxRecDepth 100000
set_option autoImplicit false
set_option maxHeartbeats 4000000
namespace SB
open PySem PySem.Spec PyProof.Rows L2
section
variable {P : Program} {w : World} {K : PySem.W.Frag} {mg : Str → Option Value} {base : Heap} {C : Addr}

/-! ### is_integer, is_between, check_number -/
def sp_is_integer : Sp := fun vs H Q _ => ∃ i : Int, vs = [.int i] ∧ Q (.bl true) H
theorem sc_is_integer : FnScope ["value"] ["value"] (defScope s_is_integer) := ⟨rfl, rfl, rfl, by decide +kernel, rfl, by decide +kernel, by decide +kernel⟩
theorem c_is_integer (T : Tx K mg C) (D : DefAt K mg "is_integer" s_is_integer) : Callee P w K mg base 1 "is_integer" ["value"] sp_is_integer := by
  obtain ⟨f, fd, hf, F⟩ := D
  refine ⟨f, fd, hf, F.kp, F.binds (ps := ["value"]) fun _ _ _ _ _ _ us hl => match us, hl with | [_], _ => rfl, F.ok sc_is_integer (fun vs H Q E h => ?_) (fun cdv A outer s H vs Q E hr h => ?_)⟩
  · obtain ⟨i, rfl, _⟩ := h
    rfl
  · obtain ⟨i, rfl, q⟩ := h
    refine ⟨_, pss_one (ps_ret (pe_and (pe_callB call_isi (by rfl) T.isinstance bt_isinstance (pa_cons (pv 0) (pa_cons (pe_ty T.int bt_int) pa_nil)))
      (pe_one (pe_not (pe_callB call_isi (by rfl) T.isinstance bt_isinstance (pa_cons (pv 0) (pa_cons (pe_ty T.bool bt_bool) pa_nil))))))), ?_⟩
    refine ⟨_, rfl, _, _, _, _, true, rfl, .ty "int", .base (.int i), kit_ty (by decide +kernel), _, rfl, iteT ?_⟩
    exact ⟨_, rfl, _, _, _, _, false, rfl, .ty "bool", .base (.int i), kit_ty (by decide +kernel), _, rfl, q⟩

def sp_is_between : Sp := fun vs H Q _ => ∃ i a b : Int, vs = [.int i, .int a, .int b] ∧ a ≤ i ∧ i ≤ b ∧ Q (.bl true) H
theorem sc_is_between : FnScope ["value", "least", "most"] ["value", "least", "most"] (defScope s_is_between) := ⟨rfl, rfl, rfl, by decide +kernel, rfl, by decide +kernel, by decide +kernel⟩
theorem c_is_between (T : Tx K mg C) (D : DefAt K mg "is_between" s_is_between) (c1 : Callee P w K mg base 1 "is_integer" ["value"] sp_is_integer) : Callee P w K mg base 2 "is_between" ["value", "least", "most"] sp_is_between := by
  obtain ⟨f, fd, hf, F⟩ := D
  refine ⟨f, fd, hf, F.kp, F.binds (ps := ["value", "least", "most"]) fun _ _ _ _ _ _ us hl => match us, hl with | [_, _, _], _ => rfl, F.ok sc_is_between (fun vs H Q E h => ?_) (fun cdv A outer s H vs Q E hr h => ?_)⟩
  · obtain ⟨i, a, b, rfl, _⟩ := h
    rfl
  · obtain ⟨i, a, b, rfl, h1, h2, q⟩ := h
    refine ⟨_, pss_one (ps_ret (pe_and (pe_cl c1 hr (by rfl) (pa_cons (pv 0) pa_nil)) (pe_one (pe_chain op_le op_le (pv 1) (pv 0) (pv 2))))), ?_⟩
    refine ⟨_, rfl, i, rfl, _, rfl, iteT ?_⟩
    refine ⟨_, rfl, _, rfl, _, _, rfl, rfl, _, rfl, ?_⟩
    rw [decide_eq_true h1]
    refine iteT ⟨_, rfl, _, _, rfl, rfl, ?_⟩
    show Q (.bl (decide (i ≤ b))) H
    rw [decide_eq_true h2]
    exact q

def sp_check_number : Sp := fun vs H Q _ => ∃ i a b : Int, vs = [.int i, .int a, .int b] ∧ a ≤ i ∧ i ≤ b ∧ Q .non H
theorem sc_check_number : FnScope ["value", "least", "most"] ["value", "least", "most"] (defScope s_check_number) := ⟨rfl, rfl, rfl, by decide +kernel, rfl, by decide +kernel, by decide +kernel⟩
theorem c_check_number (D : DefAt K mg "check_number" s_check_number) (c1 : Callee P w K mg base 2 "is_between" ["value", "least", "most"] sp_is_between) : Callee P w K mg base 3 "check_number" ["value", "least", "most"] sp_check_number := by
  obtain ⟨f, fd, hf, F⟩ := D
  refine ⟨f, fd, hf, F.kp, F.binds (ps := ["value", "least", "most"]) fun _ _ _ _ _ _ us hl => match us, hl with | [_, _, _], _ => rfl, F.ok sc_check_number (fun vs H Q E h => ?_) (fun cdv A outer s H vs Q E hr h => ?_)⟩
  · obtain ⟨i, a, b, rfl, _⟩ := h
    rfl
  · obtain ⟨i, a, b, rfl, h1, h2, q⟩ := h
    refine ⟨_, pss_one (ps_if (pt_not (pt_val (pe_cl c1 hr (by rfl) (pa_cons (pv 0) (pa_cons (pv 1) (pa_cons (pv 2) pa_nil)))))) pss_never pss_nil), ?_⟩
    exact ⟨_, rfl, _, rfl, _, rfl, i, a, b, rfl, h1, h2, _, rfl, iteF q⟩

/-! ### is_name, is_button_name -/
theorem letters_in {c : Nat} (h : 97 ≤ c ∧ c ≤ 122) : c ∈ ("abcdefghijklmnopqrstuvwxyz" : Str).cps.toList := by
  have e : ("abcdefghijklmnopqrstuvwxyz" : Str).cps.toList = [97, 98, 99, 100, 101, 102, 103, 104, 105, 106, 107, 108, 109, 110, 111, 112, 113, 114, 115, 116, 117, 118, 119, 120, 121, 122] := by decide +kernel
  rw [e]
  simp only [List.mem_cons, List.not_mem_nil, or_false]
  omega
def sp_name : Sp := fun vs H Q _ => ∃ x : Str, vs = [.str x] ∧ NameOk x ∧ ∀ H', Same H H' → Q (.bl true) H'
theorem sc_is_name : FnScope ["value", "sign"] ["value"] (defScope s_is_name) := ⟨rfl, rfl, rfl, by decide +kernel, rfl, by decide +kernel, by decide +kernel⟩
theorem c_is_name (T : Tx K mg C) (D : DefAt K mg "is_name" s_is_name) : Callee P w K mg base 1 "is_name" ["value"] sp_name := by
  obtain ⟨f, fd, hf, F⟩ := D
  refine ⟨f, fd, hf, F.kp, F.binds (ps := ["value"]) fun _ _ _ _ _ _ us hl => match us, hl with | [_], _ => rfl, F.ok sc_is_name (fun vs H Q E h => ?_) (fun cdv A outer s H vs Q E hr h => ?_)⟩
  · obtain ⟨x, rfl, _⟩ := h
    rfl
  · obtain ⟨x, rfl, ok, q⟩ := h
    refine ⟨_, pss_cons (ps_if (PW.pt (pw_or (pt_not (pt_val (pe_callB call_isi (by rfl) T.isinstance bt_isinstance (pa_cons (pv 0) (pa_cons (pe_ty T.str bt_str) pa_nil)))))
        (pw_or1 (pt_not (pt_chain op_le op_le pe_int (pe_callB call_len (by rfl) T.len bt_len (pa_cons (pv 0) pa_nil)) (pe_gi T.longest)))))) pss_never pss_nil)
      (pss_one (ps_ret (pe_callB (cr_all rfl) (by rfl) T.all bt_all (pa_cons
        (pe_lc (own := [("sign", 1)]) (g := gName 1) (tt := tYes) rfl sc_is_name.nd (pi_str (pv 0)) (blkOk_by (N := ["value", "sign"]) (sc := defScope s_is_name) (by decide +kernel)) (fun _ _ _ _ _ => pg_name (i := 1) sc_is_name.nd rfl (Or.inl rfl))
          (fun _ _ _ _ _ => pts_nil) (fun _ _ _ _ _ => pe_cmpR op_in_sign (pv 1) (pe_gs T.letters) rfl)) pa_nil)))), ?_⟩
    have hlen := ok.len
    -- the value is a text of one to eight signs
    refine ⟨_, rfl, _, _, _, _, true, rfl, .ty "str", .base (.str x), kit_ty (by decide +kernel), _, rfl, iteF ?_⟩
    refine ⟨_, rfl, _, _, rfl, ⟨by show x.length ≤ sizeLine; exact Nat.le_trans hlen.2 (by decide), rfl⟩, _, _, rfl, rfl, ?_⟩
    refine ⟨true, congrArg V.bl (decide_eq_true (by omega)), iteT ⟨_, _, rfl, rfl, true, congrArg V.bl (decide_eq_true (by omega)), iteF ?_⟩⟩
    -- all([..])
    refine ⟨_, rfl, x, rfl, fun D hD => lc_it walk_str (fun i H2 => H2 = upd H D (.lst (List.replicate i (.bl true)))) rfl (fun _ _ _ _ => trivial) ?_ ?_⟩
    · rintro i y H2 H3 hi rfl ⟨rfl, c, hc, rfl⟩
      refine ⟨rfl, yes_el ?_⟩
      refine ⟨_, rfl, c, _, rfl, rfl, ?_⟩
      have hin : c ∈ ("abcdefghijklmnopqrstuvwxyz" : Str).cps.toList := letters_in (ok.low c (by rw [Array.mem_toList_iff]; exact Array.mem_of_getElem? hc))
      rw [decide_eq_true hin]
      refine lc_put (R := fun H4 => H4 = upd H D (.lst (List.replicate (i + 1) (.bl true)))) ?_ (by rw [rep_succ])
      rw [List.length_replicate]
      exact small1000 (by have : x.cps.size = x.length := rfl; omega)
    · rintro H2 rfl
      refine ⟨D, List.replicate x.cps.size true, rfl, SqL.of (by rw [upd_same, List.map_replicate]), ?_⟩
      rw [all_rep]
      exact q _ (same_upd hD)

def sp_button_name : Sp := sp_name
theorem sc_is_button_name : FnScope ["value"] ["value"] (defScope s_is_button_name) := ⟨rfl, rfl, rfl, by decide +kernel, rfl, by decide +kernel, by decide +kernel⟩
theorem c_is_button_name (T : Tx K mg C) (D : DefAt K mg "is_button_name" s_is_button_name) (c1 : Callee P w K mg base 1 "is_name" ["value"] sp_name) : Callee P w K mg base 2 "is_button_name" ["value"] sp_button_name := by
  obtain ⟨f, fd, hf, F⟩ := D
  refine ⟨f, fd, hf, F.kp, F.binds (ps := ["value"]) fun _ _ _ _ _ _ us hl => match us, hl with | [_], _ => rfl, F.ok sc_is_button_name (fun vs H Q E h => ?_) (fun cdv A outer s H vs Q E hr h => ?_)⟩
  · obtain ⟨x, rfl, _⟩ := h
    rfl
  · obtain ⟨x, rfl, ok, q⟩ := h
    refine ⟨_, pss_one (ps_ret (pe_and (pe_cl c1 hr (by rfl) (pa_cons (pv 0) pa_nil)) (pe_one (pe_cmpR op_ne (pv 0) (pe_gs T.tie) (nomark _))))), ?_⟩
    refine ⟨_, rfl, x, rfl, ok, fun H' sm => ⟨_, rfl, iteT ?_⟩⟩
    refine ⟨_, rfl, rfl, ?_⟩
    have e : decide (V.str x = V.str "tie") = false := decide_eq_false fun z => ok.tie (V.str.inj z)
    show Q (.bl (!decide (V.str x = V.str "tie"))) H'
    rw [e]
    exact q H' sm
end
end SB
set_option Elab.async false
set_option linter.all false
set_option maxRecDepth 100000
set_option autoImplicit false
set_option maxHeartbeats 4000000
namespace SB
open PySem PySem.Spec PyProof.Rows L2

/-! ### data of ints and texts, for == -/
theorem dpAll_ints {K : PySem.W.Frag} {H : Hp} : ∀ ns : List Int, DpAll K H (ns.map V.int) (ns.map PyData.int)
  | [] => .nil
  | n :: ns => .cons (.int n) (dpAll_ints ns)
theorem dpAll_strs {K : PySem.W.Frag} {H : Hp} : ∀ ns : List Str, DpAll K H (ns.map V.str) (ns.map PyData.str)
  | [] => .nil
  | n :: ns => .cons (.str n) (dpAll_strs ns)
theorem canLay_ints : ∀ ns : List Int, PyData.canLayAll0 (ns.map PyData.int) = true
  | [] => rfl
  | n :: ns => by
    show (PyData.canLay0 (.int n) && PyData.canLayAll0 (ns.map PyData.int)) = true
    rw [canLay_ints ns] <;> rfl
theorem canLay_strs : ∀ ns : List Str, (∀ x ∈ ns, PyData.strOk x = true) → PyData.canLayAll0 (ns.map PyData.str) = true
  | [], _ => rfl
  | n :: ns, h => by
    have e : PyData.canLay0 (.str n) = true := by
      simp only [PyData.canLay0]
      exact h n List.mem_cons_self
    show (PyData.canLay0 (.str n) && PyData.canLayAll0 (ns.map PyData.str)) = true
    rw [canLay_strs ns (fun x hx => h x (List.mem_cons_of_mem _ hx)), e] <;> rfl
theorem shaped_ints (ns : List Int) : SeqAt.shaped (.list (ns.map .int)) = true := by
  have e1 := PySem.W.depth_ints ns
  have e2 := canLay_ints ns
  unfold SeqAt.shaped
  simp [PyData.canLay0, PyData.depth, e1, e2]
theorem shaped_strs (ns : List Str) (h : ∀ x ∈ ns, PyData.strOk x = true) : SeqAt.shaped (.list (ns.map .str)) = true := by
  have e1 := depth_strs ns
  have e2 := canLay_strs ns h
  unfold SeqAt.shaped
  simp [PyData.canLay0, PyData.depth, e1, e2]

/-- a turn's places in order are all places in order -/
theorem sort_turn {n : Nat} {t : List Nat} (h : IsTurn n t) : (iz t).mergeSort leI = iz (List.range n) := by
  refine perm_asc (r := fun a b => a ≤ b) (fun a b h1 h2 => Int.le_antisymm h1 h2) ((List.mergeSort_perm _ _).trans (h.map _)) ?_ ?_
  · have := List.pairwise_mergeSort (le := leI) (fun a b c h1 h2 => by
      simp only [leI, decide_eq_true_eq] at h1 h2 ⊢
      omega) (fun a b => by
      simp only [leI, Bool.or_eq_true, decide_eq_true_eq]
      omega) (iz t)
    exact this.imp fun h => of_decide_eq_true h
  · unfold iz
    refine List.Pairwise.map _ (fun a b (h : a < b) => ?_) (List.pairwise_lt_range)
    omega
theorem rgV_iz (n : Nat) : rgV 0 (n : Int) = vz (List.range n) := by
  unfold rgV vz iz
  rw [List.map_map]
  have e : ((n : Int) - 0).toNat = n := by omega
  rw [e]
  exact List.map_congr_left fun i _ => by
    show V.int (0 + (i : Int)) = V.int (i : Int)
    rw [Int.zero_add]

section
variable {P : Program} {w : World} {K : PySem.W.Frag} {mg : Str → Option Value} {base : Heap} {C : Addr}

/-! ### is_turn -/
def sp_is_turn : Sp := fun vs H Q _ => ∃ (a : Addr) (n : Nat) (t : List Nat), vs = [.ref a] ∧ H a = some (.tup (vz t)) ∧ IsTurn n t ∧ 1 ≤ n ∧ n ≤ 24 ∧ ∀ H', Same H H' → Q (.bl true) H'
theorem sc_is_turn : FnScope ["value", "place"] ["value"] (defScope s_is_turn) := ⟨rfl, rfl, rfl, by decide +kernel, rfl, by decide +kernel, by decide +kernel⟩
theorem c_is_turn (T : Tx K mg C) (D : DefAt K mg "is_turn" s_is_turn) (c1 : Callee P w K mg base 1 "is_integer" ["value"] sp_is_integer) : Callee P w K mg base 2 "is_turn" ["value"] sp_is_turn := by
  obtain ⟨f, fd, hf, F⟩ := D
  refine ⟨f, fd, hf, F.kp, F.binds (ps := ["value"]) fun _ _ _ _ _ _ us hl => match us, hl with | [_], _ => rfl, F.ok sc_is_turn (fun vs H Q E h => ?_) (fun cdv A outer s H vs Q E hr h => ?_)⟩
  · obtain ⟨a, n, t, rfl, _⟩ := h
    rfl
  · obtain ⟨a, n, t, rfl, ha, ht, h1, h24, q⟩ := h
    have hu : (cxOf CX0 P w K mg base ["value", "place"] "is_turn" (defScope s_is_turn) f cdv A outer s H E).nox.A.units + 64 < cLine := hr.units
    refine ⟨_, pss_cons (ps_if (PW.pt (pw_or (pt_not (pt_val (pe_callB call_isi (by rfl) T.isinstance bt_isinstance (pa_cons (pv 0) (pa_cons (pe_ty T.tuple bt_tuple) pa_nil)))))
        (pw_or1 (pt_not (pt_chain op_le op_le pe_int (pe_callB call_len (by rfl) T.len bt_len (pa_cons (pv 0) pa_nil)) (pe_gi T.places)))))) pss_never pss_nil)
      (pss_one (ps_ret (pe_and (pe_callB (cr_all rfl) (by rfl) T.all bt_all (pa_cons
        (pe_lc (own := [("place", 1)]) (g := gName 1) (tt := tYes) rfl sc_is_turn.nd (pi_tup (pv 0)) (blkOk_by (N := ["value", "place"]) (sc := defScope s_is_turn) (by decide +kernel)) (fun _ _ _ _ _ => pg_name (i := 1) sc_is_turn.nd rfl (Or.inl rfl))
          (fun _ _ _ _ _ => pts_nil) (fun _ _ _ _ _ => pe_cl c1 hr (by rfl) (pa_cons (pv 1) pa_nil))) pa_nil))
        (pe_one (pe_cmpR (op_eqD hu) (pe_callB (cr_sortTI hu) (by rfl) T.sorted bt_sorted (pa_cons (pv 0) pa_nil))
          (pe_listRg rfl (by rfl) T.list (prg_1 (by rfl) T.range (pe_callB call_len (by rfl) T.len bt_len (pa_cons (pv 0) pa_nil)))) (nomark _)))))), ?_⟩
    have tl := ht.len
    have vl := vz_len t
    -- a tuple of 1 to 24
    refine ⟨_, rfl, _, _, _, _, true, rfl, .ty "tuple", .base (.tup ha), kit_ty (by decide +kernel), _, rfl, iteF ?_⟩
    refine ⟨_, rfl, _, _, rfl, .inr ⟨_, SqT.of ha, rfl⟩, _, _, rfl, rfl, ?_⟩
    refine ⟨true, congrArg V.bl (decide_eq_true (by omega)), iteT ⟨_, _, rfl, rfl, true, congrArg V.bl (decide_eq_true (by omega)), iteF ?_⟩⟩
    have e24 : t.length ≤ 1000 := by omega
    -- all of them ints
    refine ⟨_, rfl, a, rfl, ⟨_, SqT.of ha⟩, fun D1 hD1 => lc_it (walk_tup (xs := vz t)) (fun i H2 => H2 = upd H D1 (.lst (List.replicate i (.bl true)))) rfl (fun i H2 _ e => by rw [e]; exact (same_upd hD1).sqt (SqT.of ha)) ?_ ?_⟩
    · rintro i y H2 H3 hi rfl ⟨rfl, hy⟩
      have hi2 : i < t.length := by rw [← vl]; exact hi
      have ey : y = V.int (t[i] : Nat) := by
        rw [vz_get (List.getElem?_eq_getElem hi2)] at hy
        exact (Option.some.inj hy).symm
      subst ey
      refine ⟨rfl, yes_el ⟨_, rfl, _, rfl, ?_⟩⟩
      refine lc_put (R := fun H4 => H4 = upd H D1 (.lst (List.replicate (i + 1) (.bl true)))) ?_ (by rw [rep_succ])
      rw [List.length_replicate]
      exact small1000 (by omega)
    · rintro H2 rfl
      have s1 : Same H (upd H D1 (.lst (List.replicate (vz t).length (.bl true)))) := same_upd hD1
      refine ⟨D1, List.replicate (vz t).length true, rfl, SqL.of (by rw [upd_same, List.map_replicate]), true, congrArg V.bl (all_rep _), iteT ?_⟩
      -- sorted(value) == list(range(len(value)))
      refine ⟨_, rfl, a, iz t, rfl, SqT.of (s1 _ _ ha), fun p hp => ?_⟩
      have s2 := same_upd (o := .lst (((iz t).mergeSort leI).map V.int)) hp
      refine ⟨_, rfl, _, _, rfl, .inr ⟨_, SqT.of (s2 _ _ (s1 _ _ ha)), rfl⟩, _, rfl, RgOk.of_le (by omega) (by omega) (by omega) (by omega), fun q2 hq2 => ?_⟩
      have s3 := same_upd (o := .lst (rgV 0 ((vz t).length : Int))) hq2
      have e1 : rgV 0 ((vz t).length : Int) = (iz (List.range n)).map V.int := by
        rw [vl, tl]
        exact rgV_iz n
      have e2 := sort_turn ht
      refine ⟨.list ((iz (List.range n)).map .int), .list ((iz (List.range n)).map .int), .lst (xs := (iz (List.range n)).map V.int) (SqL.of ?_) (dpAll_ints _), .lst (xs := (iz (List.range n)).map V.int) (SqL.of ?_) (dpAll_ints _), shaped_ints _, shaped_ints _, ?_⟩
      · refine s3 _ _ ?_
        rw [upd_same, e2]
      · rw [upd_same, e1]
      · rw [SeqAt.eqv_refl _ (SeqAt.canLay_of_shaped (shaped_ints _))]
        exact q _ ((s1.trans s2).trans s3)

/-! ### turned_back -/
def sp_turned_back : Sp := fun vs H Q _ => ∃ (a : Addr) (n : Nat) (t : List Nat), vs = [.ref a] ∧ H a = some (.tup (vz t)) ∧ IsTurn n t ∧ n ≤ 24 ∧ ∀ H' p, Same H H' → H p = none → H' p = some (.tup (vz (back t))) → Q (.ref p) H'
theorem sc_turned_back : FnScope ["turn", "found", "place", "goal", "spare"] ["turn"] (defScope s_turned_back) := ⟨rfl, rfl, rfl, by decide +kernel, rfl, by decide +kernel, by decide +kernel⟩
theorem ixN_nat {n j : Nat} (h : j < n) : ixN n (j : Int) = some j := by
  unfold ixN
  rw [if_pos (by omega), if_pos (by omega)] <;> simp
theorem vz_set (t : List Nat) (i x : Nat) : (vz t).set i (V.int (x : Int)) = vz (t.set i x) := by
  unfold vz iz
  rw [List.map_set, List.map_set]
theorem c_turned_back (T : Tx K mg C) (D : DefAt K mg "turned_back" s_turned_back) : Callee P w K mg base 1 "turned_back" ["turn"] sp_turned_back := by
  obtain ⟨f, fd, hf, F⟩ := D
  refine ⟨f, fd, hf, F.kp, F.binds (ps := ["turn"]) fun _ _ _ _ _ _ us hl => match us, hl with | [_], _ => rfl, F.ok sc_turned_back (fun vs H Q E h => ?_) (fun cdv A outer s H vs Q E hr h => ?_)⟩
  · obtain ⟨a, n, t, rfl, _⟩ := h
    rfl
  · obtain ⟨a, n, t, rfl, ha, ht, h24, q⟩ := h
    refine ⟨_, pss_cons (ps_setLc (i := 1) (own := [("spare", 4)]) (g := gName 4) (tt := tYes) rfl sc_turned_back.nd rfl rfl (sw_true rfl rfl rfl (by decide +kernel)) (pi_tup (pv 0)) (blkOk_by (N := ["turn", "found", "place", "goal", "spare"]) (sc := defScope s_turned_back) (by decide +kernel))
          (fun _ _ _ _ _ => pg_name (i := 4) sc_turned_back.nd rfl (Or.inl rfl)) (fun _ _ _ _ _ => pts_nil) (fun _ _ _ _ _ => pe_int))
      (pss_cons (ps_for PassesOwn.never rfl (pi_enumT (by rfl) T.enumerate (pa_cons (pv 0) pa_nil)) (pg_tup rfl (pgs_cons (pg_name (i := 2) sc_turned_back.nd rfl (.inl rfl)) (pgs_cons (pg_name (i := 3) sc_turned_back.nd rfl (.inl rfl)) pgs_nil)))
        (pss_one (ps_asg (pv 2) (pg_sub (pv 1) (pv 3) set_list))))
      (pss_one (ps_ret (pe_callTy call_tuple_of (by rfl) T.tuple bt_tuple (pa_cons (pv 1) pa_nil))))), ?_⟩
    have tl := ht.len
    have vl := vz_len t
    -- found = [0, ..]
    refine ⟨_, rfl, a, rfl, ⟨_, SqT.of ha⟩, fun D1 hD1 => lc_it (walk_tup (xs := vz t)) (fun i H2 => H2 = upd H D1 (.lst (List.replicate i (.int 0)))) rfl (fun i H2 _ e => by rw [e]; exact (same_upd hD1).sqt (SqT.of ha)) ?_ ?_⟩
    · rintro i y H2 H3 hi rfl ⟨rfl, hy⟩
      refine ⟨rfl, yes_el ?_⟩
      refine lc_put (R := fun H4 => H4 = upd H D1 (.lst (List.replicate (i + 1) (.int 0)))) ?_ (by rw [rep_succ])
      rw [List.length_replicate]
      exact small1000 (by omega)
    · rintro H2 rfl
      have s1 : Same H (upd H D1 (.lst (List.replicate (vz t).length (.int 0)))) := same_upd hD1
      have nDa : a ≠ D1 := ne_of_none ha hD1
      -- the loop
      refine ⟨_, rfl, a, _, rfl, SqT.of (s1 _ _ ha), for_it (walk_enumT (xs := vz t)) (fun i σ H2 => ∃ y2 y3, σ = [some (.ref a), some (.ref D1), y2, y3, none] ∧ Same H H2 ∧ H2 D1 = some (.lst (vz (bkTo t i)))) ?_ ?_ ?_ ?_⟩
      · refine ⟨none, none, rfl, s1, ?_⟩
        rw [upd_same, vl]
        show _ = some (HO.lst (vz (List.replicate t.length 0)))
        unfold vz iz
        rw [List.map_replicate, List.map_replicate] <;> rfl
      · rintro i σ H2 _ ⟨_, _, _, sm, _⟩
        exact SqT.of (sm _ _ ha)
      · rintro i x σ H2 H3 hi ⟨y2, y3, rfl, sm, hf⟩ ⟨p, x1, x2, rfl, np, rfl, e1, e2⟩
        have hi2 : i < t.length := by rw [← vl]; exact hi
        cases e1
        have ex : x2 = V.int (t[i] : Nat) := by
          have e3 : (vz t)[i]? = some x2 := e2
          rw [vz_get (List.getElem?_eq_getElem hi2)] at e3
          exact (Option.some.inj e3).symm
        subst ex
        have nDp : D1 ≠ p := ne_of_none hf np
        refine ⟨p, _, rfl, SqT.of upd_same, rfl, _, _, rfl, _, _, rfl, rfl, ?_⟩
        -- found[goal] = place
        have hti : t[i] < n := ht.mem.mp (List.getElem_mem hi2)
        refine ⟨_, rfl, _, rfl, _, rfl, D1, _, _, t[i], rfl, rfl, by rw [upd_ne nDp]; exact hf, ixN_nat (by rw [vz_len, bkTo_len, tl]; exact hti), ?_⟩
        refine ⟨_, _, rfl, fun b o e => ?_, ?_⟩
        · have nb : b ≠ D1 := ne_of_none e hD1
          rw [upd_ne nb]
          exact same_upd np _ _ (sm _ _ e)
        · rw [upd_same, vz_set]
          have ed : t.getD i 0 = t[i] := by rw [List.getD_eq_getElem?_getD, List.getElem?_eq_getElem hi2] <;> rfl
          show some (HO.lst (vz ((bkTo t i).set t[i] i))) = some (HO.lst (vz ((bkTo t i).set (t.getD i 0) i)))
          rw [ed]
      · rintro σ H2 ⟨y2, y3, rfl, sm, hf⟩
        rw [vl, tl, bkTo_back ht] at hf
        refine ⟨_, rfl, D1, _, rfl, .inl ⟨SqL.of hf, fun l hl => ?_⟩⟩
        exact q _ l (sm.trans (same_upd hl)) (sm.free hl) upd_same
end
end SB
set_option Elab.async false
set_option linter.all false
set_option maxRecDepth 100000
set_option autoImplicit false
set_option maxHeartbeats 4000000
namespace SB
open PySem PySem.Spec PyProof.Rows L2

/-! ### texts joined -/
theorem glue_fold : ∀ (ps : List (List Nat)) (acc : Array Nat), ((ps.map sOf).foldl (fun acc p => acc ++ ("" : Str).cps ++ p.cps) acc) = acc ++ ps.flatten.toArray
  | [], acc => by simp
  | p :: ps, acc => by
    rw [List.map_cons, List.foldl_cons, glue_fold ps]
    show acc ++ #[] ++ p.toArray ++ ps.flatten.toArray = acc ++ (p ++ ps.flatten).toArray
    simp
theorem join_sOf (ps : List (List Nat)) : Txt.join ("" : Str) (ps.map sOf) = sOf ps.flatten := by
  cases ps with
  | nil => rfl
  | cons p ps =>
    show (⟨((ps.map sOf).foldl (fun acc p => acc ++ ("" : Str).cps ++ p.cps) (sOf p).cps)⟩ : Str) = _
    rw [glue_fold]
    show (⟨p.toArray ++ ps.flatten.toArray⟩ : Str) = ⟨(p ++ ps.flatten).toArray⟩
    simp
theorem flat_ones (l : List Nat) : (l.map fun c => [c]).flatten = l := by
  induction l with
  | nil => rfl
  | cons a r ih => rw [List.map_cons, List.flatten_cons, ih] <;> rfl
theorem join_ones' (l : List Nat) : Txt.join ("" : Str) ((l.map fun c => [c]).map sOf) = sOf l := by
  rw [join_sOf, flat_ones]
/-- the room that join asks for -/
theorem join_room (ps : List (List Nat)) (h : ∀ p ∈ ps, p.length ≤ 1) (hl : ps.length ≤ 1000) : ((ps.map sOf).map (·.length)).sum + (ps.map sOf).length * ("" : Str).length ≤ 16777216 := by
  have e0 : ("" : Str).length = 0 := rfl
  have : ∀ ps : List (List Nat), (∀ p ∈ ps, p.length ≤ 1) → ((ps.map sOf).map (·.length)).sum ≤ ps.length := by
    intro ps
    induction ps with
    | nil => intro _; exact Nat.le_refl _
    | cons p r ih =>
      intro h
      have h1 := h p List.mem_cons_self
      have h2 := ih fun x hx => h x (List.mem_cons_of_mem _ hx)
      have h3 := sOf_len p
      rw [List.map_cons, List.map_cons, List.sum_cons, List.length_cons]
      omega
  have := this ps h
  rw [e0]
  omega
theorem sign_in {c : Nat} (h : Sign c) : (decide (c ∈ ("abcdefghijklmnopqrstuvwxyz" : Str).cps.toList) || decide (V.str ⟨#[c]⟩ = V.str "-")) = true := by
  rcases h with h | h
  · rw [decide_eq_true (letters_in h)] <;> rfl
  · subst h
    decide +kernel

section
variable {P : Program} {w : World} {K : PySem.W.Frag} {mg : Str → Option Value} {base : Heap} {C : Addr}

/-! ### is_standing -/
def sp_is_standing : Sp := fun vs H Q _ => ∃ (z : List Nat) (n : Nat), vs = [.str (sOf z), .int (n : Int)] ∧ z.length = n ∧ n ≤ 24 ∧ (∀ c ∈ z, Sign c) ∧ ∀ H', Same H H' → Q (.bl true) H'
theorem sc_is_standing : FnScope ["value", "many", "sign"] ["value", "many"] (defScope s_is_standing) := ⟨rfl, rfl, rfl, by decide +kernel, rfl, by decide +kernel, by decide +kernel⟩
theorem c_is_standing (T : Tx K mg C) (D : DefAt K mg "is_standing" s_is_standing) : Callee P w K mg base 1 "is_standing" ["value", "many"] sp_is_standing := by
  obtain ⟨f, fd, hf, F⟩ := D
  refine ⟨f, fd, hf, F.kp, F.binds (ps := ["value", "many"]) fun _ _ _ _ _ _ us hl => match us, hl with | [_, _], _ => rfl, F.ok sc_is_standing (fun vs H Q E h => ?_) (fun cdv A outer s H vs Q E hr h => ?_)⟩
  · obtain ⟨z, n, rfl, _⟩ := h
    rfl
  · obtain ⟨z, n, rfl, hl, h24, hs, q⟩ := h
    refine ⟨_, pss_cons (ps_if (PW.pt (pw_or (pt_not (pt_val (pe_callB call_isi (by rfl) T.isinstance bt_isinstance (pa_cons (pv 0) (pa_cons (pe_ty T.str bt_str) pa_nil)))))
        (pw_or1 (pt_cmpR op_ne (pe_callB call_len (by rfl) T.len bt_len (pa_cons (pv 0) pa_nil)) (pv 1) (nomark _))))) pss_never pss_nil)
      (pss_one (ps_ret (pe_callB (cr_all rfl) (by rfl) T.all bt_all (pa_cons
        (pe_lc (own := [("sign", 2)]) (g := gName 2) (tt := tYes) rfl sc_is_standing.nd (pi_str (pv 0)) (blkOk_by (N := ["value", "many", "sign"]) (sc := defScope s_is_standing) (by decide +kernel)) (fun _ _ _ _ _ => pg_name (i := 2) sc_is_standing.nd rfl (Or.inl rfl))
          (fun _ _ _ _ _ => pts_nil) (fun _ _ _ _ _ => pe_or (pe_cmpR op_in_sign (pv 2) (pe_gs T.letters) rfl) (pe_one (pe_cmpR op_eq (pv 2) (pe_gs T.empty) (nomark _))))) pa_nil)))), ?_⟩
    have zl := sOf_len z
    refine ⟨_, rfl, _, _, _, _, true, rfl, .ty "str", .base (.str _), kit_ty (by decide +kernel), _, rfl, iteF ?_⟩
    refine ⟨_, rfl, _, _, rfl, ⟨by show (sOf z).length ≤ sizeLine; rw [zl]; exact Nat.le_trans (by omega : z.length ≤ 24) (by decide), rfl⟩, _, rfl, rfl, false, ?_, iteF ?_⟩
    · have e : (((sOf z).length : Nat) : Int) = (n : Int) := by rw [zl, hl]
      show V.bl (!decide (V.int (((sOf z).length : Nat) : Int) = V.int (n : Int))) = _
      rw [e, decide_eq_true rfl] <;> rfl
    refine ⟨_, rfl, _, rfl, fun D1 hD1 => lc_it walk_str (fun i H2 => H2 = upd H D1 (.lst (List.replicate i (.bl true)))) rfl (fun _ _ _ _ => trivial) ?_ ?_⟩
    · rintro i y H2 H3 hi rfl ⟨rfl, c, hc, rfl⟩
      refine ⟨rfl, yes_el ?_⟩
      have hcz : c ∈ z := by
        have : (sOf z).cps.toList[i]? = some c := by rw [Array.getElem?_toList]; exact hc
        have e : (sOf z).cps.toList = z := by
          show z.toArray.toList = z
          simp
        rw [e] at this
        exact List.mem_of_getElem? this
      have fin : ∃ acc, upd H D1 (.lst (List.replicate i (.bl true))) D1 = some (.lst acc) ∧ acc.length < sizeLine ∧ upd (upd H D1 (.lst (List.replicate i (.bl true)))) D1 (.lst (acc ++ [.bl true])) = upd H D1 (.lst (List.replicate (i + 1) (.bl true))) := by
        refine lc_put (R := fun H4 => H4 = upd H D1 (.lst (List.replicate (i + 1) (.bl true)))) ?_ (by rw [rep_succ])
        rw [List.length_replicate]
        have hi' : i < (sOf z).length := hi
        exact small1000 (by omega)
      refine ⟨_, rfl, c, _, rfl, rfl, _, rfl, ?_⟩
      by_cases hin : c ∈ ("abcdefghijklmnopqrstuvwxyz" : Str).cps.toList
      · rw [decide_eq_true hin]
        exact iteT fin
      · have h1 := sign_in (hs c hcz)
        rw [decide_eq_false hin] at h1 ⊢
        refine iteF ⟨_, rfl, rfl, ?_⟩
        have h2 : decide (V.str ⟨#[c]⟩ = V.str "-") = true := h1
        rw [h2]
        exact fin
    · rintro H2 rfl
      refine ⟨D1, List.replicate (sOf z).cps.size true, rfl, SqL.of (by rw [upd_same, List.map_replicate]), ?_⟩
      rw [all_rep]
      exact q _ (same_upd hD1)

/-! ### check_standing, check_board -/
theorem fld_size {n : Int} {bt ti : Addr} : ([("size", V.int n), ("buttons", V.ref bt), ("ties", V.ref ti)] : List (Str × V)).lookup ("size" : Str) = some (V.int n) := rfl
theorem fld_buttons {n : Int} {bt ti : Addr} : ([("size", V.int n), ("buttons", V.ref bt), ("ties", V.ref ti)] : List (Str × V)).lookup ("buttons" : Str) = some (V.ref bt) := by
  rw [List.lookup_cons]
  rfl
def sp_check_standing (C : Addr) : Sp := fun vs H Q _ => ∃ (b : Addr) (n : Nat) (bs : List Btn) (z : List Nat), vs = [.ref b, .str (sOf z)] ∧ BoardAt C H b n bs ∧ z.length = n ∧ n ≤ 24 ∧ (∀ c ∈ z, Sign c) ∧ ∀ H', Same H H' → Q .non H'
theorem sc_check_standing : FnScope ["board", "value"] ["board", "value"] (defScope s_check_standing) := ⟨rfl, rfl, rfl, by decide +kernel, rfl, by decide +kernel, by decide +kernel⟩
theorem c_check_standing (T : Tx K mg C) (D : DefAt K mg "check_standing" s_check_standing) (c1 : Callee P w K mg base 1 "is_standing" ["value", "many"] sp_is_standing) : Callee P w K mg base 2 "check_standing" ["board", "value"] (sp_check_standing C) := by
  obtain ⟨f, fd, hf, F⟩ := D
  refine ⟨f, fd, hf, F.kp, F.binds (ps := ["board", "value"]) fun _ _ _ _ _ _ us hl => match us, hl with | [_, _], _ => rfl, F.ok sc_check_standing (fun vs H Q E h => ?_) (fun cdv A outer s H vs Q E hr h => ?_)⟩
  · obtain ⟨b, n, bs, z, rfl, _⟩ := h
    rfl
  · obtain ⟨b, n, bs, z, rfl, hb, hl, h24, hs, q⟩ := h
    refine ⟨_, pss_one (ps_if (pt_not (pt_val (pe_cl c1 hr (by rfl) (pa_cons (pv 1) (pa_cons (pe_fld (pv 0) rfl) pa_nil))))) pss_never pss_nil), ?_⟩
    obtain ⟨dx, bt, ti, h1, h2⟩ := hb.ob
    exact ⟨_, rfl, _, rfl, b, C, dx, _, _, rfl, h1, T.cl, T.nS, fld_size, z, n, rfl, hl, h24, hs, fun H' sm => ⟨_, rfl, iteF (q H' sm)⟩⟩

def sp_check_board (C : Addr) : Sp := fun vs H Q _ => ∃ (b dx : Addr) (fs : List (Str × V)), vs = [.ref b] ∧ H b = some (.ins C dx fs) ∧ Q .non H
theorem sc_check_board : FnScope ["value"] ["value"] (defScope s_check_board) := ⟨rfl, rfl, rfl, by decide +kernel, rfl, by decide +kernel, by decide +kernel⟩
theorem c_check_board (T : Tx K mg C) (D : DefAt K mg "check_board" s_check_board) : Callee P w K mg base 1 "check_board" ["value"] (sp_check_board C) := by
  obtain ⟨f, fd, hf, F⟩ := D
  refine ⟨f, fd, hf, F.kp, F.binds (ps := ["value"]) fun _ _ _ _ _ _ us hl => match us, hl with | [_], _ => rfl, F.ok sc_check_board (fun vs H Q E h => ?_) (fun cdv A outer s H vs Q E hr h => ?_)⟩
  · obtain ⟨b, dx, fs, rfl, _⟩ := h
    rfl
  · obtain ⟨b, dx, fs, rfl, hb, q⟩ := h
    refine ⟨_, pss_one (ps_if (pt_not (pt_val (pe_callB call_isi (by rfl) T.isinstance bt_isinstance (pa_cons (pv 0) (pa_cons (pe_glob (v := .ref C) (by rfl) T.mgC rfl) pa_nil))))) pss_never pss_nil), ?_⟩
    have e : PySem.W.kitOne K (.ref C) (.ref C) = some true := by
      unfold PySem.W.kitOne
      rw [if_pos (by simp)]
    exact ⟨_, rfl, _, _, _, _, true, rfl, .own C, .base (.ins hb T.cl T.cls T.get T.takes T.mro), e, _, rfl, iteF q⟩

/-! ### led_standing -/
def sp_led : Sp := fun vs H Q _ => ∃ (z t : List Nat) (a : Addr), vs = [.str (sOf z), .ref a] ∧ H a = some (.tup (vz t)) ∧ IsTurn z.length t ∧ z.length ≤ 24 ∧ ∀ H', Same H H' → Q (.str (sOf (led t z))) H'
theorem sc_led : FnScope ["standing", "turn", "found", "place"] ["standing", "turn"] (defScope s_led_standing) := ⟨rfl, rfl, rfl, by decide +kernel, rfl, by decide +kernel, by decide +kernel⟩
theorem c_led_standing (T : Tx K mg C) (D : DefAt K mg "led_standing" s_led_standing) : Callee P w K mg base 1 "led_standing" ["standing", "turn"] sp_led := by
  obtain ⟨f, fd, hf, F⟩ := D
  refine ⟨f, fd, hf, F.kp, F.binds (ps := ["standing", "turn"]) fun _ _ _ _ _ _ us hl => match us, hl with | [_, _], _ => rfl, F.ok sc_led (fun vs H Q E h => ?_) (fun cdv A outer s H vs Q E hr h => ?_)⟩
  · obtain ⟨z, t, a, rfl, _⟩ := h
    rfl
  · obtain ⟨z, t, a, rfl, ha, ht, h24, q⟩ := h
    have hu := hu_of hr
    refine ⟨_, pss_cons (ps_set (i := 2) sc_led.nd rfl (.inr rfl) (pe_dictzip (by rfl) T.dict (by rfl) T.zip (pa_cons (pv 1) (pa_cons (pv 0) pa_nil))))
      (pss_one (ps_ret (pe_join pe_str (pe_lc (own := [("place", 3)]) (g := gName 3) (tt := tYes) rfl sc_led.nd (pi_range1 (by rfl) T.range (pa_cons (pe_callB call_len (by rfl) T.len bt_len (pa_cons (pv 0) pa_nil)) pa_nil))
        (blkOk_by (N := ["standing", "turn", "found", "place"]) (sc := defScope s_led_standing) (by decide +kernel)) (fun _ _ _ _ _ => pg_name (i := 3) sc_led.nd rfl (Or.inl rfl)) (fun _ _ _ _ _ => pts_nil) (fun _ _ _ _ _ => pe_dget hu (pv 2) (pv 3) (fun _ _ => rfl)))))), ?_⟩
    have zl := sOf_len z
    refine ⟨_, rfl, _, rfl, a, iz t, sOf z, rfl, SqT.of ha, by rw [iz_len, ht.len]; exact zl.symm, fun d hd => ?_⟩
    have s1 : Same H (upd H d (.dK (mergeK [] (zipPs (iz t) (sOf z))))) := same_upd hd
    refine ⟨⟨_, rfl⟩, ?_⟩
    refine ⟨_, rfl, _, _, rfl, ⟨by show (sOf z).length ≤ sizeLine; rw [zl]; exact Nat.le_trans h24 (by decide), rfl⟩, _, rfl, by omega, by rw [zl]; omega, fun D1 hD1 => ?_⟩
    have nd : d ≠ D1 := ne_of_none upd_same hD1
    have en : (((sOf z).length : Nat) : Int).toNat = z.length := by rw [zl]; omega
    rw [en]
    refine lc_it walk_range (fun i H2 => i ≤ z.length ∧ H2 = upd (upd H d (.dK (mergeK [] (zipPs (iz t) (sOf z))))) D1 (.lst (((led t z).take i).map fun c => V.str (sOf [c])))) ⟨Nat.zero_le _, rfl⟩ (fun _ _ _ _ => trivial) ?_ ?_
    · rintro i y H2 H3 hi ⟨_, rfl⟩ ⟨rfl, rfl⟩
      refine ⟨rfl, yes_el ?_⟩
      have e0 : (0 : Int) + (i : Int) = (i : Int) := Int.zero_add _
      have gl : (led t z)[i]? = some (z.getD (t.idxOf i) 0) := by
        unfold led
        rw [List.getElem?_map, List.getElem?_range hi] <;> rfl
      refine ⟨_, rfl, _, rfl, d, V.str (sOf [z.getD (t.idxOf i) 0]), rfl, ?_, ?_⟩
      · show DGet _ d (V.int (0 + (i : Int))) (some (V.str (sOf [z.getD (t.idxOf i) 0])))
        rw [e0, ← zip_look ht hi]
        exact DGet.k (k := Sum.inl (i : Int)) (by rw [upd_ne nd, upd_same])
      · refine lc_put (R := fun H4 => i + 1 ≤ z.length ∧ H4 = upd (upd H d (.dK (mergeK [] (zipPs (iz t) (sOf z))))) D1 (.lst (((led t z).take (i + 1)).map fun c => V.str (sOf [c])))) ?_ ⟨hi, ?_⟩
        · rw [List.length_map, List.length_take]
          exact small1000 (by omega)
        · rw [List.take_add_one, gl, List.map_append] <;> rfl
    · rintro H2 ⟨_, rfl⟩
      have et : (led t z).take z.length = led t z := List.take_of_length_le (by rw [led_len]; exact Nat.le_refl _)
      rw [et]
      refine ⟨_, D1, ((led t z).map fun c => [c]).map sOf, rfl, rfl, .inl (SqL.of ?_), join_room _ (fun p hp => ?_) ?_, ?_⟩
      · rw [upd_same, List.map_map, List.map_map] <;> rfl
      · obtain ⟨c, _, rfl⟩ := List.mem_map.mp hp
        exact Nat.le_refl _
      · rw [List.length_map, led_len]
        omega
      · rw [join_ones']
        exact q _ (s1.trans (same_upd hD1))
end
end SB
set_option Elab.async false
set_option linter.all false
set_option maxRecDepth 100000
set_option autoImplicit false
set_option maxHeartbeats 4000000
namespace SB
open PySem PySem.Spec PyProof.Rows L2
section
variable {P : Program} {w : World} {K : PySem.W.Frag} {mg : Str → Option Value} {base : Heap} {C : Addr}

/-! ### is_button -/
def sp_is_button : Sp := fun vs H Q _ => ∃ (b : Btn) (n : Nat) (d : Addr) (kvs : List (Key × V)), vs = [.ref b.ad, .int (n : Int), .ref d] ∧ b.at H ∧ Good n b ∧ NameOk b.nm ∧ H d = some (.dK kvs) ∧ valV kvs (Sum.inr b.nm) = none ∧ 1 ≤ n ∧ n ≤ 24 ∧
  ∀ H', Same H H' → Q (.bl true) H'
theorem sc_is_button : FnScope ["value", "size", "known"] ["value", "size", "known"] (defScope s_is_button) := ⟨rfl, rfl, rfl, by decide +kernel, rfl, by decide +kernel, by decide +kernel⟩
theorem c_is_button (T : Tx K mg C) (D : DefAt K mg "is_button" s_is_button) (c1 : Callee P w K mg base 2 "is_button_name" ["value"] sp_button_name) (c2 : Callee P w K mg base 2 "is_turn" ["value"] sp_is_turn) :
    Callee P w K mg base 3 "is_button" ["value", "size", "known"] sp_is_button := by
  obtain ⟨f, fd, hf, F⟩ := D
  refine ⟨f, fd, hf, F.kp, F.binds (ps := ["value", "size", "known"]) fun _ _ _ _ _ _ us hl => match us, hl with | [_, _, _], _ => rfl, F.ok sc_is_button (fun vs H Q E h => ?_) (fun cdv A outer s H vs Q E hr h => ?_)⟩
  · obtain ⟨b, n, d, kvs, rfl, _⟩ := h
    rfl
  · obtain ⟨b, n, d, kvs, rfl, hb, ⟨t, et, ht⟩, hn, hd, hv, h1, h24, q⟩ := h
    have hu := hu_of hr
    refine ⟨_, pss_cons (ps_if (PW.pt (pw_or (pt_not (pt_val (pe_callB call_isi (by rfl) T.isinstance bt_isinstance (pa_cons (pv 0) (pa_cons (pe_ty T.tuple bt_tuple) pa_nil)))))
        (pw_or1 (pt_cmpR op_ne (pe_callB call_len (by rfl) T.len bt_len (pa_cons (pv 0) pa_nil)) pe_int (nomark _))))) pss_never pss_nil)
      (pss_cons (ps_if (PW.pt (pw_or (pt_not (pt_val (pe_cl c1 hr (by rfl) (pa_cons (pe_ix ix_tup (pv 0) pe_int (fun _ _ => rfl)) pa_nil))))
        (pw_or1 (pt_cmp (pc_din hu (pe_ix ix_tup (pv 0) pe_int (fun _ _ => rfl)) (pv 2)))))) pss_never pss_nil)
      (pss_one (ps_ret (pe_and (pe_cl c2 hr (by rfl) (pa_cons (pe_ix ix_tup (pv 0) pe_int (fun _ _ => rfl)) pa_nil))
        (pe_one (pe_cmpR op_eq (pe_callB call_len (by rfl) T.len bt_len (pa_cons (pe_ix ix_tup (pv 0) pe_int (fun _ _ => rfl)) pa_nil)) (pv 1) (nomark _))))))), ?_⟩
    have hT : b.tn.map V.int = vz t := by rw [et] <;> rfl
    -- a pair
    refine ⟨_, rfl, _, _, _, _, true, rfl, .ty "tuple", .base (.tup hb.1), kit_ty (by decide +kernel), _, rfl, iteF ?_⟩
    refine ⟨_, rfl, _, _, rfl, .inr ⟨_, SqT.of hb.1, rfl⟩, rfl, false, rfl, iteF ?_⟩
    -- its name is one, and not known
    refine ⟨_, rfl, b.ad, _, 0, .str b.nm, rfl, rfl, SqT.of hb.1, atI_nat (j := 0) rfl, b.nm, rfl, hn, fun H1 s1 => ⟨_, rfl, iteF ?_⟩⟩
    refine ⟨_, rfl, b.ad, _, 0, .str b.nm, rfl, rfl, SqT.of (s1 _ _ hb.1), atI_nat (j := 0) rfl, _, rfl, d, none, rfl, ?_, false, rfl, iteF ?_⟩
    · have e : DGet H1 d (.str b.nm) (valV kvs (Sum.inr b.nm)) := DGet.k (k := Sum.inr b.nm) (s1 _ _ hd)
      rw [hv] at e
      exact e
    -- its turn
    refine ⟨_, rfl, b.ad, _, 1, .ref b.ta, rfl, rfl, SqT.of (s1 _ _ hb.1), atI_nat (j := 1) rfl, b.ta, n, t, rfl, by rw [← hT]; exact s1 _ _ hb.2, ht, h1, h24, fun H2 s2 => ⟨_, rfl, iteT ?_⟩⟩
    have s3 := s1.trans s2
    refine ⟨_, rfl, b.ad, _, 1, .ref b.ta, rfl, rfl, SqT.of (s3 _ _ hb.1), atI_nat (j := 1) rfl, _, _, rfl, .inr ⟨_, SqT.of (s3 _ _ hb.2), rfl⟩, _, rfl, rfl, ?_⟩
    have e : (((b.tn.map V.int).length : Nat) : Int) = (n : Int) := by rw [hT, vz_len, ht.len]
    show Q (.bl (decide (V.int (((b.tn.map V.int).length : Nat) : Int) = V.int (n : Int)))) H2
    rw [e, decide_eq_true rfl]
    exact q H2 s3

/-! ### buttons_fault, ties_fault -/
structure BtnsOk (H : Hp) (n : Nat) (bs : List Btn) : Prop where
  at_ : ∀ b ∈ bs, b.at H
  good : ∀ b ∈ bs, Good n b
  name : ∀ b ∈ bs, NameOk b.nm
  nd : (bs.map (·.nm)).Nodup
  few : bs.length ≤ 7
theorem BtnsOk.same {H H' : Hp} {n : Nat} {bs : List Btn} (h : BtnsOk H n bs) (s : Same H H') : BtnsOk H' n bs := ⟨fun b hb => ⟨s _ _ (h.at_ b hb).1, s _ _ (h.at_ b hb).2⟩, h.good, h.name, h.nd, h.few⟩
def vb (bs : List Btn) : List V := bs.map fun b => V.ref b.ad
def kb (bs : List Btn) : List (Key × V) := bs.map fun b => (Sum.inr b.nm, V.bl true)
theorem kb_none {bs : List Btn} (nd : (bs.map (·.nm)).Nodup) {i : Nat} (hi : i < bs.length) : valV (kb (bs.take i)) (Sum.inr bs[i].nm) = none := by
  cases e : valV (kb (bs.take i)) (Sum.inr bs[i].nm) with
  | none => rfl
  | some v =>
    have hm := valV_in e
    unfold kb at hm
    rw [List.map_map] at hm
    obtain ⟨b, hb, eb⟩ := List.mem_map.mp hm
    have eb' : b.nm = bs[i].nm := Sum.inr.inj eb
    obtain ⟨j, hj, ej⟩ := List.getElem_of_mem hb
    rw [List.length_take] at hj
    rw [List.getElem_take] at ej
    have hjl : j < bs.length := by omega
    have e1 : (bs.map (·.nm))[j]? = some bs[i].nm := by rw [List.getElem?_map, List.getElem?_eq_getElem hjl, ej, ← eb'] <;> rfl
    have e2 : (bs.map (·.nm))[i]? = some bs[i].nm := by rw [List.getElem?_map, List.getElem?_eq_getElem hi] <;> rfl
    have := nd_ix nd e1 e2
    omega
def sp_buttons_fault : Sp := fun vs H Q _ => ∃ (v : Addr) (n : Nat) (bs : List Btn), vs = [.ref v, .int (n : Int)] ∧ H v = some (.tup (vb bs)) ∧ BtnsOk H n bs ∧ 1 ≤ n ∧ n ≤ 24 ∧ ∀ H', Same H H' → Q (.int (-1)) H'
theorem sc_buttons_fault : FnScope ["value", "size", "known", "index", "button"] ["value", "size"] (defScope s_buttons_fault) := ⟨rfl, rfl, rfl, by decide +kernel, rfl, by decide +kernel, by decide +kernel⟩
theorem c_buttons_fault (T : Tx K mg C) (D : DefAt K mg "buttons_fault" s_buttons_fault) (c1 : Callee P w K mg base 3 "is_button" ["value", "size", "known"] sp_is_button) :
    Callee P w K mg base 4 "buttons_fault" ["value", "size"] sp_buttons_fault := by
  obtain ⟨f, fd, hf, F⟩ := D
  refine ⟨f, fd, hf, F.kp, F.binds (ps := ["value", "size"]) fun _ _ _ _ _ _ us hl => match us, hl with | [_, _], _ => rfl, F.ok sc_buttons_fault (fun vs H Q E h => ?_) (fun cdv A outer s H vs Q E hr h => ?_)⟩
  · obtain ⟨v, n, bs, rfl, _⟩ := h
    rfl
  · obtain ⟨v, n, bs, rfl, hv, ok, h1, h24, q⟩ := h
    have hu := hu_of hr
    refine ⟨_, pss_cons (ps_if (pt_not (pt_val (pe_callB call_isi (by rfl) T.isinstance bt_isinstance (pa_cons (pv 0) (pa_cons (pe_ty T.tuple bt_tuple) pa_nil))))) pss_never pss_nil)
      (pss_cons (ps_set (i := 2) sc_buttons_fault.nd rfl (.inl rfl) pe_dnewK)
      (pss_cons (ps_for PassesOwn.never rfl (pi_enumT (by rfl) T.enumerate (pa_cons (pv 0) pa_nil)) (pg_tup rfl (pgs_cons (pg_name (i := 3) sc_buttons_fault.nd rfl (.inl rfl)) (pgs_cons (pg_name (i := 4) sc_buttons_fault.nd rfl (.inl rfl)) pgs_nil)))
        (pss_cons (ps_if (PW.pt (pw_or (pt_cmpR op_eq (pv 3) (pe_gi T.buttons) (nomark _)) (pw_or1 (pt_not (pt_val (pe_cl c1 hr (by rfl) (pa_cons (pv 4) (pa_cons (pv 1) (pa_cons (pv 2) pa_nil))))))))) pss_never pss_nil)
        (pss_one (ps_dput hu (pv 2) (pe_ix ix_tup (pv 4) pe_int (fun _ _ => rfl)) pe_bl rfl))))
      (pss_one (ps_ret (pe_un un_neg pe_int))))), ?_⟩
    have few := ok.few
    refine ⟨_, rfl, _, _, _, _, true, rfl, .ty "tuple", .base (.tup hv), kit_ty (by decide +kernel), _, rfl, iteF ?_⟩
    intro d hd
    have s1 : Same H (upd H d (.dK [])) := same_upd hd
    refine ⟨_, rfl, v, _, rfl, SqT.of (s1 _ _ hv), for_it (walk_enumT (xs := vb bs)) (fun i σ H2 => ∃ y3 y4, σ = [some (.ref v), some (.int (n : Int)), some (.ref d), y3, y4] ∧ Same H H2 ∧ H2 d = some (.dK (kb (bs.take i)))) ?_ ?_ ?_ ?_⟩
    · exact ⟨none, none, rfl, s1, upd_same⟩
    · rintro i σ H2 _ ⟨_, _, _, sm, _⟩
      exact SqT.of (sm _ _ hv)
    · rintro i x σ H2 H3 hi ⟨y3, y4, rfl, sm, hf⟩ ⟨p, x1, x2, rfl, np, rfl, e1, e2⟩
      have hi2 : i < bs.length := by
        have : (vb bs).length = bs.length := List.length_map ..
        rw [← this]
        exact hi
      cases e1
      have hbi : bs[i]? = some bs[i] := List.getElem?_eq_getElem hi2
      have ex : x2 = V.ref bs[i].ad := by
        have e3 : (vb bs)[i]? = some x2 := e2
        unfold vb at e3
        rw [List.getElem?_map, hbi] at e3
        exact (Option.some.inj e3).symm
      subst ex
      have hmem : bs[i] ∈ bs := List.getElem_mem hi2
      have s2 : Same H2 (upd H2 p (.tup [.int (i : Nat), .ref bs[i].ad])) := same_upd np
      have s3 := sm.trans s2
      have hk := s2 _ _ hf
      have hnone := kb_none ok.nd hi2
      refine ⟨p, _, rfl, SqT.of upd_same, rfl, _, _, rfl, _, _, rfl, rfl, ?_⟩
      -- neither the ninth nor no button
      refine ⟨_, rfl, rfl, false, ?_, iteF ?_⟩
      · show V.bl (decide (V.int (i : Int) = V.int 8)) = V.bl false
        rw [decide_eq_false (fun z => by have := V.int.inj z; omega)]
      refine ⟨_, rfl, _, rfl, _, rfl, bs[i], n, d, _, rfl, (ok.same s3).at_ _ hmem, ok.good _ hmem, ok.name _ hmem, hk, hnone, h1, h24, fun H4 s4 => ⟨_, rfl, iteF ?_⟩⟩
      -- known[button[0]] = True
      have hb4 := (ok.same (s3.trans s4)).at_ _ hmem
      refine ⟨_, rfl, _, rfl, bs[i].ad, _, 0, .str bs[i].nm, rfl, rfl, SqT.of hb4.1, atI_nat (j := 0) rfl, d, _, rfl, DPut.k (k := Sum.inr bs[i].nm) (s4 _ _ hk) ?_, ?_⟩
      · unfold kb
        rw [List.length_map, List.length_take]
        exact small1000 (by omega)
      · refine ⟨_, _, rfl, fun b o e => ?_, ?_⟩
        · rw [upd_ne (ne_of_none e hd)]
          exact s3.trans s4 _ _ e
        · rw [upd_same, putK_new _ hnone, List.take_add_one, hbi]
          unfold kb
          rw [List.map_append] <;> rfl
    · rintro σ H2 ⟨y3, y4, rfl, sm, hf⟩
      exact ⟨1, rfl, q _ sm⟩

def sp_ties_fault : Sp := fun vs H Q _ => ∃ (v : Addr) (n : Int), vs = [.ref v, .int n] ∧ H v = some (.tup []) ∧ ∀ H', Same H H' → Q (.int (-1)) H'
theorem sc_ties_fault : FnScope ["value", "size", "index", "tie"] ["value", "size"] (defScope s_ties_fault) := ⟨rfl, rfl, rfl, by decide +kernel, rfl, by decide +kernel, by decide +kernel⟩
theorem c_ties_fault (T : Tx K mg C) (D : DefAt K mg "ties_fault" s_ties_fault) : Callee P w K mg base 1 "ties_fault" ["value", "size"] sp_ties_fault := by
  obtain ⟨f, fd, hf, F⟩ := D
  refine ⟨f, fd, hf, F.kp, F.binds (ps := ["value", "size"]) fun _ _ _ _ _ _ us hl => match us, hl with | [_, _], _ => rfl, F.ok sc_ties_fault (fun vs H Q E h => ?_) (fun cdv A outer s H vs Q E hr h => ?_)⟩
  · obtain ⟨v, n, rfl, _⟩ := h
    rfl
  · obtain ⟨v, n, rfl, hv, q⟩ := h
    refine ⟨_, pss_cons (ps_if (pt_not (pt_val (pe_callB call_isi (by rfl) T.isinstance bt_isinstance (pa_cons (pv 0) (pa_cons (pe_ty T.tuple bt_tuple) pa_nil))))) pss_never pss_nil)
      (pss_cons (ps_for PassesOwn.never rfl (pi_enumT (by rfl) T.enumerate (pa_cons (pv 0) pa_nil)) (pg_tup rfl (pgs_cons (pg_name (i := 2) sc_ties_fault.nd rfl (.inl rfl)) (pgs_cons (pg_name (i := 3) sc_ties_fault.nd rfl (.inl rfl)) pgs_nil))) pss_never)
      (pss_one (ps_ret (pe_un un_neg pe_int)))), ?_⟩
    refine ⟨_, rfl, _, _, _, _, true, rfl, .ty "tuple", .base (.tup hv), kit_ty (by decide +kernel), _, rfl, iteF ?_⟩
    refine ⟨_, rfl, v, _, rfl, SqT.of hv, for_it (walk_enumT (xs := [])) (fun i σ H2 => H2 = H) rfl (fun i σ H2 _ e => by rw [e]; exact SqT.of hv) (fun i x σ H2 H3 hi => absurd hi (Nat.not_lt_zero _)) ?_⟩
    rintro σ H2 rfl
    exact ⟨1, rfl, q _ (Same.refl _)⟩

/-! ### Board.__init__ -/
def sp_init (C : Addr) : Sp := fun vs H Q _ => ∃ (p dx : Addr) (n : Nat) (v tt : Addr) (bs : List Btn), vs = [.ref p, .int (n : Int), .ref v, .ref tt] ∧ H p = some (.ins C dx []) ∧ H v = some (.tup (vb bs)) ∧ BtnsOk H n bs ∧ H tt = some (.tup []) ∧ 1 ≤ n ∧ n ≤ 24 ∧
  ∀ H' ys, (∀ b o, H b = some o → b ≠ p → H' b = some o) → ys.Perm bs → BoardAt C H' p n ys → Q .non H'
theorem sc_init : FnScope ["self", "size", "buttons", "ties"] ["self", "size", "buttons", "ties"] (defScope s_init) := ⟨rfl, rfl, rfl, by decide +kernel, rfl, by decide +kernel, by decide +kernel⟩
theorem ok_init {f : Addr} {fd : FuncData} (T : Tx K mg C) (F : Fun K "__init__" "Board.__init__" s_init f fd) (c1 : Callee P w K mg base 3 "check_number" ["value", "least", "most"] sp_check_number) (c2 : Callee P w K mg base 4 "buttons_fault" ["value", "size"] sp_buttons_fault)
    (c3 : Callee P w K mg base 1 "ties_fault" ["value", "size"] sp_ties_fault) : FnOk P w K mg base CX0 5 f fd ["self", "size", "buttons", "ties"] (sp_init C) := by
  refine F.ok sc_init (fun vs H Q E h => ?_) (fun cdv A outer s H vs Q E hr h => ?_)
  · obtain ⟨p, dx, n, v, tt, bs, rfl, _⟩ := h
    rfl
  · obtain ⟨p, dx, n, v, tt, bs, rfl, hp, hv, ok, htt, h1, h24, q⟩ := h
    have hu : (cxOf CX0 P w K mg base ["self", "size", "buttons", "ties"] "Board.__init__" (defScope s_init) f cdv A outer s H E).nox.A.units + 64 < cLine := hr.units
    refine ⟨_, pss_cons (ps_expr (pe_cl c1 (hr.mono (by decide)) (by rfl) (pa_cons (pv 1) (pa_cons pe_int (pa_cons (pe_gi T.places) pa_nil)))))
      (pss_cons (ps_if (pt_cmpR op_ne (pe_cl c2 hr (by rfl) (pa_cons (pv 2) (pa_cons (pv 1) pa_nil))) (pe_un un_neg pe_int) (nomark _)) pss_never pss_nil)
      (pss_cons (ps_if (pt_cmpR op_ne (pe_cl c3 (hr.mono (by decide)) (by rfl) (pa_cons (pv 3) (pa_cons (pv 1) pa_nil))) (pe_un un_neg pe_int) (nomark _)) pss_never pss_nil)
      (pss_cons (ps_fld (pv 0) (pv 1) rfl)
      (pss_cons (ps_fld (pv 0) (pe_callTy call_tuple_of (by rfl) T.tuple bt_tuple (pa_cons (pe_callB (cr_sortTB hu) (by rfl) T.sorted bt_sorted (pa_cons (pv 2) pa_nil)) pa_nil)) rfl)
      (pss_one (ps_fld (pv 0) (pv 3) rfl)))))), ?_⟩
    -- the checks
    refine ⟨_, rfl, _, 1, 24, rfl, by omega, by omega, ?_⟩
    refine ⟨_, rfl, _, rfl, v, n, bs, rfl, hv, ok, h1, h24, fun H1 s1 => ⟨1, rfl, rfl, false, rfl, iteF ?_⟩⟩
    refine ⟨_, rfl, _, rfl, tt, _, rfl, s1 _ _ htt, fun H2 s2 => ⟨1, rfl, rfl, false, rfl, iteF ?_⟩⟩
    have s3 := s1.trans s2
    -- self.size = size
    refine ⟨_, rfl, _, rfl, p, C, dx, [], rfl, s3 _ _ hp, T.cl, T.nS, by show 0 < 1000; decide, ?_⟩
    have k3 : ∀ b o, H b = some o → b ≠ p → (upd H2 p (.ins C dx (putF "size" (.int (n : Int)) []))) b = some o := fun b o e nb => by rw [upd_ne nb]; exact s3 _ _ e
    have ok3 : BtnsOk (upd H2 p (.ins C dx (putF "size" (.int (n : Int)) []))) n bs := by
      refine ⟨fun b hb => ?_, ok.good, ok.name, ok.nd, ok.few⟩
      have h2 := ok.at_ b hb
      exact ⟨k3 _ _ h2.1 (ne_of h2.1 hp (by intro z; cases z)), k3 _ _ h2.2 (ne_of h2.2 hp (by intro z; cases z))⟩
    have nvp : v ≠ p := ne_of hv hp (by intro z; cases z)
    -- self.buttons = tuple(sorted(buttons))
    refine ⟨_, rfl, v, bs, rfl, SqT.of (k3 _ _ hv nvp), ok3.at_, fun l ys nl py => ?_⟩
    have nlp : p ≠ l := ne_of_none upd_same nl
    refine ⟨l, _, rfl, .inl ⟨SqL.of upd_same, fun m nm => ?_⟩⟩
    have nml : l ≠ m := ne_of_none upd_same nm
    have nmp : p ≠ m := ne_of_none (show upd (upd H2 p (.ins C dx (putF "size" (.int (n : Int)) []))) l (.lst (ys.map fun b => V.ref b.ad)) p = some _ by rw [upd_ne nlp]; exact upd_same) nm
    refine ⟨_, rfl, p, C, dx, _, rfl, by rw [upd_ne nmp, upd_ne nlp]; exact upd_same, T.cl, T.nB, by show 1 < 1000; decide, ?_⟩
    refine ⟨_, rfl, _, rfl, p, C, dx, _, rfl, upd_same, T.cl, T.nT, by show 2 < 1000; decide, ?_⟩
    have nl2 : H l = none := by
      have : H2 l = none := by
        rw [upd_ne (Ne.symm nlp)] at nl
        exact nl
      exact s3.free this
    have nm2 : H m = none := by
      have : H2 m = none := by
        rw [upd_ne (Ne.symm nml), upd_ne (Ne.symm nmp)] at nm
        exact nm
      exact s3.free this
    have kp : ∀ b o, H b = some o → b ≠ p → upd (upd (upd (upd (upd H2 p (.ins C dx (putF "size" (.int (n : Int)) []))) l (.lst (ys.map fun b => V.ref b.ad))) m (.tup (ys.map fun b => V.ref b.ad))) p (.ins C dx (putF "buttons" (.ref m) (putF "size" (.int (n : Int)) [])))) p (.ins C dx (putF "ties" (.ref tt) (putF "buttons" (.ref m) (putF "size" (.int (n : Int)) [])))) b = some o := fun b o e nb => by
      rw [upd_ne nb, upd_ne nb, upd_ne (ne_of_none e nm2), upd_ne (ne_of_none e nl2), upd_ne nb]
      exact s3 _ _ e
    refine q _ ys kp py ⟨⟨dx, m, tt, ?_, ?_⟩, fun b hb => ?_, fun b hb => ok.good b (py.mem_iff.mp hb)⟩
    · rw [upd_same]
      rfl
    · rw [upd_ne (Ne.symm nmp), upd_ne (Ne.symm nmp), upd_same]
    · have h2 := ok.at_ b (py.mem_iff.mp hb)
      exact ⟨kp _ _ h2.1 (ne_of h2.1 hp (by intro z; cases z)), kp _ _ h2.2 (ne_of h2.2 hp (by intro z; cases z))⟩
end
end SB
set_option Elab.async false
set_option linter.all false
set_option maxRecDepth 100000
set_option autoImplicit false
set_option maxHeartbeats 4000000
namespace SB
open PySem PySem.Spec PyProof.Rows L2

/-! ### moves as they stand -/
structure Mv where
  ad : Addr
  pr : Addr
  ta : Addr
  tl : List Nat
def Mv.at (H : Hp) (m : Mv) : Prop := H m.ad = some (.tup [.ref m.pr, .ref m.ta]) ∧ H m.ta = some (.tup (vz m.tl))
theorem mv_same {H H' : Hp} {m : Mv} (h : m.at H) (s : Same H H') : m.at H' := ⟨s _ _ h.1, s _ _ h.2⟩
def vm (ms : List Mv) : List V := ms.map fun m => V.ref m.ad
structure Acc (H0 : Hp) (f : Addr) (n : Nat) (ms : List Mv) (H2 : Hp) : Prop where
  same : Same H0 H2
  nf : H0 f = none
  lst : H2 f = some (.lst (vm ms))
  at_ : ∀ m ∈ ms, m.at H2
  ok : ∀ m ∈ ms, IsTurn n m.tl
theorem Acc.go {H0 H2 H3 : Hp} {f : Addr} {n : Nat} {ms : List Mv} (a : Acc H0 f n ms H2) (s : Same H2 H3) : Acc H0 f n ms H3 :=
  ⟨a.same.trans s, a.nf, s _ _ a.lst, fun m hm => mv_same (a.at_ m hm) s, a.ok⟩
theorem mv_put {H2 : Hp} {f : Addr} {ms ms2 : List Mv} {m : Mv} (h : m.at H2) (hf : H2 f = some (.lst (vm ms))) : m.at (upd H2 f (.lst (vm ms2))) :=
  ⟨by rw [upd_ne (ne_of h.1 hf (by intro z; cases z))]; exact h.1, by rw [upd_ne (ne_of h.2 hf (by intro z; cases z))]; exact h.2⟩
theorem vm_snoc (ms : List Mv) (m : Mv) : vm ms ++ [V.ref m.ad] = vm (ms ++ [m]) := by
  unfold vm
  rw [List.map_append] <;> rfl
theorem vm_len (ms : List Mv) : (vm ms).length = ms.length := List.length_map ..
theorem Acc.push {H0 H2 : Hp} {f : Addr} {n : Nat} {ms : List Mv} {m : Mv} (a : Acc H0 f n ms H2) (h : m.at H2) (ok : IsTurn n m.tl) : Acc H0 f n (ms ++ [m]) (upd H2 f (.lst (vm ms ++ [V.ref m.ad]))) := by
  rw [vm_snoc]
  refine ⟨same_put a.same a.nf, a.nf, upd_same, fun k hk => ?_, fun k hk => ?_⟩
  · rcases List.mem_append.mp hk with q | q
    · exact mv_put (a.at_ k q) a.lst
    · rw [List.mem_singleton.mp q]
      exact mv_put h a.lst
  · rcases List.mem_append.mp hk with q | q
    · exact a.ok k q
    · rw [List.mem_singleton.mp q]
      exact ok
/-- a list of moves stands at p -/
structure MovesAt (H : Hp) (p : Addr) (n : Nat) (ts : List (List Nat)) (ms : List Mv) : Prop where
  lst : H p = some (.lst (vm ms))
  at_ : ∀ m ∈ ms, m.at H
  ok : ∀ m ∈ ms, IsTurn n m.tl
  mem : ∀ t, t ∈ ms.map (·.tl) ↔ t ∈ mvs ts
theorem turnsOf_snoc (bs : List Btn) (b : Btn) : turnsOf (bs ++ [b]) = turnsOf bs ++ [b.tn.map Int.toNat] := by
  unfold turnsOf
  rw [List.map_append] <;> rfl
theorem mvs_snoc {t u : List Nat} {ts : List (List Nat)} : u ∈ mvs (ts ++ [t]) ↔ u ∈ mvs ts ∨ u = t ∨ u = back t := by
  unfold mvs
  simp only [List.mem_append, List.map_append, List.mem_singleton, List.map_cons, List.map_nil]
  constructor
  · rintro ((h | h) | (h | h))
    · exact .inl (.inl h)
    · exact .inr (.inl h)
    · exact .inl (.inr h)
    · exact .inr (.inr h)
  · rintro ((h | h) | (h | h))
    · exact .inl (.inl h)
    · exact .inr (.inl h)
    · exact .inl (.inr h)
    · exact .inr (.inr h)
theorem turnsOf_turn {n : Nat} {bs : List Btn} (h : ∀ b ∈ bs, Good n b) : ∀ t ∈ turnsOf bs, IsTurn n t := by
  intro t ht
  obtain ⟨b, hb, rfl⟩ := List.mem_map.mp ht
  obtain ⟨u, eu, hu⟩ := h b hb
  rw [eu, toNat_iz]
  exact hu

section
variable {P : Program} {w : World} {K : PySem.W.Frag} {mg : Str → Option Value} {base : Heap} {C : Addr}

/-! ### single_presses -/
def sp_single (C : Addr) : Sp := fun vs H Q _ => ∃ (b : Addr) (n : Nat) (bs : List Btn), vs = [.ref b] ∧ BoardAt C H b n bs ∧ n ≤ 24 ∧ bs.length ≤ 7 ∧ ∀ H' p ms, Same H H' → H p = none → MovesAt H' p n (turnsOf bs) ms → Q (.ref p) H'
theorem sc_single : FnScope ["board", "found", "name", "turn"] ["board"] (defScope s_single_presses) := ⟨rfl, rfl, rfl, by decide +kernel, rfl, by decide +kernel, by decide +kernel⟩
theorem c_single (T : Tx K mg C) (D : DefAt K mg "single_presses" s_single_presses) (c1 : Callee P w K mg base 1 "turned_back" ["turn"] sp_turned_back) : Callee P w K mg base 2 "single_presses" ["board"] (sp_single C) := by
  obtain ⟨f, fd, hf, F⟩ := D
  refine ⟨f, fd, hf, F.kp, F.binds (ps := ["board"]) fun _ _ _ _ _ _ us hl => match us, hl with | [_], _ => rfl, F.ok sc_single (fun vs H Q E h => ?_) (fun cdv A outer s H vs Q E hr h => ?_)⟩
  · obtain ⟨b, n, bs, rfl, _⟩ := h
    rfl
  · obtain ⟨b, n, bs, rfl, hb, h24, h7, q⟩ := h
    refine ⟨_, pss_cons (ps_set (i := 1) sc_single.nd rfl (.inl rfl) (pe_lst pa_nil))
      (pss_cons (ps_for PassesOwn.never rfl (pi_tup (pe_fld (pv 0) rfl)) (pg_tup rfl (pgs_cons (pg_name (i := 2) sc_single.nd rfl (.inl rfl)) (pgs_cons (pg_name (i := 3) sc_single.nd rfl (.inl rfl)) pgs_nil)))
        (pss_cons (ps_expr (pe_bm PySem.F.plainAttrs_list PySem.F.slot_list_append PySem.F.type_list_append mt_append (pv 1) (pa_cons (pe_tup (pa_cons (pe_tup (pa_cons (pv 2) (pa_cons pe_int pa_nil))) (pa_cons (pv 3) pa_nil))) pa_nil)))
        (pss_one (ps_expr (pe_bm PySem.F.plainAttrs_list PySem.F.slot_list_append PySem.F.type_list_append mt_append (pv 1) (pa_cons (pe_tup (pa_cons (pe_tup (pa_cons (pv 2) (pa_cons (pe_un un_neg pe_int) pa_nil))) (pa_cons (pe_cl c1 hr (by rfl) (pa_cons (pv 3) pa_nil)) pa_nil))) pa_nil))))))
      (pss_one (ps_ret (pv 1)))), ?_⟩
    refine ⟨Nat.zero_le _, fun p np => ?_⟩
    have s1 : Same H (upd H p (.lst [])) := same_upd np
    have hb1 := hb.same s1
    obtain ⟨dx, bt, ti, h1, h2⟩ := hb1.ob
    refine ⟨_, rfl, b, C, dx, _, _, rfl, h1, T.cl, T.nB, fld_buttons, bt, rfl, ⟨_, SqT.of h2⟩,
      for_it (walk_tup (xs := bs.map fun b => V.ref b.ad)) (fun i σ H2 => ∃ y2 y3 ms, σ = [some (.ref b), some (.ref p), y2, y3] ∧ Acc H p n ms H2 ∧ ms.length = 2 * i ∧ ∀ t, t ∈ ms.map (·.tl) ↔ t ∈ mvs (turnsOf (bs.take i))) ?_ ?_ ?_ ?_⟩
    · exact ⟨none, none, [], rfl, ⟨s1, np, upd_same, fun m hm => absurd hm (by simp), fun m hm => absurd hm (by simp)⟩, rfl, fun t => Iff.rfl⟩
    · rintro i σ H2 _ ⟨_, _, _, _, ac, _, _⟩
      obtain ⟨dx', bt', ti', g1, g2⟩ := (hb.same ac.same).ob
      have e1 := hb.ob
      obtain ⟨dx0, bt0, ti0, k1, k2⟩ := e1
      have z1 := s1 _ _ k1
      rw [h1] at z1
      cases z1
      exact SqT.of (ac.same _ _ k2)
    · rintro i x σ H2 H3 hi ⟨y2, y3, ms, rfl, ac, hl, hmem⟩ ⟨rfl, hx⟩
      have hi2 : i < bs.length := by simpa using hi
      have hbi : bs[i]? = some bs[i] := List.getElem?_eq_getElem hi2
      have ex : x = V.ref bs[i].ad := by
        rw [List.getElem?_map, hbi] at hx
        exact (Option.some.inj hx).symm
      subst ex
      have hmemb : bs[i] ∈ bs := List.getElem_mem hi2
      obtain ⟨t, et, ht⟩ := hb.good _ hmemb
      have hat := (hb.same ac.same).at_ _ hmemb
      have hT : bs[i].tn.map V.int = vz t := by rw [et] <;> rfl
      refine ⟨bs[i].ad, _, rfl, SqT.of hat.1, rfl, _, _, rfl, _, _, rfl, rfl, ?_⟩
      -- found.append(((name, 1), turn))
      refine ⟨_, rfl, Or.inl ⟨rfl, _, SqL.of ac.lst⟩, ?_⟩
      refine ⟨_, rfl, by show 2 ≤ sizeLine; decide, fun p1 np1 => ?_⟩
      have a1 := ac.go (same_upd (o := .tup [.str bs[i].nm, .int 1]) np1)
      refine ⟨_, rfl, by show 2 ≤ sizeLine; decide, fun p2 np2 => ?_⟩
      have a2 := a1.go (same_upd (o := .tup [.ref p1, .ref bs[i].ta]) np2)
      have lz : (vm ms).length < sizeLine := by rw [vm_len, hl]; exact small1000 (by omega)
      refine ⟨p, _, _, rfl, rfl, a2.lst, lz, ?_⟩
      have hta2 : upd (upd H3 p1 (.tup [.str bs[i].nm, .int 1])) p2 (.tup [.ref p1, .ref bs[i].ta]) bs[i].ta = some (.tup (vz t)) := by
        rw [← hT]
        exact same_upd np2 _ _ (same_upd np1 _ _ hat.2)
      have a3 := a2.push (m := ⟨p2, p1, bs[i].ta, t⟩) ⟨upd_same, hta2⟩ ht
      -- found.append(((name, -1), turned_back(turn)))
      refine ⟨_, rfl, Or.inl ⟨rfl, _, SqL.of a3.lst⟩, ?_⟩
      refine ⟨_, rfl, 1, rfl, by show 2 ≤ sizeLine; decide, fun p3 np3 => ?_⟩
      have a4 := a3.go (same_upd (o := .tup [.str bs[i].nm, .int (-1)]) np3)
      refine ⟨_, rfl, bs[i].ta, n, t, rfl, (a4.at_ ⟨p2, p1, bs[i].ta, t⟩ (by simp)).2, ht, h24, fun H5 p4 s5 np4 hp4 => ?_⟩
      have a5 := a4.go s5
      refine ⟨by show 2 ≤ sizeLine; decide, fun p5 np5 => ?_⟩
      have a6 := a5.go (same_upd (o := .tup [.ref p3, .ref p4]) np5)
      have lz2 : (vm (ms ++ [⟨p2, p1, bs[i].ta, t⟩])).length < sizeLine := by rw [vm_len, List.length_append, hl]; exact small1000 (by simp; omega)
      refine ⟨p, _, _, rfl, rfl, a6.lst, lz2, ?_⟩
      have a7 := a6.push (m := ⟨p5, p3, p4, back t⟩) ⟨upd_same, same_upd np5 _ _ hp4⟩ (back_turn ht)
      refine ⟨_, _, _, rfl, a7, by simp [hl]; omega, fun u => ?_⟩
      rw [List.take_add_one, hbi]
      show _ ↔ u ∈ mvs (turnsOf (bs.take i ++ [bs[i]]))
      rw [turnsOf_snoc, mvs_snoc, ← hmem, et, toNat_iz]
      simp only [List.map_append, List.mem_append, List.map_cons, List.map_nil, List.mem_singleton]
      constructor
      · rintro ((h | h) | h)
        · exact .inl h
        · exact .inr (.inl h)
        · exact .inr (.inr h)
      · rintro (h | h | h)
        · exact .inl (.inl h)
        · exact .inl (.inr h)
        · exact .inr h
    · rintro σ H2 ⟨y2, y3, ms, rfl, ac, hl, hmem⟩
      refine ⟨_, rfl, q _ p ms ac.same np ⟨ac.lst, ac.at_, ac.ok, fun t => ?_⟩⟩
      rw [hmem, List.length_map, List.take_length]
end
end SB
set_option Elab.async false
set_option linter.all false
set_option maxRecDepth 100000
set_option autoImplicit false
set_option maxHeartbeats 4000000
namespace SB
open PySem PySem.Spec PyProof.Rows L2

/-! ### dicts with standings as keys -/
def keysOf (ks : List (List Nat)) : List Key := ks.map fun x => Sum.inr (sOf x)
def vt (es : List (List Nat)) : List V := es.map fun x => V.str (sOf x)
theorem vt_len (es : List (List Nat)) : (vt es).length = es.length := List.length_map ..
theorem vt_snoc (es : List (List Nat)) (x : List Nat) : vt es ++ [V.str (sOf x)] = vt (es ++ [x]) := by
  unfold vt
  rw [List.map_append] <;> rfl
theorem keysOf_snoc (es : List (List Nat)) (x : List Nat) : keysOf es ++ [Sum.inr (sOf x)] = keysOf (es ++ [x]) := by
  unfold keysOf
  rw [List.map_append] <;> rfl
theorem keysOf_mem {ks : List (List Nat)} {x : List Nat} : (Sum.inr (sOf x) : Key) ∈ keysOf ks ↔ x ∈ ks := by
  unfold keysOf
  rw [List.mem_map]
  constructor
  · rintro ⟨y, hy, e⟩
    rw [← sOf_inj (Sum.inr.inj e)]
    exact hy
  · intro h
    exact ⟨x, h, rfl⟩
theorem key_none {kvs : List (Key × V)} {ks : List (List Nat)} {x : List Nat} (h : kvs.map (·.1) = keysOf ks) (hx : ¬ x ∈ ks) : valV kvs (Sum.inr (sOf x)) = none := by
  cases e : valV kvs (Sum.inr (sOf x)) with
  | none => rfl
  | some v =>
    have hm := valV_in e
    rw [h] at hm
    exact absurd (keysOf_mem.mp hm) hx
theorem key_some {kvs : List (Key × V)} {ks : List (List Nat)} {x : List Nat} (h : kvs.map (·.1) = keysOf ks) (hx : x ∈ ks) : ∃ v, valV kvs (Sum.inr (sOf x)) = some v := by
  cases e : valV kvs (Sum.inr (sOf x)) with
  | none =>
    have hm := valV_not e
    rw [h] at hm
    exact absurd (keysOf_mem.mpr hx) hm
  | some v => exact ⟨v, rfl⟩
/-- a dict with these standings as keys -/
def KeysAt (H : Hp) (p : Addr) (ks : List (List Nat)) : Prop := ∃ kvs, H p = some (.dK kvs) ∧ kvs.map (·.1) = keysOf ks
theorem KeysAt.keep {c : Addr} {H H' : Hp} {p : Addr} {ks : List (List Nat)} (h : KeysAt H p ks) (b : But c H H') (n : p ≠ c) : KeysAt H' p ks := by
  obtain ⟨kvs, h1, h2⟩ := h
  exact ⟨kvs, b _ _ n h1, h2⟩

/-! ### one layer -/
structure Lay (H1 : Hp) (p l : Addr) (ms : List (List Nat)) (z : List Nat) (ks ls : List (List Nat)) (H2 : Hp) : Prop where
  keep : But p H1 H2
  ne : p ≠ l
  nl : H1 l = none
  d : KeysAt H2 p (ks ++ ls)
  lst : H2 l = some (.lst (vt ls))
  nd : (ks ++ ls).Nodup
  rt : ∀ x ∈ ks ++ ls, RT ms z x
theorem Lay.go {H1 H2 H3 : Hp} {p l : Addr} {ms : List (List Nat)} {z : List Nat} {ks ls : List (List Nat)} (a : Lay H1 p l ms z ks ls H2) (s : Same H2 H3) : Lay H1 p l ms z ks ls H3 := by
  obtain ⟨kvs, h1, h2⟩ := a.d
  exact ⟨a.keep.trans (But.of s), a.ne, a.nl, ⟨kvs, s _ _ h1, h2⟩, s _ _ a.lst, a.nd, a.rt⟩
theorem Lay.few {H1 H2 : Hp} {p l : Addr} {ms : List (List Nat)} {z : List Nat} {ks ls : List (List Nat)} (a : Lay H1 p l ms z ks ls H2) (f : Few ms z) : (ks ++ ls).length ≤ 840 := f _ a.nd a.rt
theorem Lay.add {H1 H2 : Hp} {p l : Addr} {ms : List (List Nat)} {z : List Nat} {ks ls : List (List Nat)} (a : Lay H1 p l ms z ks ls H2) {kvs : List (Key × V)} (hp : H2 p = some (.dK kvs)) (hk : kvs.map (·.1) = keysOf (ks ++ ls)) {x : List Nat} (hx : ¬ x ∈ ks ++ ls) (rt : RT ms z x) (v : V) :
    Lay H1 p l ms z ks (ls ++ [x]) (upd (upd H2 p (.dK (putK kvs (Sum.inr (sOf x)) v))) l (.lst (vt ls ++ [V.str (sOf x)]))) := by
  refine ⟨fun b o n e => ?_, a.ne, a.nl, ⟨putK kvs (Sum.inr (sOf x)) v, ?_, ?_⟩, ?_, ?_, fun y hy => ?_⟩
  · rw [upd_ne (ne_of_none e a.nl), upd_ne n]
    exact a.keep _ _ n e
  · rw [upd_ne a.ne, upd_same]
  · rw [putK_new v (key_none hk hx), List.map_append, hk, ← List.append_assoc]
    exact keysOf_snoc _ _
  · rw [upd_same, vt_snoc]
  · rw [← List.append_assoc]
    exact nd_snoc a.nd hx
  · rw [← List.append_assoc] at hy
    rcases List.mem_append.mp hy with q | q
    · exact a.rt y q
    · rw [List.mem_singleton.mp q]
      exact rt
/-! ### the outer loop -/
structure Wh (H0 : Hp) (p e mv : Addr) (n : Nat) (ts : List (List Nat)) (mvl : List Mv) (z : List Nat) (ks es : List (List Nat)) (H2 : Hp) : Prop where
  same : Same H0 H2
  np : H0 p = none
  d : KeysAt H2 p ks
  lst : H2 e = some (.lst (vt es))
  mov : MovesAt H2 mv n ts mvl
  nd : ks.Nodup
  rt : ∀ x ∈ ks, RT (mvs ts) z x
  ze : z ∈ ks
  sub : ∀ x ∈ es, x ∈ ks
  few : es.length ≤ 840
  cl : ∀ x ∈ ks, ¬ x ∈ es → ∀ t ∈ mvs ts, led t x ∈ ks
theorem MovesAt.but {c : Addr} {H H' : Hp} {p : Addr} {n : Nat} {ts : List (List Nat)} {ms : List Mv} {kvs : List (Key × V)} (h : MovesAt H p n ts ms) (b : But c H H') (hc : H c = some (.dK kvs)) : MovesAt H' p n ts ms :=
  ⟨b _ _ (ne_of h.lst hc (by intro z; cases z)) h.lst, fun m hm => ⟨b _ _ (ne_of (h.at_ m hm).1 hc (by intro z; cases z)) (h.at_ m hm).1, b _ _ (ne_of (h.at_ m hm).2 hc (by intro z; cases z)) (h.at_ m hm).2⟩, h.ok, h.mem⟩
theorem eqv_vt_nil (es : List (List Nat)) : PyData.eqv (.list ((es.map sOf).map .str)) (.list []) = decide (es = []) := by
  cases es with
  | nil => rw [decide_eq_true rfl]; rfl
  | cons a r => rw [decide_eq_false (by simp)]; rfl
theorem strOk_sOf {x : List Nat} (h : ∀ c ∈ x, Sign c) : PyData.strOk (sOf x) = true := by
  unfold PyData.strOk sOf
  simp only [List.all_toArray, List.all_eq_true, decide_eq_true_eq]
  intro c hc
  have := h c hc
  unfold Sign at this
  omega
/-- standings as data -/
theorem dp_vt {K : PySem.W.Frag} {H : Hp} {a : Addr} {es : List (List Nat)} (h : SqL K H a (vt es)) : Dp K H (.ref a) (.list ((es.map sOf).map .str)) := by
  refine .lst (xs := vt es) h ?_
  have e : vt es = (es.map sOf).map V.str := by
    unfold vt
    rw [List.map_map] <;> rfl
  rw [e]
  exact dpAll_strs _
theorem shaped_vt {es : List (List Nat)} (h : ∀ x ∈ es, ∀ c ∈ x, Sign c) : SeqAt.shaped (.list ((es.map sOf).map .str)) = true := by
  refine shaped_strs _ fun y hy => ?_
  obtain ⟨x, hx, rfl⟩ := List.mem_map.mp hy
  exact strOk_sOf (h x hx)

section
variable {P : Program} {w : World} {K : PySem.W.Frag} {mg : Str → Option Value} {base : Heap} {C : Addr}

def sp_paths (C : Addr) : Sp := fun vs H Q _ => ∃ (b : Addr) (n : Nat) (bs : List Btn) (z : List Nat), vs = [.ref b, .str (sOf z), .int 50000] ∧ BoardAt C H b n bs ∧ n ≤ 24 ∧ bs.length ≤ 7 ∧ z.length = n ∧ (∀ c ∈ z, Sign c) ∧ Few (mvs (turnsOf bs)) z ∧
  ∀ H' p ks, Same H H' → H p = none → KeysAt H' p ks → ks.Nodup → (∀ x, x ∈ ks ↔ RT (mvs (turnsOf bs)) z x) → Q (.ref p) H'
theorem sc_paths : FnScope ["board", "standing", "most", "found", "edge", "moves", "later", "before", "press", "turn", "here"] ["board", "standing", "most"] (defScope s_paths_from) := ⟨rfl, rfl, rfl, by decide +kernel, rfl, by decide +kernel, by decide +kernel⟩
theorem c_paths (T : Tx K mg C) (D : DefAt K mg "paths_from" s_paths_from) (c1 : Callee P w K mg base 2 "single_presses" ["board"] (sp_single C)) (c2 : Callee P w K mg base 1 "led_standing" ["standing", "turn"] sp_led) :
    Callee P w K mg base 3 "paths_from" ["board", "standing", "most"] (sp_paths C) := by
  obtain ⟨f, fd, hf, F⟩ := D
  refine ⟨f, fd, hf, F.kp, F.binds (ps := ["board", "standing", "most"]) fun _ _ _ _ _ _ us hl => match us, hl with | [_, _, _], _ => rfl, F.ok sc_paths (fun vs H Q E h => ?_) (fun cdv A outer s H vs Q E hr h => ?_)⟩
  · obtain ⟨b, n, bs, z, rfl, _⟩ := h
    rfl
  · obtain ⟨b, n, bs, z, rfl, hb, h24, h7, hz, hs, few, q⟩ := h
    have hu := hu_of hr
    have hu2 : (cxOf CX0 P w K mg base ["board", "standing", "most"] "paths_from" (defScope s_paths_from) f cdv A outer s H E).nox.A.units + 64 < cLine := hr.units
    refine ⟨_, pss_cons (ps_par3 (i := 3) (j := 4) (l := 5) rfl sc_paths.nd rfl rfl rfl (by decide) (by decide) (by decide) rfl rfl rfl
        (pa_cons (pe_disp (pps_cons (pv 1) (pe_tup (pa_cons pe_non (pa_cons pe_non pa_nil))) pps_nil) rfl rfl (by simp) (by decide)) (pa_cons (pe_lst (pa_cons (pv 1) pa_nil)) (pa_cons (pe_cl c1 (hr.mono (by decide)) (by rfl) (pa_cons (pv 0) pa_nil)) pa_nil))) rfl)
      (pss_cons (ps_while PassesOwn.never (pt_cmpR (op_neD hu2) (pv 4) (pe_lst pa_nil) (nomark _))
        (pss_cons (ps_set (i := 6) sc_paths.nd rfl (.inl rfl) (pe_lst pa_nil))
        (pss_cons (ps_for PassesOwn.never rfl (pi_list (pv 4)) (pg_name (i := 7) sc_paths.nd rfl (.inl rfl))
          (pss_cons (ps_for PassesOwn.never rfl (pi_list (pv 5)) (pg_tup rfl (pgs_cons (pg_name (i := 8) sc_paths.nd rfl (.inl rfl)) (pgs_cons (pg_name (i := 9) sc_paths.nd rfl (.inl rfl)) pgs_nil)))
            (pss_cons (ps_set (i := 10) sc_paths.nd rfl (.inl rfl) (pe_cl c2 (hr.mono (by decide)) (by rfl) (pa_cons (pv 7) (pa_cons (pv 9) pa_nil))))
            (pss_one (ps_if (pt_cmp (pc_dnotin hu (pv 10) (pv 3)))
              (pss_cons (ps_dput hu (pv 3) (pv 10) (pe_tup (pa_cons (pv 7) (pa_cons (pv 8) pa_nil))) rfl)
              (pss_one (ps_expr (pe_bm PySem.F.plainAttrs_list PySem.F.slot_list_append PySem.F.type_list_append mt_append (pv 6) (pa_cons (pv 10) pa_nil))))) pss_nil))))
          (pss_one (ps_if (pt_cmpR op_gt (pe_callB call_lenD (by rfl) T.len bt_len (pa_cons (pv 3) pa_nil)) (pv 2) (nomark _)) pss_never pss_nil))))
        (pss_one (ps_set (i := 4) sc_paths.nd rfl (.inl rfl) (pv 6))))))
      (pss_one (ps_ret (pv 3)))), ?_⟩
    have hmt : ∀ t ∈ mvs (turnsOf bs), IsTurn n t := mvs_turn (turnsOf_turn hb.good)
    have shp : ∀ x, RT (mvs (turnsOf bs)) z x → x.length = n ∧ ∀ c ∈ x, Sign c := fun x hx => ⟨(hx.shape hmt hz).1, fun c hc => hs c ((hx.shape hmt hz).2 c hc)⟩
    -- found, edge, moves
    intro p np
    have s1 : Same H (upd H p (.dK [])) := same_upd np
    refine ⟨_, rfl, by show 2 ≤ sizeLine; decide, fun q0 nq0 => ⟨?_, [(Sum.inr (sOf z), .ref q0)], rfl, by show 1 ≤ 15; decide, ?_⟩⟩
    · exact same_upd nq0 _ _ upd_same
    have nq : p ≠ q0 := ne_of_none upd_same nq0
    have b2 : ∀ a o, H a = some o → upd (upd (upd H p (.dK [])) q0 (.tup [.non, .non])) p (.dK (mergeK [] [(Sum.inr (sOf z), .ref q0)])) a = some o := fun a o e => by
      rw [upd_ne (ne_of_none e np)]
      exact same_upd nq0 _ _ (s1 _ _ e)
    refine ⟨_, rfl, by show 1 ≤ sizeLine; decide, fun e0 ne0 => ?_⟩
    have s3 := same_upd (o := .lst [.str (sOf z)]) ne0
    refine ⟨_, rfl, b, n, bs, rfl, hb.same fun a o e => s3 _ _ (b2 a o e), h24, h7, fun H3 mv mvl s4 nmv hmv => ?_⟩
    refine ⟨_, _, _, rfl, ?_⟩
    -- the outer loop
    refine ⟨fun m σ H2 => ∃ e ks es y6 y7 y8 y9 y10, σ = [some (.ref b), some (.str (sOf z)), some (.int 50000), some (.ref p), some (.ref e), some (.ref mv), y6, y7, y8, y9, y10] ∧ Wh H p e mv n (turnsOf bs) mvl z ks es H2 ∧ m = 2 * (840 - ks.length) + (if es = [] then 0 else 1), ⟨_, e0, [z], [z], none, none, none, none, none, rfl, ?_, rfl⟩, ?_⟩
    · refine ⟨fun a o e => s4 _ _ (s3 _ _ (b2 a o e)), np, ⟨_, s4 _ _ (s3 _ _ upd_same), rfl⟩, s4 _ _ upd_same, hmv, by simp, fun x hx => ?_, by simp, fun x hx => hx, by show 1 ≤ 840; decide, fun x hx nx => absurd hx nx⟩
      rw [List.mem_singleton.mp hx]
      exact .refl
    rintro m σ H2 ⟨e, ks, es, y6, y7, y8, y9, y10, rfl, W, rfl⟩
    refine ⟨_, rfl, Nat.zero_le _, fun p2 np2 => ?_⟩
    have s5 : Same H2 (upd H2 p2 (.lst [])) := same_upd np2
    refine ⟨.list ((es.map sOf).map .str), .list [], dp_vt (SqL.of (s5 _ _ W.lst)), .lst (xs := []) (SqL.of upd_same) .nil, shaped_vt fun x hx => (shp x (W.rt x (W.sub x hx))).2, shaped_vt (es := []) (by simp), !decide (es = []), congrArg V.bl (congrArg (!·) (eqv_vt_nil es)), ?_⟩
    by_cases he : es = []
    · subst he
      have ks_all : ∀ x, x ∈ ks ↔ RT (mvs (turnsOf bs)) z x := fun x => ⟨W.rt x, fun h => h.closed W.ze fun y hy t ht => W.cl y hy (by simp) t ht⟩
      refine iteF ⟨_, rfl, q _ p ks (W.same.trans s5) np ?_ W.nd ks_all⟩
      obtain ⟨kvs, k1, k2⟩ := W.d
      exact ⟨kvs, s5 _ _ k1, k2⟩
    rw [decide_eq_false he]
    refine iteT ?_
    rw [if_neg he]
    refine ⟨fun σ' H' => ∃ l ls y7 y8 y9 y10, σ' = [some (.ref b), some (.str (sOf z)), some (.int 50000), some (.ref p), some (.ref l), some (.ref mv), some (.ref l), y7, y8, y9, y10] ∧ Wh H p l mv n (turnsOf bs) mvl z (ks ++ ls) ls H' ∧ (ks ++ ls).length ≤ 840, ?_, ?_⟩
    · rintro σ' H' ⟨l, ls, z7, z8, z9, z10, rfl, W', l840⟩
      refine ⟨2 * (840 - (ks ++ ls).length) + (if ls = [] then 0 else 1), ?_, l, ks ++ ls, ls, some (.ref l), z7, z8, z9, z10, rfl, W', rfl⟩
      rw [List.length_append] at l840 ⊢
      by_cases hl : ls = []
      · subst hl
        simp
      · rw [if_neg hl]
        have : 0 < ls.length := List.length_pos_iff.mpr hl
        omega
    -- later = []
    refine ⟨Nat.zero_le _, fun l nl => ?_⟩
    have s6 := same_upd (o := .lst []) nl
    have s7 := s5.trans s6
    obtain ⟨kvs0, k01, k02⟩ := W.d
    have npl : p ≠ l := ne_of_none (s5 _ _ k01) nl
    have nl2 : H2 l = none := s5.free nl
    have L0 : Lay H2 p l (mvs (turnsOf bs)) z ks [] (upd (upd H2 p2 (.lst [])) l (.lst [])) := by
      refine ⟨But.of s7, npl, nl2, ⟨kvs0, s7 _ _ k01, by rw [List.append_nil]; exact k02⟩, upd_same, by rw [List.append_nil]; exact W.nd, fun x hx => W.rt x (by simpa using hx)⟩
    -- for before in edge
    refine ⟨_, rfl, e, rfl, ⟨_, SqL.of (s7 _ _ W.lst)⟩, for_it (walk_list (xs := vt es)) (fun i σ H4 => ∃ ls y7 y8 y9 y10, σ = [some (.ref b), some (.str (sOf z)), some (.int 50000), some (.ref p), some (.ref e), some (.ref mv), some (.ref l), y7, y8, y9, y10] ∧ Lay H2 p l (mvs (turnsOf bs)) z ks ls H4 ∧ ∀ x ∈ es.take i, ∀ t ∈ mvs (turnsOf bs), led t x ∈ ks ++ ls) ?_ ?_ ?_ ?_⟩
    · exact ⟨[], y7, y8, y9, y10, rfl, L0, by simp⟩
    · rintro i σ H4 _ ⟨_, _, _, _, _, _, L, _⟩
      exact SqL.of (L.keep _ _ (ne_of W.lst k01 (by intro z; cases z)) W.lst)
    · rintro i x σ H4 H5 hi ⟨ls, z7, z8, z9, z10, rfl, L, dn⟩ ⟨rfl, hx⟩
      have hi2 : i < es.length := by rw [← vt_len]; exact hi
      have hei : es[i]? = some es[i] := List.getElem?_eq_getElem hi2
      have ex : x = V.str (sOf es[i]) := by
        have e3 : (vt es)[i]? = some x := hx
        unfold vt at e3
        rw [List.getElem?_map, hei] at e3
        exact (Option.some.inj e3).symm
      subst ex
      have hmem : es[i] ∈ es := List.getElem_mem hi2
      have hrt := W.rt _ (W.sub _ hmem)
      -- for press, turn in moves
      have M0 := W.mov.but L.keep k01
      refine ⟨_, rfl, mv, rfl, ⟨_, SqL.of M0.lst⟩, for_it (walk_list (xs := vm mvl)) (fun k σ H6 => ∃ ls y8 y9 y10, σ = [some (.ref b), some (.str (sOf z)), some (.int 50000), some (.ref p), some (.ref e), some (.ref mv), some (.ref l), some (.str (sOf es[i])), y8, y9, y10] ∧ Lay H2 p l (mvs (turnsOf bs)) z ks ls H6 ∧ (∀ x ∈ es.take i, ∀ t ∈ mvs (turnsOf bs), led t x ∈ ks ++ ls) ∧ ∀ m ∈ mvl.take k, led m.tl es[i] ∈ ks ++ ls) ?_ ?_ ?_ ?_⟩
      · exact ⟨ls, z8, z9, z10, rfl, L, dn, by simp⟩
      · rintro k σ H6 _ ⟨_, _, _, _, _, L6, _⟩
        exact SqL.of (W.mov.but L6.keep k01).lst
      · rintro k x σ H6 H7 hk ⟨ls, z8, z9, z10, rfl, L, dn, dm⟩ ⟨rfl, hx⟩
        have hk2 : k < mvl.length := by rw [← vm_len]; exact hk
        have hek : mvl[k]? = some mvl[k] := List.getElem?_eq_getElem hk2
        have ex : x = V.ref mvl[k].ad := by
          have e3 : (vm mvl)[k]? = some x := hx
          unfold vm at e3
          rw [List.getElem?_map, hek] at e3
          exact (Option.some.inj e3).symm
        subst ex
        have hmk : mvl[k] ∈ mvl := List.getElem_mem hk2
        have M1 := W.mov.but L.keep k01
        have hat := M1.at_ _ hmk
        have hin : mvl[k].tl ∈ mvs (turnsOf bs) := (W.mov.mem _).mp (List.mem_map.mpr ⟨_, hmk, rfl⟩)
        refine ⟨mvl[k].ad, _, rfl, SqT.of hat.1, rfl, _, _, rfl, _, _, rfl, rfl, ?_⟩
        -- here = led_standing(before, turn)
        refine ⟨_, rfl, _, rfl, es[i], mvl[k].tl, mvl[k].ta, rfl, hat.2, by rw [(shp _ hrt).1]; exact W.mov.ok _ hmk, by rw [(shp _ hrt).1]; exact h24, fun H8 s8 => ?_⟩
        have L8 := L.go s8
        obtain ⟨kvs, k1, k2⟩ := L8.d
        refine ⟨_, rfl, _, rfl, p, _, rfl, DGet.k (k := Sum.inr (sOf (led mvl[k].tl es[i]))) k1, ?_⟩
        have rt8 : RT (mvs (turnsOf bs)) z (led mvl[k].tl es[i]) := .step hrt hin
        have tk : ∀ P : Mv → Prop, (∀ m ∈ mvl.take k, P m) → P mvl[k] → ∀ m ∈ mvl.take (k + 1), P m := by
          intro P h1 h2 m hm
          rw [List.take_add_one, hek] at hm
          rcases List.mem_append.mp hm with q | q
          · exact h1 m q
          · rw [List.mem_singleton.mp q]
            exact h2
        by_cases hx : led mvl[k].tl es[i] ∈ ks ++ ls
        · obtain ⟨v, ev⟩ := key_some k2 hx
          rw [ev]
          exact ⟨false, rfl, iteF ⟨ls, _, _, _, rfl, L8, dn, tk _ dm hx⟩⟩
        · have l840 := L8.few few
          rw [key_none k2 hx]
          refine ⟨true, rfl, iteT ?_⟩
          refine ⟨_, rfl, _, rfl, by show 2 ≤ sizeLine; decide, fun q9 nq9 => ?_⟩
          have s9 := same_upd (o := .tup [.str (sOf es[i]), .ref mvl[k].pr]) nq9
          have kl : kvs.length = (ks ++ ls).length := by
            have := congrArg List.length k2
            unfold keysOf at this
            rwa [List.length_map, List.length_map] at this
          refine ⟨_, rfl, _, rfl, p, _, rfl, DPut.k (k := Sum.inr (sOf (led mvl[k].tl es[i]))) (s9 _ _ k1) (by rw [kl]; exact small1000 (by omega)), ?_⟩
          have L9 := L8.go s9
          have hl9 : upd (upd H8 q9 (.tup [.str (sOf es[i]), .ref mvl[k].pr])) p (.dK (putK kvs (Sum.inr (sOf (led mvl[k].tl es[i]))) (.ref q9))) l = some (.lst (vt ls)) := by
            rw [upd_ne (Ne.symm npl)]
            exact L9.lst
          have ll : (vt ls).length < sizeLine := by
            rw [List.length_append] at l840
            rw [vt_len]
            exact small1000 (by omega)
          refine ⟨_, rfl, Or.inl ⟨rfl, _, SqL.of hl9⟩, _, rfl, l, _, _, rfl, rfl, hl9, ll, ?_⟩
          have L10 := L9.add (s9 _ _ k1) k2 hx rt8 (.ref q9)
          have more : ∀ y, y ∈ ks ++ ls → y ∈ ks ++ (ls ++ [led mvl[k].tl es[i]]) := fun y hy => by
            rw [← List.append_assoc]
            exact List.mem_append.mpr (.inl hy)
          refine ⟨ls ++ [led mvl[k].tl es[i]], _, _, _, rfl, L10, fun x hx t ht => more _ (dn x hx t ht), tk _ (fun m hm => more _ (dm m hm)) ?_⟩
          rw [← List.append_assoc]
          exact List.mem_append.mpr (.inr (by simp))
      · rintro σ H6 ⟨ls, z8, z9, z10, rfl, L, dn, dm⟩
        -- not too many
        have l840 := L.few few
        obtain ⟨kvs, k1, k2⟩ := L.d
        have kl : kvs.length = (ks ++ ls).length := by
          have := congrArg List.length k2
          unfold keysOf at this
          rwa [List.length_map, List.length_map] at this
        refine ⟨_, rfl, p, kvs, rfl, k1, _, rfl, _, _, rfl, rfl, false, congrArg V.bl (decide_eq_false (by omega)), iteF ?_⟩
        refine ⟨ls, _, _, _, _, rfl, L, fun x hx t ht => ?_⟩
        rw [List.take_add_one, hei] at hx
        rcases List.mem_append.mp hx with q | q
        · exact dn x q t ht
        · rw [List.mem_singleton.mp q]
          obtain ⟨m, hm, em⟩ := List.mem_map.mp ((W.mov.mem t).mpr ht)
          rw [← em]
          refine dm m ?_
          have : mvl.take (vm mvl).length = mvl := by rw [vm_len, List.take_length]
          rw [this]
          exact hm
    · rintro σ H4 ⟨ls, z7, z8, z9, z10, rfl, L, dn⟩
      -- edge = later
      have l840 := L.few few
      refine ⟨_, rfl, l, ls, _, _, _, _, rfl, ?_, l840⟩
      refine ⟨fun a o ea => L.keep _ _ (ne_of_none ea np) (W.same _ _ ea), np, L.d, L.lst, W.mov.but L.keep k01, L.nd, L.rt, List.mem_append.mpr (.inl W.ze), fun x hx => List.mem_append.mpr (.inr hx), by rw [List.length_append] at l840; omega, fun x hx nx t ht => ?_⟩
      rcases List.mem_append.mp hx with q | q
      · by_cases hxe : x ∈ es
        · refine dn x ?_ t ht
          have : es.take (vt es).length = es := by rw [vt_len, List.take_length]
          rw [this]
          exact hxe
        · exact List.mem_append.mpr (.inl (W.cl x q hxe t ht))
      · exact absurd q nx
end
end SB
set_option Elab.async false
set_option linter.all false
set_option maxRecDepth 100000
set_option autoImplicit false
set_option maxHeartbeats 4000000
namespace SB
open PySem PySem.Spec PyProof.Rows L2

/-! ### calls with keywords -/
/-- a def that may be called plainly and with keywords ks -/
def CalleeK (P : Program) (w : World) (K : PySem.W.Frag) (mg : Str → Option Value) (base : Heap) (k : Nat) (x : Str) (ps ks : List Str) (g : List Value → List Value → List Value) (gV : List V → List V → List V) (sp : Sp) : Prop :=
  ∃ f fd, mg x = some (.ref f) ∧ PySem.W.keepIn K (.ref f) = true ∧ KBinds K fd ps ks g gV ∧ FnOk P w K mg base CX0 k f fd ps sp
theorem fun_kbinds {K : PySem.W.Frag} {x qual : Str} {st : Stmt} {f : Addr} {fd : FuncData} {ps ks : List Str} {g : List Value → List Value → List Value} {gV : List V → List V → List V} (F : Fun K x qual st f fd)
    (h : ∀ (kV doc pm : Value) (an : Option Addr) (cdv ct : Value) (us ws : List Value), (g us ws).length = ps.length → bindArgs (PySem.W.fnOf x qual (defArgs st) (defBody st) (defScope st) .none kV doc pm an cdv ct) ⟨us, ks.zip ws⟩ = pure (ps.zip (g us ws)))
    (rel : ∀ {vs : List V} {us : List Value} {zs : List V} {ws : List Value}, Vals vs us → Vals zs ws → Vals (gV vs zs) (g us ws)) : KBinds K fd ps ks g gV := by
  obtain ⟨oc, od, kV, doc, pm, an, cdv, ct, osl, rfl, lk, hcd⟩ := F.ex
  exact ⟨fun s us ws _ hl => .of_eq (h kV doc pm an cdv ct us ws hl), rel⟩
def g02 {α : Type} : List α → List α → List α
  | [], [a, b] => [a, b]
  | _, _ => []
def g02r {α : Type} : List α → List α → List α
  | [], [a, b] => [b, a]
  | _, _ => []
def g12 {α : Type} : List α → List α → List α
  | [c], [a, b] => [c, a, b]
  | _, _ => []
theorem rel02 {vs : List V} {us : List Value} {zs : List V} {ws : List Value} (r : Vals vs us) (q : Vals zs ws) : Vals (g02 vs zs) (g02 us ws) := by
  cases r with
  | nil =>
    cases q with
    | nil => exact .nil
    | cons a q =>
      cases q with
      | nil => exact .nil
      | cons b q =>
        cases q with
        | nil => exact .cons a (.cons b .nil)
        | cons c q => exact .nil
  | cons a r => cases q <;> exact .nil
theorem rel02r {vs : List V} {us : List Value} {zs : List V} {ws : List Value} (r : Vals vs us) (q : Vals zs ws) : Vals (g02r vs zs) (g02r us ws) := by
  cases r with
  | nil =>
    cases q with
    | nil => exact .nil
    | cons a q =>
      cases q with
      | nil => exact .nil
      | cons b q =>
        cases q with
        | nil => exact .cons b (.cons a .nil)
        | cons c q => exact .nil
  | cons a r => cases q <;> exact .nil
theorem rel12 {vs : List V} {us : List Value} {zs : List V} {ws : List Value} (r : Vals vs us) (q : Vals zs ws) : Vals (g12 vs zs) (g12 us ws) := by
  cases r with
  | nil => cases q <;> exact .nil
  | cons a r =>
    cases r with
    | nil =>
      cases q with
      | nil => exact .nil
      | cons b q =>
        cases q with
        | nil => exact .nil
        | cons c q =>
          cases q with
          | nil => exact .cons a (.cons b (.cons c .nil))
          | cons d q => exact .nil
    | cons b r => cases q <;> exact .nil
section
variable {X : Cx} {k : Nat} {x : Str} {ps ks : List Str} {sp : Sp} {p pos : Pos} {e : Expr} {es : List Expr} {t tk : TA} {kws : List Keyword} {g : List Value → List Value → List Value} {gV : List V → List V → List V}
theorem pe_ck (c : CalleeK X.prog X.w X.K X.mg X.base k x ps ks g gV sp) (hr : Room k X.A) (hg : Gl X x) (ha : PA X (e :: es) t) (hkw : PK X kws tk)
    (hall : (backToKw pos (keywordEach kws X.env)).all (·.1.isSome) = true := by rfl) (hks : (backToKw pos (keywordEach kws X.env)).filterMap (·.1) = ks := by rfl)
    (hdb : (x == ("__debug__" : Str)) = false := by decide) (he : starEach (e :: es) X.env = (false, eval e X.env) :: starEach es X.env := by rfl)
    (hpl : ((backTo pos (starEach (e :: es) X.env)).any (·.1) || (backToKw pos (keywordEach kws X.env)).any (·.1.isNone)) = false := by rfl) :
    PE X (.Call (.Name x p) (e :: es) kws pos) (tCallK sp gV E0 t tk) := by
  obtain ⟨f, fd, h1, h2, h3, h4⟩ := c
  exact pe_callK h4 hr hg h1 h2 h3 pass0 ha hkw hall hks hdb he hpl
/-- all by keywords -/
theorem pe_ck0 (c : CalleeK X.prog X.w X.K X.mg X.base k x ps ks g gV sp) (hr : Room k X.A) (hg : Gl X x) (hkw : PK X kws tk)
    (hall : (backToKw pos (keywordEach kws X.env)).all (·.1.isSome) = true := by rfl) (hks : (backToKw pos (keywordEach kws X.env)).filterMap (·.1) = ks := by rfl)
    (hdb : (x == ("__debug__" : Str)) = false := by decide)
    (hpl : ((backTo pos (starEach [] X.env)).any (·.1) || (backToKw pos (keywordEach kws X.env)).any (·.1.isNone)) = false := by rfl) :
    PE X (.Call (.Name x p) [] kws pos) (tCallK sp gV E0 tNil tk) := by
  obtain ⟨f, fd, h1, h2, h3, h4⟩ := c
  refine ⟨fun pins s σ H Q I h => ?_⟩
  refine wpAny_Call_Name_kw (ld_glob I hg h1 ?_ hdb)
  refine PySem.W.callWith_KW0 (h₀ := X.base) I.ok.mod.kin h2 hall (thn (hkw.run pos pins s σ H _ I h) fun ws s2 ⟨zs, H2, I2, rz, q2⟩ => ⟨I2.kIn, ?_⟩) hpl
  rw [hks]
  exact run_fnk h4 hr h3 pass0 I2 .nil rz q2
end

/-! ### what is asked of a board -/
structure Ask (C : Addr) (H : Hp) (b : Addr) (n : Nat) (bs : List Btn) (z : List Nat) (D : List (List Nat)) : Prop where
  board : BoardAt C H b n bs
  n24 : n ≤ 24
  few : bs.length ≤ 7
  len : z.length = n
  sg : ∀ c ∈ z, Sign c
  due : IsDue (mvs (turnsOf bs)) z D
  d840 : D.length ≤ 840
theorem Ask.same {C : Addr} {H H' : Hp} {b : Addr} {n : Nat} {bs : List Btn} {z : List Nat} {D : List (List Nat)} (a : Ask C H b n bs z D) (s : Same H H') : Ask C H' b n bs z D := ⟨a.board.same s, a.n24, a.few, a.len, a.sg, a.due, a.d840⟩
theorem Ask.lots {C : Addr} {H : Hp} {b : Addr} {n : Nat} {bs : List Btn} {z : List Nat} {D : List (List Nat)} (a : Ask C H b n bs z D) : Few (mvs (turnsOf bs)) z :=
  fun L nd hL => Nat.le_trans (sub_len nd fun x hx => (a.due.mem x).mpr (hL x hx)) a.d840

section
variable {P : Program} {w : World} {K : PySem.W.Frag} {mg : Str → Option Value} {base : Heap} {C : Addr}

def sp_stood (C : Addr) : Sp := fun vs H Q _ => ∃ (b : Addr) (n : Nat) (bs : List Btn) (z : List Nat), vs = [.ref b, .str (sOf z)] ∧ BoardAt C H b n bs ∧ z.length = n ∧ n ≤ 24 ∧ (∀ c ∈ z, Sign c) ∧ ∀ H', Same H H' → Q .non H'
theorem sc_stood : FnScope ["board", "standing"] ["board", "standing"] (defScope s_check_stood) := ⟨rfl, rfl, rfl, by decide +kernel, rfl, by decide +kernel, by decide +kernel⟩
theorem c_check_stood (T : Tx K mg C) (D : DefAt K mg "check_stood" s_check_stood) (c1 : Callee P w K mg base 1 "check_board" ["value"] (sp_check_board C)) (c2 : Callee P w K mg base 2 "check_standing" ["board", "value"] (sp_check_standing C)) :
    Callee P w K mg base 3 "check_stood" ["board", "standing"] (sp_stood C) := by
  obtain ⟨f, fd, hf, F⟩ := D
  refine ⟨f, fd, hf, F.kp, F.binds (ps := ["board", "standing"]) fun _ _ _ _ _ _ us hl => match us, hl with | [_, _], _ => rfl, F.ok sc_stood (fun vs H Q E h => ?_) (fun cdv A outer s H vs Q E hr h => ?_)⟩
  · obtain ⟨b, n, bs, z, rfl, _⟩ := h
    rfl
  · obtain ⟨b, n, bs, z, rfl, hb, hz, h24, hs, q⟩ := h
    refine ⟨_, pss_cons (ps_expr (pe_cl c1 (hr.mono (by decide)) (by rfl) (pa_cons (pv 0) pa_nil))) (pss_one (ps_expr (pe_cl c2 hr (by rfl) (pa_cons (pv 0) (pa_cons (pv 1) pa_nil))))), ?_⟩
    obtain ⟨dx, bt, ti, h1, h2⟩ := hb.ob
    exact ⟨_, rfl, b, dx, _, rfl, h1, _, rfl, _, rfl, b, n, bs, z, rfl, hb, hz, h24, hs, fun H' s' => q H' s'⟩

def sp_both (C : Addr) : Sp := fun vs H Q _ => ∃ (b : Addr) (n : Nat) (bs : List Btn) (z y : List Nat), vs = [.ref b, .str (sOf z), .str (sOf y)] ∧ BoardAt C H b n bs ∧ z.length = n ∧ y.length = n ∧ n ≤ 24 ∧ (∀ c ∈ z, Sign c) ∧ (∀ c ∈ y, Sign c) ∧ ∀ H', Same H H' → Q .non H'
theorem sc_both : FnScope ["board", "one", "other"] ["board", "one", "other"] (defScope s_check_both) := ⟨rfl, rfl, rfl, by decide +kernel, rfl, by decide +kernel, by decide +kernel⟩
theorem c_check_both (T : Tx K mg C) (D : DefAt K mg "check_both" s_check_both) (c1 : Callee P w K mg base 3 "check_stood" ["board", "standing"] (sp_stood C)) (c2 : Callee P w K mg base 2 "check_standing" ["board", "value"] (sp_check_standing C)) :
    Callee P w K mg base 4 "check_both" ["board", "one", "other"] (sp_both C) := by
  obtain ⟨f, fd, hf, F⟩ := D
  refine ⟨f, fd, hf, F.kp, F.binds (ps := ["board", "one", "other"]) fun _ _ _ _ _ _ us hl => match us, hl with | [_, _, _], _ => rfl, F.ok sc_both (fun vs H Q E h => ?_) (fun cdv A outer s H vs Q E hr h => ?_)⟩
  · obtain ⟨b, n, bs, z, y, rfl, _⟩ := h
    rfl
  · obtain ⟨b, n, bs, z, y, rfl, hb, hz, hy, h24, hs, ht, q⟩ := h
    refine ⟨_, pss_cons (ps_expr (pe_cl c1 hr (by rfl) (pa_cons (pv 0) (pa_cons (pv 1) pa_nil)))) (pss_one (ps_expr (pe_cl c2 (hr.mono (by decide)) (by rfl) (pa_cons (pv 0) (pa_cons (pv 2) pa_nil))))), ?_⟩
    exact ⟨_, rfl, _, rfl, b, n, bs, z, rfl, hb, hz, h24, hs, fun H1 s1 => ⟨_, rfl, _, rfl, b, n, bs, y, rfl, hb.same s1, hy, h24, ht, fun H2 s2 => q H2 (s1.trans s2)⟩⟩

/-! ### count_reached, all_reached, least, goes -/
def sp_count (C : Addr) : Sp := fun vs H Q _ => ∃ (b : Addr) (n : Nat) (bs : List Btn) (z : List Nat) (D : List (List Nat)), vs = [.ref b, .str (sOf z)] ∧ Ask C H b n bs z D ∧ ∀ H', Same H H' → Q (.int (D.length : Nat)) H'
theorem sc_count : FnScope ["board", "standing"] ["board", "standing"] (defScope s_count_reached) := ⟨rfl, rfl, rfl, by decide +kernel, rfl, by decide +kernel, by decide +kernel⟩
theorem ok_count {f : Addr} {fd : FuncData} (T : Tx K mg C) (F : Fun K "count_reached" "count_reached" s_count_reached f fd) (c1 : Callee P w K mg base 3 "check_stood" ["board", "standing"] (sp_stood C)) (c2 : Callee P w K mg base 3 "paths_from" ["board", "standing", "most"] (sp_paths C)) :
    FnOk P w K mg base CX0 4 f fd ["board", "standing"] (sp_count C) := by
  refine F.ok sc_count (fun vs H Q E h => ?_) (fun cdv A outer s H vs Q E hr h => ?_)
  · obtain ⟨b, n, bs, z, D, rfl, _⟩ := h
    rfl
  · obtain ⟨b, n, bs, z, D, rfl, a, q⟩ := h
    refine ⟨_, pss_cons (ps_expr (pe_cl c1 hr (by rfl) (pa_cons (pv 0) (pa_cons (pv 1) pa_nil)))) (pss_one (ps_ret (pe_callB call_lenD (by rfl) T.len bt_len (pa_cons (pe_cl c2 hr (by rfl) (pa_cons (pv 0) (pa_cons (pv 1) (pa_cons (pe_gi T.reached) pa_nil)))) pa_nil)))), ?_⟩
    refine ⟨_, rfl, _, rfl, b, n, bs, z, rfl, a.board, a.len, a.n24, a.sg, fun H1 s1 => ?_⟩
    have a1 := a.same s1
    refine ⟨_, rfl, _, rfl, b, n, bs, z, rfl, a1.board, a.n24, a.few, a.len, a.sg, a.lots, fun H2 p ks s2 np ⟨kvs, k1, k2⟩ nd hk => ?_⟩
    refine ⟨p, kvs, rfl, k1, ?_⟩
    have e : kvs.length = D.length := by
      have := congrArg List.length k2
      unfold keysOf at this
      rw [List.length_map, List.length_map] at this
      rw [this]
      exact nd_len nd a.due.nd fun x => (hk x).trans (a.due.mem x).symm
    rw [e]
    exact q H2 (s1.trans s2)

def sp_all (C : Addr) : Sp := fun vs H Q _ => ∃ (b : Addr) (n : Nat) (bs : List Btn) (z : List Nat) (D : List (List Nat)), vs = [.ref b, .str (sOf z)] ∧ Ask C H b n bs z D ∧ ∀ H' p, Same H H' → H p = none → H' p = some (.tup (vt D)) → Q (.ref p) H'
theorem sc_all : FnScope ["board", "standing"] ["board", "standing"] (defScope s_all_reached) := ⟨rfl, rfl, rfl, by decide +kernel, rfl, by decide +kernel, by decide +kernel⟩
theorem ok_all {f : Addr} {fd : FuncData} (T : Tx K mg C) (F : Fun K "all_reached" "all_reached" s_all_reached f fd) (c1 : Callee P w K mg base 3 "check_stood" ["board", "standing"] (sp_stood C)) (c2 : Callee P w K mg base 3 "paths_from" ["board", "standing", "most"] (sp_paths C)) :
    FnOk P w K mg base CX0 4 f fd ["board", "standing"] (sp_all C) := by
  refine F.ok sc_all (fun vs H Q E h => ?_) (fun cdv A outer s H vs Q E hr h => ?_)
  · obtain ⟨b, n, bs, z, D, rfl, _⟩ := h
    rfl
  · obtain ⟨b, n, bs, z, D, rfl, a, q⟩ := h
    have hu : (cxOf CX0 P w K mg base ["board", "standing"] "all_reached" (defScope s_all_reached) f cdv A outer s H E).nox.A.units + 64 < cLine := hr.units
    refine ⟨_, pss_cons (ps_expr (pe_cl c1 hr (by rfl) (pa_cons (pv 0) (pa_cons (pv 1) pa_nil)))) (pss_one (ps_ret (pe_callTy call_tuple_of (by rfl) T.tuple bt_tuple (pa_cons (pe_callB (cr_sortDS hu rfl) (by rfl) T.sorted bt_sorted (pa_cons
      (pe_cl c2 hr (by rfl) (pa_cons (pv 0) (pa_cons (pv 1) (pa_cons (pe_gi T.reached) pa_nil)))) pa_nil)) pa_nil)))), ?_⟩
    refine ⟨_, rfl, _, rfl, b, n, bs, z, rfl, a.board, a.len, a.n24, a.sg, fun H1 s1 => ?_⟩
    have a1 := a.same s1
    refine ⟨_, rfl, _, rfl, b, n, bs, z, rfl, a1.board, a.n24, a.few, a.len, a.sg, a.lots, fun H2 p ks s2 np ⟨kvs, k1, k2⟩ nd hk => ?_⟩
    refine ⟨p, kvs, ks.map sOf, rfl, .inl k1, by rw [k2, List.map_map] <;> rfl, fun l nl => ?_⟩
    have e := sorted_due nd a.due.asc fun x => (hk x).trans (a.due.mem x).symm
    have ev : (D.map sOf).map V.str = vt D := by
      unfold vt
      rw [List.map_map] <;> rfl
    rw [e, ev]
    have s3 := same_upd (o := .lst (vt D)) nl
    refine ⟨l, _, rfl, .inl ⟨SqL.of upd_same, fun m nm => ?_⟩⟩
    have s4 := (s1.trans s2).trans s3
    exact q _ m (s4.trans (same_upd nm)) (s4.free nm) upd_same

def sp_least (C : Addr) : Sp := fun vs H Q _ => ∃ (b : Addr) (n : Nat) (bs : List Btn) (z : List Nat) (D : List (List Nat)) (d : List Nat), vs = [.ref b, .str (sOf z)] ∧ Ask C H b n bs z D ∧ D[0]? = some d ∧ ∀ H', Same H H' → Q (.str (sOf d)) H'
theorem sc_least : FnScope ["board", "standing"] ["board", "standing"] (defScope s_least) := ⟨rfl, rfl, rfl, by decide +kernel, rfl, by decide +kernel, by decide +kernel⟩
theorem ok_least {f : Addr} {fd : FuncData} (T : Tx K mg C) (F : Fun K "least" "least" s_least f fd) (c1 : Callee P w K mg base 4 "all_reached" ["board", "standing"] (sp_all C)) :
    FnOk P w K mg base CX0 5 f fd ["board", "standing"] (sp_least C) := by
  refine F.ok sc_least (fun vs H Q E h => ?_) (fun cdv A outer s H vs Q E hr h => ?_)
  · obtain ⟨b, n, bs, z, D, d, rfl, _⟩ := h
    rfl
  · obtain ⟨b, n, bs, z, D, d, rfl, a, hd, q⟩ := h
    refine ⟨_, pss_one (ps_ret (pe_ix ix_tup (pe_cl c1 hr (by rfl) (pa_cons (pv 0) (pa_cons (pv 1) pa_nil))) pe_int (fun _ _ => rfl))), ?_⟩
    refine ⟨_, rfl, _, rfl, b, n, bs, z, D, rfl, a, fun H1 p s1 np hp => ?_⟩
    refine ⟨p, _, 0, .str (sOf d), rfl, rfl, SqT.of hp, atI_nat (j := 0) ?_, q H1 s1⟩
    unfold vt
    rw [List.getElem?_map, hd] <;> rfl

def sp_goes (C : Addr) : Sp := fun vs H Q _ => ∃ (b : Addr) (n : Nat) (bs : List Btn) (z y : List Nat) (D : List (List Nat)), vs = [.ref b, .str (sOf z), .str (sOf y)] ∧ Ask C H b n bs z D ∧ y.length = n ∧ (∀ c ∈ y, Sign c) ∧ ∀ H', Same H H' → Q (.bl (decide (y ∈ D))) H'
theorem sc_goes : FnScope ["board", "one", "other"] ["board", "one", "other"] (defScope s_goes) := ⟨rfl, rfl, rfl, by decide +kernel, rfl, by decide +kernel, by decide +kernel⟩
theorem ok_goes {f : Addr} {fd : FuncData} (T : Tx K mg C) (F : Fun K "goes" "goes" s_goes f fd) (c1 : Callee P w K mg base 4 "check_both" ["board", "one", "other"] (sp_both C)) (c2 : Callee P w K mg base 3 "paths_from" ["board", "standing", "most"] (sp_paths C)) :
    FnOk P w K mg base CX0 5 f fd ["board", "one", "other"] (sp_goes C) := by
  refine F.ok sc_goes (fun vs H Q E h => ?_) (fun cdv A outer s H vs Q E hr h => ?_)
  · obtain ⟨b, n, bs, z, y, D, rfl, _⟩ := h
    rfl
  · obtain ⟨b, n, bs, z, y, D, rfl, a, hy, hs, q⟩ := h
    have hu := hu_of hr
    refine ⟨_, pss_cons (ps_expr (pe_cl c1 hr (by rfl) (pa_cons (pv 0) (pa_cons (pv 1) (pa_cons (pv 2) pa_nil))))) (pss_one (ps_ret (pe_cmp (pc_din hu (pv 2) (pe_cl c2 (hr.mono (by decide)) (by rfl) (pa_cons (pv 0) (pa_cons (pv 1) (pa_cons (pe_gi T.reached) pa_nil)))))))), ?_⟩
    refine ⟨_, rfl, _, rfl, _, rfl, b, n, bs, z, y, rfl, a.board, a.len, hy, a.n24, a.sg, hs, fun H1 s1 => ?_⟩
    have a1 := a.same s1
    refine ⟨_, rfl, _, rfl, _, rfl, b, n, bs, z, rfl, a1.board, a.n24, a.few, a.len, a.sg, a.lots, fun H2 p ks s2 np ⟨kvs, k1, k2⟩ nd hk => ?_⟩
    refine ⟨p, _, rfl, DGet.k (k := Sum.inr (sOf y)) k1, ?_⟩
    have q2 := q H2 (s1.trans s2)
    by_cases hx : y ∈ ks
    · obtain ⟨v, ev⟩ := key_some k2 hx
      rw [decide_eq_true ((a.due.mem y).mpr ((hk y).mp hx))] at q2
      rw [ev]
      exact q2
    · rw [decide_eq_false fun h => hx ((hk y).mpr ((a.due.mem y).mp h))] at q2
      rw [key_none k2 hx]
      exact q2

/-! ### as they are called -/
theorem c_count (T : Tx K mg C) (D : DefAt K mg "count_reached" s_count_reached) (c1 : Callee P w K mg base 3 "check_stood" ["board", "standing"] (sp_stood C)) (c2 : Callee P w K mg base 3 "paths_from" ["board", "standing", "most"] (sp_paths C)) :
    Callee P w K mg base 4 "count_reached" ["board", "standing"] (sp_count C) ∧ CalleeK P w K mg base 4 "count_reached" ["board", "standing"] ["standing", "board"] g02r g02r (sp_count C) := by
  obtain ⟨f, fd, hf, F⟩ := D
  exact ⟨⟨f, fd, hf, F.kp, F.binds (ps := ["board", "standing"]) fun _ _ _ _ _ _ us hl => match us, hl with | [_, _], _ => rfl, ok_count T F c1 c2⟩,
    ⟨f, fd, hf, F.kp, fun_kbinds F (fun _ _ _ _ _ _ us ws hl => match us, ws, hl with | [], [_, _], _ => rfl) rel02r, ok_count T F c1 c2⟩⟩
theorem c_all (T : Tx K mg C) (D : DefAt K mg "all_reached" s_all_reached) (c1 : Callee P w K mg base 3 "check_stood" ["board", "standing"] (sp_stood C)) (c2 : Callee P w K mg base 3 "paths_from" ["board", "standing", "most"] (sp_paths C)) :
    Callee P w K mg base 4 "all_reached" ["board", "standing"] (sp_all C) ∧ CalleeK P w K mg base 4 "all_reached" ["board", "standing"] ["board", "standing"] g02 g02 (sp_all C) := by
  obtain ⟨f, fd, hf, F⟩ := D
  exact ⟨⟨f, fd, hf, F.kp, F.binds (ps := ["board", "standing"]) fun _ _ _ _ _ _ us hl => match us, hl with | [_, _], _ => rfl, ok_all T F c1 c2⟩,
    ⟨f, fd, hf, F.kp, fun_kbinds F (fun _ _ _ _ _ _ us ws hl => match us, ws, hl with | [], [_, _], _ => rfl) rel02, ok_all T F c1 c2⟩⟩
theorem c_least (T : Tx K mg C) (D : DefAt K mg "least" s_least) (c1 : Callee P w K mg base 4 "all_reached" ["board", "standing"] (sp_all C)) :
    Callee P w K mg base 5 "least" ["board", "standing"] (sp_least C) ∧ CalleeK P w K mg base 5 "least" ["board", "standing"] ["standing", "board"] g02r g02r (sp_least C) := by
  obtain ⟨f, fd, hf, F⟩ := D
  exact ⟨⟨f, fd, hf, F.kp, F.binds (ps := ["board", "standing"]) fun _ _ _ _ _ _ us hl => match us, hl with | [_, _], _ => rfl, ok_least T F c1⟩,
    ⟨f, fd, hf, F.kp, fun_kbinds F (fun _ _ _ _ _ _ us ws hl => match us, ws, hl with | [], [_, _], _ => rfl) rel02r, ok_least T F c1⟩⟩
theorem c_goes (T : Tx K mg C) (D : DefAt K mg "goes" s_goes) (c1 : Callee P w K mg base 4 "check_both" ["board", "one", "other"] (sp_both C)) (c2 : Callee P w K mg base 3 "paths_from" ["board", "standing", "most"] (sp_paths C)) :
    Callee P w K mg base 5 "goes" ["board", "one", "other"] (sp_goes C) ∧ CalleeK P w K mg base 5 "goes" ["board", "one", "other"] ["one", "other"] g12 g12 (sp_goes C) := by
  obtain ⟨f, fd, hf, F⟩ := D
  exact ⟨⟨f, fd, hf, F.kp, F.binds (ps := ["board", "one", "other"]) fun _ _ _ _ _ _ us hl => match us, hl with | [_, _, _], _ => rfl, ok_goes T F c1 c2⟩,
    ⟨f, fd, hf, F.kp, fun_kbinds F (fun _ _ _ _ _ _ us ws hl => match us, ws, hl with | [_], [_, _], _ => rfl) rel12, ok_goes T F c1 c2⟩⟩
end
end SB
set_option Elab.async false
set_option linter.all false
set_option maxRecDepth 100000
set_option autoImplicit false
set_option maxHeartbeats 4000000
namespace SB
open PySem PySem.Spec PyProof.Rows L2

/-- a cup: a list of three ints, changed by sips -/
def CupAt (H : Hp) (c : Addr) : Prop := ∃ g m u : Int, H c = some (.lst [.int g, .int m, .int u])
theorem CupAt.go {H H' : Hp} {c : Addr} (h : CupAt H c) (s : Same H H') : CupAt H' c := by
  obtain ⟨g, m, u, e⟩ := h
  exact ⟨g, m, u, s _ _ e⟩
theorem cutV_mem {xs : List V} {lo hi : Option Int} {x : V} (h : x ∈ cutV xs lo hi) : x ∈ xs := by
  unfold cutV at h
  exact List.mem_of_mem_drop (List.mem_of_mem_take h)
/-- either way the same -/
theorem ite_both {c A B : Prop} [Decidable c] (h1 : A) (h2 : B) : if c then A else B := ite2 (fun _ => h1) (fun _ => h2)
section
variable {P : Program} {w : World} {K : PySem.W.Frag} {mg : Str → Option Value} {base : Heap} {C : Addr}

/-! ### _law_cup -/
def sp_cup (K : PySem.W.Frag) : Sp := fun vs H Q _ => ∃ (sc : Addr) (ns : List Int) (k : Nat), vs = [.ref sc, .int (k : Int)] ∧ SqL K H sc (ns.map V.int) ∧ ns.length ≤ sizeLine ∧ ∀ H' c, Same H H' → H c = none → CupAt H' c → Q (.ref c) H'
theorem sc_cup : FnScope ["_law_script", "_law_k", "_law_cell", "_law_mixed_here", "_law_each", "_law_great"] ["_law_script", "_law_k"] (defScope s_w_cup) := ⟨rfl, rfl, rfl, by decide +kernel, rfl, by decide +kernel, by decide +kernel⟩
theorem c_cup (T : Tx K mg C) (D : DefAt K mg "_law_cup" s_w_cup) : Callee P w K mg base 1 "_law_cup" ["_law_script", "_law_k"] (sp_cup K) := by
  obtain ⟨f, fd, hf, F⟩ := D
  refine ⟨f, fd, hf, F.kp, F.binds (ps := ["_law_script", "_law_k"]) fun _ _ _ _ _ _ us hl => match us, hl with | [_, _], _ => rfl, F.ok sc_cup (fun vs H Q E h => ?_) (fun cdv A outer s H vs Q E hr h => ?_)⟩
  · obtain ⟨sc, ns, k, rfl, _⟩ := h
    rfl
  · obtain ⟨sc, ns, k, rfl, hsc, hz, q⟩ := h
    refine ⟨_, pss_cons (ps_par (i := 2) (j := 3) rfl sc_cup.nd rfl rfl (by decide) rfl rfl
        (pa_cons (pe_ifExp (pt_cmpR op_lt (pv 1) (pe_callB call_len (by rfl) T.len bt_len (pa_cons (pv 0) pa_nil)) (nomark _)) (pe_callTy call_int1 (by rfl) T.int bt_int (pa_cons (pe_ix ix_list (pv 0) (pv 1) (fun _ _ => rfl)) pa_nil)) pe_int)
          (pa_cons (pe_op op_mul pe_int (pe_op op_add (pv 1) pe_int)) pa_nil)) rfl)
      (pss_cons (ps_for PassesOwn.never rfl (pi_list (pe_slice sl_list (pv 0) po_none (po_some pe_int))) (pg_name (i := 4) sc_cup.nd rfl (.inl rfl))
        (pss_one (ps_set (i := 3) sc_cup.nd rfl (.inl rfl) (pe_op op_mod (pe_callTy call_int1 (by rfl) T.int bt_int (pa_cons
          (pe_op op_add (pe_op op_add (pe_op op_mul (pv 3) pe_int) (pe_op op_mod (pe_callTy call_int1 (by rfl) T.int bt_int (pa_cons (pv 4) pa_nil)) pe_int)) (pe_op op_mul pe_int (pv 1))) pa_nil)) pe_int))))
      (pss_cons (ps_set (i := 5) sc_cup.nd rfl (.inl rfl) (pe_ifExp (PW.pt (pw_or (pt_cmpR op_lt (pv 2) pe_int (nomark _)) (pw_or1 (pt_cmpR op_ge (pv 2) (pe_op op_pow pe_int pe_int) (nomark _))))) (pe_callB call_abs (by rfl) T.abs bt_abs (pa_cons (pv 2) pa_nil)) pe_int))
      (pss_one (ps_ret (pe_lst (pa_cons (pv 5) (pa_cons (pe_op op_mod (pe_callTy call_int1 (by rfl) T.int bt_int (pa_cons (pe_op op_add (pv 3) (pe_op op_mul pe_int (pe_op op_mod (pe_callTy call_int1 (by rfl) T.int bt_int (pa_cons (pv 2) pa_nil)) pe_int))) pa_nil)) pe_int) (pa_cons pe_int pa_nil)))))))), ?_⟩
    refine ⟨_, rfl, _, rfl, _, _, rfl, .inl ⟨_, hsc, rfl⟩, _, _, rfl, rfl, _, rfl, ite2 (fun hk => ?_) fun hk => ?_⟩
    focus
      have hk1 := of_decide_eq_true hk
      rw [List.length_map] at hk1
      have hk2 : k < ns.length := by omega
      refine ⟨_, rfl, _, rfl, sc, _, _, .int ns[k], rfl, rfl, hsc, atI_nat (by rw [List.getElem?_map, List.getElem?_eq_getElem hk2] <;> rfl), .inl ⟨_, rfl, ?_⟩⟩
    all_goals
      refine ⟨_, rfl, _, _, rfl, rfl, _, _, rfl, rfl, .inl ⟨by decide, by decide⟩, _, _, rfl, ?_⟩
      refine ⟨_, rfl, 8, rfl, sc, _, rfl, hsc, fun p np => ⟨p, rfl, ⟨_, SqL.of upd_same⟩, for_it (walk_list (xs := cutV (ns.map V.int) none (some 8))) (fun i σ H2 => ∃ (cell mix : Int) (y4 : Option V), σ = [some (.ref sc), some (.int (k : Int)), some (.int cell), some (.int mix), y4, none] ∧ H2 = upd H p (.lst (cutV (ns.map V.int) none (some 8)))) ⟨_, _, _, rfl, rfl⟩ ?_ ?_ ?_⟩⟩
      focus
        rintro i σ H2 _ ⟨_, _, _, _, rfl⟩
        exact SqL.of upd_same
      focus
        rintro i x σ H2 H3 hi ⟨cell, mix, y4, rfl, rfl⟩ ⟨rfl, hx⟩
        obtain ⟨m, _, rfl⟩ := List.mem_map.mp (cutV_mem (List.mem_of_getElem? hx))
        exact ⟨_, rfl, _, _, rfl, rfl, .inr ⟨by decide, by decide⟩, _, rfl, .inl ⟨_, rfl, _, _, rfl, rfl, by show (0 : Int) < 1000117; decide, _, _, rfl, rfl, _, rfl, _, _, rfl, rfl, .inl ⟨by decide, by decide⟩, _, _, rfl, rfl, .inl ⟨_, rfl, _, _, rfl, rfl, by show (0 : Int) < 2147482921; decide, _, _, _, rfl, rfl⟩⟩⟩
      rintro σ H2 ⟨cell, mix, y4, rfl, rfl⟩
      have s1 := same_upd (o := .lst (cutV (ns.map V.int) none (some 8))) np
      refine ⟨_, rfl, _, _, rfl, rfl, _, rfl, ite_both ⟨_, rfl, _, rfl, ?_⟩ ⟨_, rfl, _, _, rfl, rfl, ⟨by decide, by decide, by decide⟩, _, _, rfl, rfl, _, rfl, ite_both ⟨_, rfl, _, rfl, ?_⟩ ?_⟩⟩
      all_goals
        refine ⟨_, rfl, _, rfl, _, rfl, .inl ⟨_, rfl, _, _, rfl, rfl, by show (0 : Int) < 999907; decide, _, _, rfl, rfl, .inl ⟨by decide, by decide⟩, _, _, rfl, rfl, .inl ⟨_, rfl, _, _, rfl, rfl, by show (0 : Int) < 2147482921; decide, ?_⟩⟩⟩
        refine ⟨by show 3 ≤ sizeLine; decide, fun c nc => ?_⟩
        exact q _ c (s1.trans (same_upd nc)) (s1.free nc) ⟨_, _, _, upd_same⟩

/-! ### _law_sip -/
def sp_sip : Sp := fun vs H Q _ => ∃ (c : Addr) (top : Int), vs = [.ref c, .int top] ∧ 0 < top ∧ top < 1073741824 ∧ CupAt H c ∧ ∀ (H' : Hp) (f : Int), 0 ≤ f → f < top → But c H H' → CupAt H' c → Q (.int f) H'
theorem sc_sip : FnScope ["_law_cup_here", "_law_top", "_law_figure", "_law_state", "_law_factor"] ["_law_cup_here", "_law_top"] (defScope s_w_sip) := ⟨rfl, rfl, rfl, by decide +kernel, rfl, by decide +kernel, by decide +kernel⟩
theorem c_sip (T : Tx K mg C) (D : DefAt K mg "_law_sip" s_w_sip) : Callee P w K mg base 1 "_law_sip" ["_law_cup_here", "_law_top"] sp_sip := by
  obtain ⟨f, fd, hf, F⟩ := D
  refine ⟨f, fd, hf, F.kp, F.binds (ps := ["_law_cup_here", "_law_top"]) fun _ _ _ _ _ _ us hl => match us, hl with | [_, _], _ => rfl, F.ok sc_sip (fun vs H Q E h => ?_) (fun cdv A outer s H vs Q E hr h => ?_)⟩
  · obtain ⟨c, top, rfl, _⟩ := h
    rfl
  · obtain ⟨c, top, rfl, h0, h30, ⟨g, m, u, hc⟩, q⟩ := h
    refine ⟨_, pss_cons (ps_asg (pe_op op_add (pe_ix ix_list (pv 0) pe_int (fun _ _ => rfl)) pe_int) (pg_sub (pv 0) pe_int set_list))
      (pss_cons (ps_if (pt_cmpR op_gt (pe_ix ix_list (pv 0) pe_int (fun _ _ => rfl)) pe_int (nomark _))
        (pss_cons (ps_set (i := 2) sc_sip.nd rfl (.inl rfl) (pe_op op_mod (pe_callTy call_int1 (by rfl) T.int bt_int (pa_cons (pe_ix ix_list (pv 0) pe_int (fun _ _ => rfl)) pa_nil)) (pv 1)))
        (pss_cons (ps_asg (pe_op op_fdiv (pe_ix ix_list (pv 0) pe_int (fun _ _ => rfl)) (pv 1)) (pg_sub (pv 0) pe_int set_list))
        (pss_one (ps_ret (pv 2))))) pss_nil)
      (pss_cons (ps_set (i := 3) sc_sip.nd rfl (.inl rfl) (pe_op op_add (pe_callTy call_int1 (by rfl) T.int bt_int (pa_cons (pe_ix ix_list (pv 0) pe_int (fun _ _ => rfl)) pa_nil)) (pe_op op_mul pe_int (pe_ix ix_list (pv 0) pe_int (fun _ _ => rfl)))))
      (pss_cons (ps_set (i := 4) sc_sip.nd rfl (.inl rfl) (pe_op op_add (pe_op op_mod (pe_callTy call_int1 (by rfl) T.int bt_int (pa_cons (pv 3) pa_nil)) pe_int) pe_int))
      (pss_cons (ps_asg (pe_op op_mod (pe_callTy call_int1 (by rfl) T.int bt_int (pa_cons (pe_op op_add (pe_op op_add (pe_op op_mul (pv 3) (pv 4)) (pe_op op_mul pe_int (pe_ix ix_list (pv 0) pe_int (fun _ _ => rfl)))) pe_int) pa_nil)) pe_int) (pg_sub (pv 0) pe_int set_list))
      (pss_one (ps_ret (pe_op op_mod (pe_op op_fdiv (pe_callTy call_int1 (by rfl) T.int bt_int (pa_cons (pe_ix ix_list (pv 0) pe_int (fun _ _ => rfl)) pa_nil)) pe_int) (pv 1)))))))), ?_⟩
    -- one more sip
    refine ⟨_, rfl, c, _, _, .int u, rfl, rfl, SqL.of hc, atI_nat (j := 2) rfl, _, _, rfl, rfl, _, rfl, c, _, _, 2, rfl, rfl, hc, rfl, ?_⟩
    have b1 : But c H (upd H c (.lst ([V.int g, V.int m, V.int u].set 2 (V.int (u + 1))))) := But.upd
    refine ⟨_, rfl, c, _, _, .int g, rfl, rfl, SqL.of upd_same, atI_nat (j := 0) rfl, _, _, rfl, rfl, _, rfl, ite2 (fun _ => ?_) fun _ => ?_⟩
    · refine ⟨_, rfl, c, _, _, .int g, rfl, rfl, SqL.of upd_same, atI_nat (j := 0) rfl, .inl ⟨_, rfl, _, rfl, _, _, rfl, rfl, h0, ?_⟩⟩
      refine ⟨_, rfl, c, _, _, .int g, rfl, rfl, SqL.of upd_same, atI_nat (j := 0) rfl, _, rfl, _, _, rfl, rfl, ⟨h0, h30⟩, _, rfl, c, _, _, 0, rfl, rfl, upd_same, rfl, ?_⟩
      exact ⟨_, rfl, q _ _ (Int.emod_nonneg _ (by omega)) (Int.emod_lt_of_pos _ h0) (b1.trans But.upd) ⟨_, _, _, upd_same⟩⟩
    · refine ⟨_, rfl, c, _, _, .int m, rfl, rfl, SqL.of upd_same, atI_nat (j := 1) rfl, .inl ⟨_, rfl, _, rfl, c, _, _, .int (u + 1), rfl, rfl, SqL.of upd_same, atI_nat (j := 2) rfl, _, _, rfl, rfl, .inl ⟨by decide, by decide⟩, _, _, rfl, rfl, ?_⟩⟩
      refine ⟨_, rfl, .inl ⟨_, rfl, _, _, rfl, rfl, by show (0 : Int) < 65587; decide, _, _, rfl, rfl, ?_⟩⟩
      have hfac : ∀ x : Int, -(2 ^ 64) < x % 65587 + 47017 ∧ x % 65587 + 47017 < 2 ^ 64 := fun x => by omega
      refine ⟨_, rfl, _, rfl, _, _, rfl, rfl, .inr (hfac _), _, rfl, c, _, _, .int (u + 1), rfl, rfl, SqL.of upd_same, atI_nat (j := 2) rfl, _, _, rfl, rfl, .inl ⟨by decide, by decide⟩, _, _, rfl, rfl, _, _, rfl, rfl,
        .inl ⟨_, rfl, _, _, rfl, rfl, by show (0 : Int) < 2147482921; decide, _, rfl, c, _, _, 1, rfl, rfl, upd_same, rfl, ?_⟩⟩
      refine ⟨_, rfl, c, _, _, .int _, rfl, rfl, SqL.of upd_same, atI_nat (j := 1) rfl, .inl ⟨_, rfl, _, _, rfl, rfl, ⟨by decide, by decide⟩, _, rfl, _, _, rfl, rfl, h0, ?_⟩⟩
      exact q _ _ (Int.emod_nonneg _ (by omega)) (Int.emod_lt_of_pos _ h0) (b1.trans But.upd) ⟨_, _, _, upd_same⟩

/-! ### _law_one -/
def sp_one : Sp := fun vs H Q _ => (∃ (c l : Addr) (xs : List V), vs = [.ref c, .ref l] ∧ H l = some (.lst xs) ∧ l ≠ c ∧ 0 < xs.length ∧ xs.length ≤ 1000 ∧ CupAt H c ∧ ∀ H' x, x ∈ xs → But c H H' → CupAt H' c → Q x H') ∨
  (∃ (c : Addr) (z : List Nat), vs = [.ref c, .str (sOf z)] ∧ 0 < z.length ∧ z.length ≤ 1000 ∧ CupAt H c ∧ ∀ H' d, d ∈ z → But c H H' → CupAt H' c → Q (.str (sOf [d])) H')
theorem sc_one : FnScope ["_law_cup_here", "_law_some"] ["_law_cup_here", "_law_some"] (defScope s_w_one) := ⟨rfl, rfl, rfl, by decide +kernel, rfl, by decide +kernel, by decide +kernel⟩
theorem at_int {α : Type} {xs : List α} {f : Int} (h0 : 0 ≤ f) (h1 : f < (xs.length : Nat)) : ∃ x, x ∈ xs ∧ atI xs f = some x := by
  obtain ⟨j, rfl⟩ := Int.eq_ofNat_of_zero_le h0
  have hl : j < xs.length := by omega
  exact ⟨xs[j], List.getElem_mem hl, atI_nat (List.getElem?_eq_getElem hl)⟩
theorem c_one (T : Tx K mg C) (D : DefAt K mg "_law_one" s_w_one) (c1 : Callee P w K mg base 1 "_law_sip" ["_law_cup_here", "_law_top"] sp_sip) : Callee P w K mg base 2 "_law_one" ["_law_cup_here", "_law_some"] sp_one := by
  obtain ⟨f, fd, hf, F⟩ := D
  refine ⟨f, fd, hf, F.kp, F.binds (ps := ["_law_cup_here", "_law_some"]) fun _ _ _ _ _ _ us hl => match us, hl with | [_, _], _ => rfl, F.ok sc_one (fun vs H Q E h => ?_) (fun cdv A outer s H vs Q E hr h => ?_)⟩
  · rcases h with ⟨c, l, xs, rfl, _⟩ | ⟨c, z, rfl, _⟩ <;> rfl
  · refine ⟨_, pss_one (ps_ret (pe_ix ix_seq (pv 1) (pe_cl c1 hr (by rfl) (pa_cons (pv 0) (pa_cons (pe_callB call_len (by rfl) T.len bt_len (pa_cons (pv 1) pa_nil)) pa_nil))) (fun _ _ => rfl))), ?_⟩
    rcases h with ⟨c, l, xs, rfl, hl, nlc, h0, h1, hc, q⟩ | ⟨c, z, rfl, h0, h1, hc, q⟩
    · refine ⟨_, rfl, _, rfl, _, rfl, _, _, rfl, .inl ⟨_, SqL.of hl, rfl⟩, c, _, rfl, by omega, by omega, hc, fun H1 f f0 f1 b1 c1' => ?_⟩
      obtain ⟨x, hx, ex⟩ := at_int f0 f1
      exact .inl ⟨l, xs, f, x, rfl, rfl, SqL.of (b1 _ _ nlc hl), ex, q H1 x hx b1 c1'⟩
    · have zl := sOf_len z
      refine ⟨_, rfl, _, rfl, _, rfl, _, _, rfl, ⟨by show (sOf z).length ≤ sizeLine; rw [zl]; exact Nat.le_trans h1 (by decide), rfl⟩, c, _, rfl, by omega, by omega, hc, fun H1 f f0 f1 b1 c1' => ?_⟩
      have el : (sOf z).cps.toList = z := by
        show z.toArray.toList = z
        simp
      obtain ⟨x, hx, ex⟩ := at_int (xs := (sOf z).cps.toList) f0 (by rw [el]; rw [zl] at f1; exact f1)
      exact .inr (.inr ⟨sOf z, f, x, rfl, rfl, by rw [zl]; exact Nat.le_trans h1 (by decide), ex, q H1 x (by rw [el] at hx; exact hx) b1 c1'⟩)

/-! ### _law_mixed -/
theorem erase_perm {α : Type} : ∀ {l : List α} {k : Nat} {y : α}, l[k]? = some y → (y :: l.eraseIdx k).Perm l
  | [], k, y, h => by simp at h
  | a :: l, 0, y, h => by
    have e : a = y := Option.some.inj h
    subst e
    exact List.Perm.refl _
  | a :: l, k + 1, y, h => by
    have h' : l[k]? = some y := h
    exact (List.Perm.swap a y _).trans ((erase_perm h').cons a)
theorem seq_nat {j n : Nat} (h : j < n) : seqIndex? (j : Int) n = some j := by
  unfold seqIndex?
  have e : ¬ ((j : Int) < 0) := by omega
  simp only [if_neg e]
  rw [if_pos (by rw [Bool.and_eq_true, decide_eq_true_eq, decide_eq_true_eq]; omega)]
  simp
def sp_mixed : Sp := fun vs H Q _ => ∃ (c l : Addr) (xs : List V), vs = [.ref c, .ref l] ∧ H l = some (.lst xs) ∧ l ≠ c ∧ xs.length ≤ 100 ∧ CupAt H c ∧ ∀ H' p ys, ys.Perm xs → But c H H' → CupAt H' c → H p = none → H' p = some (.lst ys) → Q (.ref p) H'
theorem sc_mixed : FnScope ["_law_cup_here", "_law_things", "_law_left", "_law_found", "_law_spare"] ["_law_cup_here", "_law_things"] (defScope s_w_mixed) := ⟨rfl, rfl, rfl, by decide +kernel, rfl, by decide +kernel, by decide +kernel⟩
/-- heaps of _law_mixed: the cup, what is left, what is found -/
structure Mix (H0 : Hp) (c l f : Addr) (xs left found : List V) (H2 : Hp) : Prop where
  but : But c H0 H2
  cup : CupAt H2 c
  hl : H2 l = some (.lst left)
  hf : H2 f = some (.lst found)
  nl : H0 l = none
  nf : H0 f = none
  lc : l ≠ c
  fc : f ≠ c
  lf : l ≠ f
  perm : (found ++ left).Perm xs
theorem Mix.sip {H0 H2 H3 : Hp} {c l f : Addr} {xs left found : List V} (m : Mix H0 c l f xs left found H2) (b : But c H2 H3) (cu : CupAt H3 c) : Mix H0 c l f xs left found H3 :=
  ⟨m.but.trans b, cu, b _ _ m.lc m.hl, b _ _ m.fc m.hf, m.nl, m.nf, m.lc, m.fc, m.lf, m.perm⟩
theorem Mix.move {H0 H2 : Hp} {c l f : Addr} {xs left found : List V} {j : Nat} {y : V} (m : Mix H0 c l f xs left found H2) (hy : left[j]? = some y) : Mix H0 c l f xs (left.eraseIdx j) (found ++ [y]) (upd (upd H2 l (.lst (left.eraseIdx j))) f (.lst (found ++ [y]))) := by
  obtain ⟨g, mm, u, hc⟩ := m.cup
  refine ⟨fun b o n e => ?_, ⟨g, mm, u, ?_⟩, ?_, upd_same, m.nl, m.nf, m.lc, m.fc, m.lf, ?_⟩
  · rw [upd_ne (ne_of_none e m.nf), upd_ne (ne_of_none e m.nl)]
    exact m.but _ _ n e
  · rw [upd_ne (Ne.symm m.fc), upd_ne (Ne.symm m.lc)]
    exact hc
  · rw [upd_ne m.lf, upd_same]
  · rw [List.append_assoc]
    exact ((erase_perm hy).append_left found).trans m.perm
theorem c_mixed (T : Tx K mg C) (D : DefAt K mg "_law_mixed" s_w_mixed) (c1 : Callee P w K mg base 1 "_law_sip" ["_law_cup_here", "_law_top"] sp_sip) : Callee P w K mg base 2 "_law_mixed" ["_law_cup_here", "_law_things"] sp_mixed := by
  obtain ⟨f, fd, hf, F⟩ := D
  refine ⟨f, fd, hf, F.kp, F.binds (ps := ["_law_cup_here", "_law_things"]) fun _ _ _ _ _ _ us hl => match us, hl with | [_, _], _ => rfl, F.ok sc_mixed (fun vs H Q E h => ?_) (fun cdv A outer s H vs Q E hr h => ?_)⟩
  · obtain ⟨c, l, xs, rfl, _⟩ := h
    rfl
  · obtain ⟨c, l, xs, rfl, hl, nlc, h100, hc, q⟩ := h
    refine ⟨_, pss_cons (ps_par (i := 2) (j := 3) rfl sc_mixed.nd rfl rfl (by decide) rfl rfl (pa_cons (pe_callTy call_list_of (by rfl) T.list bt_list (pa_cons (pv 1) pa_nil)) (pa_cons (pe_lst pa_nil) pa_nil)) rfl)
      (pss_cons (ps_for PassesOwn.never rfl (pi_range1 (by rfl) T.range (pa_cons (pe_callB call_len (by rfl) T.len bt_len (pa_cons (pv 1) pa_nil)) pa_nil)) (pg_name (i := 4) sc_mixed.nd rfl (.inl rfl))
        (pss_one (ps_expr (pe_bm PySem.F.plainAttrs_list PySem.F.slot_list_append PySem.F.type_list_append mt_append (pv 3) (pa_cons
          (pe_bm PySem.F.plainAttrs_list PySem.F.slot_list_pop PySem.F.type_list_pop mt_popAt (pv 2) (pa_cons (pe_cl c1 hr (by rfl) (pa_cons (pv 0) (pa_cons (pe_callB call_len (by rfl) T.len bt_len (pa_cons (pv 2) pa_nil)) pa_nil))) pa_nil)) pa_nil)))))
      (pss_one (ps_ret (pv 3)))), ?_⟩
    refine ⟨_, rfl, l, xs, rfl, .inl (SqL.of hl), fun l2 nl2 => ?_⟩
    have s1 := same_upd (o := .lst xs) nl2
    refine ⟨Nat.zero_le _, fun f2 nf2 => ⟨_, _, rfl, ?_⟩⟩
    have s2 := s1.trans (same_upd (o := .lst []) nf2)
    have nlf : l2 ≠ f2 := ne_of_none upd_same nf2
    obtain ⟨g, m, u, hc'⟩ := hc
    have M0 : Mix H c l2 f2 xs xs [] (upd (upd H l2 (.lst xs)) f2 (.lst [])) := ⟨But.of s2, ⟨g, m, u, s2 _ _ hc'⟩, by rw [upd_ne nlf, upd_same], upd_same, nl2, s1.free nf2, Ne.symm (ne_of_none hc' nl2), Ne.symm (ne_of_none hc' (s1.free nf2)), nlf, List.Perm.refl _⟩
    refine ⟨_, rfl, _, _, rfl, .inl ⟨_, SqL.of (s2 _ _ hl), rfl⟩, _, rfl, by omega, by omega, ?_⟩
    have en : (((xs.length : Nat) : Int)).toNat = xs.length := by omega
    rw [en]
    refine for_it walk_range (fun i σ H2 => ∃ y4 left found, σ = [some (.ref c), some (.ref l), some (.ref l2), some (.ref f2), y4] ∧ Mix H c l2 f2 xs left found H2 ∧ found.length = i) ?_ (fun _ _ _ _ _ => trivial) ?_ ?_
    · exact ⟨none, xs, [], rfl, M0, rfl⟩
    · rintro i x σ H2 H3 hi ⟨y4, left, found, rfl, M, hfl⟩ ⟨rfl, rfl⟩
      have hlen : found.length + left.length = xs.length := by
        have := M.perm.length_eq
        rwa [List.length_append] at this
      refine ⟨_, rfl, Or.inl ⟨rfl, _, SqL.of M.hf⟩, _, rfl, Or.inl ⟨rfl, _, SqL.of M.hl⟩, _, rfl, _, rfl, _, _, rfl, .inl ⟨_, SqL.of M.hl, rfl⟩, c, _, rfl, by omega, by omega, M.cup, fun H4 f f0 f1 b4 cu4 => ?_⟩
      have M4 := M.sip b4 cu4
      obtain ⟨j, rfl⟩ := Int.eq_ofNat_of_zero_le f0
      have hj : j < left.length := by omega
      have hy : left[j]? = some left[j] := List.getElem?_eq_getElem hj
      refine ⟨l2, left, (j : Int), j, left[j], rfl, rfl, M4.hl, by omega, by omega, seq_nat hj, hy, ?_⟩
      refine ⟨f2, found, left[j], rfl, rfl, by rw [upd_ne (Ne.symm M4.lf)]; exact M4.hf, small1000 (by omega), ?_⟩
      refine ⟨_, left.eraseIdx j, found ++ [left[j]], rfl, M4.move hy, ?_⟩
      rw [List.length_append, hfl] <;> rfl
    · rintro σ H2 ⟨y4, left, found, rfl, M, hfl⟩
      have hlen : found.length + left.length = xs.length := by
        have := M.perm.length_eq
        rwa [List.length_append] at this
      have el : left = [] := List.length_eq_zero_iff.mp (by omega)
      subst el
      exact ⟨_, rfl, q H2 f2 found (by simpa using M.perm) M.but M.cup M.nf M.hf⟩
end
end SB
set_option Elab.async false
set_option linter.all false
set_option maxRecDepth 100000
set_option autoImplicit false
set_option maxHeartbeats 4000000
namespace SB
open PySem PySem.Spec PyProof.Rows L2

theorem perm_inv {α β : Type} {f : α → β} {g : β → α} (hg : ∀ a, g (f a) = a) {ys : List β} {l : List α} (h : ys.Perm (l.map f)) : ∃ ps : List α, ps.Perm l ∧ ys = ps.map f := by
  have gl : (l.map f).map g = l := by
    rw [List.map_map]
    have : (g ∘ f) = id := funext hg
    rw [this, List.map_id]
  refine ⟨ys.map g, by rw [← gl]; exact h.map g, ?_⟩
  rw [List.map_map]
  have e : ys.map id = ys := List.map_id ys
  conv => lhs; rw [← e]
  refine List.map_congr_left fun y hy => ?_
  obtain ⟨a, _, rfl⟩ := List.mem_map.mp (h.mem_iff.mp hy)
  show f a = f (g (f a))
  rw [hg]
theorem tup_but {H H' : Hp} {c b : Addr} {xs : List V} (h : H b = some (.tup xs)) (cu : CupAt H c) (s : But c H H') : H' b = some (.tup xs) := by
  obtain ⟨g, m, u, e⟩ := cu
  exact s _ _ (ne_of h e (by intro z; cases z)) h
theorem btn_but {H H' : Hp} {c : Addr} {b : Btn} (h : b.at H) (cu : CupAt H c) (s : But c H H') : b.at H' := ⟨tup_but h.1 cu s, tup_but h.2 cu s⟩
theorem CupAt.ne {H : Hp} {c l : Addr} (h : CupAt H c) (n : H l = none) : l ≠ c := by
  obtain ⟨g, m, u, e⟩ := h
  exact Ne.symm (ne_of_none e n)
theorem But.free' {c : Addr} {H H' : Hp} (h : But c H H') (cu : CupAt H' c) {l : Addr} (e : H' l = none) : H l = none := by
  obtain ⟨g, m, u, hc⟩ := cu
  exact h.free hc e
/-- the cup and a list of its own, changed -/
theorem But.own {c l : Addr} {H H2 : Hp} {o : HO} (b : But c H H2) (nl : H l = none) : But c H (L2.upd H2 l o) := fun a u n e => by
  rw [upd_ne (ne_of_none e nl)]
  exact b a u n e
theorem CupAt.own {c l : Addr} {H2 : Hp} {o : HO} (h : CupAt H2 c) (n : l ≠ c) : CupAt (upd H2 l o) c := by
  obtain ⟨g, m, u, e⟩ := h
  exact ⟨g, m, u, by rw [upd_ne (Ne.symm n)]; exact e⟩

theorem at_prev {sm : List Nat} {i : Nat} (hi : i < sm.length) : atI (vz sm) (0 + (i : Int) - 1) = some (V.int ((sm.getD (prev sm.length i) 0 : Nat) : Int)) := by
  have hp : prev sm.length i < sm.length := by
    unfold prev
    split <;> omega
  have e : ixN (vz sm).length (0 + (i : Int) - 1) = some (prev sm.length i) := by
    unfold ixN prev
    rw [vz_len]
    by_cases h : i = 0
    · subst h
      rw [if_neg (by omega), if_pos (by omega), if_pos rfl]
      exact congrArg some (by omega)
    · rw [if_pos (by omega), if_pos (by omega), if_neg h]
      exact congrArg some (by omega)
  unfold atI
  rw [e]
  show (vz sm)[prev sm.length i]? = _
  rw [getD_at hp]
  exact vz_get (List.getElem?_eq_getElem hp)

section
variable {P : Program} {w : World} {K : PySem.W.Frag} {mg : Str → Option Value} {base : Heap} {C : Addr}

/-! ### _law_turn -/
def sp_turn : Sp := fun vs H Q _ => ∃ (c : Addr) (n : Nat), vs = [.ref c, .int (n : Int)] ∧ 1 ≤ n ∧ n ≤ 24 ∧ CupAt H c ∧ ∀ H' p t, But c H H' → CupAt H' c → H p = none → H' p = some (.tup (vz t)) → IsTurn n t → Q (.ref p) H'
theorem sc_turn : FnScope ["_law_cup_here", "_law_n", "_law_way", "_law_found", "_law_some", "_law_k"] ["_law_cup_here", "_law_n"] (defScope s_w_turn) := ⟨rfl, rfl, rfl, by decide +kernel, rfl, by decide +kernel, by decide +kernel⟩
theorem c_turn (T : Tx K mg C) (D : DefAt K mg "_law_turn" s_w_turn) (c1 : Callee P w K mg base 1 "_law_sip" ["_law_cup_here", "_law_top"] sp_sip) (c2 : Callee P w K mg base 2 "_law_mixed" ["_law_cup_here", "_law_things"] sp_mixed) :
    Callee P w K mg base 3 "_law_turn" ["_law_cup_here", "_law_n"] sp_turn := by
  obtain ⟨f, fd, hf, F⟩ := D
  refine ⟨f, fd, hf, F.kp, F.binds (ps := ["_law_cup_here", "_law_n"]) fun _ _ _ _ _ _ us hl => match us, hl with | [_, _], _ => rfl, F.ok sc_turn (fun vs H Q E h => ?_) (fun cdv A outer s H vs Q E hr h => ?_)⟩
  · obtain ⟨c, n, rfl, _⟩ := h
    rfl
  · obtain ⟨c, n, rfl, n1, n24, hc, q⟩ := h
    refine ⟨_, pss_cons (ps_par (i := 2) (j := 3) rfl sc_turn.nd rfl rfl (by decide) rfl rfl (pa_cons (pe_cl c1 (hr.mono (by decide)) (by rfl) (pa_cons (pv 0) (pa_cons pe_int pa_nil))) (pa_cons (pe_listRg rfl (by rfl) T.list (prg_1 (by rfl) T.range (pv 1))) pa_nil)) rfl)
      (pss_cons (ps_if (pt_cmpR op_lt (pv 2) pe_int (nomark _)) (pss_one (ps_ret (pe_callTy call_tuple_of (by rfl) T.tuple bt_tuple (pa_cons (pe_cl c2 hr (by rfl) (pa_cons (pv 0) (pa_cons (pv 3) pa_nil))) pa_nil)))) pss_nil)
      (pss_cons (ps_set (i := 4) sc_turn.nd rfl (.inl rfl) (pe_slice sl_list (pe_cl c2 hr (by rfl) (pa_cons (pv 0) (pa_cons (pv 3) pa_nil))) po_none (po_some (pe_ifExp (pt_cmpR op_eq (pv 2) pe_int (nomark _)) pe_int (pe_op op_add pe_int (pe_cl c1 (hr.mono (by decide)) (by rfl) (pa_cons (pv 0) (pa_cons (pv 1) pa_nil))))))))
      (pss_cons (ps_if (pt_cmpR op_lt (pv 2) pe_int (nomark _)) (pss_one (ps_for PassesOwn.never rfl (pi_range1 (by rfl) T.range (pa_cons (pe_callB call_len (by rfl) T.len bt_len (pa_cons (pv 4) pa_nil)) pa_nil)) (pg_name (i := 5) sc_turn.nd rfl (.inl rfl))
        (pss_one (ps_asg (pe_ix ix_list (pv 4) (pe_op op_sub (pv 5) pe_int) (fun _ _ => rfl)) (pg_sub (pv 3) (pe_ix ix_list (pv 4) (pv 5) (fun _ _ => rfl)) set_list))))) pss_nil)
      (pss_one (ps_ret (pe_callTy call_tuple_of (by rfl) T.tuple bt_tuple (pa_cons (pv 3) pa_nil))))))), ?_⟩
    -- way, found
    refine ⟨_, rfl, c, 5, rfl, by decide, by decide, hc, fun H1 way w0 w5 b1 cu1 => ?_⟩
    refine ⟨_, rfl, _, rfl, RgOk.of_le (by omega) (by omega) (by omega) (by omega), fun f2 nf2 => ⟨_, _, rfl, ?_⟩⟩
    rw [rgV_iz]
    have s2 := same_upd (o := .lst (vz (List.range n))) nf2
    have b2 := b1.trans (But.of s2)
    have cu2 := cu1.go s2
    have nfc := cu1.ne nf2
    have nfH : H f2 = none := b1.free' cu1 nf2
    have idn : IsTurn n (List.range n) := List.Perm.refl _
    refine ⟨_, rfl, _, _, rfl, rfl, _, rfl, ite2 (fun hw => ?_) fun hw => ?_⟩
    · -- a mixed one
      refine ⟨_, rfl, _, rfl, c, f2, _, rfl, upd_same, nfc, by rw [vz_len, List.length_range]; omega, cu2, fun H3 p ys py b3 cu3 np hp => ?_⟩
      obtain ⟨ps, pp, rfl⟩ := perm_vz py
      refine ⟨p, _, rfl, .inl ⟨SqL.of hp, fun l nl => ?_⟩⟩
      have s3 := same_upd (o := .tup (vz ps)) nl
      have b4 := (b2.trans b3).trans (But.of s3)
      exact q _ l ps b4 (cu3.go s3) ((b2.trans b3).free' cu3 nl) upd_same pp
    -- some
    refine ⟨_, rfl, _, rfl, c, f2, _, rfl, upd_same, nfc, by rw [vz_len, List.length_range]; omega, cu2, fun H3 p ys py b3 cu3 np hp => ?_⟩
    obtain ⟨ps, pp, rfl⟩ := perm_vz py
    have hp' : IsTurn n ps := pp
    have np1 := cu2.ne np
    have fst3 : H3 f2 = some (.lst (vz (List.range n))) := b3 _ _ nfc upd_same
    have sub : ∀ m : Nat, ∃ sm, cutV (vz ps) none (some (m : Int)) = vz sm ∧ sm.Nodup ∧ (∀ x ∈ sm, x < n) ∧ sm.length ≤ 24 := fun m =>
      ⟨ps.take m, cut_vz ps m, hp'.nd.sublist (List.take_sublist _ _), fun x hx => hp'.mem.mp (List.mem_of_mem_take hx), by rw [List.length_take, hp'.len]; omega⟩
    refine ⟨_, rfl, rfl, _, rfl, ite2 (fun _ => ?_) fun _ => ?_⟩
    focus
      have b4 : But c H3 H3 := fun _ _ _ e => e
      have cu4 := cu3
      refine ⟨2, rfl, p, vz ps, rfl, SqL.of hp, fun s4 ns4 => ?_⟩
      obtain ⟨sm, esm, nds, lts, l24⟩ := sub 2
      have esm' : cutV (vz ps) none (some 2) = vz sm := esm
      rw [esm']
      clear esm esm'
    rotate_left
    focus
      refine ⟨_, rfl, _, rfl, c, _, rfl, by omega, by omega, cu3, fun H4 f f0 f1 b4 cu4 => ?_⟩
      obtain ⟨j, rfl⟩ := Int.eq_ofNat_of_zero_le f0
      refine ⟨_, _, rfl, rfl, _, rfl, p, vz ps, rfl, SqL.of (b4 _ _ np1 hp), fun s4 ns4 => ?_⟩
      obtain ⟨sm, esm, nds, lts, l24⟩ := sub (1 + j)
      have ej : (1 : Int) + (j : Int) = ((1 + j : Nat) : Int) := by omega
      rw [ej, esm]
      clear esm ej
    all_goals
      have fst4 := b4 _ _ nfc fst3
      have b5 := (b2.trans b3).trans b4
      have ns4H := b5.free' cu4 ns4
      have s5 := same_upd (o := .lst (vz sm)) ns4
      have cu5 := cu4.go s5
      have b6 := b5.trans (But.of s5)
      refine ⟨_, rfl, _, _, rfl, rfl, _, rfl, ite2 (fun _ => ?_) fun _ => ?_⟩
      rotate_left
      focus
        refine ⟨_, rfl, f2, _, rfl, .inl ⟨SqL.of (s5 _ _ fst4), fun l nl => ?_⟩⟩
        exact q _ l _ (b6.trans (But.of (same_upd nl))) (cu5.go (same_upd nl)) (b6.free' cu5 nl) upd_same idn
      refine ⟨_, rfl, _, _, rfl, .inl ⟨_, SqL.of upd_same, rfl⟩, _, rfl, by omega, by rw [vz_len]; omega, ?_⟩
      have en : (((vz sm).length : Nat) : Int).toNat = sm.length := by rw [vz_len]; omega
      rw [en]
      refine for_it walk_range (fun i σ H6 => ∃ y5, σ = [some (.ref c), some (.int (n : Int)), some (.int way), some (.ref f2), some (.ref s4), y5] ∧ But c H H6 ∧ CupAt H6 c ∧ H6 s4 = some (.lst (vz sm)) ∧ H6 f2 = some (.lst (vz (rgTo sm n i)))) ⟨none, rfl, b6, cu5, upd_same, s5 _ _ fst4⟩ (fun _ _ _ _ _ => trivial) ?_ ?_
      focus
        rintro i x σ H6 H7 hi ⟨y5, rfl, b7, cu7, hs4, hf2⟩ ⟨rfl, rfl⟩
        refine ⟨_, rfl, _, rfl, _, _, rfl, rfl, s4, _, _, _, rfl, rfl, SqL.of hs4, at_prev hi, ?_⟩
        have e0 : (0 : Int) + (i : Int) = (i : Int) := by omega
        refine ⟨_, rfl, _, rfl, _, rfl, s4, _, _, _, rfl, rfl, SqL.of hs4, by rw [e0]; exact atI_nat (vz_get (List.getElem?_eq_getElem hi)), ?_⟩
        refine ⟨f2, _, _, sm[i], rfl, rfl, hf2, ixN_nat (by rw [vz_len, rgTo_len]; exact lts _ (List.getElem_mem hi)), ?_⟩
        have n24 : s4 ≠ f2 := Ne.symm (ne_of_none fst4 ns4)
        refine ⟨_, rfl, b7.own nfH, cu7.own nfc, by rw [upd_ne n24]; exact hs4, ?_⟩
        rw [upd_same, vz_set]
        show some (HO.lst (vz ((rgTo sm n i).set sm[i] _))) = some (HO.lst (vz ((rgTo sm n i).set (sm.getD i 0) _)))
        rw [getD_at hi]
      rintro σ H6 ⟨y5, rfl, b7, cu7, hs4, hf2⟩
      refine ⟨_, rfl, f2, _, rfl, .inl ⟨SqL.of hf2, fun l nl => ?_⟩⟩
      exact q _ l _ (b7.trans (But.of (same_upd nl))) (cu7.go (same_upd nl)) (b7.free' cu7 nl) upd_same (rgTo_turn nds lts)
end
end SB
set_option Elab.async false
set_option linter.all false
set_option maxRecDepth 100000
set_option autoImplicit false
set_option maxHeartbeats 4000000
namespace SB
open PySem PySem.Spec PyProof.Rows L2

def names8 : List Str := ["a", "b", "c", "ti", "tied", "zzzzzzzz", "r", "ab"]
theorem names8_ok : ∀ x ∈ names8, NameOk x := by
  intro x hx
  unfold names8 at hx
  simp only [List.mem_cons, List.not_mem_nil, or_false] at hx
  rcases hx with rfl | rfl | rfl | rfl | rfl | rfl | rfl | rfl <;> exact ⟨by decide, by decide +kernel, by decide⟩
theorem names8_nd : names8.Nodup := by decide
def signs5 : List Str := ["ab", "ab-", "aab", "abcde", "abcdefghijklmnopqrstuvwxyz-"]
theorem signs5_ok : ∀ x ∈ signs5, 0 < x.cps.toList.length ∧ x.cps.toList.length ≤ 1000 ∧ ∀ c ∈ x.cps.toList, Sign c := by
  intro x hx
  unfold signs5 at hx
  simp only [List.mem_cons, List.not_mem_nil, or_false] at hx
  unfold Sign
  rcases hx with rfl | rfl | rfl | rfl | rfl <;> exact ⟨by decide, by decide, by decide +kernel⟩

section
variable {P : Program} {w : World} {K : PySem.W.Frag} {mg : Str → Option Value} {base : Heap} {C : Addr}

/-! ### _law_buttons -/
def sp_buttons : Sp := fun vs H Q _ => ∃ (c : Addr) (n top : Nat), vs = [.ref c, .int (n : Int), .int (top : Int)] ∧ 1 ≤ n ∧ n ≤ 24 ∧ top ≤ 7 ∧ CupAt H c ∧ ∀ H' p bs, But c H H' → CupAt H' c → H p = none → H' p = some (.tup (vb bs)) → BtnsOk H' n bs → bs.length ≤ top → Q (.ref p) H'
theorem sc_buttons : FnScope ["_law_cup_here", "_law_n", "_law_top", "_law_names", "_law_k"] ["_law_cup_here", "_law_n", "_law_top"] (defScope s_w_buttons) := ⟨rfl, rfl, rfl, by decide +kernel, rfl, by decide +kernel, by decide +kernel⟩
theorem c_buttons (T : Tx K mg C) (D : DefAt K mg "_law_buttons" s_w_buttons) (c1 : Callee P w K mg base 1 "_law_sip" ["_law_cup_here", "_law_top"] sp_sip) (c2 : Callee P w K mg base 2 "_law_mixed" ["_law_cup_here", "_law_things"] sp_mixed)
    (c3 : Callee P w K mg base 3 "_law_turn" ["_law_cup_here", "_law_n"] sp_turn) : Callee P w K mg base 4 "_law_buttons" ["_law_cup_here", "_law_n", "_law_top"] sp_buttons := by
  obtain ⟨f, fd, hf, F⟩ := D
  refine ⟨f, fd, hf, F.kp, F.binds (ps := ["_law_cup_here", "_law_n", "_law_top"]) fun _ _ _ _ _ _ us hl => match us, hl with | [_, _, _], _ => rfl, F.ok sc_buttons (fun vs H Q E h => ?_) (fun cdv A outer s H vs Q E hr h => ?_)⟩
  · obtain ⟨c, n, top, rfl, _⟩ := h
    rfl
  · obtain ⟨c, n, top, rfl, n1, n24, t7, hc, q⟩ := h
    refine ⟨_, pss_cons (ps_set (i := 3) sc_buttons.nd rfl (.inr rfl) (pe_cl c2 (hr.mono (by decide)) (by rfl) (pa_cons (pv 0) (pa_cons (pe_lst (pa_cons pe_str (pa_cons pe_str (pa_cons pe_str (pa_cons pe_str (pa_cons pe_str (pa_cons pe_str (pa_cons pe_str (pa_cons pe_str pa_nil))))))))) pa_nil))))
      (pss_one (ps_ret (pe_callTy call_tuple_of (by rfl) T.tuple bt_tuple (pa_cons
        (pe_lc (own := [("_law_k", 4)]) (g := gName 4) (tt := tYes) rfl sc_buttons.nd (pi_range1 (by rfl) T.range (pa_cons (pe_cl c1 (hr.mono (by decide)) (by rfl) (pa_cons (pv 0) (pa_cons (pe_op op_add (pv 2) pe_int) pa_nil))) pa_nil))
          (blkOk_by (N := ["_law_cup_here", "_law_n", "_law_top", "_law_names", "_law_k"]) (sc := defScope s_w_buttons) (by decide +kernel)) (fun _ _ _ _ _ => pg_name (i := 4) sc_buttons.nd rfl (Or.inl rfl)) (fun _ _ _ _ _ => pts_nil)
          (fun _ _ _ _ _ => pe_tup (pa_cons (pe_ix (show IxR _ (rIxL K) from ix_list) (pv 3) (pv 4) (fun _ _ => rfl)) (pa_cons (pe_cl c3 hr (by rfl) (pa_cons (pv 0) (pa_cons (pv 1) pa_nil))) pa_nil)))) pa_nil)))), ?_⟩
    -- names
    refine ⟨_, rfl, by show 8 ≤ sizeLine; decide, fun l0 nl0 => ?_⟩
    have s0 := same_upd (o := .lst [.str "a", .str "b", .str "c", .str "ti", .str "tied", .str "zzzzzzzz", .str "r", .str "ab"]) nl0
    have cu0 := hc.go s0
    refine ⟨c, l0, names8.map V.str, rfl, upd_same, hc.ne nl0, by decide, cu0, fun H1 p1 ys py b1 cu1 np1 hp1 => ?_⟩
    obtain ⟨ns, pn, rfl⟩ := perm_inv (f := V.str) (g := fun v => match v with | .str z => z | _ => "") (fun _ => rfl) py
    have nsl : ns.length = 8 := pn.length_eq
    have b01 : But c H H1 := fun a o n e => b1 a o n (s0 _ _ e)
    have np1c : p1 ≠ c := cu0.ne np1
    -- how many
    refine ⟨_, rfl, _, rfl, _, _, rfl, rfl, c, _, rfl, by omega, by omega, cu1, fun H2 f f0 f1 b2 cu2 => ?_⟩
    obtain ⟨m, rfl⟩ := Int.eq_ofNat_of_zero_le f0
    refine ⟨_, rfl, by omega, by omega, fun D1 hD1 => ?_⟩
    have en : ((m : Int)).toNat = m := by omega
    rw [en]
    have b02 := b01.trans b2
    have nD : H D1 = none := b02.free' cu2 hD1
    have nDc : D1 ≠ c := cu2.ne hD1
    have hp2 := b2 _ _ np1c hp1
    have nDp : p1 ≠ D1 := ne_of_none hp2 hD1
    refine lc_it walk_range (fun i H3 => ∃ bs : List Btn, But c H H3 ∧ CupAt H3 c ∧ H3 p1 = some (.lst (ns.map V.str)) ∧ H3 D1 = some (.lst (vb bs)) ∧ (∀ b ∈ bs, b.at H3 ∧ Good n b) ∧ bs.map (·.nm) = ns.take i) ?_ (fun _ _ _ _ => trivial) ?_ ?_
    · exact ⟨[], b02.own nD, cu2.own nDc, by rw [upd_ne nDp]; exact hp2, upd_same, fun b hb => absurd hb (by simp), rfl⟩
    · rintro i x H3 H4 hi ⟨bs, b3, cu3, hp3, hD3, hb3, hn3⟩ ⟨rfl, rfl⟩
      refine ⟨rfl, yes_el ?_⟩
      have hi8 : i < ns.length := by omega
      have e0 : (0 : Int) + (i : Int) = (i : Int) := by omega
      refine ⟨_, rfl, _, rfl, p1, _, _, .str ns[i], rfl, rfl, SqL.of hp3, ?_, ?_⟩
      · rw [e0]
        exact atI_nat (by rw [List.getElem?_map, List.getElem?_eq_getElem hi8] <;> rfl)
      refine ⟨_, rfl, _, rfl, c, n, rfl, n1, n24, cu3, fun H5 ta t b5 cu5 nta hta ht => ?_⟩
      refine ⟨by show 2 ≤ sizeLine; decide, fun ad nad => ?_⟩
      have s6 := same_upd (o := .tup [.str ns[i], .ref ta]) nad
      have hD5 := b5 _ _ nDc hD3
      have bsl : bs.length = i := by
        have := congrArg List.length hn3
        rw [List.length_map, List.length_take] at this
        omega
      refine ⟨vb bs, s6 _ _ hD5, by unfold vb; rw [List.length_map]; exact small1000 (by omega), bs ++ [⟨ad, ns[i], ta, iz t⟩], ?_, ?_, ?_, ?_, ?_, ?_⟩
      · exact ((b3.trans b5).trans (But.of s6)).own nD
      · exact (cu5.go s6).own nDc
      · rw [upd_ne nDp]
        exact s6 _ _ (b5 _ _ np1c hp3)
      · rw [upd_same]
        unfold vb
        rw [List.map_append] <;> rfl
      · intro b hb
        have keepB : ∀ a xs, upd H5 ad (.tup [.str ns[i], .ref ta]) a = some (.tup xs) → upd (upd H5 ad (.tup [.str ns[i], .ref ta])) D1 (.lst (vb bs ++ [V.ref ad])) a = some (.tup xs) := fun a xs e => by
          rw [upd_ne (ne_of e (s6 _ _ hD5) (by intro z; cases z))]
          exact e
        rcases List.mem_append.mp hb with hb | hb
        · obtain ⟨h1, h2⟩ := hb3 b hb
          have h3 := btn_but h1 cu3 b5
          exact ⟨⟨keepB _ _ (s6 _ _ h3.1), keepB _ _ (s6 _ _ h3.2)⟩, h2⟩
        · rw [List.mem_singleton.mp hb]
          exact ⟨⟨keepB _ _ upd_same, keepB _ _ (s6 _ _ hta)⟩, t, rfl, ht⟩
      · rw [List.map_append, hn3, List.take_add_one, List.getElem?_eq_getElem hi8] <;> rfl
    · rintro H3 ⟨bs, b3, cu3, hp3, hD3, hb3, hn3⟩
      refine ⟨D1, _, rfl, .inl ⟨SqL.of hD3, fun l nl => ?_⟩⟩
      have s4 := same_upd (o := .tup (vb bs)) nl
      have bsl : bs.length = m := by
        have := congrArg List.length hn3
        rw [List.length_map, List.length_take] at this
        omega
      refine q _ l bs (b3.trans (But.of s4)) (cu3.go s4) (b3.free' cu3 nl) upd_same ⟨fun b hb => ⟨s4 _ _ (hb3 b hb).1.1, s4 _ _ (hb3 b hb).1.2⟩, fun b hb => (hb3 b hb).2, fun b hb => ?_, ?_, by omega⟩ (by omega)
      · refine names8_ok _ (pn.mem_iff.mp ?_)
        have : b.nm ∈ ns.take m := by
          rw [← hn3]
          exact List.mem_map.mpr ⟨b, hb, rfl⟩
        exact List.mem_of_mem_take this
      · rw [hn3]
        exact (pn.nodup_iff.mpr names8_nd).sublist (List.take_sublist _ _)

/-! ### _law_standing -/
def sp_standing : Sp := fun vs H Q _ => ∃ (c : Addr) (n : Nat), vs = [.ref c, .int (n : Int)] ∧ n ≤ 24 ∧ CupAt H c ∧ ∀ H' z, But c H H' → CupAt H' c → z.length = n → (∀ d ∈ z, Sign d) → Q (.str (sOf z)) H'
theorem sc_standing : FnScope ["_law_cup_here", "_law_n", "_law_signs", "_law_place"] ["_law_cup_here", "_law_n"] (defScope s_w_standing) := ⟨rfl, rfl, rfl, by decide +kernel, rfl, by decide +kernel, by decide +kernel⟩
theorem c_standing (T : Tx K mg C) (D : DefAt K mg "_law_standing" s_w_standing) (c1 : Callee P w K mg base 2 "_law_one" ["_law_cup_here", "_law_some"] sp_one) : Callee P w K mg base 3 "_law_standing" ["_law_cup_here", "_law_n"] sp_standing := by
  obtain ⟨f, fd, hf, F⟩ := D
  refine ⟨f, fd, hf, F.kp, F.binds (ps := ["_law_cup_here", "_law_n"]) fun _ _ _ _ _ _ us hl => match us, hl with | [_, _], _ => rfl, F.ok sc_standing (fun vs H Q E h => ?_) (fun cdv A outer s H vs Q E hr h => ?_)⟩
  · obtain ⟨c, n, rfl, _⟩ := h
    rfl
  · obtain ⟨c, n, rfl, n24, hc, q⟩ := h
    refine ⟨_, pss_cons (ps_set (i := 2) sc_standing.nd rfl (.inr rfl) (pe_cl c1 hr (by rfl) (pa_cons (pv 0) (pa_cons (pe_lst (pa_cons pe_str (pa_cons pe_str (pa_cons pe_str (pa_cons pe_str (pa_cons pe_str pa_nil)))))) pa_nil))))
      (pss_one (ps_ret (pe_join pe_str (pe_lc (own := [("_law_place", 3)]) (g := gName 3) (tt := tYes) rfl sc_standing.nd (pi_range1 (by rfl) T.range (pa_cons (pv 1) pa_nil))
        (blkOk_by (N := ["_law_cup_here", "_law_n", "_law_signs", "_law_place"]) (sc := defScope s_w_standing) (by decide +kernel)) (fun _ _ _ _ _ => pg_name (i := 3) sc_standing.nd rfl (Or.inl rfl)) (fun _ _ _ _ _ => pts_nil)
        (fun _ _ _ _ _ => pe_cl c1 hr (by rfl) (pa_cons (pv 0) (pa_cons (pv 2) pa_nil))))))), ?_⟩
    refine ⟨_, rfl, by show 5 ≤ sizeLine; decide, fun l0 nl0 => ?_⟩
    have s0 := same_upd (o := .lst [.str "ab", .str "ab-", .str "aab", .str "abcde", .str "abcdefghijklmnopqrstuvwxyz-"]) nl0
    have cu0 := hc.go s0
    refine .inl ⟨c, l0, signs5.map V.str, rfl, upd_same, hc.ne nl0, by decide, by decide, cu0, fun H1 x hx b1 cu1 => ?_⟩
    obtain ⟨sg, hsg, rfl⟩ := List.mem_map.mp hx
    obtain ⟨g0, g1, g2⟩ := signs5_ok sg hsg
    have esg : sg = sOf sg.cps.toList := (sOf_list sg).symm
    generalize hz : sg.cps.toList = zs at g0 g1 g2 esg
    subst esg
    have b01 : But c H H1 := fun a o n e => b1 a o n (s0 _ _ e)
    refine ⟨⟨_, rfl⟩, _, rfl, _, rfl, by omega, by omega, fun D1 hD1 => ?_⟩
    have en : ((n : Int)).toNat = n := by omega
    rw [en]
    have nD : H D1 = none := b01.free' cu1 hD1
    have nDc : D1 ≠ c := cu1.ne hD1
    refine lc_it walk_range (fun i H3 => ∃ z : List Nat, But c H H3 ∧ CupAt H3 c ∧ H3 D1 = some (.lst (z.map fun d => V.str (sOf [d]))) ∧ z.length = i ∧ ∀ d ∈ z, Sign d) ?_ (fun _ _ _ _ => trivial) ?_ ?_
    · exact ⟨[], b01.own nD, cu1.own nDc, upd_same, rfl, fun d hd => absurd hd (by simp)⟩
    · rintro i x H3 H4 hi ⟨z, b3, cu3, hD3, hl3, hs3⟩ ⟨rfl, rfl⟩
      refine ⟨rfl, yes_el ?_⟩
      refine ⟨_, rfl, _, rfl, .inr ⟨c, zs, rfl, g0, g1, cu3, fun H5 d hd b5 cu5 => ?_⟩⟩
      refine ⟨_, b5 _ _ nDc hD3, by rw [List.length_map]; exact small1000 (by omega), z ++ [d], (b3.trans b5).own nD, cu5.own nDc, ?_, by simp [hl3], fun e he => ?_⟩
      · rw [upd_same, List.map_append] <;> rfl
      · rcases List.mem_append.mp he with he | he
        · exact hs3 e he
        · rw [List.mem_singleton.mp he]
          exact g2 d hd
    · rintro H3 ⟨z, b3, cu3, hD3, hl3, hs3⟩
      refine ⟨_, D1, (z.map fun d => [d]).map sOf, rfl, rfl, .inl (SqL.of ?_), join_room _ (fun p hp => ?_) ?_, ?_⟩
      · rw [hD3, List.map_map, List.map_map] <;> rfl
      · obtain ⟨d, _, rfl⟩ := List.mem_map.mp hp
        exact Nat.le_refl _
      · rw [List.length_map]
        omega
      · rw [join_ones']
        exact q _ z b3 cu3 hl3 hs3

/-! ### _law_led, _law_back -/
theorem sc_wled : FnScope ["_law_standing_here", "_law_turn_here", "_law_found", "_law_place"] ["_law_standing_here", "_law_turn_here"] (defScope s_w_led) := ⟨rfl, rfl, rfl, by decide +kernel, rfl, by decide +kernel, by decide +kernel⟩
theorem c_wled (T : Tx K mg C) (D : DefAt K mg "_law_led" s_w_led) : Callee P w K mg base 1 "_law_led" ["_law_standing_here", "_law_turn_here"] sp_led := by
  obtain ⟨f, fd, hf, F⟩ := D
  refine ⟨f, fd, hf, F.kp, F.binds (ps := ["_law_standing_here", "_law_turn_here"]) fun _ _ _ _ _ _ us hl => match us, hl with | [_, _], _ => rfl, F.ok sc_wled (fun vs H Q E h => ?_) (fun cdv A outer s H vs Q E hr h => ?_)⟩
  · obtain ⟨z, t, a, rfl, _⟩ := h
    rfl
  · obtain ⟨z, t, a, rfl, ha, ht, h24, q⟩ := h
    refine ⟨_, pss_cons (ps_set (i := 2) sc_wled.nd rfl (.inl rfl) (pe_op op_rep (pe_lst (pa_cons pe_str pa_nil)) (pe_callB call_len (by rfl) T.len bt_len (pa_cons (pv 1) pa_nil))))
      (pss_cons (ps_for PassesOwn.never rfl (pi_range1 (by rfl) T.range (pa_cons (pe_callB call_len (by rfl) T.len bt_len (pa_cons (pv 1) pa_nil)) pa_nil)) (pg_name (i := 3) sc_wled.nd rfl (.inl rfl))
        (pss_one (ps_asg (pe_ix ix_str (pv 0) (pv 3) (fun _ _ => rfl)) (pg_sub (pv 2) (pe_ix ix_tup (pv 1) (pv 3) (fun _ _ => rfl)) set_list))))
      (pss_one (ps_ret (pe_join pe_str (pv 2))))), ?_⟩
    have tl := ht.len
    have vl := vz_len t
    have zl := sOf_len z
    have ez : (sOf z).cps.toList = z := by
      show z.toArray.toList = z
      simp
    refine ⟨by show 1 ≤ sizeLine; decide, fun l0 nl0 => ?_⟩
    have s0 := same_upd (o := .lst [.str ""]) nl0
    refine ⟨_, rfl, _, _, rfl, .inr ⟨_, SqT.of (s0 _ _ ha), rfl⟩, l0, _, _, rfl, rfl, upd_same, by omega, by omega, ?_, fun l nl => ?_⟩
    · have : (((vz t).length : Nat) : Int).toNat = z.length := by rw [vl, tl]; omega
      rw [this]
      exact Nat.le_trans (by simp; omega : _ ≤ 1000) (by decide)
    have en : (((vz t).length : Nat) : Int).toNat = z.length := by rw [vl, tl]; omega
    rw [en]
    have s1 := s0.trans (same_upd (o := .lst (List.replicate z.length [V.str ""]).flatten) nl)
    refine ⟨_, rfl, _, _, rfl, .inr ⟨_, SqT.of (s1 _ _ ha), rfl⟩, _, rfl, by omega, by omega, ?_⟩
    rw [en]
    have nlH : H l = none := s0.free nl
    refine for_it walk_range (fun i σ H2 => ∃ y3, σ = [some (.str (sOf z)), some (.ref a), some (.ref l), y3] ∧ Same H H2 ∧ H2 l = some (.lst ((ldTo t z i).map fun p => V.str (sOf p)))) ⟨none, rfl, s1, ?_⟩ (fun _ _ _ _ _ => trivial) ?_ ?_
    · rw [upd_same]
      have : ∀ n : Nat, (List.replicate n [V.str ""]).flatten = (List.replicate n ([] : List Nat)).map fun p => V.str (sOf p) := by
        intro n
        induction n with
        | zero => rfl
        | succ n ih => rw [List.replicate_succ, List.flatten_cons, ih, List.replicate_succ, List.map_cons] <;> rfl
      rw [this, ← tl] <;> rfl
    · rintro i x σ H2 H3 hi ⟨y3, rfl, sm, hl⟩ ⟨rfl, rfl⟩
      have e0 : (0 : Int) + (i : Int) = (i : Int) := by omega
      have hti : i < t.length := by omega
      refine ⟨_, rfl, _, rfl, sOf z, _, z[i], rfl, rfl, by rw [zl]; exact Nat.le_trans h24 (by decide), ?_, ?_⟩
      · rw [e0, ez]
        exact atI_nat (List.getElem?_eq_getElem hi)
      have hlt : t[i] < z.length := ht.mem.mp (List.getElem_mem hti)
      refine ⟨_, rfl, _, rfl, _, rfl, a, _, _, _, rfl, rfl, SqT.of (sm _ _ ha), by rw [e0]; exact atI_nat (vz_get (List.getElem?_eq_getElem hti)), l, _, _, t[i], rfl, rfl, hl, ixN_nat (by rw [List.length_map, ldTo_len]; omega), ?_⟩
      refine ⟨_, rfl, same_put sm nlH, ?_⟩
      rw [upd_same]
      show some (HO.lst (((ldTo t z i).map fun p => V.str (sOf p)).set t[i] ((fun p => V.str (sOf p)) [z[i]]))) = _
      rw [← List.map_set]
      show some (HO.lst (((ldTo t z i).set t[i] [z[i]]).map fun p => V.str (sOf p))) = some (HO.lst (((ldTo t z i).set (t.getD i 0) [z.getD i 0]).map fun p => V.str (sOf p)))
      rw [getD_at hti, getD_at hi]
    · rintro σ H2 ⟨y3, rfl, sm, hl⟩
      rw [ldTo_led ht] at hl
      refine ⟨⟨_, rfl⟩, _, rfl, _, l, ((led t z).map fun c => [c]).map sOf, rfl, rfl, .inl (SqL.of ?_), join_room _ (fun p hp => ?_) ?_, ?_⟩
      · rw [hl, List.map_map (g := V.str)] <;> rfl
      · obtain ⟨c, _, rfl⟩ := List.mem_map.mp hp
        exact Nat.le_refl _
      · rw [List.length_map, led_len]
        omega
      · rw [join_ones']
        exact q _ sm

theorem sc_wback : FnScope ["_law_turn_here", "_law_found", "_law_place"] ["_law_turn_here"] (defScope s_w_back) := ⟨rfl, rfl, rfl, by decide +kernel, rfl, by decide +kernel, by decide +kernel⟩
theorem c_wback (T : Tx K mg C) (D : DefAt K mg "_law_back" s_w_back) : Callee P w K mg base 1 "_law_back" ["_law_turn_here"] sp_turned_back := by
  obtain ⟨f, fd, hf, F⟩ := D
  refine ⟨f, fd, hf, F.kp, F.binds (ps := ["_law_turn_here"]) fun _ _ _ _ _ _ us hl => match us, hl with | [_], _ => rfl, F.ok sc_wback (fun vs H Q E h => ?_) (fun cdv A outer s H vs Q E hr h => ?_)⟩
  · obtain ⟨a, n, t, rfl, _⟩ := h
    rfl
  · obtain ⟨a, n, t, rfl, ha, ht, h24, q⟩ := h
    refine ⟨_, pss_cons (ps_set (i := 1) sc_wback.nd rfl (.inl rfl) (pe_op op_rep (pe_lst (pa_cons pe_int pa_nil)) (pe_callB call_len (by rfl) T.len bt_len (pa_cons (pv 0) pa_nil))))
      (pss_cons (ps_for PassesOwn.never rfl (pi_range1 (by rfl) T.range (pa_cons (pe_callB call_len (by rfl) T.len bt_len (pa_cons (pv 0) pa_nil)) pa_nil)) (pg_name (i := 2) sc_wback.nd rfl (.inl rfl))
        (pss_one (ps_asg (pv 2) (pg_sub (pv 1) (pe_ix ix_tup (pv 0) (pv 2) (fun _ _ => rfl)) set_list))))
      (pss_one (ps_ret (pe_callTy call_tuple_of (by rfl) T.tuple bt_tuple (pa_cons (pv 1) pa_nil))))), ?_⟩
    have tl := ht.len
    have vl := vz_len t
    refine ⟨by show 1 ≤ sizeLine; decide, fun l0 nl0 => ?_⟩
    have s0 := same_upd (o := .lst [.int 0]) nl0
    have en : (((vz t).length : Nat) : Int).toNat = t.length := by rw [vl]; omega
    refine ⟨_, rfl, _, _, rfl, .inr ⟨_, SqT.of (s0 _ _ ha), rfl⟩, l0, _, _, rfl, rfl, upd_same, by omega, by omega, ?_, fun l nl => ?_⟩
    · rw [en]
      exact Nat.le_trans (by simp; omega : _ ≤ 1000) (by decide)
    rw [en]
    have s1 := s0.trans (same_upd (o := .lst (List.replicate t.length [V.int 0]).flatten) nl)
    refine ⟨_, rfl, _, _, rfl, .inr ⟨_, SqT.of (s1 _ _ ha), rfl⟩, _, rfl, by omega, by omega, ?_⟩
    rw [en]
    have nlH : H l = none := s0.free nl
    refine for_it walk_range (fun i σ H2 => ∃ y2, σ = [some (.ref a), some (.ref l), y2] ∧ Same H H2 ∧ H2 l = some (.lst (vz (bkTo t i)))) ⟨none, rfl, s1, ?_⟩ (fun _ _ _ _ _ => trivial) ?_ ?_
    · rw [upd_same]
      have : ∀ n : Nat, (List.replicate n [V.int 0]).flatten = vz (List.replicate n 0) := by
        intro n
        induction n with
        | zero => rfl
        | succ n ih => rw [List.replicate_succ, List.flatten_cons, ih, List.replicate_succ] <;> rfl
      rw [this] <;> rfl
    · rintro i x σ H2 H3 hi ⟨y2, rfl, sm, hl⟩ ⟨rfl, rfl⟩
      have e0 : (0 : Int) + (i : Int) = (i : Int) := by omega
      have hlt : t[i] < n := ht.mem.mp (List.getElem_mem hi)
      refine ⟨_, rfl, _, rfl, _, rfl, _, rfl, a, _, _, _, rfl, rfl, SqT.of (sm _ _ ha), by rw [e0]; exact atI_nat (vz_get (List.getElem?_eq_getElem hi)), l, _, _, t[i], rfl, rfl, hl, ixN_nat (by rw [vz_len, bkTo_len]; omega), ?_⟩
      refine ⟨_, rfl, same_put sm nlH, ?_⟩
      rw [upd_same]
      show some (HO.lst ((vz (bkTo t i)).set t[i] (V.int (0 + (i : Int))))) = _
      rw [e0, vz_set]
      show some (HO.lst (vz ((bkTo t i).set t[i] i))) = some (HO.lst (vz ((bkTo t i).set (t.getD i 0) i)))
      rw [getD_at hi]
    · rintro σ H2 ⟨y2, rfl, sm, hl⟩
      rw [tl, bkTo_back ht] at hl
      refine ⟨_, rfl, l, _, rfl, .inl ⟨SqL.of hl, fun m nm => ?_⟩⟩
      exact q _ m (sm.trans (same_upd nm)) (sm.free nm) upd_same
end
end SB
set_option Elab.async false
set_option linter.all false
set_option maxRecDepth 100000
set_option autoImplicit false
set_option maxHeartbeats 4000000
namespace SB
open PySem PySem.Spec PyProof.Rows L2

/-- reached by so many moves -/
inductive RN (ms : List (List Nat)) (s : List Nat) : Nat → List Nat → Prop
  | refl : RN ms s 0 s
  | step {k : Nat} {x t : List Nat} : RN ms s k x → t ∈ ms → RN ms s (k + 1) (led t x)
/-- all that is reached is reached within 499 moves -/
def Deep (ms : List (List Nat)) (s : List Nat) : Prop := ∀ x, RT ms s x → ∃ k, k ≤ 499 ∧ RN ms s k x
theorem RN.rt {ms : List (List Nat)} {s x : List Nat} {k : Nat} (h : RN ms s k x) : RT ms s x := by
  induction h with
  | refl => exact .refl
  | step _ ht ih => exact .step ih ht
/-- the turns as they stand, in a list -/
structure TnAt (H : Hp) (p : Addr) (n : Nat) (ts : List (List Nat)) (tl : List (Addr × List Nat)) : Prop where
  lst : H p = some (.lst (tl.map fun q => V.ref q.1))
  at_ : ∀ q ∈ tl, H q.1 = some (.tup (vz q.2))
  ok : ∀ q ∈ tl, IsTurn n q.2
  mem : ∀ t, t ∈ tl.map (·.2) ↔ t ∈ mvs ts
theorem TnAt.but {c : Addr} {H H' : Hp} {p : Addr} {n : Nat} {ts : List (List Nat)} {tl : List (Addr × List Nat)} {kvs : List (Key × V)} (h : TnAt H p n ts tl) (b : But c H H') (hc : H c = some (.dK kvs)) : TnAt H' p n ts tl :=
  ⟨b _ _ (ne_of h.lst hc (by intro z; cases z)) h.lst, fun m hm => b _ _ (ne_of (h.at_ m hm) hc (by intro z; cases z)) (h.at_ m hm), h.ok, h.mem⟩
theorem TnAt.go {H H' : Hp} {p : Addr} {n : Nat} {ts : List (List Nat)} {tl : List (Addr × List Nat)} (h : TnAt H p n ts tl) (b : Same H H') : TnAt H' p n ts tl :=
  ⟨b _ _ h.lst, fun m hm => b _ _ (h.at_ m hm), h.ok, h.mem⟩
structure Wl (H0 : Hp) (p e mv : Addr) (n : Nat) (ts : List (List Nat)) (tl : List (Addr × List Nat)) (z : List Nat) (i : Nat) (ks es : List (List Nat)) (H2 : Hp) : Prop where
  same : Same H0 H2
  np : H0 p = none
  d : KeysAt H2 p ks
  lst : H2 e = some (.lst (vt es))
  mov : TnAt H2 mv n ts tl
  nd : ks.Nodup
  rt : ∀ x ∈ ks, RT (mvs ts) z x
  ze : z ∈ ks
  sub : ∀ x ∈ es, x ∈ ks
  few : es.length ≤ 840
  ball : ∀ k, k ≤ i → ∀ x, RN (mvs ts) z k x → x ∈ ks
  cl : ∀ x ∈ ks, ¬ x ∈ es → ∀ t ∈ mvs ts, led t x ∈ ks

section
variable {P : Program} {w : World} {K : PySem.W.Frag} {mg : Str → Option Value} {base : Heap} {C : Addr}

def sp_layers : Sp := fun vs H Q _ => ∃ (v : Addr) (n : Nat) (bs : List Btn) (z : List Nat), vs = [.ref v, .str (sOf z)] ∧ H v = some (.tup (vb bs)) ∧ (∀ b ∈ bs, b.at H ∧ Good n b) ∧ bs.length ≤ 7 ∧ n ≤ 24 ∧ z.length = n ∧ (∀ c ∈ z, Sign c) ∧ Few (mvs (turnsOf bs)) z ∧ Deep (mvs (turnsOf bs)) z ∧
  ∀ H' p ks, Same H H' → H p = none → KeysAt H' p ks → ks.Nodup → (∀ x, x ∈ ks ↔ RT (mvs (turnsOf bs)) z x) → Q (.ref p) H'
theorem sc_layers : FnScope ["_law_buttons_here", "_law_standing_here", "_law_turns", "_law_found", "_law_edge", "_law_far", "_law_later", "_law_here", "_law_turn_here", "_law_there", "_law_name"] ["_law_buttons_here", "_law_standing_here"] (defScope s_w_layers) := ⟨rfl, rfl, rfl, by decide +kernel, rfl, by decide +kernel, by decide +kernel⟩
theorem c_layers (T : Tx K mg C) (D : DefAt K mg "_law_layers" s_w_layers) (c1 : Callee P w K mg base 1 "_law_back" ["_law_turn_here"] sp_turned_back) (c2 : Callee P w K mg base 1 "_law_led" ["_law_standing_here", "_law_turn_here"] sp_led) :
    Callee P w K mg base 2 "_law_layers" ["_law_buttons_here", "_law_standing_here"] sp_layers := by
  obtain ⟨f, fd, hf, F⟩ := D
  refine ⟨f, fd, hf, F.kp, F.binds (ps := ["_law_buttons_here", "_law_standing_here"]) fun _ _ _ _ _ _ us hl => match us, hl with | [_, _], _ => rfl, F.ok sc_layers (fun vs H Q E h => ?_) (fun cdv A outer s H vs Q E hr h => ?_)⟩
  · obtain ⟨v, n, bs, z, rfl, _⟩ := h
    rfl
  · obtain ⟨v, n, bs, z, rfl, hv, hb, h7, h24, hz, hs, few, deep, q⟩ := h
    have hu := hu_of hr
    have hu2 : (cxOf CX0 P w K mg base ["_law_buttons_here", "_law_standing_here", "_law_turns", "_law_found", "_law_edge", "_law_far", "_law_later", "_law_here", "_law_turn_here", "_law_there", "_law_name"] "_law_layers" (defScope s_w_layers) f cdv A outer s H E).nox.A.units + 64 < cLine := hr.units
    refine ⟨_, pss_cons (ps_set (i := 2) sc_layers.nd rfl (.inl rfl) (pe_op op_cat
        (pe_lc (own := [("_law_name", 10), ("_law_turn_here", 8)]) (g := gTup K 2 (gCons (gName 10) (gCons (gName 8) gNil))) (tt := tYes) rfl sc_layers.nd (pi_tup (pv 0))
          (blkOk_by (N := ["_law_buttons_here", "_law_standing_here", "_law_turns", "_law_found", "_law_edge", "_law_far", "_law_later", "_law_here", "_law_turn_here", "_law_there", "_law_name"]) (sc := defScope s_w_layers) (by decide +kernel))
          (fun _ _ _ _ _ => pg_tup rfl (pgs_cons (pg_name (i := 10) sc_layers.nd rfl (.inl rfl)) (pgs_cons (pg_name (i := 8) sc_layers.nd rfl (.inl rfl)) pgs_nil))) (fun _ _ _ _ _ => pts_nil) (fun _ _ _ _ _ => pv 8))
        (pe_lc (own := [("_law_name", 10), ("_law_turn_here", 8)]) (g := gTup K 2 (gCons (gName 10) (gCons (gName 8) gNil))) (tt := tYes) rfl sc_layers.nd (pi_tup (pv 0))
          (blkOk_by (N := ["_law_buttons_here", "_law_standing_here", "_law_turns", "_law_found", "_law_edge", "_law_far", "_law_later", "_law_here", "_law_turn_here", "_law_there", "_law_name"]) (sc := defScope s_w_layers) (by decide +kernel))
          (fun _ _ _ _ _ => pg_tup rfl (pgs_cons (pg_name (i := 10) sc_layers.nd rfl (.inl rfl)) (pgs_cons (pg_name (i := 8) sc_layers.nd rfl (.inl rfl)) pgs_nil))) (fun _ _ _ _ _ => pts_nil) (fun _ _ _ _ _ => pe_cl c1 hr (by rfl) (pa_cons (pv 8) pa_nil)))))
      (pss_cons (ps_par (i := 3) (j := 4) rfl sc_layers.nd rfl rfl (by decide) rfl rfl (pa_cons (pe_disp (pps_cons (pv 1) pe_int pps_nil) rfl rfl (by simp) (by decide)) (pa_cons (pe_lst (pa_cons (pv 1) pa_nil)) pa_nil)) rfl)
      (pss_cons (ps_for PassesOwn.never rfl (pi_range2 (by rfl) T.range (pa_cons pe_int (pa_cons pe_int pa_nil))) (pg_name (i := 5) sc_layers.nd rfl (.inl rfl))
        (pss_cons (ps_set (i := 6) sc_layers.nd rfl (.inl rfl) (pe_lst pa_nil))
        (pss_cons (ps_for PassesOwn.never rfl (pi_list (pv 4)) (pg_name (i := 7) sc_layers.nd rfl (.inl rfl))
          (pss_one (ps_for PassesOwn.never rfl (pi_list (pv 2)) (pg_name (i := 8) sc_layers.nd rfl (.inl rfl))
            (pss_cons (ps_set (i := 9) sc_layers.nd rfl (.inl rfl) (pe_cl c2 hr (by rfl) (pa_cons (pv 7) (pa_cons (pv 8) pa_nil))))
            (pss_one (ps_if (pt_cmp (pc_dnotin hu (pv 9) (pv 3)))
              (pss_cons (ps_dput hu (pv 3) (pv 9) (pv 5) rfl)
              (pss_one (ps_expr (pe_bm PySem.F.plainAttrs_list PySem.F.slot_list_append PySem.F.type_list_append mt_append (pv 6) (pa_cons (pv 9) pa_nil))))) pss_nil))))))
        (pss_cons (ps_set (i := 4) sc_layers.nd rfl (.inl rfl) (pv 6))
        (pss_one (ps_if (pt_cmpR (op_eqD hu2) (pv 4) (pe_lst pa_nil) (nomark _)) (pss_one ps_break) pss_nil))))))
      (pss_one (ps_ret (pv 3))))), ?_⟩
    have hmt : ∀ t ∈ mvs (turnsOf bs), IsTurn n t := mvs_turn (turnsOf_turn fun b h => (hb b h).2)
    have shp : ∀ x, RT (mvs (turnsOf bs)) z x → x.length = n ∧ ∀ c ∈ x, Sign c := fun x hx => ⟨(hx.shape hmt hz).1, fun c hc => hs c ((hx.shape hmt hz).2 c hc)⟩
    have vbl : (vb bs).length = bs.length := List.length_map ..
    have vbi : ∀ (i : Nat) (hi : i < bs.length) (x : V), (vb bs)[i]? = some x → x = V.ref bs[i].ad := fun i hi x e => by
      unfold vb at e
      rw [List.getElem?_map, List.getElem?_eq_getElem hi] at e
      exact (Option.some.inj e).symm
    -- the turns
    refine ⟨_, rfl, v, rfl, ⟨_, SqT.of hv⟩, fun D1 hD1 => lc_it (walk_tup (xs := vb bs)) (fun i H2 => H2 = upd H D1 (.lst ((bs.take i).map fun b => V.ref b.ta))) rfl (fun i H2 _ e => by rw [e]; exact (same_upd hD1).sqt (SqT.of hv)) ?_ ?_⟩
    · rintro i y H2 H3 hi rfl ⟨rfl, hy⟩
      have hi2 : i < bs.length := by rw [← vbl]; exact hi
      have ey := vbi i hi2 y hy
      subst ey
      have hat := (hb _ (List.getElem_mem hi2)).1
      refine ⟨bs[i].ad, _, rfl, SqT.of ((same_upd hD1) _ _ hat.1), rfl, _, _, rfl, _, _, rfl, rfl, rfl, yes_el ⟨_, rfl, ?_⟩⟩
      refine lc_put (R := fun H4 => H4 = upd H D1 (.lst ((bs.take (i + 1)).map fun b => V.ref b.ta))) ?_ ?_
      · rw [List.length_map, List.length_take]
        exact small1000 (by omega)
      · rw [List.take_add_one, List.getElem?_eq_getElem hi2, List.map_append] <;> rfl
    rintro H2 rfl
    have s1 : Same H (upd H D1 (.lst ((bs.take (vb bs).length).map fun b => V.ref b.ta))) := same_upd hD1
    have etk : bs.take (vb bs).length = bs := by rw [vbl, List.take_length]
    rw [etk] at s1 ⊢
    -- and back
    refine ⟨_, rfl, v, rfl, ⟨_, SqT.of (s1 _ _ hv)⟩, fun D2 hD2 => ?_⟩
    have nD12 : D1 ≠ D2 := ne_of_none upd_same hD2
    have nD2 : H D2 = none := s1.free hD2
    refine lc_it (walk_tup (xs := vb bs)) (fun i H3 => ∃ tl : List (Addr × List Nat), Same (upd H D1 (.lst (bs.map fun b => V.ref b.ta))) H3 ∧ H3 D2 = some (.lst (tl.map fun q => V.ref q.1)) ∧ (∀ q ∈ tl, H3 q.1 = some (.tup (vz q.2))) ∧ tl.map (·.2) = (turnsOf (bs.take i)).map back)
      ⟨[], same_upd hD2, upd_same, by simp, rfl⟩ (fun i H2 _ ⟨_, sm, _⟩ => SqT.of (sm _ _ (s1 _ _ hv))) ?_ ?_
    · rintro i y H3 H4 hi ⟨tl, sm, hl, ht, hm⟩ ⟨rfl, hy⟩
      have hi2 : i < bs.length := by rw [← vbl]; exact hi
      have ey := vbi i hi2 y hy
      subst ey
      obtain ⟨hat, t, et, htt⟩ := hb _ (List.getElem_mem hi2)
      have hT : bs[i].tn.map V.int = vz t := by rw [et] <;> rfl
      have tll : tl.length = i := by
        have := congrArg List.length hm
        unfold turnsOf at this
        rw [List.length_map, List.length_map, List.length_map, List.length_take] at this
        omega
      refine ⟨bs[i].ad, _, rfl, SqT.of (sm _ _ (s1 _ _ hat.1)), rfl, _, _, rfl, _, _, rfl, rfl, rfl, yes_el ⟨_, rfl, bs[i].ta, n, t, rfl, by rw [← hT]; exact sm _ _ (s1 _ _ hat.2), htt, h24, fun H5 p s5 np hp => ?_⟩⟩
      refine ⟨_, s5 _ _ hl, by rw [List.length_map]; exact small1000 (by omega), tl ++ [(p, back t)], ?_, ?_, fun q hq => ?_, ?_⟩
      · exact same_put (sm.trans s5) hD2
      · rw [upd_same, List.map_append] <;> rfl
      · have kp : ∀ a xs, H5 a = some (.tup xs) → upd H5 D2 (.lst (tl.map (fun q => V.ref q.1) ++ [V.ref p])) a = some (.tup xs) := fun a xs e => by
          rw [upd_ne (ne_of e (s5 _ _ hl) (by intro z; cases z))]
          exact e
        rcases List.mem_append.mp hq with hq | hq
        · exact kp _ _ (s5 _ _ (ht q hq))
        · rw [List.mem_singleton.mp hq]
          exact kp _ _ hp
      · rw [List.map_append, hm, List.take_add_one, List.getElem?_eq_getElem hi2]
        show _ = (turnsOf (bs.take i ++ [bs[i]])).map back
        rw [turnsOf_snoc, List.map_append, et, toNat_iz] <;> rfl
    rintro H3 ⟨tl2, sm2, hl2, ht2, hm2⟩
    rw [vbl, List.take_length] at hm2
    have tll : tl2.length = bs.length := by
      have := congrArg List.length hm2
      unfold turnsOf at this
      rwa [List.length_map, List.length_map, List.length_map] at this
    have s13 := s1.trans sm2
    refine ⟨D1, D2, _, _, rfl, rfl, sm2 _ _ upd_same, hl2, by rw [List.length_map, List.length_map]; exact Nat.le_trans (by omega : _ ≤ 1000) (by decide), fun tn ntn => ?_⟩
    have s4 := same_upd (o := .lst ((bs.map fun b => V.ref b.ta) ++ tl2.map fun q => V.ref q.1)) ntn
    have s14 := s13.trans s4
    have htn : TnAt (upd H3 tn (.lst ((bs.map fun b => V.ref b.ta) ++ tl2.map fun q => V.ref q.1))) tn n (turnsOf bs) ((bs.map fun b => (b.ta, b.tn.map Int.toNat)) ++ tl2) := by
      refine ⟨?_, fun q hq => ?_, fun q hq => ?_, fun t => ?_⟩
      · rw [upd_same, List.map_append, List.map_map] <;> rfl
      · rcases List.mem_append.mp hq with hq | hq
        · obtain ⟨b, hb1, rfl⟩ := List.mem_map.mp hq
          obtain ⟨hat, t, et, htt⟩ := hb b hb1
          have h2 := s14 _ _ hat.2
          show _ = some (HO.tup (vz (b.tn.map Int.toNat)))
          rw [et, toNat_iz]
          rw [et] at h2
          exact h2
        · exact s4 _ _ (ht2 q hq)
      · refine hmt _ ?_
        unfold mvs
        rcases List.mem_append.mp hq with hq | hq
        · obtain ⟨b, hb1, rfl⟩ := List.mem_map.mp hq
          exact List.mem_append.mpr (.inl (List.mem_map.mpr ⟨b, hb1, rfl⟩))
        · refine List.mem_append.mpr (.inr ?_)
          rw [← hm2]
          exact List.mem_map.mpr ⟨q, hq, rfl⟩
      · rw [List.map_append, hm2, List.map_map] <;> exact Iff.rfl
    generalize htl : ((bs.map fun b => (b.ta, b.tn.map Int.toNat)) ++ tl2) = tl at htn
    generalize hH4 : upd H3 tn (.lst ((bs.map fun b => V.ref b.ta) ++ tl2.map fun q => V.ref q.1)) = H4 at htn s14 ⊢
    -- found, edge
    intro p np4
    have np : H p = none := s14.free np4
    have s5 : Same H4 (upd H4 p (.dK [])) := same_upd np4
    refine ⟨_, rfl, upd_same, [(Sum.inr (sOf z), .int 0)], rfl, by show 1 ≤ 15; decide, ?_⟩
    have b2 : ∀ a o, H4 a = some o → upd (upd H4 p (.dK [])) p (.dK (mergeK [] [(Sum.inr (sOf z), .int 0)])) a = some o := fun a o e => by
      rw [upd_ne (ne_of_none e np4)]
      exact s5 _ _ e
    refine ⟨_, rfl, by show 1 ≤ sizeLine; decide, fun e0 ne0 => ⟨_, _, rfl, ?_⟩⟩
    have s6 := same_upd (o := .lst [.str (sOf z)]) ne0
    refine ⟨_, _, rfl, ⟨by decide, by decide, by decide, by decide⟩, ?_⟩
    have fin : ∀ (H9 : Hp) (ks : List (List Nat)), Same H H9 → KeysAt H9 p ks → ks.Nodup → (∀ x ∈ ks, RT (mvs (turnsOf bs)) z x) → (∀ x, RT (mvs (turnsOf bs)) z x → x ∈ ks) → Q (.ref p) H9 := fun H9 ks a b c d e => q H9 p ks a np b c fun x => ⟨d x, e x⟩
    -- the layers
    refine for_it walk_range (fun i σ H2 => ∃ e ks es y5 y6 y7 y8 y9, σ = [some (.ref v), some (.str (sOf z)), some (.ref tn), some (.ref p), some (.ref e), y5, y6, y7, y8, y9, none] ∧ Wl H p e tn n (turnsOf bs) tl z i ks es H2) ?_ (fun _ _ _ _ _ => trivial) ?_ ?_
    · refine ⟨e0, [z], [z], none, none, none, none, none, rfl, fun a o e => s6 _ _ (b2 a o (s14 _ _ e)), np, ⟨_, s6 _ _ upd_same, rfl⟩, upd_same, ⟨s6 _ _ (b2 _ _ htn.lst), fun m hm => s6 _ _ (b2 _ _ (htn.at_ m hm)), htn.ok, htn.mem⟩, by simp, fun x hx => ?_, by simp, fun x hx => hx, by show 1 ≤ 840; decide, fun k hk x hx => ?_, fun x hx nx => absurd hx nx⟩
      · rw [List.mem_singleton.mp hx]
        exact .refl
      · cases hx with
        | refl => simp
        | step _ _ => omega
    · rintro j x σ H2 H2' hj ⟨e, ks, es, y5, y6, y7, y8, y9, rfl, W⟩ ⟨rfl, rfl⟩
      -- later = []
      refine ⟨Nat.zero_le _, fun l nl => ?_⟩
      have s7 := same_upd (o := .lst []) nl
      obtain ⟨kvs0, k01, k02⟩ := W.d
      have npl : p ≠ l := ne_of_none k01 nl
      have L0 : Lay H2' p l (mvs (turnsOf bs)) z ks [] (upd H2' l (.lst [])) := by
        refine ⟨But.of s7, npl, nl, ⟨kvs0, s7 _ _ k01, by rw [List.append_nil]; exact k02⟩, upd_same, by rw [List.append_nil]; exact W.nd, fun x hx => W.rt x (by simpa using hx)⟩
      -- for here in edge
      refine ⟨_, rfl, e, rfl, ⟨_, SqL.of (s7 _ _ W.lst)⟩, for_it (walk_list (xs := vt es)) (fun i σ H4 => ∃ ls y7 y8 y9, σ = [some (.ref v), some (.str (sOf z)), some (.ref tn), some (.ref p), some (.ref e), some (.int (1 + (j : Int))), some (.ref l), y7, y8, y9, none] ∧ Lay H2' p l (mvs (turnsOf bs)) z ks ls H4 ∧ ∀ x ∈ es.take i, ∀ t ∈ mvs (turnsOf bs), led t x ∈ ks ++ ls) ?_ ?_ ?_ ?_⟩
      · exact ⟨[], y7, y8, y9, rfl, L0, by simp⟩
      · rintro i σ H4 _ ⟨_, _, _, _, _, L, _⟩
        exact SqL.of (L.keep _ _ (ne_of W.lst k01 (by intro z; cases z)) W.lst)
      · rintro i x σ H4 H5 hi ⟨ls, z7, z8, z9, rfl, L, dn⟩ ⟨rfl, hx⟩
        have hi2 : i < es.length := by rw [← vt_len]; exact hi
        have hei : es[i]? = some es[i] := List.getElem?_eq_getElem hi2
        have ex : x = V.str (sOf es[i]) := by
          have e3 : (vt es)[i]? = some x := hx
          unfold vt at e3
          rw [List.getElem?_map, hei] at e3
          exact (Option.some.inj e3).symm
        subst ex
        have hmem : es[i] ∈ es := List.getElem_mem hi2
        have hrt := W.rt _ (W.sub _ hmem)
        -- for turn in turns
        have M0 := W.mov.but L.keep k01
        refine ⟨_, rfl, tn, rfl, ⟨_, SqL.of M0.lst⟩, for_it (walk_list (xs := tl.map fun q => V.ref q.1)) (fun k σ H6 => ∃ ls y8 y9, σ = [some (.ref v), some (.str (sOf z)), some (.ref tn), some (.ref p), some (.ref e), some (.int (1 + (j : Int))), some (.ref l), some (.str (sOf es[i])), y8, y9, none] ∧ Lay H2' p l (mvs (turnsOf bs)) z ks ls H6 ∧ (∀ x ∈ es.take i, ∀ t ∈ mvs (turnsOf bs), led t x ∈ ks ++ ls) ∧ ∀ m ∈ tl.take k, led m.2 es[i] ∈ ks ++ ls) ?_ ?_ ?_ ?_⟩
        · exact ⟨ls, z8, z9, rfl, L, dn, by simp⟩
        · rintro k σ H6 _ ⟨_, _, _, _, L6, _⟩
          exact SqL.of (W.mov.but L6.keep k01).lst
        · rintro k x σ H6 H7 hk ⟨ls, z8, z9, rfl, L, dn, dm⟩ ⟨rfl, hx⟩
          have hk2 : k < tl.length := by simpa using hk
          have hek : tl[k]? = some tl[k] := List.getElem?_eq_getElem hk2
          have ex : x = V.ref tl[k].1 := by
            rw [List.getElem?_map, hek] at hx
            exact (Option.some.inj hx).symm
          subst ex
          have hmk : tl[k] ∈ tl := List.getElem_mem hk2
          have M1 := W.mov.but L.keep k01
          have hin : tl[k].2 ∈ mvs (turnsOf bs) := (W.mov.mem _).mp (List.mem_map.mpr ⟨_, hmk, rfl⟩)
          -- there = led(here, turn)
          refine ⟨_, rfl, _, rfl, es[i], tl[k].2, tl[k].1, rfl, M1.at_ _ hmk, by rw [(shp _ hrt).1]; exact W.mov.ok _ hmk, by rw [(shp _ hrt).1]; exact h24, fun H8 s8 => ?_⟩
          have L8 := L.go s8
          obtain ⟨kvs, k1, k2⟩ := L8.d
          refine ⟨_, rfl, _, rfl, p, _, rfl, DGet.k (k := Sum.inr (sOf (led tl[k].2 es[i]))) k1, ?_⟩
          have rt8 : RT (mvs (turnsOf bs)) z (led tl[k].2 es[i]) := .step hrt hin
          have tk : ∀ P : Addr × List Nat → Prop, (∀ m ∈ tl.take k, P m) → P tl[k] → ∀ m ∈ tl.take (k + 1), P m := by
            intro P h1 h2 m hm
            rw [List.take_add_one, hek] at hm
            rcases List.mem_append.mp hm with q | q
            · exact h1 m q
            · rw [List.mem_singleton.mp q]
              exact h2
          by_cases hx : led tl[k].2 es[i] ∈ ks ++ ls
          · obtain ⟨v, ev⟩ := key_some k2 hx
            rw [ev]
            exact ⟨false, rfl, iteF ⟨ls, _, _, rfl, L8, dn, tk _ dm hx⟩⟩
          · have l840 := L8.few few
            rw [key_none k2 hx]
            refine ⟨true, rfl, iteT ?_⟩
            have kl : kvs.length = (ks ++ ls).length := by
              have := congrArg List.length k2
              unfold keysOf at this
              rwa [List.length_map, List.length_map] at this
            refine ⟨_, rfl, _, rfl, _, rfl, p, _, rfl, DPut.k (k := Sum.inr (sOf (led tl[k].2 es[i]))) k1 (by rw [kl]; exact small1000 (by omega)), ?_⟩
            have hl9 : upd H8 p (.dK (putK kvs (Sum.inr (sOf (led tl[k].2 es[i]))) (.int (1 + (j : Int))))) l = some (.lst (vt ls)) := by
              rw [upd_ne (Ne.symm npl)]
              exact L8.lst
            have ll : (vt ls).length < sizeLine := by
              rw [List.length_append] at l840
              rw [vt_len]
              exact small1000 (by omega)
            refine ⟨_, rfl, Or.inl ⟨rfl, _, SqL.of hl9⟩, _, rfl, l, _, _, rfl, rfl, hl9, ll, ?_⟩
            have L10 := L8.add k1 k2 hx rt8 (.int (1 + (j : Int)))
            have more : ∀ y, y ∈ ks ++ ls → y ∈ ks ++ (ls ++ [led tl[k].2 es[i]]) := fun y hy => by
              rw [← List.append_assoc]
              exact List.mem_append.mpr (.inl hy)
            refine ⟨ls ++ [led tl[k].2 es[i]], _, _, rfl, L10, fun x hx t ht => more _ (dn x hx t ht), tk _ (fun m hm => more _ (dm m hm)) ?_⟩
            rw [← List.append_assoc]
            exact List.mem_append.mpr (.inr (by simp))
        · rintro σ H6 ⟨ls, z8, z9, rfl, L, dn, dm⟩
          refine ⟨ls, _, _, _, rfl, L, fun x hx t ht => ?_⟩
          rw [List.take_add_one, hei] at hx
          rcases List.mem_append.mp hx with q | q
          · exact dn x q t ht
          · rw [List.mem_singleton.mp q]
            obtain ⟨m, hm, em⟩ := List.mem_map.mp ((W.mov.mem t).mpr ht)
            rw [← em]
            refine dm m ?_
            have : tl.take (tl.map fun q => V.ref q.1).length = tl := by rw [List.length_map, List.take_length]
            rw [this]
            exact hm
      · rintro σ H4 ⟨ls, z7, z8, z9, rfl, L, dn⟩
        have l840 := L.few few
        have dn' : ∀ x ∈ es, ∀ t ∈ mvs (turnsOf bs), led t x ∈ ks ++ ls := fun x hx => dn x (by
          have : es.take (vt es).length = es := by rw [vt_len, List.take_length]
          rw [this]
          exact hx)
        have all1 : ∀ x ∈ ks, ∀ t ∈ mvs (turnsOf bs), led t x ∈ ks ++ ls := fun x hx t ht => by
          by_cases hxe : x ∈ es
          · exact dn' x hxe t ht
          · exact List.mem_append.mpr (.inl (W.cl x hx hxe t ht))
        have W' : Wl H p l tn n (turnsOf bs) tl z (j + 1) (ks ++ ls) ls H4 := by
          refine ⟨fun a o ea => L.keep _ _ (ne_of_none ea np) (W.same _ _ ea), np, L.d, L.lst, W.mov.but L.keep k01, L.nd, L.rt, List.mem_append.mpr (.inl W.ze), fun x hx => List.mem_append.mpr (.inr hx), by rw [List.length_append] at l840; omega, fun k hk x hx => ?_, fun x hx nx t ht => ?_⟩
          · cases hx with
            | refl => exact List.mem_append.mpr (.inl W.ze)
            | @step k' y t hy ht => exact all1 y (W.ball k' (by omega) y hy) t ht
          · rcases List.mem_append.mp hx with q | q
            · exact all1 x q t ht
            · exact absurd q nx
        -- edge = later; if edge == []: break
        refine ⟨_, rfl, _, rfl, Nat.zero_le _, fun p2 np2 => ?_⟩
        have s9 := same_upd (o := .lst []) np2
        refine ⟨.list ((ls.map sOf).map .str), .list [], dp_vt (SqL.of (s9 _ _ W'.lst)), .lst (xs := []) (SqL.of upd_same) .nil, shaped_vt fun x hx => (shp x (W'.rt x (W'.sub x hx))).2, shaped_vt (es := []) (by simp), decide (ls = []), congrArg V.bl (eqv_vt_nil ls), ?_⟩
        obtain ⟨kvs9, k91, k92⟩ := W'.d
        by_cases he : ls = []
        · rw [decide_eq_true he]
          refine iteT ⟨_, rfl, fin _ (ks ++ ls) (W'.same.trans s9) ⟨kvs9, s9 _ _ k91, k92⟩ W'.nd W'.rt fun x hx => hx.closed W'.ze fun y hy t ht => W'.cl y hy (by rw [he]; simp) t ht⟩
        · rw [decide_eq_false he]
          exact iteF ⟨l, ks ++ ls, ls, _, _, _, _, _, rfl, W'.same.trans s9, np, ⟨kvs9, s9 _ _ k91, k92⟩, s9 _ _ W'.lst, W'.mov.go s9, W'.nd, W'.rt, W'.ze, W'.sub, W'.few, W'.ball, W'.cl⟩
    · rintro σ H2 ⟨e, ks, es, y5, y6, y7, y8, y9, rfl, W⟩
      refine ⟨_, rfl, fin _ ks W.same W.d W.nd W.rt fun x hx => ?_⟩
      obtain ⟨k, hk, hx'⟩ := deep x hx
      exact W.ball k hk x hx'
end
end SB
set_option Elab.async false
set_option linter.all false
set_option maxRecDepth 100000
set_option autoImplicit false
set_option maxHeartbeats 4000000
namespace SB
open PySem PySem.Spec PyProof.Rows L2

/-- what the law's end needs of the moves -/
structure Fit (n : Nat) (ms : List (List Nat)) : Prop where
  few : ∀ z : List Nat, z.length = n → Few ms z
  deep : ∀ z : List Nat, z.length = n → Deep ms z
  due : ∀ z : List Nat, z.length = n → ∃ D, IsDue ms z D ∧ D.length ≤ 840
  sym : ∀ z x : List Nat, z.length = n → RT ms z x → RT ms x z
theorem RT.same {ms ms' : List (List Nat)} (h : ∀ t, t ∈ ms ↔ t ∈ ms') {z x : List Nat} : RT ms z x ↔ RT ms' z x := ⟨RT.mono fun t => (h t).mp, RT.mono fun t => (h t).mpr⟩
theorem board_but {C : Addr} {H H' : Hp} {b c : Addr} {n : Nat} {bs : List Btn} (h : BoardAt C H b n bs) (cu : CupAt H c) (s : But c H H') : BoardAt C H' b n bs := by
  obtain ⟨dx, bt, ti, h1, h2⟩ := h.ob
  obtain ⟨g, m, u, e⟩ := cu
  exact ⟨⟨dx, bt, ti, s _ _ (ne_of h1 e (by intro z; cases z)) h1, s _ _ (ne_of h2 e (by intro z; cases z)) h2⟩, fun d hd => btn_but (h.at_ d hd) ⟨g, m, u, e⟩ s, h.good⟩
theorem inV_vt (y : List Nat) (D : List (List Nat)) : inV (.str (sOf y)) (vt D) = decide (y ∈ D) := by
  unfold inV vt
  rw [List.any_map]
  by_cases h : y ∈ D
  · rw [decide_eq_true h]
    exact List.any_eq_true.mpr ⟨y, h, by show (sOf y == sOf y) = true; exact beq_self_eq_true _⟩
  · rw [decide_eq_false h]
    refine Bool.eq_false_iff.mpr fun e => h ?_
    obtain ⟨x, hx, ex⟩ := List.any_eq_true.mp e
    have : sOf x = sOf y := beq_iff_eq.mp ex
    rw [← sOf_inj this]
    exact hx
theorem flat_vt (D : List (List Nat)) : (vt D).all flatV = true := by
  unfold vt
  rw [List.all_map]
  exact List.all_eq_true.mpr fun x _ => rfl
theorem vt_map (D : List (List Nat)) : (D.map sOf).map V.str = vt D := by
  unfold vt
  rw [List.map_map] <;> rfl
theorem vt_at {D : List (List Nat)} {d : List Nat} {i : Nat} (h : D[i]? = some d) : (vt D)[i]? = some (V.str (sOf d)) := by
  unfold vt
  rw [List.getElem?_map, h] <;> rfl
/-- the second told -/
def told2 (D : List (List Nat)) (n : Int) : PyData := .list [.tuple ((D.map sOf).map .str), .int n]
theorem told2_dp {K : PySem.W.Frag} {H : Hp} {a t : Addr} {D : List (List Nat)} {n : Int} (ha : H a = some (.lst [.ref t, .int n])) (ht : H t = some (.tup (vt D))) : Dp K H (.ref a) (told2 D n) := by
  refine .lst (xs := [.ref t, .int n]) (SqL.of ha) (.cons (.tup (xs := vt D) (SqT.of ht) ?_) (.cons (.int n) .nil))
  rw [← vt_map]
  exact dpAll_strs _
theorem told2_shaped {D : List (List Nat)} {n : Int} (h : ∀ x ∈ D, ∀ c ∈ x, Sign c) : SeqAt.shaped (told2 D n) = true := by
  have e1 := depth_strs (D.map sOf)
  have e2 := canLay_strs (D.map sOf) fun y hy => by
    obtain ⟨x, hx, rfl⟩ := List.mem_map.mp hy
    exact strOk_sOf (h x hx)
  unfold SeqAt.shaped told2
  simp only [PyData.canLay0, PyData.canLayAll0, PyData.depth, PyData.depthAll, e1, e2]
  decide
theorem told2_eq {D : List (List Nat)} {n : Int} (h : ∀ x ∈ D, ∀ c ∈ x, Sign c) : PyData.eqv (told2 D n) (told2 D n) = true := SeqAt.eqv_refl _ (SeqAt.canLay_of_shaped (told2_shaped h))
theorem told_ok {D : List (List Nat)} {d : List Nat} {n : Nat} (n24 : n ≤ 24) (d840 : D.length ≤ 840) (hD : ∀ x ∈ D, x.length = n ∧ ∀ c ∈ x, Sign c) (hd : d ∈ D) : ToldFits ((D.length : Nat) : Int) (D.map sOf) (sOf d) := by
  have one : ∀ x ∈ D, (sOf x).length ≤ 30 ∧ ∀ c ∈ (sOf x).cps.toList, c < 16 ^ 8 := fun x hx => by
    refine ⟨by rw [sOf_len, (hD x hx).1]; omega, fun c hc => ?_⟩
    have e : (sOf x).cps.toList = x := by
      show x.toArray.toList = x
      simp
    rw [e] at hc
    have := (hD x hx).2 c hc
    unfold Sign at this
    omega
  refine ⟨by omega, by rw [List.length_map]; omega, fun k hk => ?_, one d hd⟩
  obtain ⟨x, hx, rfl⟩ := List.mem_map.mp hk
  exact one x hx
theorem tIf_pick {Q : VK} {σ : L2.St} {H : Hp} {b : Bool} {i j : Int} (h : Q (.int (if b = true then i else j)) H) : if b = true then tC (.int i) σ H Q else tC (.int j) σ H Q := by
  cases b
  · exact h
  · exact h
/-- the least of all that is reached -/
theorem due_head {ms : List (List Nat)} {z : List Nat} {D : List (List Nat)} (h : IsDue ms z D) : ∃ d, D[0]? = some d ∧ d ∈ D ∧ ∀ x ∈ D, d ≤ x := by
  have hz := (h.mem z).mpr .refl
  have asc := h.asc
  cases D with
  | nil => cases hz
  | cons d r =>
    refine ⟨d, rfl, List.mem_cons_self, fun x hx => ?_⟩
    rcases List.mem_cons.mp hx with e | hx
    · rw [e]
      exact List.le_refl d
    · exact List.le_of_lt ((List.pairwise_cons.mp asc).1 x hx)
/-- one list for all that reach one another -/
theorem due_move {n : Nat} {ms : List (List Nat)} (fit : Fit n ms) {z x : List Nat} {D : List (List Nat)} (hz : z.length = n) (h : IsDue ms z D) (hx : RT ms z x) : IsDue ms x D :=
  ⟨h.asc, fun y => ⟨fun hy => (fit.sym z x hz hx).trans ((h.mem y).mp hy), fun hy => (h.mem y).mpr (hx.trans hy)⟩⟩

section
variable {P : Program} {w : World} {K : PySem.W.Frag} {mg : Str → Option Value} {base : Heap} {C : Addr}

def sp_right : Sp := fun vs H Q _ => ∃ c : Addr, vs = [.ref c] ∧ CupAt H c ∧ ∀ H', But c H H' → Q (.bl true) H'
theorem sc_right : FnScope ["_law_cup_here", "_law_pick", "_law_n", "_law_buttons_here", "_law_board", "_law_one_here", "_law_two", "_law_due", "_law_told"] ["_law_cup_here"] (defScope s_w_right) := ⟨rfl, rfl, rfl, by decide +kernel, rfl, by decide +kernel, by decide +kernel⟩
theorem ok_right {f fi : Addr} {fd fdi : FuncData} (T : Tx K mg C) (F : Fun K "_law_right" "_law_right" s_w_right f fd) (M : Mk K C fi) (bI : Binds K fdi ["self", "size", "buttons", "ties"] []) (FI : FnOk P w K mg base CX0 5 fi fdi ["self", "size", "buttons", "ties"] (sp_init C))
    (fit : ∀ (n : Nat) (bs : List Btn), (∀ b ∈ bs, Good n b) → (n ≤ 6 ∨ (n = 24 ∧ bs.length ≤ 1)) → Fit n (mvs (turnsOf bs)))
    (c1 : Callee P w K mg base 1 "_law_sip" ["_law_cup_here", "_law_top"] sp_sip) (c2 : Callee P w K mg base 4 "_law_buttons" ["_law_cup_here", "_law_n", "_law_top"] sp_buttons) (c3 : Callee P w K mg base 3 "_law_standing" ["_law_cup_here", "_law_n"] sp_standing)
    (c4 : Callee P w K mg base 2 "_law_layers" ["_law_buttons_here", "_law_standing_here"] sp_layers) (c5 : Callee P w K mg base 2 "_law_one" ["_law_cup_here", "_law_some"] sp_one)
    (d1 : Callee P w K mg base 4 "count_reached" ["board", "standing"] (sp_count C)) (d2 : Callee P w K mg base 4 "all_reached" ["board", "standing"] (sp_all C)) (d3 : Callee P w K mg base 5 "least" ["board", "standing"] (sp_least C)) (d4 : Callee P w K mg base 5 "goes" ["board", "one", "other"] (sp_goes C))
    (e1 : CalleeK P w K mg base 4 "count_reached" ["board", "standing"] ["standing", "board"] g02r g02r (sp_count C)) (e2 : CalleeK P w K mg base 4 "all_reached" ["board", "standing"] ["board", "standing"] g02 g02 (sp_all C))
    (e3 : CalleeK P w K mg base 5 "least" ["board", "standing"] ["standing", "board"] g02r g02r (sp_least C)) (e4 : CalleeK P w K mg base 5 "goes" ["board", "one", "other"] ["one", "other"] g12 g12 (sp_goes C)) :
    FnG P w K mg base 7 f fd ["_law_cup_here"] sp_right := by
  refine fnG_of F sc_right (fun vs H Q E h => ?_) (fun cdv A outer s H vs Q hr hgd h => ?_)
  · obtain ⟨c, rfl, _⟩ := h
    rfl
  · obtain ⟨c, rfl, hc, q⟩ := h
    have hu2 : (cxOf CX0 P w K mg base ["_law_cup_here", "_law_pick", "_law_n", "_law_buttons_here", "_law_board", "_law_one_here", "_law_two", "_law_due", "_law_told"] "_law_right" (defScope s_w_right) f cdv A outer s H E0).nox.A.units + 64 < cLine := hr.units
    have hg2 : (cxOf CX0 P w K mg base ["_law_cup_here", "_law_pick", "_law_n", "_law_buttons_here", "_law_board", "_law_one_here", "_law_two", "_law_due", "_law_told"] "_law_right" (defScope s_w_right) f cdv A outer s H E0).nox.A.guards = some [] := hgd
    refine ⟨_, pss_cons (ps_set (i := 1) sc_right.nd rfl (.inl rfl) (pe_cl c1 (hr.mono (by decide)) (by rfl) (pa_cons (pv 0) (pa_cons pe_int pa_nil))))
      (pss_cons (ps_set (i := 2) sc_right.nd rfl (.inl rfl) (pe_ifExp (pt_cmpR op_lt (pv 1) pe_int (nomark _)) (pe_ix ix_list (pe_lst (pa_cons pe_int (pa_cons pe_int (pa_cons pe_int pa_nil)))) (pv 1) (fun _ _ => rfl)) (pe_op op_add pe_int (pe_cl c1 (hr.mono (by decide)) (by rfl) (pa_cons (pv 0) (pa_cons pe_int pa_nil))))))
      (pss_cons (ps_set (i := 3) sc_right.nd rfl (.inl rfl) (pe_cl c2 (hr.mono (by decide)) (by rfl) (pa_cons (pv 0) (pa_cons (pv 2) (pa_cons (pe_ifExp (pt_cmpR op_eq (pv 2) pe_int (nomark _)) pe_int pe_int) pa_nil)))))
      (pss_cons (ps_par3 (i := 4) (j := 5) (l := 6) rfl sc_right.nd rfl rfl rfl (by decide) (by decide) (by decide) rfl rfl rfl
        (pa_cons (pe_make M FI (hr.mono (by decide)) (by rfl) T.mgC bI .nil pass0 (pa_cons (pv 2) (pa_cons (pv 3) (pa_cons (pe_tup pa_nil) pa_nil))))
          (pa_cons (pe_cl c3 (hr.mono (by decide)) (by rfl) (pa_cons (pv 0) (pa_cons (pv 2) pa_nil))) (pa_cons (pe_cl c3 (hr.mono (by decide)) (by rfl) (pa_cons (pv 0) (pa_cons (pv 2) pa_nil))) pa_nil))) (by rfl))
      (pss_cons (ps_set (i := 7) sc_right.nd rfl (.inl rfl) (pe_callB (cr_sortLS hu2) (by rfl) T.sorted bt_sorted (pa_cons (pe_callTy (call_list_dK rfl) (by rfl) T.list bt_list (pa_cons (pe_cl c4 (hr.mono (by decide)) (by rfl) (pa_cons (pv 3) (pa_cons (pv 5) pa_nil))) pa_nil)) pa_nil)))
      (pss_cons (ps_if (pt_cmpR op_eq (pe_cl c1 (hr.mono (by decide)) (by rfl) (pa_cons (pv 0) (pa_cons pe_int pa_nil))) pe_int (nomark _)) (pss_one (ps_set (i := 6) sc_right.nd rfl (.inl rfl) (pe_cl c5 (hr.mono (by decide)) (by rfl) (pa_cons (pv 0) (pa_cons (pv 7) pa_nil))))) pss_nil)
      (pss_cons (ps_set (i := 8) sc_right.nd rfl (.inl rfl) (pe_lst (pa_cons (pe_cl d1 (hr.mono (by decide)) (by rfl) (pa_cons (pv 4) (pa_cons (pv 5) pa_nil))) (pa_cons (pe_cl d2 (hr.mono (by decide)) (by rfl) (pa_cons (pv 4) (pa_cons (pv 5) pa_nil))) (pa_cons (pe_cl d3 (hr.mono (by decide)) (by rfl) (pa_cons (pv 4) (pa_cons (pv 5) pa_nil))) pa_nil)))))
      (pss_cons (ps_if (pt_cmpR op_ne (pe_callB (cr_reprTold hg2 hu2) (by rfl) T.repr bt_repr (pa_cons (pv 8) pa_nil))
          (pe_callB (cr_reprTold hg2 hu2) (by rfl) T.repr bt_repr (pa_cons (pe_lst (pa_cons (pe_callB call_len (by rfl) T.len bt_len (pa_cons (pv 7) pa_nil)) (pa_cons (pe_callTy call_tuple_of (by rfl) T.tuple bt_tuple (pa_cons (pv 7) pa_nil)) (pa_cons (pe_ix ix_list (pv 7) pe_int (fun _ _ => rfl)) pa_nil)))) pa_nil)) (nomark _)) pss_never pss_nil)
      (pss_cons (ps_if (PW.pt (pw_or (pt_cmpR op_ne (pe_callB cr_reprBl (by rfl) T.repr bt_repr (pa_cons (pe_cl d4 (hr.mono (by decide)) (by rfl) (pa_cons (pv 4) (pa_cons (pv 5) (pa_cons (pv 6) pa_nil)))) pa_nil)) (pe_callB cr_reprBl (by rfl) T.repr bt_repr (pa_cons (pe_cmpR op_in_seq (pv 6) (pv 7) rfl) pa_nil)) (nomark _))
          (pw_or1 (pt_cmpR op_ne (pe_ck e4 (hr.mono (by decide)) (by rfl) (pa_cons (pv 4) pa_nil) (pk_cons (nm := some "one") (pv 6) (pk_cons (nm := some "other") (pv 5) pk_nil))) (pe_cmpR op_in_seq (pv 6) (pv 7) rfl) (nomark _))))) pss_never pss_nil)
      (pss_cons (ps_set (i := 8) sc_right.nd rfl (.inl rfl) (pe_lst (pa_cons (pe_ck0 e2 (hr.mono (by decide)) (by rfl) (pk_cons (nm := some "board") (pv 4) (pk_cons (nm := some "standing") (pv 5) pk_nil))) (pa_cons (pe_ck0 e1 (hr.mono (by decide)) (by rfl) (pk_cons (nm := some "standing") (pv 5) (pk_cons (nm := some "board") (pv 4) pk_nil))) pa_nil))))
      (pss_cons (ps_if (PW.pt (pw_or (pt_cmpR (op_neD hu2) (pv 8) (pe_lst (pa_cons (pe_callTy call_tuple_of (by rfl) T.tuple bt_tuple (pa_cons (pv 7) pa_nil)) (pa_cons (pe_callB call_len (by rfl) T.len bt_len (pa_cons (pv 7) pa_nil)) pa_nil))) (nomark _))
          (pw_or1 (pt_cmpR op_gt_str (pe_ck0 e3 (hr.mono (by decide)) (by rfl) (pk_cons (nm := some "standing") (pv 6) (pk_cons (nm := some "board") (pv 4) pk_nil))) (pv 6) (nomark _))))) pss_never pss_nil)
      (pss_one (ps_ret (pe_and (pe_cmpR op_eq (pe_cmpR op_eq (pe_cl d3 (hr.mono (by decide)) (by rfl) (pa_cons (pv 4) (pa_cons (pv 6) pa_nil))) (pe_ix ix_list (pv 7) pe_int (fun _ _ => rfl)) (nomark _)) (pe_cmpR op_in_seq (pv 6) (pv 7) rfl) (nomark _))
        (pe_one (pe_cmpR op_eq (pe_cl d3 (hr.mono (by decide)) (by rfl) (pa_cons (pv 4) (pa_cons (pe_ix ix_list (pv 7) pe_int (fun _ _ => rfl)) pa_nil))) (pe_ix ix_list (pv 7) pe_int (fun _ _ => rfl)) (nomark _)))))))))))))))), ?_⟩
    refine ⟨_, rfl, c, 24, rfl, by decide, by decide, hc, fun H1 pick p0 p24 b1 cu1 => ?_⟩
    -- n
    refine ⟨_, rfl, _, _, rfl, rfl, _, rfl, ite2 (fun hp => ?_) fun hp => ?_⟩
    focus
      have hp1 := of_decide_eq_true hp
      refine ⟨by show 3 ≤ sizeLine; decide, fun l3 nl3 => ?_⟩
      obtain ⟨xn, hx, ex⟩ := at_int (xs := [V.int 24, V.int 6, V.int 5]) p0 (by show pick < 3; exact hp1)
      obtain ⟨n, hn, n1, rfl⟩ : ∃ n : Nat, (n ≤ 6 ∨ n = 24) ∧ 1 ≤ n ∧ xn = .int (n : Int) := by
        simp only [List.mem_cons, List.not_mem_nil, or_false] at hx
        rcases hx with rfl | rfl | rfl
        · exact ⟨24, .inr rfl, by decide, rfl⟩
        · exact ⟨6, .inl (by decide), by decide, rfl⟩
        · exact ⟨5, .inl (by decide), by decide, rfl⟩
      refine ⟨_, rfl, l3, _, _, .int (n : Int), rfl, rfl, SqL.of upd_same, ex, ?_⟩
      have b2 := b1.trans (But.of (same_upd (o := .lst [V.int 24, V.int 6, V.int 5]) nl3))
      have cu2 := cu1.go (same_upd (o := .lst [V.int 24, V.int 6, V.int 5]) nl3)
    rotate_left
    focus
      refine ⟨_, rfl, c, 4, rfl, by decide, by decide, cu1, fun H2 fq f0 f1 b2' cu2 => ?_⟩
      obtain ⟨j, rfl⟩ := Int.eq_ofNat_of_zero_le f0
      have ej : (1 : Int) + (j : Int) = ((1 + j : Nat) : Int) := by omega
      refine ⟨_, _, rfl, rfl, ?_⟩
      dsimp only
      rw [ej]
      obtain ⟨n, en⟩ : ∃ n, n = 1 + j := ⟨_, rfl⟩
      have hn : n ≤ 6 ∨ n = 24 := by omega
      have n1 : 1 ≤ n := by omega
      rw [← en]
      have b2 := b1.trans b2'
    all_goals
      have n24 : n ≤ 24 := by omega
      -- buttons
      refine ⟨_, rfl, _, rfl, _, rfl, rfl, _, rfl, tIf_pick ?_⟩
      have et : (if decide (V.int (n : Int) = V.int 24) = true then (1 : Int) else 3) = ((if n = 24 then 1 else 3 : Nat) : Int) := by
        by_cases e : n = 24
        · subst e
          rfl
        · rw [if_neg e, decide_eq_false (fun z => e (by have := V.int.inj z; omega))] <;> rfl
      rw [et]
      refine ⟨c, n, if n = 24 then 1 else 3, rfl, n1, n24, by split <;> omega, cu2, fun H3 v bs b3 cu3 nv hv ok hl => ?_⟩
      have hfit : n ≤ 6 ∨ (n = 24 ∧ bs.length ≤ 1) := by
        by_cases e : n = 24
        · rw [if_pos e] at hl
          exact .inr ⟨e, hl⟩
        · exact .inl (by omega)
      have few := ok.few
      -- Board
      refine ⟨_, rfl, _, rfl, Nat.zero_le _, fun tt ntt => ?_⟩
      have s4 := same_upd (o := .tup []) ntt
      intro x dx nx ndx nex
      have nx2 : upd (upd H3 tt (.tup [])) dx (.own x) x = none := by rw [upd_ne (Ne.symm nex)]; exact nx
      have sAB := (same_upd (o := .own x) ndx).trans (same_upd (o := .ins C dx []) nx2)
      refine ⟨x, dx, n, v, tt, bs, rfl, upd_same, sAB _ _ (s4 _ _ hv), ok.same (s4.trans sAB), sAB _ _ upd_same, n1, n24, fun H5 ys keep py bd => ⟨rfl, ?_⟩⟩
      have s35 : Same H3 H5 := s4.trans fun b o e => keep b o (sAB b o e) (ne_of_none e nx)
      have cu5 := cu3.go s35
      have yl := py.length_eq
      have hmm : ∀ t, t ∈ mvs (turnsOf bs) ↔ t ∈ mvs (turnsOf ys) := fun t => by
        have h1 : (turnsOf ys).Perm (turnsOf bs) := py.map _
        unfold mvs
        rw [List.mem_append, List.mem_append, h1.mem_iff, (h1.map back).mem_iff]
      -- standings
      refine ⟨_, rfl, _, rfl, c, n, rfl, n24, cu5, fun H6 z b6 cu6 hz sz => ?_⟩
      refine ⟨_, rfl, _, rfl, c, n, rfl, n24, cu6, fun H7 y b7 cu7 hy sy => ⟨_, _, _, rfl, ?_⟩⟩
      have bd7 : BoardAt C H7 x n ys := board_but (board_but bd cu5 b6) cu6 b7
      have hv7 : H7 v = some (.tup (vb bs)) := tup_but (tup_but (s35 _ _ hv) cu5 b6) cu6 b7
      have ok5 := ok.same s35
      have hb7 : ∀ b ∈ bs, b.at H7 ∧ Good n b := fun b hb => ⟨btn_but (btn_but (ok5.at_ b hb) cu5 b6) cu6 b7, ok.good b hb⟩
      have fitb := fit n bs ok.good hfit
      have fity := fit n ys bd.good (by rw [yl]; exact hfit)
      -- due
      refine ⟨_, rfl, _, rfl, v, n, bs, z, rfl, hv7, hb7, few, n24, hz, sz, fitb.few z hz, fitb.deep z hz, fun H8 pk ks s8 npk ⟨kvs, k1, k2⟩ nd hk => ?_⟩
      refine ⟨pk, kvs, rfl, k1, fun l nl => ?_⟩
      have ekv : (kvs.map fun kv => kV kv.1) = (ks.map sOf).map V.str := by
        have : (kvs.map fun kv => kV kv.1) = (kvs.map (·.1)).map kV := by rw [List.map_map] <;> rfl
        rw [this, k2]
        unfold keysOf
        rw [List.map_map, List.map_map] <;> rfl
      rw [ekv]
      refine ⟨l, ks.map sOf, rfl, SqL.of upd_same, fun du ndu => ?_⟩
      obtain ⟨D, dueD, d840⟩ := fity.due z hz
      have es := sorted_due nd dueD.asc fun x => (hk x).trans ((RT.same hmm).trans (dueD.mem x).symm)
      rw [es, vt_map D]
      have s9 := (s8.trans (same_upd (o := .lst ((ks.map sOf).map V.str)) nl)).trans (same_upd (o := .lst (vt D)) ndu)
      have cu9 := cu7.go s9
      have bd9 := bd7.same s9
      have nduc : du ≠ c := (cu7.go (s8.trans (same_upd (o := .lst ((ks.map sOf).map V.str)) nl))).ne ndu
      obtain ⟨d0, hd0, md0, ld0⟩ := due_head dueD
      have hmt : ∀ t ∈ mvs (turnsOf ys), IsTurn n t := mvs_turn (turnsOf_turn bd.good)
      have shD : ∀ x ∈ D, x.length = n ∧ ∀ c ∈ x, Sign c := fun x hx => by
        have := ((dueD.mem x).mp hx).shape hmt hz
        exact ⟨this.1, fun c hc => sz c (this.2 c hc)⟩
      have b9 := ((((b2.trans b3).trans (But.of s35)).trans b6).trans b7).trans (But.of s9)
      -- two
      refine ⟨_, rfl, c, 2, rfl, by decide, by decide, cu9, fun H10 fr f0 f1 b10 cu10 => ⟨rfl, _, rfl, ite2 (fun _ => ?_) fun _ => ?_⟩⟩
      focus
        refine ⟨_, rfl, _, rfl, .inl ⟨c, du, vt D, rfl, b10 _ _ nduc upd_same, nduc, by rw [vt_len]; exact List.length_pos_of_mem md0, by rw [vt_len]; omega, cu10, fun H11 x' hx' b11' cu11 => ?_⟩⟩
        obtain ⟨y2, hy2, rfl⟩ := List.mem_map.mp hx'
        have hyl := (shD y2 hy2).1
        have sy2 := (shD y2 hy2).2
        have b11 := b10.trans b11'
      rotate_left
      focus
        obtain ⟨y2, ey2⟩ : ∃ y2, y2 = y := ⟨_, rfl⟩
        subst ey2
        have hyl := hy
        have sy2 := sy
        have b11 := b10
        have cu11 := cu10
      all_goals
        have bd11 := board_but bd9 cu9 b11
        have du11 := b11 _ _ nduc upd_same
        obtain ⟨D2, dueD2, d2840⟩ := fity.due y2 hyl
        obtain ⟨e0, he0, me0, le0⟩ := due_head dueD2
        have few2 : ys.length ≤ 7 := by omega
        have A1 : Ask C _ x n ys z D := ⟨bd11, n24, few2, hz, sz, dueD, d840⟩
        have A2 : Ask C _ x n ys y2 D2 := ⟨bd11, n24, few2, hyl, sy2, dueD2, d2840⟩
        have A3 : Ask C _ x n ys d0 D := ⟨bd11, n24, few2, (shD d0 md0).1, (shD d0 md0).2, due_move fity hz dueD ((dueD.mem d0).mp md0), d840⟩
        -- told
        refine ⟨_, rfl, _, rfl, x, n, ys, z, D, rfl, A1, fun HB sB => ?_⟩
        refine ⟨_, rfl, _, rfl, x, n, ys, z, D, rfl, A1.same sB, fun HC t sC nt ht => ?_⟩
        refine ⟨_, rfl, _, rfl, x, n, ys, z, D, d0, rfl, A1.same (sB.trans sC), hd0, fun HD sD => ?_⟩
        refine ⟨by show 3 ≤ sizeLine; decide, fun tl ntl => ?_⟩
        have s12 := ((sB.trans sC).trans sD).trans (same_upd (o := .lst [.int (D.length : Nat), .ref t, .str (sOf d0)]) ntl)
        have ht12 : upd HD tl (.lst [.int (D.length : Nat), .ref t, .str (sOf d0)]) t = some (.tup ((D.map sOf).map V.str)) := by
          rw [vt_map]
          exact same_upd ntl _ _ (sD _ _ ht)
        have fits := told_ok n24 d840 shD md0
        -- repr
        refine ⟨_, rfl, tl, t, _, D.map sOf, sOf d0, rfl, SqL.of upd_same, SqT.of ht12, fits, ?_⟩
        refine ⟨_, rfl, _, D.length, rfl, .inl ⟨_, SqL.of (s12 _ _ du11), (vt_len D).symm⟩, _, rfl, du, _, rfl, .inl ⟨SqL.of (s12 _ _ du11), fun t2 nt2 => ?_⟩⟩
        have s13 := s12.trans (same_upd (o := .tup (vt D)) nt2)
        refine ⟨_, rfl, du, _, _, .str (sOf d0), rfl, rfl, SqL.of (s13 _ _ du11), atI_nat (j := 0) (vt_at hd0), by show 3 ≤ sizeLine; decide, fun tl2 ntl2 => ?_⟩
        have s14 := s13.trans (same_upd (o := .lst [.int (D.length : Nat), .ref t2, .str (sOf d0)]) ntl2)
        refine ⟨tl2, t2, _, D.map sOf, sOf d0, rfl, SqL.of upd_same, SqT.of (by rw [vt_map]; exact same_upd ntl2 _ _ upd_same), fits, rfl, false, congrArg V.bl (by rw [decide_eq_true rfl] <;> rfl), iteF ?_⟩
        -- goes
        have A14 := A1.same s14
        refine ⟨_, rfl, _, rfl, _, rfl, x, n, ys, z, y2, D, rfl, A14, hyl, sy2, fun HG sG => ?_⟩
        have s15 := s14.trans sG
        refine ⟨_, rfl, _, rfl, _, rfl, du, _, rfl, .inl (SqL.of (s15 _ _ du11)), rfl, flat_vt D, _, rfl, rfl, false, ?_, iteF ?_⟩
        focus
          refine congrArg V.bl ?_
          show (!decide (V.str (boolText (decide (y2 ∈ D))) = V.str (boolText (inV (.str (sOf y2)) (vt D))))) = false
          rw [inV_vt, decide_eq_true rfl] <;> rfl
        refine ⟨_, rfl, _, rfl, _, rfl, x, n, ys, y2, z, D2, rfl, A2.same s15, hz, sz, fun HI sI => ?_⟩
        have s16 := s15.trans sI
        have sw : (z ∈ D2) ↔ (y2 ∈ D) := ⟨fun h => (dueD.mem y2).mpr (fity.sym _ _ hyl ((dueD2.mem z).mp h)), fun h => (dueD2.mem z).mpr (fity.sym _ _ hz ((dueD.mem y2).mp h))⟩
        refine ⟨_, rfl, _, rfl, du, _, rfl, .inl (SqL.of (s16 _ _ du11)), rfl, flat_vt D, rfl, false, ?_, iteF ?_⟩
        focus
          refine congrArg V.bl ?_
          show (!decide (V.bl (decide (z ∈ D2)) = V.bl (inV (.str (sOf y2)) (vt D)))) = false
          rw [inV_vt, show decide (z ∈ D2) = decide (y2 ∈ D) from by simp only [sw], decide_eq_true rfl] <;> rfl
        -- told again
        refine ⟨_, rfl, _, rfl, x, n, ys, z, D, rfl, A1.same s16, fun HJ t5 sJ nt5 ht5 => ?_⟩
        have s17 := s16.trans sJ
        refine ⟨_, rfl, _, rfl, x, n, ys, z, D, rfl, A1.same s17, fun HK sK => ?_⟩
        have s18 := s17.trans sK
        refine ⟨by show 2 ≤ sizeLine; decide, fun tl3 ntl3 => ?_⟩
        have s19 := same_upd (o := .lst [.ref t5, .int (D.length : Nat)]) ntl3
        have s20 := s18.trans s19
        refine ⟨_, rfl, _, rfl, du, _, rfl, .inl ⟨SqL.of (s20 _ _ du11), fun t6 nt6 => ?_⟩⟩
        have s21 := same_upd (o := .tup (vt D)) nt6
        refine ⟨_, rfl, _, D.length, rfl, .inl ⟨_, SqL.of (s21 _ _ (s20 _ _ du11)), (vt_len D).symm⟩, by show 2 ≤ sizeLine; decide, fun tl4 ntl4 => ?_⟩
        have s22 := same_upd (o := .lst [.ref t6, .int (D.length : Nat)]) ntl4
        have shG : ∀ x ∈ D, ∀ c ∈ x, Sign c := fun x hx => (shD x hx).2
        refine ⟨told2 D D.length, told2 D D.length, told2_dp (t := t5) (s22 _ _ (s21 _ _ upd_same)) (s22 _ _ (s21 _ _ (s19 _ _ (sK _ _ ht5)))), told2_dp (t := t6) upd_same (s22 _ _ upd_same), told2_shaped shG, told2_shaped shG, false, congrArg V.bl (by rw [told2_eq shG] <;> rfl), iteF ?_⟩
        have s23 := (s20.trans s21).trans s22
        -- least of two
        refine ⟨_, rfl, _, rfl, x, n, ys, y2, D2, e0, rfl, A2.same s23, he0, fun HL sL => ?_⟩
        have s24 := s23.trans sL
        have my2 : y2 ∈ D2 := (dueD2.mem y2).mpr .refl
        refine ⟨_, rfl, sOf e0, sOf y2, rfl, rfl, false, congrArg V.bl (decide_eq_false fun h => ?_), iteF ?_⟩
        focus
          exact absurd (show y2 < e0 from by simpa [sOf] using h) (List.not_lt.mpr (le0 y2 my2))
        -- the end
        refine ⟨_, rfl, _, rfl, x, n, ys, y2, D2, e0, rfl, A2.same s24, he0, fun HM sM => ?_⟩
        have s25 := s24.trans sM
        have ee : (e0 = d0) ↔ (y2 ∈ D) := by
          constructor
          · intro h
            have h1 := (dueD2.mem e0).mp me0
            rw [h] at h1
            exact (dueD.mem y2).mpr (((dueD.mem d0).mp md0).trans (fity.sym _ _ hyl h1))
          · intro h
            have h2 := due_move fity hz dueD ((dueD.mem y2).mp h)
            have h3 : D2 = D := asc_uniq dueD2.asc h2.asc fun x => (dueD2.mem x).trans (h2.mem x).symm
            rw [h3, hd0] at he0
            exact (Option.some.inj he0).symm
        have eq1 : decide (V.str (sOf e0) = V.str (sOf d0)) = decide (y2 ∈ D) := by
          by_cases h : y2 ∈ D
          · rw [decide_eq_true h, ee.mpr h, decide_eq_true rfl]
          · rw [decide_eq_false h, decide_eq_false fun q => h (ee.mp (sOf_inj (V.str.inj q)))]
        refine ⟨_, rfl, du, _, _, .str (sOf d0), rfl, rfl, SqL.of (s25 _ _ du11), atI_nat (j := 0) (vt_at hd0), rfl, _, rfl, _, rfl, du, _, rfl, .inl (SqL.of (s25 _ _ du11)), rfl, flat_vt D, rfl, true, ?_, iteT ?_⟩
        focus
          refine congrArg V.bl ?_
          show decide (V.bl (decide (V.str (sOf e0) = V.str (sOf d0))) = V.bl (inV (.str (sOf y2)) (vt D))) = true
          rw [inV_vt, eq1, decide_eq_true rfl]
        refine ⟨_, rfl, _, rfl, du, _, _, .str (sOf d0), rfl, rfl, SqL.of (s25 _ _ du11), atI_nat (j := 0) (vt_at hd0), x, n, ys, d0, D, d0, rfl, A3.same s25, hd0, fun HN sN => ?_⟩
        have s26 := s25.trans sN
        refine ⟨_, rfl, du, _, _, .str (sOf d0), rfl, rfl, SqL.of (s26 _ _ du11), atI_nat (j := 0) (vt_at hd0), rfl, ?_⟩
        have fin := q HN ((b9.trans b11).trans (But.of s26))
        show Q (.bl (decide (V.str (sOf d0) = V.str (sOf d0)))) HN
        rw [decide_eq_true rfl]
        exact fin
end
end SB
set_option Elab.async false
set_option linter.all false
set_option maxRecDepth 100000
set_option autoImplicit false
set_option maxHeartbeats 4000000
namespace SB
open PySem PySem.Spec PyProof.Rows L2
section
variable {P : Program} {w : World} {K : PySem.W.Frag} {mg : Str → Option Value} {base : Heap} {C : Addr}
def tCallG (sp : Sp) (t : TA) : TE := fun σ H Q => t σ H fun vs H1 => sp vs H1 Q E0
def sp_law (K : PySem.W.Frag) : Sp := fun vs H Q _ => ∃ (sc : Addr) (ns : List Int), vs = [.ref sc] ∧ SqL K H sc (ns.map V.int) ∧ ns.length ≤ sizeLine ∧ ∀ H', Q (.bl true) H'
theorem sc_law : FnScope ["_law_script", "_law_k"] ["_law_script"] (defScope s_law) := ⟨rfl, rfl, rfl, by decide +kernel, rfl, by decide +kernel, by decide +kernel⟩
theorem ok_law {f fr : Addr} {fd fdr : FuncData} (T : Tx K mg C) (F : Fun K "law" "law" s_law f fd) (hr1 : mg "_law_right" = some (.ref fr)) (kp : PySem.W.keepIn K (.ref fr) = true) (bR : Binds K fdr ["_law_cup_here"] []) (FR : FnG P w K mg base 7 fr fdr ["_law_cup_here"] sp_right)
    (c1 : Callee P w K mg base 1 "_law_cup" ["_law_script", "_law_k"] (sp_cup K)) : FnG P w K mg base 8 f fd ["_law_script"] (sp_law K) := by
  refine fnG_of F sc_law (fun vs H Q E h => ?_) (fun cdv A outer s H vs Q hr hgd h => ?_)
  · obtain ⟨sc, ns, rfl, _⟩ := h
    rfl
  · obtain ⟨sc, ns, rfl, hsc, hz, q⟩ := h
    refine ⟨_, pss_one (ps_ret (pe_callB (cr_all rfl) (by rfl) T.all bt_all (pa_cons
      (pe_lc (own := [("_law_k", 1)]) (g := gName 1) (tt := tYes) (te := tCallG sp_right (tCons (tCall (sp_cup K) [] E0 (tCons (tVar 0) (tCons (tVar 1) tNil))) tNil)) rfl sc_law.nd (pi_range1 (by rfl) T.range (pa_cons (pe_callB (call_max2 rfl) (by rfl) T.max bt_max (pa_cons pe_int (pa_cons (pe_callB (call_min2 rfl) (by rfl) T.min bt_min (pa_cons (pe_callB call_len (by rfl) T.len bt_len (pa_cons (pv 0) pa_nil)) (pa_cons pe_int pa_nil))) pa_nil))) pa_nil))
        (blkOk_by (N := ["_law_script", "_law_k"]) (sc := defScope s_law) (by decide +kernel)) (fun _ _ _ _ _ => pg_name (i := 1) sc_law.nd rfl (Or.inl rfl)) (fun _ _ _ _ _ => pts_nil)
        (fun _ _ _ _ _ => pe_callG FR hr hgd (by rfl) hr1 kp bR (pa_cons (pe_cl c1 (hr.mono (by decide)) (by rfl) (pa_cons (pv 0) (pa_cons (pv 1) pa_nil))) pa_nil))) pa_nil))), ?_⟩
    refine ⟨_, rfl, _, _, rfl, .inl ⟨_, hsc, rfl⟩, _, _, rfl, _, _, rfl, ?_⟩
    have hm : ∀ x : Int, ∃ m : Nat, m ≤ 3 ∧ (if (if (3 : Int) < x then 3 else x) > 1 then (if (3 : Int) < x then 3 else x) else 1) = (m : Int) := fun x => by
      by_cases h1 : 3 < x
      · exact ⟨3, by omega, by rw [if_pos h1, if_pos (by omega)] <;> rfl⟩
      · rw [if_neg h1]
        by_cases h2 : x > 1
        · exact ⟨x.toNat, by omega, by rw [if_pos h2]; omega⟩
        · exact ⟨1, by omega, by rw [if_neg h2] <;> rfl⟩
    obtain ⟨m, m3, em⟩ := hm (((ns.map V.int).length : Nat) : Int)
    rw [em]
    refine ⟨_, rfl, by omega, by omega, fun D1 hD1 => ?_⟩
    have en : ((m : Int)).toNat = m := by omega
    rw [en]
    refine lc_it walk_range (fun i H2 => Same H H2 ∧ H2 D1 = some (.lst (List.replicate i (.bl true)))) ⟨same_upd hD1, upd_same⟩ (fun _ _ _ _ => trivial) ?_ ?_
    · rintro i x H2 H3 hi ⟨sm, hd⟩ ⟨rfl, rfl⟩
      refine ⟨rfl, yes_el ?_⟩
      refine ⟨_, rfl, _, rfl, sc, ns, i, congrArg (fun j : Int => [V.ref sc, V.int j]) (Int.zero_add _), sm.seq hsc, hz, fun H4 c s4 nc cu => ?_⟩
      refine ⟨c, rfl, cu, fun H5 b5 => ?_⟩
      have nDc : D1 ≠ c := ne_of_none hd nc
      refine ⟨_, b5 _ _ nDc (s4 _ _ hd), by rw [List.length_replicate]; exact small1000 (by omega), ?_, ?_⟩
      · have sH5 : Same H H5 := fun a o e => b5 a o (ne_of_none (sm _ _ e) nc) (s4 _ _ (sm _ _ e))
        exact same_put sH5 hD1
      · rw [upd_same, rep_succ]
    · rintro H2 ⟨sm, hd⟩
      refine ⟨D1, List.replicate m true, rfl, SqL.of (by rw [hd, List.map_replicate]), ?_⟩
      rw [all_rep]
      exact q _
end
end SB
set_option Elab.async false
set_option linter.all false
set_option maxRecDepth 100000
set_option autoImplicit false
set_option maxHeartbeats 4000000
/-! plain lists: turns act on standings -/
namespace SB

def act (p z : List Nat) : List Nat := p.map fun i => z.getD i 0
theorem act_len (p z : List Nat) : (act p z).length = p.length := List.length_map ..
theorem led_act {t z : List Nat} (ht : IsTurn z.length t) : led t z = act (back t) z := by
  unfold led act back
  rw [List.map_map, ht.len] <;> rfl
theorem act_act {p q z : List Nat} (h : ∀ i ∈ p, i < q.length) : act (act p q) z = act p (act q z) := by
  unfold act
  rw [List.map_map]
  refine List.map_congr_left fun i hi => ?_
  have hq := h i hi
  show z.getD (q.getD i 0) 0 = (q.map fun i => z.getD i 0).getD i 0
  rw [List.getD_eq_getElem?_getD (l := q.map _), List.getElem?_map, getD_at hq, List.getElem?_eq_getElem hq] <;> rfl
theorem act_one (z : List Nat) : act (List.range z.length) z = z := by
  apply List.ext_getElem?
  intro i
  unfold act
  by_cases h : i < z.length
  · rw [List.getElem?_map, List.getElem?_range h, List.getElem?_eq_getElem h]
    exact congrArg some (getD_at h)
  · rw [List.getElem?_eq_none (by simpa using Nat.le_of_not_lt h), List.getElem?_eq_none (by omega)]
theorem one_act {n : Nat} {p : List Nat} (h : ∀ i ∈ p, i < n) : act p (List.range n) = p := by
  unfold act
  have : p.map id = p := List.map_id p
  conv => rhs; rw [← this]
  refine List.map_congr_left fun i hi => ?_
  have hq := h i hi
  rw [getD_at (by rw [List.length_range]; exact hq)]
  simp
theorem IsTurn.lt {n : Nat} {p : List Nat} (h : IsTurn n p) : ∀ i ∈ p, i < n := fun i hi => h.mem.mp hi
theorem one_turn (n : Nat) : IsTurn n (List.range n) := List.Perm.refl _
theorem act_turn {n : Nat} {p q : List Nat} (hp : IsTurn n p) (hq : IsTurn n q) : IsTurn n (act p q) := by
  have h1 : (act p q).Perm (act (List.range n) q) := List.Perm.map _ hp
  have h2 : act (List.range n) q = q := by
    have := act_one q
    rwa [hq.len] at this
  rw [h2] at h1
  exact h1.trans hq
theorem back_act {n : Nat} {p : List Nat} (hp : IsTurn n p) : act (back p) p = List.range n := by
  unfold act back
  rw [List.map_map, hp.len]
  have : (List.range n).map id = List.range n := List.map_id _
  conv => rhs; rw [← this]
  refine List.map_congr_left fun i hi => ?_
  have hm : i ∈ p := hp.mem.mpr (List.mem_range.mp hi)
  have hl := List.idxOf_lt_length_of_mem hm
  show p.getD (p.idxOf i) 0 = i
  rw [getD_at hl]
  exact List.getElem_idxOf hl
theorem act_back {n : Nat} {p : List Nat} (hp : IsTurn n p) : act p (back p) = List.range n := by
  apply List.ext_getElem?
  intro i
  unfold act
  by_cases h : i < n
  · have hi : i < p.length := by rw [hp.len]; exact h
    have hb : p[i] < p.length := by rw [hp.len]; exact hp.lt _ (List.getElem_mem hi)
    rw [List.getElem?_map, List.getElem?_eq_getElem hi, List.getElem?_range h]
    show some ((back p).getD p[i] 0) = some i
    rw [List.getD_eq_getElem?_getD]
    unfold back
    rw [List.getElem?_map, List.getElem?_range hb]
    exact congrArg some (List.Nodup.idxOf_getElem hp.nd i hi)
  · rw [List.getElem?_eq_none (by rw [List.length_map, hp.len]; omega), List.getElem?_eq_none (by rw [List.length_range]; omega)]
theorem back_back {n : Nat} {p : List Nat} (hp : IsTurn n p) : back (back p) = p := by
  have hb := back_turn hp
  have hbb := back_turn hb
  have e1 : act (back (back p)) (act (back p) p) = act (act (back (back p)) (back p)) p := (act_act (by rw [hb.len]; exact hbb.lt)).symm
  rw [back_act hp, back_act hb, one_act hbb.lt] at e1
  rw [e1]
  have := act_one p
  rwa [hp.len] at this

section
variable {n : Nat} {ms : List (List Nat)}
/-- moves of n places, each with its way back -/
structure Mvs (n : Nat) (ms : List (List Nat)) : Prop where
  turn : ∀ t ∈ ms, IsTurn n t
  back : ∀ t ∈ ms, SB.back t ∈ ms
theorem mvs_ok {ts : List (List Nat)} (h : ∀ t ∈ ts, IsTurn n t) : Mvs n (mvs ts) := by
  refine ⟨mvs_turn h, fun t ht => ?_⟩
  rcases List.mem_append.mp ht with h1 | h1
  · exact List.mem_append.mpr (.inr (List.mem_map.mpr ⟨t, h1, rfl⟩))
  · obtain ⟨u, hu, rfl⟩ := List.mem_map.mp h1
    rw [back_back (h u hu)]
    exact List.mem_append.mpr (.inl hu)
theorem led_comm {t p q : List Nat} (ht : IsTurn n t) (hp : p.length = n) : act (led t p) q = led t (act p q) := by
  have ht' : IsTurn p.length t := by rw [hp]; exact ht
  rw [led_act ht', act_act (by rw [hp]; exact (back_turn ht).lt), led_act (by rw [act_len]; exact ht')]
theorem led_back {t a : List Nat} (ht : IsTurn n t) (ha : a.length = n) : led (back t) (led t a) = a := by
  have ht' : IsTurn a.length t := by rw [ha]; exact ht
  have hb := back_turn ht
  have hbb := back_turn hb
  rw [led_act ht', led_act (by rw [act_len, hb.len]; exact hb), ← act_act (by rw [hb.len]; exact hbb.lt), back_act hb]
  have := act_one a
  rwa [ha] at this
theorem led_turn {t p : List Nat} (ht : IsTurn n t) (hp : IsTurn n p) : IsTurn n (led t p) := by
  rw [led_act (by rw [hp.len]; exact ht)]
  exact act_turn (back_turn ht) hp
theorem RN.len (M : Mvs n ms) {a b : List Nat} {k : Nat} (ha : a.length = n) (h : RN ms a k b) : b.length = n := (h.rt.shape M.turn ha).1
theorem RN.act (M : Mvs n ms) {a b : List Nat} {k : Nat} (q : List Nat) (ha : a.length = n) (h : RN ms a k b) : RN ms (act a q) k (act b q) := by
  induction h with
  | refl => exact .refl
  | @step k x t hx ht ih =>
    rw [led_comm (M.turn t ht) (hx.len M ha)]
    exact .step ih ht
theorem RN.trans {a b c : List Nat} {i j : Nat} (h : RN ms a i b) (g : RN ms b j c) : RN ms a (i + j) c := by
  induction g with
  | refl => exact h
  | step _ ht ih => exact .step ih ht
theorem RN.cast {a b : List Nat} {i j : Nat} (h : RN ms a i b) (e : i = j) : RN ms a j b := by rw [← e]; exact h
theorem RN.symm (M : Mvs n ms) {a b : List Nat} {k : Nat} (ha : a.length = n) (h : RN ms a k b) : RN ms b k a := by
  induction h with
  | refl => exact .refl
  | @step k x t hx ht ih =>
    have e := led_back (M.turn t ht) (hx.len M ha)
    have h1 : RN ms (led t x) (0 + 1) x := by
      have := RN.step (.refl : RN ms (led t x) 0 (led t x)) (M.back t ht)
      rwa [e] at this
    exact (h1.trans ih).cast (by omega)
theorem RN.turn (M : Mvs n ms) {p : List Nat} {k : Nat} (h : RN ms (List.range n) k p) : IsTurn n p := by
  induction h with
  | refl => exact one_turn n
  | step _ ht ih => exact led_turn (M.turn _ ht) ih
theorem RN.lift (M : Mvs n ms) {z x : List Nat} {k : Nat} (hz : z.length = n) (h : RN ms z k x) : ∃ p, RN ms (List.range n) k p ∧ x = SB.act p z := by
  induction h with
  | refl =>
    refine ⟨_, .refl, ?_⟩
    rw [← hz]
    exact (act_one z).symm
  | @step k x t hx ht ih =>
    obtain ⟨p, hp, rfl⟩ := ih
    exact ⟨led t p, .step hp ht, (led_comm (M.turn t ht) (hp.turn M).len).symm⟩
theorem rt_rn {a b : List Nat} (h : RT ms a b) : ∃ k, RN ms a k b := by
  induction h with
  | refl => exact ⟨0, .refl⟩
  | step _ ht ih =>
    obtain ⟨k, hk⟩ := ih
    exact ⟨k + 1, .step hk ht⟩
end
end SB
set_option Elab.async false
set_option linter.all false
set_option maxRecDepth 100000
set_option autoImplicit false
set_option maxHeartbeats 4000000
/-! plain lists: how deep the moves reach, by a place that all ways pass -/
namespace SB

theorem least_of {Pk : Nat → Prop} (h : ∃ k, Pk k) : ∃ k, Pk k ∧ ∀ j, Pk j → k ≤ j := by
  obtain ⟨k, hk⟩ := h
  induction k using Nat.strongRecOn with
  | _ k ih =>
    by_cases q : ∃ j, j < k ∧ Pk j
    · obtain ⟨j, hj, hp⟩ := q
      exact ih j hj hp
    · exact ⟨k, hk, fun j hj => Nat.le_of_not_lt fun l => q ⟨j, l, hj⟩⟩
/-- so many moves and no fewer -/
structure Lv (ms : List (List Nat)) (e : List Nat) (k : Nat) (p : List Nat) : Prop where
  at_ : RN ms e k p
  le : ∀ j, RN ms e j p → k ≤ j
section
variable {n : Nat} {ms : List (List Nat)} {e : List Nat}
theorem lv_ex {p : List Nat} (h : RT ms e p) : ∃ k, Lv ms e k p := by
  obtain ⟨k, h1, h2⟩ := least_of (rt_rn h)
  exact ⟨k, h1, h2⟩
theorem Lv.eq {p : List Nat} {k j : Nat} (a : Lv ms e k p) (b : Lv ms e j p) : k = j := Nat.le_antisymm (a.le _ b.at_) (b.le _ a.at_)
theorem lv_zero : Lv ms e 0 e := ⟨.refl, fun _ _ => Nat.zero_le _⟩
theorem lv_cut {i : Nat} {u : List Nat} (only : ∀ p, Lv ms e i p → p = u) {a b : List Nat} {k : Nat} (ha : ∃ la, la ≤ i ∧ Lv ms e la a) (h : RN ms a k b) :
    (∃ lb, i ≤ lb ∧ Lv ms e lb b) → ∃ j1 j2, j1 + j2 = k ∧ RN ms a j1 u ∧ RN ms u j2 b := by
  induction h with
  | refl =>
    rintro ⟨lb, h1, h2⟩
    obtain ⟨la, h3, h4⟩ := ha
    have e1 := h2.eq h4
    have e2 : la = i := by omega
    subst e2
    have e3 := only a h4
    subst e3
    exact ⟨0, 0, rfl, .refl, .refl⟩
  | @step k x t hx ht ih =>
    rintro ⟨lb, h1, h2⟩
    obtain ⟨la, h3, h4⟩ := ha
    obtain ⟨lx, hl⟩ := lv_ex (h4.at_.rt.trans hx.rt)
    by_cases q : i ≤ lx
    · obtain ⟨j1, j2, e1, r1, r2⟩ := ih ⟨lx, q, hl⟩
      exact ⟨j1, j2 + 1, by omega, r1, .step r2 ht⟩
    · have := h2.le _ (.step hl.at_ ht)
      have e2 : lb = i := by omega
      subst e2
      have e3 := only _ h2
      rw [e3] at h2 ⊢
      refine ⟨k + 1, 0, rfl, ?_, .refl⟩
      rw [← e3]
      exact .step hx ht
theorem lv_hit {i : Nat} {b : List Nat} {k : Nat} (h : RN ms e k b) : (∃ lb, i ≤ lb ∧ Lv ms e lb b) → ∃ p, Lv ms e i p := by
  induction h with
  | refl =>
    rintro ⟨lb, h1, h2⟩
    have := h2.eq lv_zero
    have e2 : i = 0 := by omega
    subst e2
    exact ⟨e, lv_zero⟩
  | @step k x t hx ht ih =>
    rintro ⟨lb, h1, h2⟩
    obtain ⟨lx, hl⟩ := lv_ex hx.rt
    by_cases q : i ≤ lx
    · exact ih ⟨lx, q, hl⟩
    · have := h2.le _ (.step hl.at_ ht)
      have e2 : lb = i := by omega
      subst e2
      exact ⟨_, h2⟩
/-- c of each level -/
theorem lv_pick {c s : Nat} : ∀ m : Nat, (∀ i, i < m → ∃ L : List (List Nat), L.length = c ∧ L.Nodup ∧ ∀ p ∈ L, Lv ms e (s + i) p) → ∃ L : List (List Nat), L.length = c * m ∧ L.Nodup ∧ ∀ p ∈ L, ∃ j, s ≤ j ∧ j < s + m ∧ Lv ms e j p
  | 0, _ => ⟨[], rfl, List.nodup_nil, fun p hp => absurd hp (by simp)⟩
  | m + 1, h => by
    obtain ⟨L, l1, l2, l3⟩ := lv_pick m fun i hi => h i (by omega)
    obtain ⟨L', k1, k2, k3⟩ := h m (by omega)
    refine ⟨L ++ L', by rw [List.length_append, l1, k1, Nat.mul_succ], List.nodup_append.mpr ⟨l2, k2, fun a ha b hb e1 => ?_⟩, fun p hp => ?_⟩
    · subst e1
      obtain ⟨j, j1, j2, j3⟩ := l3 a ha
      have := j3.eq (k3 a hb)
      omega
    · rcases List.mem_append.mp hp with hp | hp
      · obtain ⟨j, j1, j2, j3⟩ := l3 p hp
        exact ⟨j, j1, by omega, j3⟩
      · exact ⟨s + m, by omega, by omega, k3 p hp⟩
end
section
variable {n : Nat} {ms : List (List Nat)}
theorem shallow (M : Mvs n ms) (few : ∀ L : List (List Nat), L.Nodup → (∀ p ∈ L, RT ms (List.range n) p) → L.length ≤ 840) {p : List Nat} {k : Nat} (hp : Lv ms (List.range n) k p) : k ≤ 420 := by
  -- no more than 840 levels
  have bound : ∀ (p : List Nat) (k : Nat), Lv ms (List.range n) k p → k ≤ 840 := fun p k h => by
    obtain ⟨L, l1, l2, l3⟩ := lv_pick (ms := ms) (e := List.range n) (c := 1) (s := 0) k fun i hi => by
      obtain ⟨q, hq⟩ := lv_hit (i := i) h.at_ ⟨k, by omega, h⟩
      refine ⟨[q], rfl, by simp, fun p hp => ?_⟩
      rw [List.mem_singleton.mp hp, Nat.zero_add]
      exact hq
    have := few L l2 fun p hp => by
      obtain ⟨j, _, _, hj⟩ := l3 p hp
      exact hj.at_.rt
    omega
  -- the deepest
  obtain ⟨d, ⟨w, D, hw, ed⟩, least⟩ := least_of (Pk := fun d => ∃ (w : List Nat) (D : Nat), Lv ms (List.range n) D w ∧ 840 - D = d) ⟨_, _, _, hp, rfl⟩
  have max : ∀ (p : List Nat) (k : Nat), Lv ms (List.range n) k p → k ≤ D := fun p k h => by
    have h1 := least _ ⟨p, k, h, rfl⟩
    have h2 := bound p k h
    have h3 := bound w D hw
    omega
  have hkD := max p k hp
  refine Nat.le_trans hkD ?_
  by_cases hD : D ≤ 420
  · exact hD
  -- two of each level between
  have two : ∀ i, i < D - 1 → ∃ L : List (List Nat), L.length = 2 ∧ L.Nodup ∧ ∀ p ∈ L, Lv ms (List.range n) (1 + i) p := fun i0 hi0 => by
    obtain ⟨i, ei⟩ : ∃ i, i = 1 + i0 := ⟨_, rfl⟩
    rw [← ei]
    obtain ⟨u, hu⟩ := lv_hit (i := i) hw.at_ ⟨D, by omega, hw⟩
    by_cases q : ∃ v, Lv ms (List.range n) i v ∧ v ≠ u
    · obtain ⟨v, hv, ne⟩ := q
      refine ⟨[v, u], rfl, by simp [ne], fun p hp => ?_⟩
      rcases List.mem_cons.mp hp with e | hp
      · rw [e]; exact hv
      · rw [List.mem_singleton.mp hp]; exact hu
    exfalso
    have only : ∀ p, Lv ms (List.range n) i p → p = u := fun p hp => Classical.byContradiction fun ne => q ⟨p, hp, ne⟩
    have el : (List.range n).length = n := List.length_range
    have tu := hu.at_.turn M
    have tw := hw.at_.turn M
    have one : ∀ q : List Nat, q.length = n → act (List.range n) q = q := fun q hq => by
      have := act_one q
      rwa [hq] at this
    -- u is its own way back
    have bu : back u = u := by
      have tb := back_turn tu
      have h1 := hu.at_.act M (back u) el
      rw [one _ tb.len, act_back tu] at h1
      have h2 := h1.symm M tb.len
      obtain ⟨lb, hlb⟩ := lv_ex h2.rt
      have h3 := hlb.le _ h2
      have h4 := hlb.at_.act M u el
      rw [one _ tu.len, back_act tu] at h4
      have h5 := hu.le _ (h4.symm M tu.len)
      have e1 : lb = i := by omega
      subst e1
      exact only _ hlb
    have uu : act u u = List.range n := by
      have := act_back tu
      rwa [bu] at this
    -- the deepest, turned by u
    obtain ⟨j1, j2, e12, r1, r2⟩ := lv_cut only ⟨0, by omega, lv_zero⟩ hw.at_ ⟨D, by omega, hw⟩
    have g1 := hu.le _ r1
    have hz := r2.act M u tu.len
    rw [uu] at hz
    have tz := hz.turn M
    obtain ⟨lz, hlz⟩ := lv_ex hz.rt
    have g2 := hlz.le _ hz
    have far : ∀ k, RN ms u k (act w u) → D ≤ k := fun k h => by
      have h1 := h.act M u tu.len
      rw [uu, act_act (by rw [tu.len]; exact tw.lt), uu, one_act tw.lt] at h1
      exact hw.le _ h1
    by_cases c : i ≤ lz
    · obtain ⟨k1, k2, ek, s1, s2⟩ := lv_cut only ⟨0, by omega, lv_zero⟩ hlz.at_ ⟨lz, c, hlz⟩
      have := far _ s2
      omega
    · -- from there to the deepest
      have h1 := (hlz.at_.symm M el).trans hw.at_
      have h2 := h1.act M (back (act w u)) tz.len
      rw [act_back tz] at h2
      obtain ⟨lq, hlq⟩ := lv_ex h2.rt
      have g3 := max _ _ hlq
      have h3 := hlq.at_.act M (act w u) el
      have tbz := back_turn tz
      rw [one _ tz.len, act_act (by rw [tbz.len]; exact tw.lt), back_act tz, one_act tw.lt] at h3
      obtain ⟨k1, k2, ek, s1, s2⟩ := lv_cut only ⟨lz, by omega, hlz⟩ h3 ⟨D, by omega, hw⟩
      have g4 := far _ (s1.symm M tz.len)
      have e0 : k2 = 0 := by omega
      subst e0
      cases s2
      have := hu.eq hw
      omega
  obtain ⟨L, l1, l2, l3⟩ := lv_pick (ms := ms) (e := List.range n) (c := 2) (s := 1) (D - 1) two
  have := few (List.range n :: w :: L) (by
    refine List.nodup_cons.mpr ⟨fun h => ?_, List.nodup_cons.mpr ⟨fun h => ?_, l2⟩⟩
    · rcases List.mem_cons.mp h with e | h
      · rw [← e] at hw
        have := hw.eq lv_zero
        omega
      · obtain ⟨j, h1, h2, h3⟩ := l3 _ h
        have := h3.eq lv_zero
        omega
    · obtain ⟨j, h1, h2, h3⟩ := l3 _ h
      have := h3.eq hw
      omega) fun p hp => by
    rcases List.mem_cons.mp hp with e | hp
    · rw [e]; exact .refl
    · rcases List.mem_cons.mp hp with e | hp
      · rw [e]; exact hw.at_.rt
      · obtain ⟨j, _, _, hj⟩ := l3 p hp
        exact hj.at_.rt
  rw [List.length_cons, List.length_cons, l1] at this
  omega
end
end SB
set_option Elab.async false
set_option linter.all false
set_option maxRecDepth 100000
set_option autoImplicit false
set_option maxHeartbeats 4000000
/-! plain lists: all turns of few places; the order of a turn of 24 places; what the law's end needs -/
namespace SB

/-! ### all turns of n places -/
def ins (a : Nat) : List Nat → List (List Nat)
  | [] => [[a]]
  | b :: l => (a :: b :: l) :: (ins a l).map (b :: ·)
def perms : Nat → List (List Nat)
  | 0 => [[]]
  | n + 1 => (perms n).flatMap (ins n)
theorem ins_mem (a : Nat) (l2 : List Nat) : ∀ l1 : List Nat, l1 ++ a :: l2 ∈ ins a (l1 ++ l2)
  | [] => by
    cases l2 with
    | nil => exact List.mem_cons_self
    | cons b l => exact List.mem_cons_self
  | b :: l1 => List.mem_cons_of_mem _ (List.mem_map.mpr ⟨_, ins_mem a l2 l1, rfl⟩)
theorem perms_mem : ∀ (n : Nat) (p : List Nat), IsTurn n p → p ∈ perms n
  | 0, p, h => by
    have : p = [] := List.length_eq_zero_iff.mp h.len
    subst this
    exact List.mem_cons_self
  | n + 1, p, h => by
    have hm : n ∈ p := h.mem.mpr (Nat.lt_succ_self n)
    obtain ⟨l1, l2, rfl⟩ := List.append_of_mem hm
    have h1 : (n :: (l1 ++ l2)).Perm (n :: List.range n) := by
      refine (List.perm_middle.symm.trans h).trans ?_
      rw [List.range_succ]
      exact List.perm_append_singleton n _
    exact List.mem_flatMap.mpr ⟨l1 ++ l2, perms_mem n _ h1.cons_inv, ins_mem n l2 l1⟩
theorem perms_few : ∀ n, n ≤ 6 → (perms n).length ≤ 840
  | 0, _ => by decide +kernel
  | 1, _ => by decide +kernel
  | 2, _ => by decide +kernel
  | 3, _ => by decide +kernel
  | 4, _ => by decide +kernel
  | 5, _ => by decide +kernel
  | 6, _ => by decide +kernel
  | n + 7, h => by omega

/-! ### from the turns to the standings -/
section
variable {n : Nat} {ms : List (List Nat)}
theorem few_of (M : Mvs n ms) (few : ∀ L : List (List Nat), L.Nodup → (∀ p ∈ L, RT ms (List.range n) p) → L.length ≤ 840) {z : List Nat} (hz : z.length = n) : Few ms z := by
  intro L nd hL
  have hg : ∀ x, RT ms z x → ∃ p, RT ms (List.range n) p ∧ x = act p z := fun x hx => by
    obtain ⟨k, hk⟩ := rt_rn hx
    obtain ⟨p, hp, e⟩ := hk.lift M hz
    exact ⟨p, hp.rt, e⟩
  have : ∀ L : List (List Nat), L.Nodup → (∀ x ∈ L, RT ms z x) → ∃ L' : List (List Nat), L'.length = L.length ∧ (∀ p ∈ L', RT ms (List.range n) p) ∧ L'.map (fun p => act p z) = L := by
    intro L
    induction L with
    | nil => intro _ _; exact ⟨[], rfl, by simp, rfl⟩
    | cons x L ih =>
      intro nd h
      obtain ⟨L', e1, e2, e3⟩ := ih (List.nodup_cons.mp nd).2 fun y hy => h y (List.mem_cons_of_mem _ hy)
      obtain ⟨p, hp, ep⟩ := hg x (h x List.mem_cons_self)
      refine ⟨p :: L', by rw [List.length_cons, List.length_cons, e1], fun q hq => ?_, by rw [List.map_cons, e3, ← ep]⟩
      rcases List.mem_cons.mp hq with e | hq
      · rw [e]; exact hp
      · exact e2 q hq
  obtain ⟨L', e1, e2, e3⟩ := this L nd hL
  rw [← e1]
  refine few L' ?_ e2
  rw [← e3] at nd
  exact (List.pairwise_map.mp nd).imp fun {a b} h e => h (by rw [e])
theorem deep_of (M : Mvs n ms) (few : ∀ L : List (List Nat), L.Nodup → (∀ p ∈ L, RT ms (List.range n) p) → L.length ≤ 840) {z : List Nat} (hz : z.length = n) : Deep ms z := by
  intro x hx
  obtain ⟨k, hk⟩ := rt_rn hx
  obtain ⟨p, hp, e⟩ := hk.lift M hz
  obtain ⟨j, hj⟩ := lv_ex hp.rt
  have h1 := shallow M few hj
  have h2 := hj.at_.act M z List.length_range
  have h3 : act (List.range n) z = z := by
    have := act_one z
    rwa [hz] at this
  rw [h3, ← e] at h2
  exact ⟨j, by omega, h2⟩
theorem due_of {z : List Nat} (few : Few ms z) : ∃ D, IsDue ms z D ∧ D.length ≤ 840 := by
  obtain ⟨d, ⟨L, nd, hL, ed⟩, least⟩ := least_of (Pk := fun d => ∃ L : List (List Nat), L.Nodup ∧ (∀ x ∈ L, RT ms z x) ∧ 840 - L.length = d) ⟨_, [], List.nodup_nil, by simp, rfl⟩
  have l840 := few L nd hL
  have all : ∀ x, RT ms z x → x ∈ L := fun x hx => Classical.byContradiction fun h => by
    have hL' : ∀ y ∈ x :: L, RT ms z y := fun y hy => by
      rcases List.mem_cons.mp hy with e | hy
      · rw [e]; exact hx
      · exact hL y hy
    have nd' := List.nodup_cons.mpr ⟨h, nd⟩
    have h1 := least _ ⟨x :: L, nd', hL', rfl⟩
    have h2 := few _ nd' hL'
    rw [List.length_cons] at h1 h2
    omega
  have pm := List.mergeSort_perm L (fun a b => decide (a ≤ b))
  refine ⟨L.mergeSort (fun a b => decide (a ≤ b)), ⟨?_, fun x => ⟨fun h => hL x (pm.mem_iff.mp h), fun h => pm.mem_iff.mpr (all x h)⟩⟩, by rw [pm.length_eq]; exact l840⟩
  have sorted := List.pairwise_mergeSort (le := fun a b : List Nat => decide (a ≤ b)) (fun a b c h1 h2 => decide_eq_true (List.le_trans (of_decide_eq_true h1) (of_decide_eq_true h2))) (fun a b => by
    rw [Bool.or_eq_true, decide_eq_true_eq, decide_eq_true_eq]
    exact List.le_total a b) L
  have nds : (L.mergeSort (fun a b => decide (a ≤ b))).Nodup := pm.nodup_iff.mpr nd
  refine (List.Pairwise.and sorted nds).imp fun {a b} h => ?_
  have h1 : a ≤ b := of_decide_eq_true h.1
  exact Classical.byContradiction fun q => h.2 (List.le_antisymm h1 (List.not_lt.mp q))
theorem fit_few (M : Mvs n ms) (few : ∀ L : List (List Nat), L.Nodup → (∀ p ∈ L, RT ms (List.range n) p) → L.length ≤ 840) : Fit n ms := by
  refine ⟨fun z hz => few_of M few hz, fun z hz => deep_of M few hz, fun z hz => due_of (few_of M few hz), fun z x hz hx => ?_⟩
  obtain ⟨k, hk⟩ := rt_rn hx
  exact (hk.symm M hz).rt
theorem fit_six (M : Mvs n ms) (h6 : n ≤ 6) : Fit n ms := by
  refine fit_few M fun L nd hL => Nat.le_trans (sub_len nd fun p hp => perms_mem n p ?_) (perms_few n h6)
  obtain ⟨k, hk⟩ := rt_rn (hL p hp)
  exact hk.turn M
end
end SB
set_option Elab.async false
set_option linter.all false
set_option maxRecDepth 100000
set_option autoImplicit false
set_option maxHeartbeats 4000000
/-! plain lists: the order of a turn of 24 places is at most 840 -/
namespace SB

def pw (f : Nat → Nat) : Nat → Nat → Nat
  | 0, i => i
  | k + 1, i => pw f k (f i)
theorem pw_add (f : Nat → Nat) (b : Nat) : ∀ a i, pw f (a + b) i = pw f b (pw f a i)
  | 0, i => by rw [Nat.zero_add] <;> rfl
  | a + 1, i => by
    rw [Nat.add_right_comm]
    exact pw_add f b a (f i)
structure Pm (n : Nat) (f : Nat → Nat) : Prop where
  lt : ∀ i, i < n → f i < n
  inj : ∀ i j, i < n → j < n → f i = f j → i = j
/-- c is the period of i -/
structure Per (f : Nat → Nat) (c i : Nat) : Prop where
  pos : 1 ≤ c
  at_ : pw f c i = i
  le : ∀ j, 1 ≤ j → pw f j i = i → c ≤ j
section
variable {n : Nat} {f : Nat → Nat}
theorem pw_lt (h : Pm n f) : ∀ k i, i < n → pw f k i < n
  | 0, i, hi => hi
  | k + 1, i, hi => pw_lt h k (f i) (h.lt i hi)
theorem pw_inj (h : Pm n f) : ∀ k i j, i < n → j < n → pw f k i = pw f k j → i = j
  | 0, i, j, _, _, e => e
  | k + 1, i, j, hi, hj, e => h.inj i j hi hj (pw_inj h k (f i) (f j) (h.lt i hi) (h.lt j hj) e)
theorem pw_back (h : Pm n f) {a b i : Nat} (hi : i < n) (hab : a < b) (e : pw f a i = pw f b i) : pw f (b - a) i = i := by
  have e1 : pw f b i = pw f a (pw f (b - a) i) := by
    rw [← pw_add]
    exact congrArg (fun k => pw f k i) (by omega)
  rw [e1] at e
  exact (pw_inj h a _ _ hi (pw_lt h _ _ hi) e).symm
theorem per_ex (h : Pm n f) {i : Nat} (hi : i < n) : ∃ c, Per f c i := by
  have h0 : ∃ c, 1 ≤ c ∧ pw f c i = i := Classical.byContradiction fun q => by
    have nd : ((List.range (n + 1)).map fun k => pw f k i).Nodup := List.pairwise_map.mpr (List.Pairwise.imp (fun {a b} (hab : a < b) e => q ⟨b - a, by omega, pw_back h hi hab e⟩) List.pairwise_lt_range)
    have := sub_len1 (D := List.range n) nd fun x hx => by
      obtain ⟨k, _, rfl⟩ := List.mem_map.mp hx
      exact List.mem_range.mpr (pw_lt h k i hi)
    rw [List.length_map, List.length_range, List.length_range] at this
    omega
  obtain ⟨c, ⟨h1, h2⟩, h3⟩ := least_of h0
  exact ⟨c, h1, h2, fun j hj e => h3 j ⟨hj, e⟩⟩
theorem per_mul {c i : Nat} (h : Per f c i) : ∀ k, pw f (c * k) i = i
  | 0 => rfl
  | k + 1 => by
    rw [Nat.mul_succ, pw_add, per_mul h k, h.at_]
theorem per_same (h : Pm n f) {c c' i j a b : Nat} (hi : i < n) (hj : j < n) (p : Per f c i) (q : Per f c' j) (e : pw f a i = pw f b j) : c' ≤ c := by
  have e1 : pw f c (pw f a i) = pw f a i := by rw [← pw_add, Nat.add_comm, pw_add, p.at_]
  have e2 : pw f b (pw f c j) = pw f b j := by rw [← pw_add, Nat.add_comm, pw_add, ← e, e1]
  exact q.le c p.pos (pw_inj h b _ _ (pw_lt h _ _ hj) hj e2)
def orb (f : Nat → Nat) (q : Nat × Nat) : List Nat := (List.range q.2).map fun k => pw f k q.1
theorem orb_nd (h : Pm n f) {q : Nat × Nat} (hi : q.1 < n) (p : Per f q.2 q.1) : (orb f q).Nodup := by
  unfold orb
  refine List.pairwise_map.mpr (List.Pairwise.imp_of_mem (fun {a b} ha hb (hab : a < b) e => ?_) List.pairwise_lt_range)
  have := p.le _ (by omega) (pw_back h hi hab e)
  have := List.mem_range.mp hb
  omega
theorem reps (h : Pm n f) : ∀ m, m ≤ n → ∃ R : List (Nat × Nat), (∀ q ∈ R, q.1 < n ∧ Per f q.2 q.1) ∧ R.Pairwise (fun q r => q.2 ≠ r.2) ∧ ∀ i, i < m → ∃ q ∈ R, Per f q.2 i
  | 0, _ => ⟨[], by simp, .nil, fun i hi => absurd hi (Nat.not_lt_zero _)⟩
  | m + 1, hm => by
    obtain ⟨R, r1, r2, r3⟩ := reps h m (by omega)
    obtain ⟨c, hc⟩ := per_ex h (i := m) (by omega)
    by_cases q : ∃ r ∈ R, r.2 = c
    · obtain ⟨r, hr, e⟩ := q
      refine ⟨R, r1, r2, fun i hi => ?_⟩
      by_cases e2 : i = m
      · subst e2
        exact ⟨r, hr, by rw [e]; exact hc⟩
      · exact r3 i (by omega)
    · refine ⟨(m, c) :: R, fun r hr => ?_, List.pairwise_cons.mpr ⟨fun r hr e => q ⟨r, hr, e.symm⟩, r2⟩, fun i hi => ?_⟩
      · rcases List.mem_cons.mp hr with e | hr
        · rw [e]
          exact ⟨by show m < n; omega, hc⟩
        · exact r1 r hr
      · by_cases e2 : i = m
        · subst e2
          exact ⟨(i, c), List.mem_cons_self, hc⟩
        · obtain ⟨r, hr, pr⟩ := r3 i (by omega)
          exact ⟨r, List.mem_cons_of_mem _ hr, pr⟩
theorem orbs_nd (h : Pm n f) : ∀ R : List (Nat × Nat), (∀ q ∈ R, q.1 < n ∧ Per f q.2 q.1) → R.Pairwise (fun q r => q.2 ≠ r.2) → (R.flatMap (orb f)).Nodup ∧ (∀ x ∈ R.flatMap (orb f), x < n) ∧ (R.flatMap (orb f)).length = (R.map (·.2)).sum
  | [], _, _ => ⟨List.nodup_nil, by simp, rfl⟩
  | q :: R, h1, h2 => by
    obtain ⟨p1, p2⟩ := List.pairwise_cons.mp h2
    obtain ⟨i1, i2, i3⟩ := orbs_nd h R (fun r hr => h1 r (List.mem_cons_of_mem _ hr)) p2
    obtain ⟨q1, q2⟩ := h1 q List.mem_cons_self
    rw [List.flatMap_cons]
    refine ⟨List.nodup_append.mpr ⟨orb_nd h q1 q2, i1, fun a ha b hb e => ?_⟩, fun x hx => ?_, ?_⟩
    · subst e
      obtain ⟨r, hr, hbr⟩ := List.mem_flatMap.mp hb
      obtain ⟨k, _, e1⟩ := List.mem_map.mp ha
      obtain ⟨k', _, e2⟩ := List.mem_map.mp hbr
      obtain ⟨r1, r2⟩ := h1 r (List.mem_cons_of_mem _ hr)
      have e3 : pw f k q.1 = pw f k' r.1 := e1.trans e2.symm
      exact p1 r hr (Nat.le_antisymm (per_same h r1 q1 r2 q2 e3.symm) (per_same h q1 r1 q2 r2 e3))
    · rcases List.mem_append.mp hx with hx | hx
      · obtain ⟨k, _, rfl⟩ := List.mem_map.mp hx
        exact pw_lt h _ _ q1
      · exact i2 x hx
    · rw [List.length_append, i3, List.map_cons, List.sum_cons]
      unfold orb
      rw [List.length_map, List.length_range]
end

/-! ### unlike numbers of a sum of 24 -/
def bl (ds : List Nat) : Nat := ds.foldr Nat.lcm 1
theorem bl_perm {a b : List Nat} (h : a.Perm b) : bl a = bl b := by
  induction h with
  | nil => rfl
  | cons x _ ih => exact congrArg (Nat.lcm x) ih
  | swap x y l =>
    show Nat.lcm y (Nat.lcm x (bl l)) = Nat.lcm x (Nat.lcm y (bl l))
    rw [← Nat.lcm_assoc, ← Nat.lcm_assoc, Nat.lcm_comm y x]
  | trans _ _ h1 h2 => exact h1.trans h2
theorem sum_perm {a b : List Nat} (h : a.Perm b) : a.sum = b.sum := by
  induction h with
  | nil => rfl
  | cons x _ ih => rw [List.sum_cons, List.sum_cons, ih]
  | swap x y l =>
    simp only [List.sum_cons]
    omega
  | trans _ _ h1 h2 => exact h1.trans h2
theorem bl_dvd {ds : List Nat} {d : Nat} (h : d ∈ ds) : d ∣ bl ds := by
  rw [bl_perm (List.perm_cons_erase h)]
  exact Nat.dvd_lcm_left _ _
theorem bl_pos : ∀ {ds : List Nat}, (∀ d ∈ ds, 1 ≤ d) → 1 ≤ bl ds
  | [], _ => Nat.le_refl _
  | d :: ds, h => Nat.lcm_pos (h d List.mem_cons_self) (bl_pos fun x hx => h x (List.mem_cons_of_mem _ hx))
def chk : Nat → Nat → Nat → Bool
  | 0, _, l => decide (l ≤ 840)
  | k + 1, s, l => chk k s l && (if k + 1 ≤ s then chk k (s - (k + 1)) (Nat.lcm l (k + 1)) else true)
theorem chk_ok : ∀ (k s l : Nat) (ds : List Nat), chk k s l = true → ds.Nodup → (∀ d ∈ ds, 1 ≤ d ∧ d ≤ k) → ds.sum ≤ s → Nat.lcm l (bl ds) ≤ 840
  | 0, s, l, ds, hc, _, hd, _ => by
    have : ds = [] := by
      cases ds with
      | nil => rfl
      | cons d r =>
        have := hd d List.mem_cons_self
        omega
    subst this
    show Nat.lcm l 1 ≤ 840
    rw [Nat.lcm_one_right]
    exact of_decide_eq_true hc
  | k + 1, s, l, ds, hc, nd, hd, hs => by
    have hc' : (chk k s l && (if k + 1 ≤ s then chk k (s - (k + 1)) (Nat.lcm l (k + 1)) else true)) = true := hc
    rw [Bool.and_eq_true] at hc'
    by_cases q : k + 1 ∈ ds
    · have pm := List.perm_cons_erase q
      have e1 := sum_perm pm
      rw [List.sum_cons] at e1
      have h2 := hc'.2
      rw [if_pos (by omega)] at h2
      rw [bl_perm pm]
      show Nat.lcm l (Nat.lcm (k + 1) (bl (ds.erase (k + 1)))) ≤ 840
      rw [← Nat.lcm_assoc]
      refine chk_ok k _ _ _ h2 (nd.erase _) (fun d hde => ?_) (by omega)
      have h3 := hd d (List.mem_of_mem_erase hde)
      have : d ≠ k + 1 := fun e => by
        have nd2 := pm.nodup_iff.mp nd
        rw [e] at hde
        exact (List.nodup_cons.mp nd2).1 hde
      omega
    · refine chk_ok k s l ds hc'.1 nd (fun d hde => ?_) hs
      have h3 := hd d hde
      have : d ≠ k + 1 := fun e => q (by rw [← e]; exact hde)
      omega
theorem chk24 : chk 24 24 1 = true := by decide +kernel
theorem le_sum : ∀ {ds : List Nat} {d : Nat}, d ∈ ds → d ≤ ds.sum
  | [], _, h => by cases h
  | a :: ds, d, h => by
    rw [List.sum_cons]
    rcases List.mem_cons.mp h with e | h
    · omega
    · have := le_sum h
      omega
/-- a power of few turns leads all places back -/
theorem order_few {n : Nat} {f : Nat → Nat} (h : Pm n f) (hn : n ≤ 24) : ∃ m, 1 ≤ m ∧ m ≤ 840 ∧ ∀ i, i < n → pw f m i = i := by
  obtain ⟨R, r1, r2, r3⟩ := reps h n (Nat.le_refl _)
  obtain ⟨o1, o2, o3⟩ := orbs_nd h R r1 r2
  have hs := sub_len1 (D := List.range n) o1 fun x hx => List.mem_range.mpr (o2 x hx)
  rw [o3, List.length_range] at hs
  have pos : ∀ d ∈ R.map (·.2), 1 ≤ d := fun d hd => by
    obtain ⟨q, hq, rfl⟩ := List.mem_map.mp hd
    exact (r1 q hq).2.pos
  refine ⟨bl (R.map (·.2)), bl_pos pos, ?_, fun i hi => ?_⟩
  · have := chk_ok 24 24 1 (R.map (·.2)) chk24 (List.pairwise_map.mpr r2) (fun d hd => ⟨pos d hd, by have := le_sum hd; omega⟩) (by omega)
    rwa [Nat.lcm_one_left] at this
  · obtain ⟨q, hq, pq⟩ := r3 i hi
    obtain ⟨k, ek⟩ := bl_dvd (List.mem_map.mpr ⟨q, hq, rfl⟩ : q.2 ∈ R.map (·.2))
    rw [ek]
    exact per_mul pq k

/-! ### one button -/
section
variable {n : Nat} {t : List Nat}
def gp (n : Nat) (t : List Nat) : Nat → List Nat
  | 0 => List.range n
  | j + 1 => led t (gp n t j)
theorem gp_turn (ht : IsTurn n t) : ∀ j, IsTurn n (gp n t j)
  | 0 => one_turn n
  | j + 1 => led_turn ht (gp_turn ht j)
theorem gp_get (ht : IsTurn n t) : ∀ j i, i < n → (gp n t j).getD i 0 = pw (fun i => (back t).getD i 0) j i
  | 0, i, hi => by
    show (List.range n).getD i 0 = i
    rw [getD_at (by rw [List.length_range]; exact hi)]
    simp
  | j + 1, i, hi => by
    have hb := back_turn ht
    have hil : i < (back t).length := by rw [hb.len]; exact hi
    have hlt : (back t).getD i 0 < n := by
      rw [getD_at hil]
      exact hb.lt _ (List.getElem_mem hil)
    show (led t (gp n t j)).getD i 0 = pw _ j ((back t).getD i 0)
    rw [led_act (by rw [(gp_turn ht j).len]; exact ht), ← gp_get ht j _ hlt]
    unfold act
    rw [List.getD_eq_getElem?_getD, List.getElem?_map, List.getElem?_eq_getElem hil]
    show (gp n t j).getD (back t)[i] 0 = _
    rw [getD_at hil]
theorem pm_of (ht : IsTurn n t) : Pm n (fun i => (back t).getD i 0) := by
  have hb := back_turn ht
  have gl : ∀ i (hi : i < n), (back t).getD i 0 = (back t)[i]'(by rw [hb.len]; exact hi) := fun i hi => getD_at (by rw [hb.len]; exact hi)
  refine ⟨fun i hi => ?_, fun i j hi hj e => ?_⟩
  · show (back t).getD i 0 < n
    rw [gl i hi]
    exact hb.lt _ (List.getElem_mem _)
  · have e' : (back t).getD i 0 = (back t).getD j 0 := e
    rw [gl i hi, gl j hj] at e'
    have h1 := List.Nodup.idxOf_getElem hb.nd i (by rw [hb.len]; exact hi)
    have h2 := List.Nodup.idxOf_getElem hb.nd j (by rw [hb.len]; exact hj)
    rw [← h1, ← h2, e']
theorem fit_one {ts : List (List Nat)} (ht : ∀ t ∈ ts, IsTurn n t) (hn : n ≤ 24) (h1 : ts.length ≤ 1) : Fit n (mvs ts) := by
  have M : Mvs n (mvs ts) := mvs_ok ht
  cases ts with
  | nil =>
    refine fit_few M fun L nd hL => ?_
    have : ∀ p, RT (mvs []) (List.range n) p → p = List.range n := fun p h => by
      cases h with
      | refl => rfl
      | step _ h => cases h
    have := sub_len (D := [List.range n]) nd fun p hp => by
      rw [this p (hL p hp)]
      exact List.mem_cons_self
    rw [List.length_singleton] at this
    omega
  | cons t r =>
    have er : r = [] := by
      rw [List.length_cons] at h1
      exact List.length_eq_zero_iff.mp (by omega)
    subst er
    have tt := ht t List.mem_cons_self
    obtain ⟨m, m1, m840, hm⟩ := order_few (pm_of tt) hn
    have gm : gp n t m = List.range n := by
      apply List.ext_getElem?
      intro i
      by_cases hi : i < n
      · have hl : i < (gp n t m).length := by rw [(gp_turn tt m).len]; exact hi
        have e1 := gp_get tt m i hi
        rw [hm i hi, getD_at hl] at e1
        rw [List.getElem?_eq_getElem hl, e1, List.getElem?_range hi]
      · rw [List.getElem?_eq_none (by rw [(gp_turn tt m).len]; omega), List.getElem?_eq_none (by rw [List.length_range]; omega)]
    have all : ∀ p, RT (mvs [t]) (List.range n) p → ∃ j, j < m ∧ p = gp n t j := fun p h => by
      induction h with
      | refl => exact ⟨0, by omega, rfl⟩
      | @step x u _ hu ih =>
        obtain ⟨j, hj, rfl⟩ := ih
        have hu' : u = t ∨ u = back t := by
          rcases List.mem_append.mp hu with h | h
          · exact .inl (List.mem_singleton.mp h)
          · obtain ⟨v, hv, rfl⟩ := List.mem_map.mp h
            rw [List.mem_singleton.mp hv]
            exact .inr rfl
        rcases hu' with rfl | rfl
        · by_cases e : j + 1 = m
          · refine ⟨0, by omega, ?_⟩
            show gp n u (j + 1) = List.range n
            rw [e, gm]
          · exact ⟨j + 1, by omega, rfl⟩
        · have step : ∀ k, led (back t) (gp n t (k + 1)) = gp n t k := fun k => led_back tt (gp_turn tt k).len
          cases j with
          | zero =>
            refine ⟨m - 1, by omega, ?_⟩
            show led (back t) (List.range n) = _
            rw [← gm]
            have := step (m - 1)
            rwa [show m - 1 + 1 = m from by omega] at this
          | succ k => exact ⟨k, by omega, step k⟩
    refine fit_few M fun L nd hL => ?_
    have := sub_len (D := (List.range m).map (gp n t)) nd fun p hp => by
      obtain ⟨j, hj, e⟩ := all p (hL p hp)
      exact List.mem_map.mpr ⟨j, List.mem_range.mpr hj, e.symm⟩
    rw [List.length_map, List.length_range] at this
    omega
end
theorem fit_all (n : Nat) (bs : List Btn) (hb : ∀ b ∈ bs, Good n b) (h : n ≤ 6 ∨ (n = 24 ∧ bs.length ≤ 1)) : Fit n (mvs (turnsOf bs)) := by
  have ht := turnsOf_turn hb
  rcases h with h | ⟨h1, h2⟩
  · exact fit_six (mvs_ok ht) h
  · refine fit_one ht (by omega) ?_
    unfold turnsOf
    rw [List.length_map]
    exact h2
end SB
set_option Elab.async false
set_option linter.all false
set_option maxRecDepth 100000
set_option maxHeartbeats 0
namespace SB
open PySem PySem.Spec PyProof.Rows L2
section
variable {P : Program} {w : World} {K : PySem.W.Frag} {h : Heap} {mg : Str → Option Value}
/-- a def without defaults, as the walks take it -/
theorem fun_of {x q : Str} {st : Stmt} {f : Addr} {fd : FuncData} (F : FunD K x q (defArgs st) (defBody st) (defScope st) [] [] f fd) : Fun K x q st f fd := by
  obtain ⟨oc, od, dV, kV, doc, pm, an, cdv, ct, osl, e, lk, hcd, hD, _⟩ := F.ex
  rcases hD with ⟨_, e2⟩ | ⟨e2, _⟩
  · subst e2
    exact ⟨⟨oc, od, kV, doc, pm, an, cdv, ct, osl, e, lk, hcd⟩, F.kp⟩
  · exact absurd rfl e2
theorem def_at (X : K.In h) (G : h.Ns mainGlobals mg) (c : SaysB K) {x : Str} {st : Stmt} (i j : Nat) (hd : fn[i]? = some (dOf (x, none) x x st) := by rfl) (hf : fa[j]? = some (.glo x) := by rfl) : DefAt K mg x st := by
  obtain ⟨fd, F⟩ := c.1.def_ i hd
  exact ⟨_, fd, He.glo_ok X G (c.1.fact j hf), fun_of F⟩
theorem tx_of (X : K.In h) (G : h.Ns mainGlobals mg) (c : SaysB K) : Tx K mg (He.ga K "Board") := by
  obtain ⟨e1, e⟩ := He.ba c.2
  obtain ⟨e2, e⟩ := He.ba e
  obtain ⟨e3, e4⟩ := He.ba e
  exact ⟨He.free_ok X G (c.1.fact 35 (f := .free "isinstance") rfl), He.free_ok X G (c.1.fact 36 (f := .free "len") rfl), He.free_ok X G (c.1.fact 37 (f := .free "all") rfl), He.free_ok X G (c.1.fact 38 (f := .free "sorted") rfl), He.free_ok X G (c.1.fact 39 (f := .free "list") rfl), He.free_ok X G (c.1.fact 40 (f := .free "range") rfl), He.free_ok X G (c.1.fact 41 (f := .free "tuple") rfl), He.free_ok X G (c.1.fact 42 (f := .free "dict") rfl), He.free_ok X G (c.1.fact 43 (f := .free "zip") rfl), He.free_ok X G (c.1.fact 44 (f := .free "enumerate") rfl), He.free_ok X G (c.1.fact 45 (f := .free "int") rfl), He.free_ok X G (c.1.fact 46 (f := .free "str") rfl), He.free_ok X G (c.1.fact 47 (f := .free "bool") rfl), He.free_ok X G (c.1.fact 48 (f := .free "abs") rfl), He.free_ok X G (c.1.fact 49 (f := .free "min") rfl), He.free_ok X G (c.1.fact 50 (f := .free "max") rfl), He.free_ok X G (c.1.fact 51 (f := .free "repr") rfl), He.int_ok X G (c.1.fact 52 (f := .int "MOST_PLACES" 24) rfl), He.int_ok X G (c.1.fact 53 (f := .int "MOST_BUTTONS" 8) rfl), He.int_ok X G (c.1.fact 54 (f := .int "MOST_REACHED" 50000) rfl), He.int_ok X G (c.1.fact 55 (f := .int "LONGEST_NAME" 8) rfl), He.str_ok X G (c.1.fact 56 (f := .str "LETTERS" "abcdefghijklmnopqrstuvwxyz") rfl), He.str_ok X G (c.1.fact 57 (f := .str "TIE" "tie") rfl), He.str_ok X G (c.1.fact 58 (f := .str "EMPTY" "-") rfl), He.glo_ok X G (c.1.fact 34 (f := .glo "Board") rfl), He.cls_ok (c.1.fact 59 (f := .cls "Board") rfl), He.noat_ok (c.1.fact 60 (f := .noat "Board" "size") rfl), He.noat_ok (c.1.fact 61 (f := .noat "Board" "buttons") rfl), He.noat_ok (c.1.fact 62 (f := .noat "Board" "ties") rfl), He.eqO_ok e1, He.eqO_ok e2, of_decide_eq_true e3, of_decide_eq_true e4⟩
/-- the law's def keeps its promise -/
theorem facts {f : Addr} (X : K.In h) (G : h.Ns mainGlobals mg) (hfa : mg ("law" : Str) = some (.ref f)) (c : SaysB K) :
    ∃ fd : FuncData, (∀ (s : Shared) (u : Value), BindsTo s fd ⟨[u], []⟩ [("_law_script", u)]) ∧ ∀ base : Heap, K.In base → base.Ns mainGlobals mg → FnG P w K mg base 8 f fd ["_law_script"] (sp_law K) := by
  have T := tx_of X G c
  obtain ⟨fdl, Fl⟩ := c.1.def_ 33 (d := d_law) rfl
  obtain ⟨fdr, Fr⟩ := c.1.def_ 32 (d := d_w_right) rfl
  obtain ⟨fdi, Fi⟩ := c.1.def_ 34 (d := d_init) rfl
  have e := hfa.symm.trans (He.glo_ok X G (c.1.fact 33 (f := .glo "law") rfl))
  cases e
  have Gl : Fun K "law" "law" s_law _ fdl := fun_of Fl
  have Gr : Fun K "_law_right" "_law_right" s_w_right _ fdr := fun_of Fr
  have Gi : Fun K "__init__" "Board.__init__" s_init _ fdi := fun_of Fi
  have bl := FunD.bindsA (ps := ["_law_script"]) Fl fun _ _ _ _ _ _ us hl => match us, hl with | [_], _ => rfl
  refine ⟨fdl, fun s u => bl s [u] rfl, fun base _ _ => ?_⟩
  have q1 := c_is_integer (P := P) (w := w) (base := base) T (def_at X G c 0 0) 
  have q2 := c_is_between (P := P) (w := w) (base := base) T (def_at X G c 1 1) q1
  have q3 := c_check_number (P := P) (w := w) (base := base) (def_at X G c 2 2) q2
  have q4 := c_is_name (P := P) (w := w) (base := base) T (def_at X G c 3 3) 
  have q5 := c_is_button_name (P := P) (w := w) (base := base) T (def_at X G c 6 6) q4
  have q6 := c_is_turn (P := P) (w := w) (base := base) T (def_at X G c 4 4) q1
  have q7 := c_turned_back (P := P) (w := w) (base := base) T (def_at X G c 5 5) 
  have q8 := c_is_standing (P := P) (w := w) (base := base) T (def_at X G c 11 11) 
  have q9 := c_check_standing (P := P) (w := w) (base := base) T (def_at X G c 12 12) q8
  have q10 := c_check_board (P := P) (w := w) (base := base) T (def_at X G c 10 10) 
  have q11 := c_led_standing (P := P) (w := w) (base := base) T (def_at X G c 13 13) 
  have q12 := c_is_button (P := P) (w := w) (base := base) T (def_at X G c 7 7) q5 q6
  have q13 := c_buttons_fault (P := P) (w := w) (base := base) T (def_at X G c 8 8) q12
  have q14 := c_ties_fault (P := P) (w := w) (base := base) T (def_at X G c 9 9) 
  have q15 := ok_init (P := P) (w := w) (base := base) T Gi q3 q13 q14
  have q16 := c_single (P := P) (w := w) (base := base) T (def_at X G c 14 14) q7
  have q17 := c_paths (P := P) (w := w) (base := base) T (def_at X G c 15 15) q16 q11
  have q18 := c_check_stood (P := P) (w := w) (base := base) T (def_at X G c 16 16) q10 q9
  have q19 := c_check_both (P := P) (w := w) (base := base) T (def_at X G c 17 17) q18 q9
  have q20 := c_count (P := P) (w := w) (base := base) T (def_at X G c 18 18) q18 q17
  have q21 := c_all (P := P) (w := w) (base := base) T (def_at X G c 19 19) q18 q17
  have q22 := c_least (P := P) (w := w) (base := base) T (def_at X G c 20 20) q21.1
  have q23 := c_goes (P := P) (w := w) (base := base) T (def_at X G c 21 21) q19 q17
  have q24 := c_cup (P := P) (w := w) (base := base) T (def_at X G c 22 22) 
  have q25 := c_sip (P := P) (w := w) (base := base) T (def_at X G c 23 23) 
  have q26 := c_one (P := P) (w := w) (base := base) T (def_at X G c 24 24) q25
  have q27 := c_mixed (P := P) (w := w) (base := base) T (def_at X G c 25 25) q25
  have q28 := c_turn (P := P) (w := w) (base := base) T (def_at X G c 26 26) q25 q27
  have q29 := c_buttons (P := P) (w := w) (base := base) T (def_at X G c 27 27) q25 q27 q28
  have q30 := c_standing (P := P) (w := w) (base := base) T (def_at X G c 28 28) q26
  have q31 := c_wled (P := P) (w := w) (base := base) T (def_at X G c 29 29) 
  have q32 := c_wback (P := P) (w := w) (base := base) T (def_at X G c 30 30) 
  have q33 := c_layers (P := P) (w := w) (base := base) T (def_at X G c 31 31) q32 q31
  have M := He.mkr_ok (c.1.fact 63 (f := .mkr "Board") rfl)
  have bI : Binds K fdi ["self", "size", "buttons", "ties"] [] := Gi.binds fun _ _ _ _ _ _ us hl => match us, hl with | [_, _, _, _], _ => rfl
  have bR : Binds K fdr ["_law_cup_here"] [] := Gr.binds fun _ _ _ _ _ _ us hl => match us, hl with | [_], _ => rfl
  have FR := ok_right (P := P) (w := w) (base := base) T Gr M bI q15 fit_all q25 q29 q30 q33 q26 q20.1 q21.1 q22.1 q23.1 q20.2 q21.2 q22.2 q23.2
  exact ok_law T Gl (He.glo_ok X G (c.1.fact 32 (f := .glo "_law_right") rfl)) Fr.kp bR FR q24
end
end SB
open PySem PySem.W PySem.Calls PyProof.Rows
theorem PySem.Challenge.cw_seatbuttons_k42_whole_standings_reached_holds : PySem.Challenge.rw_seatbuttons_k42_whole_standings_reached.Holds := by
  w_on; o_law
  refine HandSHeadRun.head_any (r := SB.R) (q := view SB.R.prog [66]) (H := SB.hk) (ob := SB.ob) (M := 8000) (loose := SB.loose) (d := HandSHeadRun.topDef SB.R.prog 66) (kwd := []) SB.ob_eq
    (by kernel_rfl) (fun s => by kernel_rfl) SB.run (by kernel_rfl) (by kernel_rfl) (by kernel_rfl) (by rfl) (by first | assumption | decide +kernel) (by decide +kernel) ⟨rfl, rfl, rfl, rfl, rfl, by decide +kernel⟩ ?hw ?hc
  case hw => w_witness2
  case hc =>
    refine SB.walkG (l := PySem.Challenge.rw_seatbuttons_k42_whole_standings_reached) (n := 63) (k := 8) (x := "_law_script") rfl (by decide) (by kernel_rfl) ⟨rfl, by decide, by decide⟩ ?F
    intro w mg fa h Y G hmg0
    obtain ⟨K, KX, c⟩ := Y
    have hmg : mg ("law" : PySem.Str) = some (.ref fa) := by
      have e : (HandSHeadRun.topDef SB.R.prog 66).name = ("law" : PySem.Str) := by kernel_rfl
      rw [← e]
      exact hmg0
    obtain ⟨fd, hb, hF⟩ := SB.facts (P := (PySem.Challenge.rw_seatbuttons_k42_whole_standings_reached).prog) (w := w) KX G hmg c
    exact ⟨K, fd, SB.sp_law K, KX, hb, fun H a ns hl hS => ⟨a, ns, rfl, hS, Nat.le_trans hl (by decide), fun _ => rfl⟩, hF⟩
