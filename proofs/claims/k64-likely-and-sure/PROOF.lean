import PyProof.Rows.All
import Wide.All
import OpenK.AllK
import Wide.FinOn
import KE.KStateDown
import HandS.ForMost
import HandS.Defaults
import HandS.Codes
import HandS.Property
import HandS.IsInst
import HandS.Head2
import HandS.HeadHook4
import HandS.HeadWalk
import HandS.EndTab
import HandS.Lambda
import HandS.Walk
import KE.GoesEnum
import HandS.More
import HandS.Sort
import HandS.DictComp
import HandS.DeepEq
import HandS.Conv
import PyProof.P3Eq
import HandS.Wide
import HandS.TupAny
import KE.KTupSum
import HandS.CallLocal
import HandS.DictTup
import HandS.Star
import KE.KDictDisplayH
import HandS.TupMul
import KE.DatumOrd
import HandS.Style
import PySem.Challenge.RW_whytold_k64_whole_likely_and_sure_on_the
set_option Elab.async false
set_option linter.all false
set_option maxRecDepth 100000
set_option maxHeartbeats 4000000
/-! ==== FxHead ==== -/
/-! A head's Hook that tells the getters of properties besides, and what isinstance asks of an own class. -/
namespace Fx
open PySem PySem.Spec PyProof.Rows L2
/-- the property f of the class C: its getter's address -/
def gAd (K : PySem.W.Frag) (p : Str × Str) : Addr := match PySem.W.recIn K (He.ma K (He.ga K p.1) p.2) "property" with
  | some (.ref g :: _) => g
  | _ => 0
def fnWA (K : PySem.W.Frag) (a : Addr) : He.FnW := match K.lookup a with
  | some ⟨_, _, .func fd, _⟩ => some (fd.name, fd.qualname, fd.params, fd.body, fd.scope, fd.globals, fd.closure, fd.builtins)
  | _ => none
structure GetD where
  at_ : Str × Str
  name : Str
  qual : Str
  params : Arguments
  body : List Stmt
  scope : Scope
def GetD.val (d : GetD) : He.FnW := some (d.name, d.qual, d.params, .stmts d.body, d.scope, mainGlobals, [], builtinsNs)
def GetD.ok (K : PySem.W.Frag) (d : GetD) : Bool :=
  PySem.W.keepIn K (.ref (gAd K d.at_)) && ((match K.lookup (gAd K d.at_) with
    | some ⟨_, _, .func fd, _⟩ => PySem.W.codeIn K fd.code d.qual && (He.dflB K fd.defaults [] && He.kwdB K fd.kwdefaults [])
    | _ => false) && (He.eqO (PySem.W.findIn K (.ref (He.ga K d.at_.1)) d.at_.2) (some (some (.ref (He.ma K (He.ga K d.at_.1) d.at_.2)))) &&
      (He.eqO (PySem.W.specialIn K (.ref (He.ma K (He.ga K d.at_.1) d.at_.2)) "__get__") (some (some (.builtin "property.__get__"))) &&
        (decide (PySem.W.takesIn K (.ref (He.ma K (He.ga K d.at_.1) d.at_.2)) = some true) && (match PySem.W.recIn K (He.ma K (He.ga K d.at_.1) d.at_.2) "property" with
          | some (.ref _ :: _) => true
          | _ => false)))))
/-- what the end gets of a getter -/
structure GetF (K : PySem.W.Frag) (d : GetD) : Prop where
  ex : ∃ fd, FunD K d.name d.qual d.params d.body d.scope [] [] (gAd K d.at_) fd
  prop : PropOf K (He.ga K d.at_.1) d.at_.2 (He.ma K (He.ga K d.at_.1) d.at_.2) (gAd K d.at_)
theorem GetD.get {K : PySem.W.Frag} {d : GetD} (e : fnWA K (gAd K d.at_) = d.val) (c : d.ok K = true) : GetF K d := by
  obtain ⟨kp, c⟩ := He.ba c
  obtain ⟨c2, c⟩ := He.ba c
  obtain ⟨c3, c⟩ := He.ba c
  obtain ⟨c4, c⟩ := He.ba c
  obtain ⟨c5, c6⟩ := He.ba c
  refine ⟨?_, He.eqO_ok c3, He.eqO_ok c4, of_decide_eq_true c5, ?_⟩
  · unfold fnWA at e
    cases q : K.lookup (gAd K d.at_) with
    | none =>
      rw [q] at c2
      cases c2
    | some o =>
      obtain ⟨oc, od, dt, osl⟩ := o
      rw [q] at c2 e
      cases dt with
      | func fd =>
        obtain ⟨n1, n2, n3, n4, n5, n6, n7, n8, n9, n10, n11, n12, n13, n14, n15⟩ := fd
        have e2 : (some (n1, n2, n3, n4, n5, n6, n7, n15) : He.FnW) = some (d.name, d.qual, d.params, .stmts d.body, d.scope, mainGlobals, [], builtinsNs) := e
        simp only [Option.some.injEq, Prod.mk.injEq] at e2
        obtain ⟨h1, h2, h3, h4, h5, h6, h7, h8⟩ := e2
        subst h1 h2 h3 h4 h5 h6 h7 h8
        obtain ⟨k1, k2⟩ := He.ba (show (PySem.W.codeIn K n13 d.qual && (He.dflB K n8 [] && He.kwdB K n9 [])) = true from c2)
        obtain ⟨k3, k4⟩ := He.ba k2
        exact ⟨_, ⟨oc, od, n8, n9, n10, n11, n12, n13, n14, osl, rfl, q, k1, He.dflB_ok k3, He.kwdB_ok k4⟩, kp⟩
      | _ => cases c2
  · cases q : PySem.W.recIn K (He.ma K (He.ga K d.at_.1) d.at_.2) "property" with
    | none =>
      rw [q] at c6
      cases c6
    | some l =>
      rw [q] at c6
      cases l with
      | nil => cases c6
      | cons v r =>
        cases v with
        | ref g =>
          have eg : gAd K d.at_ = g := by
            unfold gAd
            rw [q]
          rw [eg]
          exact ⟨r, rfl⟩
        | _ => cases c6
/-- isinstance(x, C), C an own class that x is of -/
def insB (K : PySem.W.Frag) (x : Str) : Bool :=
  He.eqO (PySem.W.findIn K (.ref (He.ga K x)) "__class__") (some (some (.builtin "object.__class__"))) && (He.eqO (PySem.W.specialIn K (.builtin "object.__class__") "__get__") (some (some (.builtin "getset_descriptor.__get__"))) &&
    (decide (PySem.W.takesIn K (.builtin "object.__class__") = some true) && (decide (PySem.W.mroIn K (He.ga K x) (.type "object") = some true) && decide (PySem.W.kitOne K (.ref (He.ga K x)) (.ref (He.ga K x)) = some true))))
theorem insB_ok {K : PySem.W.Frag} {x : Str} (cl : Cls K (He.ga K x)) (h : insB K x = true) : C8.InsC K (He.ga K x) := by
  obtain ⟨h1, h⟩ := He.ba h
  obtain ⟨h2, h⟩ := He.ba h
  obtain ⟨h3, h⟩ := He.ba h
  obtain ⟨h4, h5⟩ := He.ba h
  exact ⟨cl, He.eqO_ok h1, He.eqO_ok h2, of_decide_eq_true h3, of_decide_eq_true h4, of_decide_eq_true h5⟩
/-! ### the Hook -/
abbrev AlP : Type := He.AlX × (Bool × List He.FnW)
abbrev ToldBy : Type := Nat × List He.Fa × List He.DefD × List He.Defn × List GetD × (PySem.W.Frag → Bool)
def seen (n : Nat) (g : Addr → Option Obj) : PySem.W.Frag := He.frT g (He.asD g n)
def obsP (n : Nat) (fa : List He.Fa) (fn : List He.DefD) (tf : List He.Defn) (gt : List GetD) (ex : PySem.W.Frag → Bool) (g : Addr → Option Obj) : AlP :=
  (He.obsX n fa fn [] tf ex g, (gt.all fun d => d.ok (seen n g)), gt.map fun d => fnWA (seen n g) (gAd (seen n g) d.at_))
def valP (fn : List He.DefD) (gt : List GetD) (w : World) : AlP := (He.valX fn [] w, true, gt.map GetD.val)
structure SaysP (fa : List He.Fa) (fn : List He.DefD) (tf : List He.Defn) (gt : List GetD) (ex : PySem.W.Frag → Bool) (w : World) (h : Heap) (K : PySem.W.Frag) : Prop where
  x : He.SaysX fa fn [] tf ex w h K
  g : ∀ d ∈ gt, GetF K d
theorem saysP_of {n : Nat} {fa : List He.Fa} {fn : List He.DefD} {tf : List He.Defn} {gt : List GetD} {ex : PySem.W.Frag → Bool} {w : World} {h : Heap} (e : obsP n fa fn tf gt ex h.get? = valP fn gt w) : SaysP fa fn tf gt ex w h (seen n h.get?) := by
  have e1 : He.obsX n fa fn [] tf ex h.get? = He.valX fn [] w := congrArg (fun z : AlP => z.1) e
  have e2 : (gt.all fun d => d.ok (seen n h.get?)) = true := congrArg (fun z : AlP => z.2.1) e
  have e3 : gt.map (fun d => fnWA (seen n h.get?) (gAd (seen n h.get?) d.at_)) = gt.map GetD.val := congrArg (fun z : AlP => z.2.2) e
  refine ⟨He.saysX_of e1, fun d hd => ?_⟩
  obtain ⟨i, hi, ed⟩ := List.mem_iff_getElem.mp hd
  have e4 : (gt.map fun d => fnWA (seen n h.get?) (gAd (seen n h.get?) d.at_))[i]? = (gt.map GetD.val)[i]? := by rw [e3]
  rw [List.getElem?_map, List.getElem?_map, List.getElem?_eq_getElem hi, ed] at e4
  exact GetD.get (Option.some.inj e4) (List.all_eq_true.mp e2 d hd)
def hookP (n : Nat) (fa : List He.Fa) (fn : List He.DefD) (tf : List He.Defn) (gt : List GetD) (ex : PySem.W.Frag → Bool) : PySem.W.Hook where
  α := AlP
  obs := fun s => obsP n fa fn tf gt ex s.heap.get?
  val := fun w => valP fn gt w
  says := fun w h => ∃ K : PySem.W.Frag, K.In h ∧ SaysP fa fn tf gt ex w h K
  of := fun _ _ e => ⟨_, He.frT_in, saysP_of e⟩
  keeps := fun _ _ _ ⟨K, hK, c⟩ k => ⟨K, PySem.W.Frag.In.keeps hK k, ⟨⟨c.x.t, c.x.more, c.x.hd, c.x.out, fun p hp => k _ _ (c.x.empty p hp)⟩, c.g⟩⟩
theorem obsP_eq {n : Nat} {fa : List He.Fa} {fn : List He.DefD} {tf : List He.Defn} {gt : List GetD} {ex : PySem.W.Frag → Bool} {g : Addr → Option Obj} {s : Shared} (h : ∀ a, g a = s.heap.get? a) : obsP n fa fn tf gt ex g = (hookP n fa fn tf gt ex).obs s := by
  have e : g = s.heap.get? := funext h
  rw [e]
  rfl
end Fx
/-! ==== FxHeadL ==== -/
/-! The Hook of FxHead over told addresses (none gathered): cheaper for a long text. -/
namespace Fx
open PySem PySem.Spec PyProof.Rows L2
section
variable {as : List Addr} {fa : List He.Fa} {fn : List He.DefD} {tf : List He.Defn} {gt : List GetD} {ex : PySem.W.Frag → Bool} {w : World} {h : Heap}
def obsL (as : List Addr) (fa : List He.Fa) (fn : List He.DefD) (tf : List He.Defn) (gt : List GetD) (ex : PySem.W.Frag → Bool) (g : Addr → Option Obj) : AlP :=
  (fun K => (((He.obsT fa fn [] K, ex K && He.tabsB g tf K) : He.AlX), (gt.all fun d => d.ok K), gt.map fun d => fnWA K (gAd K d.at_))) (He.frT g as)
theorem saysL_of (e : obsL as fa fn tf gt ex h.get? = valP fn gt w) : SaysP fa fn tf gt ex w h (He.frT h.get? as) := by
  have e0 : ((He.obsT fa fn [] (He.frT h.get? as), ex (He.frT h.get? as) && He.tabsB h.get? tf (He.frT h.get? as)) : He.AlX) = He.valX fn [] w := congrArg (fun z : AlP => z.1) e
  have t1 : He.obsT fa fn [] (He.frT h.get? as) = He.valT fn [] w := congrArg Prod.fst e0
  have t2 : (ex (He.frT h.get? as) && He.tabsB h.get? tf (He.frT h.get? as)) = true := congrArg Prod.snd e0
  have e2 : (gt.all fun d => d.ok (He.frT h.get? as)) = true := congrArg (fun z : AlP => z.2.1) e
  have e3 : gt.map (fun d => fnWA (He.frT h.get? as) (gAd (He.frT h.get? as) d.at_)) = gt.map GetD.val := congrArg (fun z : AlP => z.2.2) e
  obtain ⟨x1, x2⟩ := He.ba t2
  have tab : ∀ p ∈ tf, PySem.W.codeHdIn (He.frT h.get? as) (He.cT (He.frT h.get? as) p).1 (He.cT (He.frT h.get? as) p).2 = true ∧ ∃ o, h.get? (He.cT (He.frT h.get? as) p).2 = some o ∧ He.emptyTab o = true := by
    intro p hp
    obtain ⟨y1, y2⟩ := He.ba (List.all_eq_true.mp x2 p hp)
    refine ⟨y1, ?_⟩
    generalize h.get? (He.cT (He.frT h.get? as) p).2 = r at y2
    match r, y2 with
    | some o, y2 => exact ⟨o, rfl, y2⟩
  refine ⟨⟨t1, x1, fun p hp => (tab p hp).1, fun p hp => ?_, fun p hp => ?_⟩, fun d hd => ?_⟩
  · obtain ⟨_, o, ho, he⟩ := tab p hp
    exact He.frT_none ho he
  · obtain ⟨_, o, ho, he⟩ := tab p hp
    rw [ho, He.emptyTab_eq he]
  · obtain ⟨i, hi, ed⟩ := List.mem_iff_getElem.mp hd
    have e4 : (gt.map fun d => fnWA (He.frT h.get? as) (gAd (He.frT h.get? as) d.at_))[i]? = (gt.map GetD.val)[i]? := by rw [e3]
    rw [List.getElem?_map, List.getElem?_map, List.getElem?_eq_getElem hi, ed] at e4
    exact GetD.get (Option.some.inj e4) (List.all_eq_true.mp e2 d hd)
def hookL (as : List Addr) (fa : List He.Fa) (fn : List He.DefD) (tf : List He.Defn) (gt : List GetD) (ex : PySem.W.Frag → Bool) : PySem.W.Hook where
  α := AlP
  obs := fun s => obsL as fa fn tf gt ex s.heap.get?
  val := fun w => valP fn gt w
  says := fun w h => ∃ K : PySem.W.Frag, K.In h ∧ SaysP fa fn tf gt ex w h K
  of := fun _ _ e => ⟨_, He.frT_in, saysL_of e⟩
  keeps := fun _ _ _ ⟨K, hK, c⟩ k => ⟨K, PySem.W.Frag.In.keeps hK k, ⟨⟨c.x.t, c.x.more, c.x.hd, c.x.out, fun p hp => k _ _ (c.x.empty p hp)⟩, c.g⟩⟩
theorem obsL_eq {g : Addr → Option Obj} {s : Shared} (e : ∀ a, g a = s.heap.get? a) : obsL as fa fn tf gt ex g = (hookL as fa fn tf gt ex).obs s := by
  have e : g = s.heap.get? := funext e
  rw [e]
  rfl
end
end Fx
/-! ==== Tx62 ==== -/
namespace K62
open PySem PySem.Spec PyProof.Rows L2
/-! the texts by place -/
def topS (i : Nat) : Stmt := PySem.Challenge.pw_whytold_k64_whole_likely_and_sure_on_the.main.body.getD i (.Pass ⟨0, 0, 0, 0⟩)
abbrev s_PartError_init : Stmt := inClass (topS 2) 0
abbrev s_ItemError_init : Stmt := inClass (topS 3) 0
abbrev s_TooMany_init : Stmt := inClass (topS 4) 0
abbrev s_is_number : Stmt := topS 16
abbrev s_is_between : Stmt := topS 17
abbrev s_is_list : Stmt := topS 18
abbrev s_first_wrong : Stmt := topS 23
abbrev s_is_short_list : Stmt := topS 24
abbrev s_need_row : Stmt := topS 25
abbrev s_need_row_of : Stmt := topS 26
abbrev s_is_word : Stmt := topS 27
abbrev s_is_line : Stmt := topS 30
abbrev s_need_moves : Stmt := topS 31
abbrev s_need_words : Stmt := topS 32
abbrev s_Watch_init : Stmt := inClass (topS 33) 0
abbrev s_Watch_eq : Stmt := inClass (topS 33) 4
abbrev s_need_watch : Stmt := topS 34
abbrev s_need_both : Stmt := topS 35
abbrev s_led_from : Stmt := topS 36
abbrev s_verdict_of : Stmt := topS 37
abbrev s_need_shown : Stmt := topS 39
abbrev s_shown_at : Stmt := topS 40
abbrev s_mode_right : Stmt := topS 44
abbrev s_need_mode : Stmt := topS 45
abbrev s_known_by : Stmt := topS 48
abbrev s_next_by : Stmt := topS 49
abbrev s_reached_by : Stmt := topS 50
abbrev s_unknown_by : Stmt := topS 51
abbrev s_behind_by : Stmt := topS 52
abbrev s_led_by : Stmt := topS 53
abbrev s_word_of : Stmt := topS 54
abbrev s_can_lead : Stmt := topS 55
abbrev s_sure : Stmt := topS 56
abbrev s_need_weights : Stmt := topS 59
abbrev s_divisor : Stmt := topS 61
abbrev s_power : Stmt := topS 62
abbrev s_fraction_of : Stmt := topS 63
abbrev s_heavier_by : Stmt := topS 64
abbrev s_numbers_by : Stmt := topS 65
abbrev s_words_by : Stmt := topS 66
abbrev s_odds_by : Stmt := topS 67
abbrev s_need_odds : Stmt := topS 68
abbrev s_odds : Stmt := topS 69
abbrev s_need_share : Stmt := topS 74
abbrev s_sets_of_size : Stmt := topS 75
abbrev s_is_likely : Stmt := topS 76
abbrev s_chance_reason : Stmt := topS 77
abbrev s_words_of : Stmt := topS 78
abbrev s_later_words : Stmt := topS 79
abbrev s_sure_at : Stmt := topS 80
abbrev s_need_timed : Stmt := topS 81
abbrev s_mean_sure : Stmt := topS 82
abbrev s_need_case : Stmt := topS 84
abbrev s_need_prices : Stmt := topS 87
abbrev s_offered : Stmt := topS 88
abbrev s_paid_on : Stmt := topS 89
abbrev s_cheapest_by : Stmt := topS 90
abbrev s_cheapest_reason : Stmt := topS 91
abbrev s_law_begun : Stmt := topS 93
abbrev s_law_blend : Stmt := topS 94
abbrev s_law_draw : Stmt := topS 95
abbrev s_law_pick : Stmt := topS 96
abbrev s_law_watch : Stmt := topS 97
abbrev s_law_made : Stmt := topS 98
abbrev s_law_weights : Stmt := topS 99
abbrev s_law_common : Stmt := topS 100
abbrev s_law_fraction : Stmt := topS 101
abbrev s_law_filled : Stmt := topS 102
abbrev s_law : Stmt := topS 103
end K62
/-! ==== Hd64 ==== -/
namespace K62
open PySem PySem.Spec PyProof.Rows L2 Fx
/-! the head: facts by names, the run -/
def hd_s_is_number : He.DefD := ⟨("is_number", none), "is_number", "is_number", defArgs s_is_number, defBody s_is_number, defScope s_is_number, [], []⟩
def hd_s_is_between : He.DefD := ⟨("is_between", none), "is_between", "is_between", defArgs s_is_between, defBody s_is_between, defScope s_is_between, [], []⟩
def hd_s_is_list : He.DefD := ⟨("is_list", none), "is_list", "is_list", defArgs s_is_list, defBody s_is_list, defScope s_is_list, [], []⟩
def hd_s_first_wrong : He.DefD := ⟨("first_wrong", none), "first_wrong", "first_wrong", defArgs s_first_wrong, defBody s_first_wrong, defScope s_first_wrong, [], []⟩
def hd_s_is_short_list : He.DefD := ⟨("is_short_list", none), "is_short_list", "is_short_list", defArgs s_is_short_list, defBody s_is_short_list, defScope s_is_short_list, [], []⟩
def hd_s_need_row : He.DefD := ⟨("need_row", none), "need_row", "need_row", defArgs s_need_row, defBody s_need_row, defScope s_need_row, [], []⟩
def hd_s_need_row_of : He.DefD := ⟨("need_row_of", none), "need_row_of", "need_row_of", defArgs s_need_row_of, defBody s_need_row_of, defScope s_need_row_of, [], []⟩
def hd_s_is_word : He.DefD := ⟨("is_word", none), "is_word", "is_word", defArgs s_is_word, defBody s_is_word, defScope s_is_word, [], []⟩
def hd_s_is_line : He.DefD := ⟨("is_line", none), "is_line", "is_line", defArgs s_is_line, defBody s_is_line, defScope s_is_line, [], []⟩
def hd_s_need_moves : He.DefD := ⟨("need_moves", none), "need_moves", "need_moves", defArgs s_need_moves, defBody s_need_moves, defScope s_need_moves, [], []⟩
def hd_s_need_words : He.DefD := ⟨("need_words", none), "need_words", "need_words", defArgs s_need_words, defBody s_need_words, defScope s_need_words, [], []⟩
def hd_s_Watch_init : He.DefD := ⟨("Watch", some "__init__"), "__init__", "Watch.__init__", defArgs s_Watch_init, defBody s_Watch_init, defScope s_Watch_init, [], []⟩
def hd_s_Watch_eq : He.DefD := ⟨("Watch", some "__eq__"), "__eq__", "Watch.__eq__", defArgs s_Watch_eq, defBody s_Watch_eq, defScope s_Watch_eq, [], []⟩
def hd_s_need_watch : He.DefD := ⟨("need_watch", none), "need_watch", "need_watch", defArgs s_need_watch, defBody s_need_watch, defScope s_need_watch, [.non], []⟩
def hd_s_need_both : He.DefD := ⟨("need_both", none), "need_both", "need_both", defArgs s_need_both, defBody s_need_both, defScope s_need_both, [], []⟩
def hd_s_led_from : He.DefD := ⟨("led_from", none), "led_from", "led_from", defArgs s_led_from, defBody s_led_from, defScope s_led_from, [], []⟩
def hd_s_verdict_of : He.DefD := ⟨("verdict_of", none), "verdict_of", "verdict_of", defArgs s_verdict_of, defBody s_verdict_of, defScope s_verdict_of, [], []⟩
def hd_s_need_shown : He.DefD := ⟨("need_shown", none), "need_shown", "need_shown", defArgs s_need_shown, defBody s_need_shown, defScope s_need_shown, [], []⟩
def hd_s_shown_at : He.DefD := ⟨("shown_at", none), "shown_at", "shown_at", defArgs s_shown_at, defBody s_shown_at, defScope s_shown_at, [], []⟩
def hd_s_mode_right : He.DefD := ⟨("mode_right", none), "mode_right", "mode_right", defArgs s_mode_right, defBody s_mode_right, defScope s_mode_right, [], []⟩
def hd_s_need_mode : He.DefD := ⟨("need_mode", none), "need_mode", "need_mode", defArgs s_need_mode, defBody s_need_mode, defScope s_need_mode, [], []⟩
def hd_s_known_by : He.DefD := ⟨("known_by", none), "known_by", "known_by", defArgs s_known_by, defBody s_known_by, defScope s_known_by, [], []⟩
def hd_s_next_by : He.DefD := ⟨("next_by", none), "next_by", "next_by", defArgs s_next_by, defBody s_next_by, defScope s_next_by, [], []⟩
def hd_s_reached_by : He.DefD := ⟨("reached_by", none), "reached_by", "reached_by", defArgs s_reached_by, defBody s_reached_by, defScope s_reached_by, [], []⟩
def hd_s_unknown_by : He.DefD := ⟨("unknown_by", none), "unknown_by", "unknown_by", defArgs s_unknown_by, defBody s_unknown_by, defScope s_unknown_by, [], []⟩
def hd_s_behind_by : He.DefD := ⟨("behind_by", none), "behind_by", "behind_by", defArgs s_behind_by, defBody s_behind_by, defScope s_behind_by, [], []⟩
def hd_s_led_by : He.DefD := ⟨("led_by", none), "led_by", "led_by", defArgs s_led_by, defBody s_led_by, defScope s_led_by, [], []⟩
def hd_s_word_of : He.DefD := ⟨("word_of", none), "word_of", "word_of", defArgs s_word_of, defBody s_word_of, defScope s_word_of, [], []⟩
def hd_s_can_lead : He.DefD := ⟨("can_lead", none), "can_lead", "can_lead", defArgs s_can_lead, defBody s_can_lead, defScope s_can_lead, [], []⟩
def hd_s_sure : He.DefD := ⟨("sure", none), "sure", "sure", defArgs s_sure, defBody s_sure, defScope s_sure, [], []⟩
def hd_s_need_weights : He.DefD := ⟨("need_weights", none), "need_weights", "need_weights", defArgs s_need_weights, defBody s_need_weights, defScope s_need_weights, [], []⟩
def hd_s_divisor : He.DefD := ⟨("divisor", none), "divisor", "divisor", defArgs s_divisor, defBody s_divisor, defScope s_divisor, [], []⟩
def hd_s_power : He.DefD := ⟨("power", none), "power", "power", defArgs s_power, defBody s_power, defScope s_power, [], []⟩
def hd_s_fraction_of : He.DefD := ⟨("fraction_of", none), "fraction_of", "fraction_of", defArgs s_fraction_of, defBody s_fraction_of, defScope s_fraction_of, [], []⟩
def hd_s_heavier_by : He.DefD := ⟨("heavier_by", none), "heavier_by", "heavier_by", defArgs s_heavier_by, defBody s_heavier_by, defScope s_heavier_by, [], []⟩
def hd_s_numbers_by : He.DefD := ⟨("numbers_by", none), "numbers_by", "numbers_by", defArgs s_numbers_by, defBody s_numbers_by, defScope s_numbers_by, [], []⟩
def hd_s_words_by : He.DefD := ⟨("words_by", none), "words_by", "words_by", defArgs s_words_by, defBody s_words_by, defScope s_words_by, [], []⟩
def hd_s_odds_by : He.DefD := ⟨("odds_by", none), "odds_by", "odds_by", defArgs s_odds_by, defBody s_odds_by, defScope s_odds_by, [], []⟩
def hd_s_need_odds : He.DefD := ⟨("need_odds", none), "need_odds", "need_odds", defArgs s_need_odds, defBody s_need_odds, defScope s_need_odds, [], []⟩
def hd_s_odds : He.DefD := ⟨("odds", none), "odds", "odds", defArgs s_odds, defBody s_odds, defScope s_odds, [], []⟩
def hd_s_need_share : He.DefD := ⟨("need_share", none), "need_share", "need_share", defArgs s_need_share, defBody s_need_share, defScope s_need_share, [], []⟩
def hd_s_sets_of_size : He.DefD := ⟨("sets_of_size", none), "sets_of_size", "sets_of_size", defArgs s_sets_of_size, defBody s_sets_of_size, defScope s_sets_of_size, [], []⟩
def hd_s_is_likely : He.DefD := ⟨("is_likely", none), "is_likely", "is_likely", defArgs s_is_likely, defBody s_is_likely, defScope s_is_likely, [], []⟩
def hd_s_chance_reason : He.DefD := ⟨("chance_reason", none), "chance_reason", "chance_reason", defArgs s_chance_reason, defBody s_chance_reason, defScope s_chance_reason, [], []⟩
def hd_s_words_of : He.DefD := ⟨("words_of", none), "words_of", "words_of", defArgs s_words_of, defBody s_words_of, defScope s_words_of, [], []⟩
def hd_s_later_words : He.DefD := ⟨("later_words", none), "later_words", "later_words", defArgs s_later_words, defBody s_later_words, defScope s_later_words, [], []⟩
def hd_s_sure_at : He.DefD := ⟨("sure_at", none), "sure_at", "sure_at", defArgs s_sure_at, defBody s_sure_at, defScope s_sure_at, [], []⟩
def hd_s_need_timed : He.DefD := ⟨("need_timed", none), "need_timed", "need_timed", defArgs s_need_timed, defBody s_need_timed, defScope s_need_timed, [], []⟩
def hd_s_mean_sure : He.DefD := ⟨("mean_sure", none), "mean_sure", "mean_sure", defArgs s_mean_sure, defBody s_mean_sure, defScope s_mean_sure, [], []⟩
def hd_s_need_case : He.DefD := ⟨("need_case", none), "need_case", "need_case", defArgs s_need_case, defBody s_need_case, defScope s_need_case, [], []⟩
def hd_s_need_prices : He.DefD := ⟨("need_prices", none), "need_prices", "need_prices", defArgs s_need_prices, defBody s_need_prices, defScope s_need_prices, [], []⟩
def hd_s_offered : He.DefD := ⟨("offered", none), "offered", "offered", defArgs s_offered, defBody s_offered, defScope s_offered, [], []⟩
def hd_s_paid_on : He.DefD := ⟨("paid_on", none), "paid_on", "paid_on", defArgs s_paid_on, defBody s_paid_on, defScope s_paid_on, [], []⟩
def hd_s_cheapest_by : He.DefD := ⟨("cheapest_by", none), "cheapest_by", "cheapest_by", defArgs s_cheapest_by, defBody s_cheapest_by, defScope s_cheapest_by, [], []⟩
def hd_s_cheapest_reason : He.DefD := ⟨("cheapest_reason", none), "cheapest_reason", "cheapest_reason", defArgs s_cheapest_reason, defBody s_cheapest_reason, defScope s_cheapest_reason, [], []⟩
def hd_s_law_begun : He.DefD := ⟨("_law_begun", none), "_law_begun", "_law_begun", defArgs s_law_begun, defBody s_law_begun, defScope s_law_begun, [], []⟩
def hd_s_law_blend : He.DefD := ⟨("_law_blend", none), "_law_blend", "_law_blend", defArgs s_law_blend, defBody s_law_blend, defScope s_law_blend, [], []⟩
def hd_s_law_draw : He.DefD := ⟨("_law_draw", none), "_law_draw", "_law_draw", defArgs s_law_draw, defBody s_law_draw, defScope s_law_draw, [], []⟩
def hd_s_law_pick : He.DefD := ⟨("_law_pick", none), "_law_pick", "_law_pick", defArgs s_law_pick, defBody s_law_pick, defScope s_law_pick, [], []⟩
def hd_s_law_watch : He.DefD := ⟨("_law_watch", none), "_law_watch", "_law_watch", defArgs s_law_watch, defBody s_law_watch, defScope s_law_watch, [], []⟩
def hd_s_law_made : He.DefD := ⟨("_law_made", none), "_law_made", "_law_made", defArgs s_law_made, defBody s_law_made, defScope s_law_made, [], []⟩
def hd_s_law_weights : He.DefD := ⟨("_law_weights", none), "_law_weights", "_law_weights", defArgs s_law_weights, defBody s_law_weights, defScope s_law_weights, [], []⟩
def hd_s_law_common : He.DefD := ⟨("_law_common", none), "_law_common", "_law_common", defArgs s_law_common, defBody s_law_common, defScope s_law_common, [], []⟩
def hd_s_law_fraction : He.DefD := ⟨("_law_fraction", none), "_law_fraction", "_law_fraction", defArgs s_law_fraction, defBody s_law_fraction, defScope s_law_fraction, [], []⟩
def hd_s_law_filled : He.DefD := ⟨("_law_filled", none), "_law_filled", "_law_filled", defArgs s_law_filled, defBody s_law_filled, defScope s_law_filled, [], []⟩
def hd_s_law : He.DefD := ⟨("law", none), "law", "law", defArgs s_law, defBody s_law, defScope s_law, [], []⟩
def hfn0 : List He.DefD := [hd_s_is_number, hd_s_is_between, hd_s_is_list, hd_s_first_wrong, hd_s_is_short_list, hd_s_need_row, hd_s_need_row_of, hd_s_is_word, hd_s_is_line, hd_s_need_moves, hd_s_need_words, hd_s_Watch_init, hd_s_Watch_eq, hd_s_need_watch, hd_s_need_both, hd_s_led_from, hd_s_verdict_of, hd_s_need_shown, hd_s_shown_at, hd_s_mode_right]
def hfn1 : List He.DefD := [hd_s_need_mode, hd_s_known_by, hd_s_next_by, hd_s_reached_by, hd_s_unknown_by, hd_s_behind_by, hd_s_led_by, hd_s_word_of, hd_s_can_lead, hd_s_sure, hd_s_need_weights, hd_s_divisor, hd_s_power, hd_s_fraction_of, hd_s_heavier_by, hd_s_numbers_by, hd_s_words_by, hd_s_odds_by, hd_s_need_odds, hd_s_odds]
def hfn2 : List He.DefD := [hd_s_need_share, hd_s_sets_of_size, hd_s_is_likely, hd_s_chance_reason, hd_s_words_of, hd_s_later_words, hd_s_sure_at, hd_s_need_timed, hd_s_mean_sure, hd_s_need_case, hd_s_need_prices, hd_s_offered, hd_s_paid_on, hd_s_cheapest_by, hd_s_cheapest_reason, hd_s_law_begun, hd_s_law_blend, hd_s_law_draw, hd_s_law_pick, hd_s_law_watch]
def hfn3 : List He.DefD := [hd_s_law_made, hd_s_law_weights, hd_s_law_common, hd_s_law_fraction, hd_s_law_filled, hd_s_law]
def hfn : List He.DefD := hfn0 ++ hfn1 ++ hfn2 ++ hfn3
def hfa0 : List He.Fa := [.glo "is_number", .glo "is_between", .glo "is_list", .glo "first_wrong", .glo "is_short_list", .glo "need_row", .glo "need_row_of", .glo "is_word", .glo "is_line", .glo "need_moves", .glo "need_words", .glo "need_watch", .glo "need_both", .glo "led_from", .glo "verdict_of", .glo "need_shown", .glo "shown_at", .glo "mode_right", .glo "need_mode", .glo "known_by"]
def hfa1 : List He.Fa := [.glo "next_by", .glo "reached_by", .glo "unknown_by", .glo "behind_by", .glo "led_by", .glo "word_of", .glo "can_lead", .glo "sure", .glo "need_weights", .glo "divisor", .glo "power", .glo "fraction_of", .glo "heavier_by", .glo "numbers_by", .glo "words_by", .glo "odds_by", .glo "need_odds", .glo "odds", .glo "need_share", .glo "sets_of_size"]
def hfa2 : List He.Fa := [.glo "is_likely", .glo "chance_reason", .glo "words_of", .glo "later_words", .glo "sure_at", .glo "need_timed", .glo "mean_sure", .glo "need_case", .glo "need_prices", .glo "offered", .glo "paid_on", .glo "cheapest_by", .glo "cheapest_reason", .glo "_law_begun", .glo "_law_blend", .glo "_law_draw", .glo "_law_pick", .glo "_law_watch", .glo "_law_made", .glo "_law_weights"]
def hfa3 : List He.Fa := [.glo "_law_common", .glo "_law_fraction", .glo "_law_filled", .glo "law", .glo "Watch", .free "ValueError", .free "abs", .free "all", .free "bool", .free "enumerate", .free "int", .free "isinstance", .free "len", .free "list", .free "min", .free "property", .free "range", .free "sorted", .free "str", .free "sum"]
def hfa4 : List He.Fa := [.free "super", .free "tuple", .free "zip", .int "MOST_EVENTS" 300, .int "MOST_KINDS" 4, .int "MOST_WORD" 3, .int "MOST_PLACES" 6, .int "MOST_PRICE_tariffs" 1000000, .int "MOST_TRIED" 14, .int "MOST_BOTTOM" 1000000, .int "MOST_LENGTH" 40, .int "MOST_PRICE_cheapest" 1000000, .cls "Watch", .mkr "Watch", .noat "Watch" "own_moves", .noat "Watch" "own_words", .glo "BEGIN", .str "COUNTED" "counted", .str "LOST" "lost"]
def hfa : List He.Fa := hfa0 ++ hfa1 ++ hfa2 ++ hfa3 ++ hfa4
def hnm0 : List Str := ["WatchError", "PartError", "ItemError", "TooMany", "BadNumber", "NoWatch", "BadMode", "BadMoves", "BadWords", "BadRow", "BadShown", "BadPrices", "BadWeights", "BadShare", "is_number", "is_between", "is_list", "MOST_EVENTS", "MOST_KINDS", "MOST_WORD", "first_wrong", "is_short_list", "need_row", "need_row_of", "is_word", "MOST_PLACES", "is_line", "need_moves", "need_words", "Watch"]
def hnm1 : List Str := ["need_watch", "need_both", "led_from", "verdict_of", "need_shown", "shown_at", "COUNTED", "LOST", "mode_right", "need_mode", "BEGIN", "known_by", "next_by", "reached_by", "unknown_by", "behind_by", "led_by", "word_of", "can_lead", "sure", "MOST_PRICE_tariffs", "need_weights", "divisor", "power", "fraction_of", "heavier_by", "numbers_by", "words_by", "odds_by", "need_odds"]
def hnm2 : List Str := ["odds", "MOST_TRIED", "MOST_BOTTOM", "MOST_LENGTH", "need_share", "sets_of_size", "is_likely", "chance_reason", "words_of", "later_words", "sure_at", "need_timed", "mean_sure", "need_case", "MOST_PRICE_cheapest", "need_prices", "offered", "paid_on", "cheapest_by", "cheapest_reason", "_law_begun", "_law_blend", "_law_draw", "_law_pick", "_law_watch", "_law_made", "_law_weights", "_law_common", "_law_fraction", "_law_filled"]
def hnm : List Str := hnm0 ++ hnm1 ++ hnm2
def lawAt : Nat := 103
def gd_moves : GetD := ⟨("Watch", "moves"), "moves", "Watch.moves", defArgs (inClass (topS 33) 1), defBody (inClass (topS 33) 1), defScope (inClass (topS 33) 1)⟩
def gd_words : GetD := ⟨("Watch", "words"), "words", "Watch.words", defArgs (inClass (topS 33) 2), defBody (inClass (topS 33) 2), defScope (inClass (topS 33) 2)⟩
def gd_kinds : GetD := ⟨("Watch", "kinds"), "kinds", "Watch.kinds", defArgs (inClass (topS 33) 3), defBody (inClass (topS 33) 3), defScope (inClass (topS 33) 3)⟩
def hgt : List GetD := [gd_moves, gd_words, gd_kinds]
def htf : List He.Defn := [("need_moves", none), ("need_row_of", none)]
def tup0B (K : PySem.W.Frag) (x : Str) : Bool := match K.lookup (He.ga K x) with
  | some ⟨.type t, _, .seq its _, _⟩ => decide (t = "tuple") && (match its.toList with
    | [.int i _] => decide (i = 0)
    | _ => false)
  | _ => false
def hex_ (K : PySem.W.Frag) : Bool := (insB K "Watch" && (tup0B K "BEGIN" && decide ((He.cT K ("need_row_of", none)).2 ≠ (He.cT K ("need_moves", none)).2)))
abbrev R : PySem.W.OpenRow := PySem.W.OpenLaw.row PySem.Challenge.rw_whytold_k64_whole_likely_and_sure_on_the
abbrev hk : PySem.W.Hook := hookL (List.range 900) hfa hfn htf hgt hex_
def ob (s : PySem.W.SharedT) : AlP := obsL (List.range 900) hfa hfn htf hgt hex_ (HandSHeadRun.getT s)
theorem ob_eq (s : PySem.W.SharedT) : ob s = hk.obs s.abs := obsL_eq (HandSHeadRun.getT_eq s)
section
open HandSHeadRun PySem.W
noncomputable def run0 (w : World) (os : OsState) : Option SharedT := endF (stepQ (denQ tabQ) R.prog w) 9000 R.prog w os
theorem run1 (w : World) : ∀ os : PySem.OsState, (run0 w os).map (fun s => (looksF R.prog (boot_heap w.params) s.abs, seenQ (PySem.W.view R.prog [103]) hnm (importedModules R.prog.main.body) (fun s => xlAt (PySem.W.view R.prog [103]) [] s && recOk R.toRowW.records s) s.abs)) = some (true, openGood (PySem.W.view R.prog [103]) hnm) := by
  intro os
  kernel_rfl
theorem run2 (w : World) : ∀ os : PySem.OsState, (run0 w os).map ob = some (hk.val w) := by
  intro os
  kernel_rfl
end
theorem run (w : World) : HandSHeadRun.RunEq R (PySem.W.view R.prog [103]) hk ob 9000 hnm w := fun os => by
  obtain ⟨s, hs, ha⟩ := Option.map_eq_some_iff.mp (run1 w os)
  obtain ⟨s2, hs2, hb⟩ := Option.map_eq_some_iff.mp (run2 w os)
  rw [hs] at hs2
  obtain rfl := Option.some.inj hs2
  obtain ⟨h1, h2⟩ := (Prod.mk.injEq ..).mp ha
  exact Option.map_eq_some_iff.mpr ⟨s, hs, (Prod.mk.injEq ..).mpr ⟨h1, (Prod.mk.injEq ..).mpr ⟨h2, hb⟩⟩⟩
end K62
/-! ==== FxLam ==== -/
/-! A lambda of one parameter, handed to a def of two parameters as its second argument, called there. -/
namespace Fx
open PySem PySem.Spec PyProof.Rows L2 LamX
structure OneP (sc scope : Scope) (x : Str) : Prop where
  knd : scope.kind = .function
  noco : scope.isCoroutine = false
  nogen : scope.isGenerator = false
  par : scope.names.lookup x = some .local
  mine : ∀ y ∈ scope.names, y.2 ≠ .cell ∧ (y.2 = .local → y.1 = x)
  caught : ∀ y ∈ scope.names, y.2 = .free → sc.names.lookup y.1 = some .cell ∨ sc.names.lookup y.1 = some .free
def onePB (sc scope : Scope) (x : Str) : Bool :=
  decide (scope.kind = .function) && (!scope.isCoroutine && (!scope.isGenerator && (decide (scope.names.lookup x = some .local) &&
    scope.names.all fun y => !decide (y.2 = .cell) && ((!decide (y.2 = .local) || decide (y.1 = x)) && (!decide (y.2 = .free) || (decide (sc.names.lookup y.1 = some .cell) || decide (sc.names.lookup y.1 = some .free)))))))
theorem oneP_by {sc scope : Scope} {x : Str} (h : onePB sc scope x = true) : OneP sc scope x := by
  unfold onePB at h
  simp only [Bool.and_eq_true, Bool.or_eq_true, Bool.not_eq_true', decide_eq_true_eq, decide_eq_false_iff_not, List.all_eq_true] at h
  obtain ⟨h1, h2, h3, h4, h5⟩ := h
  refine ⟨h1, h2, h3, h4, fun y hy => ⟨(h5 y hy).1, fun e => ?_⟩, fun y hy e => ?_⟩
  · exact (h5 y hy).2.1.elim (fun z => absurd e z) id
  · exact (h5 y hy).2.2.elim (fun z => absurd e z) id
theorem OneP.has {X : Cx} {scope : Scope} {x : Str} (L : OneP X.env.scope scope x) (ok : X.Ok) : ∀ y ∈ scope.names, y.2 = .free → ∃ c, X.env.cells.lookup y.1 = some c :=
  fun y hy e => (L.caught y hy e).elim (fun z => ok.has _ (.inl z)) fun z => ok.has _ (.inr z)
/-- the lambda's body running: the maker's names, then its own one -/
def oneCx (X : Cx) (A : Around) (outer : List Env) (s : Shared) (H : Hp) (scope : Scope) (x : Str) (f c' : Addr) : Cx where
  prog := X.prog
  w := X.w
  K := X.K
  mg := X.mg
  base := X.base
  A := A.deeper (lamEnv X scope s.heap.objs.size f c')
  N := X.N ++ [x]
  s_0 := s
  H_0 := H
  env := lamEnv X scope s.heap.objs.size f c'
  outer := outer
  stack := lamEnv X scope s.heap.objs.size f c' :: outer
  ex := []
  fn := fun _ => false
  calm := true
  pn := []
  xe := fun e s' => wpAny (model X.prog X.w) (A.deeper (lamEnv X scope s.heap.objs.size f c')) (leaving (lamEnv X scope s.heap.objs.size f c') e)
    (fun _ s'' => CX0 outer H s E0 e s'') (fun e' s'' => CX0 outer H s E0 e' s'') s'
section
variable {X : Cx} {pins : List (Addr × Obj)} {σ : L2.St} {H HZ : Hp} {s s1 : Shared}
theorem one_start {A : Around} {outer : List Env} {scope : Scope} {x : Str} {f c' : Addr} {h₁ : Heap} {tk : Nat} {u : Value} {v : V} (I : Inv X pins σ H s) (L : OneP X.env.scope scope x) (nx : x ∉ X.N)
    (e0 : Env0 X.prog X.w X.K X.mg X.base A outer s1 HZ) (hd : A.handled = none) (un : Un (frs X.stack) [] H HZ s.heap s1.heap) (rv : RelV v u)
    (hns : h₁.Ns s1.heap.objs.size fun y => ([(x, u)] : List (Str × Value)).reverse.lookup y) (kp : ∀ b o, s1.heap.get? b = some o → h₁.get? b = some o) :
    Inv (oneCx X A outer s1 HZ scope x f c') [] (σ ++ [some v]) HZ { s1 with heap := h₁, toks := tk } := by
  have hfree := L.has I.ok
  have down : ∀ {y c}, (cloFrom X.env.cells scope.names []).lookup y = some c → X.env.cells.lookup y = some c := by
    intro y c e
    rcases cloFrom_mem (PySem.mem_of_lookup e) with hm | ⟨h1, h2⟩
    · cases hm
    · obtain ⟨c1, hc⟩ := hfree _ h1 rfl
      have hc2 : X.env.cells.lookup y = some c1 := hc
      have e2 : c = c1 := by
        rw [h2, hc2]
        rfl
      rw [e2]
      exact hc2
  have up : ∀ {y}, scope.names.lookup y = some .free → ∃ c, (cloFrom X.env.cells scope.names []).lookup y = some c := by
    intro y hl
    exact mem_lookup (cloFrom_has (cells := X.env.cells) (acc := []) (show (y, NameKind.free) ∈ scope.names from PySem.mem_of_lookup hl))
  have cellK : ∀ {c : Addr} {v : Option Value}, H c = none → s.heap.IsCell c v → h₁.IsCell c v := by
    intro c v n hcell
    obtain ⟨o, ho, hd⟩ := hcell
    obtain ⟨sl, q⟩ := un.any ho n (by simp)
    exact ⟨_, kp _ _ q, hd⟩
  have noA : ∀ b : Addr, b ∉ (oneCx X A outer s1 HZ scope x f c').ex := fun b z => absurd (show b ∈ ([] : List Addr) from z) (by simp)
  have lenN : σ.length = X.N.length := I.len
  refine ⟨⟨e0.mod, L.knd, rfl, rfl, Nat.le_refl _, fun y z c e1 e2 => I.ok.inj y z c (down e1) (down e2), fun y hy => ?has, fun y c z _ => (nomatch (show false = true from z)), fun _ => hd, Around.frames_deeper e0.frames, .inr ⟨rfl, rfl⟩,
      fun b z => absurd z (noA b), e0.bs, e0.bsz, fun b _ _ => noA b, fun b z => absurd z (noA b), e0.funs, e0.frf⟩,
    rfl, e0.bare, Un.kept kp, ⟨_, hns, fun i y w e1 e2 e3 => ?loc⟩, fun y c e => ?cell, e0.hok.fresh (Nat.le_refl _), fun y c e => ?freeC, fun q hq => absurd (show q ∈ ([] : List (Addr × Obj)) ++ [] from hq) (by simp), e0.hok.kept kp, ?len⟩
  case has =>
    have hy : scope.names.lookup y = some .cell ∨ scope.names.lookup y = some .free := hy
    rcases hy with hy | hy
    · exact absurd rfl (L.mine _ (PySem.mem_of_lookup hy)).1
    · exact up hy
  case loc =>
    have e1 : (X.N ++ [x])[i]? = some y := e1
    have e3 : Vis scope y := e3
    by_cases hi : i < X.N.length
    · rw [List.getElem?_append_left hi] at e1
      rw [List.getElem?_append_left (by omega)] at e2
      have ny : y ≠ x := fun z => nx (z ▸ List.mem_of_getElem? e1)
      rcases e3 with k | k | k
      · exact absurd ((L.mine _ (PySem.mem_of_lookup k)).2 rfl) ny
      · exact absurd rfl (L.mine _ (PySem.mem_of_lookup k)).1
      · obtain ⟨m, hn, hl⟩ := I.loc
        have hv : Vis X.env.scope y := (L.caught _ (PySem.mem_of_lookup k) rfl).elim (fun k => .inr (.inl k)) fun k => .inr (.inr k)
        obtain ⟨w', r, q⟩ := hl i y w e1 e2 hv
        obtain ⟨c2, h2⟩ := up k
        have c1 := down h2
        refine ⟨w', r, .inr ⟨.inr k, c2, h2, ?_⟩⟩
        rcases q with ⟨k1, _⟩ | ⟨_, c3, e', z⟩
        · have k1 : X.env.scope.names.lookup y = some .local := k1
          rcases L.caught _ (PySem.mem_of_lookup k) rfl with k2 | k2 <;> rw [show X.env.scope.names.lookup y = _ from k2] at k1 <;> cases k1
        · rw [c1] at e'
          cases e'
          exact cellK (I.freeC y _ c1) z
    · have hle : X.N.length ≤ i := Nat.le_of_not_lt hi
      rw [List.getElem?_append_right hle] at e1
      rw [List.getElem?_append_right (by omega), lenN] at e2
      have i0 : i - X.N.length = 0 := by
        rcases Nat.eq_zero_or_pos (i - X.N.length) with z | z
        · exact z
        · rw [List.getElem?_eq_none (by simp; omega)] at e1
          cases e1
      rw [i0] at e1 e2
      have ey : x = y := Option.some.inj e1
      have ew : v = w := Option.some.inj (Option.some.inj e2)
      rw [← ew, ← ey]
      exact ⟨u, rv, .inl ⟨L.par, by simp [List.lookup]⟩⟩
  case cell =>
    obtain ⟨w', z⟩ := I.cell y c (down e)
    exact ⟨w', cellK (I.freeC y c (down e)) z⟩
  case freeC =>
    obtain ⟨v', o, ho, hd⟩ := I.cell y c (down e)
    exact un.free c o ho (I.freeC y c (down e)) (by simp)
  case len =>
    show (σ ++ [some v]).length = (X.N ++ [x]).length
    rw [List.length_append, List.length_append, lenN]
    rfl
/-- a(e) in the def that got the lambda -/
theorem one_act {Ng : List Str} {qg : Str} {sg : Scope} {g f c' : Addr} {cdg pm ctv : Value} {params : Arguments} {body : Expr} {scope : Scope} {k i : Nat} {x a : Str} {tb : TE} {te : TE} {e : Expr} {p1 p2 : Pos}
    (I : Inv X pins σ H s) (L : OneP X.env.scope scope x) (nx : x ∉ X.N) (hf : s.heap.get? f = some (PySem.W.kla_obj "<lambda>" (X.env.qual ++ "<lambda>") params body scope (cloFrom X.env.cells scope.names []) pm c' ctv)) (hfn : H f = none) (hfr : f ∉ frs X.stack)
    (hbind : ∀ u : Value, bindArgs (PySem.W.kla_fn "<lambda>" (X.env.qual ++ "<lambda>") params body scope (cloFrom X.env.cells scope.names []) pm (.ref c') ctv) ⟨[u], []⟩ = pure [(x, u)])
    (hr : Room (k + 1) (X.A.deeper (envOfC qg sg s.heap.objs.size g cdg)))
    (hbody : ∀ (A : Around) (outer : List Env) (s : Shared) (H : Hp), Room k (A.deeper (lamEnv X scope s.heap.objs.size f c')) → PE (oneCx X A outer s H scope x f c') body tb)
    (he : PE (cxOf CX0 X.prog X.w X.K X.mg X.base Ng qg sg g cdg X.A X.stack s H E0).nox e te)
    (hN : Ng[i]? = some a) (hv : Vis sg a) (hd : (a == ("__debug__" : Str)) = false) (hcd : (a == ("__classdict__" : Str)) = false)
    (hs1 : starEach [e] (cxOf CX0 X.prog X.w X.K X.mg X.base Ng qg sg g cdg X.A X.stack s H E0).nox.env = (false, eval e (cxOf CX0 X.prog X.w X.K X.mg X.base Ng qg sg g cdg X.A X.stack s H E0).nox.env) :: starEach [] (cxOf CX0 X.prog X.w X.K X.mg X.base Ng qg sg g cdg X.A X.stack s H E0).nox.env) :
    PE (cxOf CX0 X.prog X.w X.K X.mg X.base Ng qg sg g cdg X.A X.stack s H E0).nox (.Call (.Name a p1) [e] [] p2)
      (fun σZ HZ Q => σZ[i]? = some (some (.ref f)) ∧ te σZ HZ fun y H1 => H1 c' = some (CodeO c' (X.env.qual ++ "<lambda>")) ∧ tb (σ ++ [some y]) H1 Q) := by
  refine ⟨fun pinsZ sZ σZ HZ Q IZ h => ?_⟩
  obtain ⟨hs, ht⟩ := h
  refine wpAny_Call_Name_kw (thn ((pe_var (pos := p1) (i := i) hN hv hd hcd).run pinsZ sZ σZ HZ (fun v H1 => v = .ref f ∧ H1 = HZ) IZ ⟨.ref f, hs, rfl, rfl⟩) fun u s1 ⟨v, H1, I1, r1, ev, eH⟩ => ?_)
  subst ev
  rw [eH] at I1
  obtain rfl : u = Value.ref f := r1
  have still : ∀ {pz : List (Addr × Obj)} {sx : Shared} {σx : L2.St} {Hx : Hp}, Inv (cxOf CX0 X.prog X.w X.K X.mg X.base Ng qg sg g cdg X.A X.stack s H E0).nox pz σx Hx sx →
      sx.heap.get? f = some (PySem.W.kla_obj "<lambda>" (X.env.qual ++ "<lambda>") params body scope (cloFrom X.env.cells scope.names []) pm c' ctv) := fun J =>
    J.base.keep f _ hf hfn hfr (fun z => nomatch (show f ∈ ([] : List Addr) from z))
  refine PySem.W.callWith_F (first := []) ⟨_, _, _, _, still I1⟩ (thn ((pa_cons he pa_nil hs1).run p2 pinsZ s1 σZ HZ
    (fun vs H1 => match vs with
      | [y] => H1 c' = some (CodeO c' (X.env.qual ++ "<lambda>")) ∧ tb (σ ++ [some y]) H1 Q
      | _ => False) I1 ht) fun us s2 ⟨vs, H2, I2, r2, q2⟩ => ⟨⟨_, _, _, _, still I2⟩, ?_⟩) hs1 rfl
  match vs, r2, q2 with
  | [], _, q2 => exact q2.elim
  | _ :: _ :: _, _, q2 => exact q2.elim
  | [y], r2, q2 =>
    obtain ⟨hc, hb⟩ := q2
    obtain ⟨u, rfl, ru⟩ := Vals.one r2
    obtain ⟨⟨oc, ws, t, hoc, hdc, hvc⟩, _, _⟩ := I2.hok c' _ hc
    have un : Un (frs X.stack) [] H H2 s.heap s2.heap := I2.base
    have rc : codeAny (model X.prog X.w) (X.A.deeper (envOfC qg sg s.heap.objs.size g cdg)) (.call (.ref f) ⟨[u], []⟩) (CR CX0 (envOfC qg sg s.heap.objs.size g cdg :: X.stack) X.prog X.w H2 s2 Q E0) s2 := by
      refine PySem.W.kla_callFunE hr.depth (still I2) rfl L.noco L.nogen rfl ⟨c', oc, ws, t, rfl, hoc, hdc, hvc⟩ ?_
      rw [hbind]
      refine wpAny_pure (wpAny_newFunctionEnv (fun y hy => (L.mine y hy).1) (fun q hq => ?_) (fun h₁ hns hsb => ⟨I2.nolimit.fresh _ hsb, ?_⟩) L.knd)
      · have eq : q = (x, u) := by simpa using hq
        rw [eq]
        exact L.par
      · show codeAny _ _ (.expr body (lamEnv X scope s2.heap.objs.size f c')) _ _
        have kp : ∀ b o, s2.heap.get? b = some o → h₁.get? b = some o := fun b o e => hsb.extBut b o (Nat.ne_of_lt (Heap.lt_size e)) (Heap.get?_push_of_some _ e)
        have J : Inv (oneCx X (X.A.deeper (envOfC qg sg s.heap.objs.size g cdg)) (envOfC qg sg s.heap.objs.size g cdg :: X.stack) s2 H2 scope x f c') [] (σ ++ [some y]) H2 { s2 with heap := h₁, toks := s2.toks + ([(x, u)] : List (Str × Value)).length } :=
          one_start I L nx I2.env0 hr.hd un ru hns kp
        refine PySem.W.kla_codeExpr (wpAny_mono ((hbody _ _ s2 H2 (hr.deeper _)).run [] _ _ H2 Q J hb) (fun v s' hq => ?_) fun e s' hq => hq)
        obtain ⟨w', H', J', rv, q⟩ := hq
        exact ⟨w', H', J'.os, J'.bare, J'.base, J'.hok, rv, q⟩
    show wpAny _ _ (call (.ref f) [u]) _ _ _
    refine wpAny_call (codeAny_mono rc fun r s' hq => ?_)
    cases r with
    | error e => exact (show False from hq).elim
    | ok fl =>
      cases fl with
      | ret u => exact I2.after hq
      | next => exact False.elim hq
      | brk => exact False.elim hq
      | cont => exact False.elim hq
/-- the def that gets the lambda as its second argument: what it makes of the lambda's reading -/
def GivesTwo (X : Cx) (Ng : List Str) (g0 : Str) (sg : Scope) (g : Addr) (cdg : Value) (bg : List Stmt) (a : Str) (i : Nat) (q : Str) (TT : (V → Hp → VK → Prop) → V → Hp → VK → Prop) : Prop :=
  ∀ (f c' : Addr) (s : Shared) (H : Hp) (v : V) (Q : VK) (tl : V → Hp → VK → Prop),
    (∀ (e : Expr) (te : TE) (p1 p2 : Pos), PE (cxOf CX0 X.prog X.w X.K X.mg X.base Ng g0 sg g cdg X.A X.stack s H E0).nox e te →
      starEach [e] (cxOf CX0 X.prog X.w X.K X.mg X.base Ng g0 sg g cdg X.A X.stack s H E0).nox.env = (false, eval e (cxOf CX0 X.prog X.w X.K X.mg X.base Ng g0 sg g cdg X.A X.stack s H E0).nox.env) :: starEach [] (cxOf CX0 X.prog X.w X.K X.mg X.base Ng g0 sg g cdg X.A X.stack s H E0).nox.env →
      PE (cxOf CX0 X.prog X.w X.K X.mg X.base Ng g0 sg g cdg X.A X.stack s H E0).nox (.Call (.Name a p1) [e] [] p2)
        (fun σZ HZ Q => σZ[i]? = some (some (.ref f)) ∧ te σZ HZ fun y H1 => H1 c' = some (CodeO c' q) ∧ tl y H1 Q)) →
    H c' = some (CodeO c' q) → TT tl v H Q →
    ∃ t, PSs (cxOf CX0 X.prog X.w X.K X.mg X.base Ng g0 sg g cdg X.A X.stack s H E0).nox bg t ∧ t { nx := fun _ H' => Q .non H', rt := Q } (L2.start Ng [v, .ref f]) H
def tTwo (T : List (Addr × Str)) (TT : (V → Hp → VK → Prop) → V → Hp → VK → Prop) (t1 t : TE) : TE := fun σ H Q => t1 σ H fun v H0 => Tabs T H0 ∧ ∀ H1, ExtN H0 H1 → Tabs T H1 → TT (fun y H' Q' => t (σ ++ [some y]) H' Q') v H1 Q
end
section
variable {X : Cx}
/-- g(e, lambda x: body) -/
theorem pe_two {T : List (Addr × Str)} {TT : (V → Hp → VK → Prop) → V → Hp → VK → Prop} {g0 b a x : Str} {g c P : Addr} {k i : Nat} {pg : Arguments} {bg : List Stmt} {sg : Scope} {dV kV doc pm cdv ct oc : Value} {an od : Option Addr} {osl : Array (Option Value)} {Ng : List Str}
    {params : Arguments} {body e1 : Expr} {scope : Scope} {t1 t : TE} {p lpos pos : Pos} (he1 : PE X e1 t1) (hg : Gl X g0) (hm : X.mg g0 = some (.ref g)) (hk : PySem.W.keepIn X.K (.ref g) = true)
    (lk : X.K.lookup g = some ⟨oc, od, .func (PySem.W.fnOf g0 g0 pg bg sg dV kV doc pm an cdv ct), osl⟩) (hcg : PySem.W.codeIn X.K cdv g0 = true) (hb : L2.Binds X.K (PySem.W.fnOf g0 g0 pg bg sg dV kV doc pm an cdv ct) [b, a] []) (Sg : FnScope Ng [b, a] sg) (hNg : Ng[i]? = some a) (hva : Vis sg a)
    (hG : GivesTwo X Ng g0 sg g cdv bg a i (X.env.qual ++ "<lambda>") TT)
    (TB : TabB X.base X.mg c P) (hcode : X.env.code = .ref c) (hmT : (P, X.env.qual ++ "<lambda>") ∈ T) (hu : ∀ p ∈ T, p.1 = P → p.2 = X.env.qual ++ "<lambda>") (hr : Room (k + 2) X.A) (L : OneP X.env.scope scope x) (nx : x ∉ X.N) (hdef : defaultsOf params X.env = ([], []))
    (hbind : ∀ (q : Str) (cl : List (Str × Addr)) (pm cv ctv u : Value), bindArgs (PySem.W.kla_fn "<lambda>" q params body scope cl pm cv ctv) ⟨[u], []⟩ = pure [(x, u)])
    (hbody : ∀ (A : Around) (outer : List Env) (s : Shared) (H : Hp) (f c' : Addr), Room k (A.deeper (lamEnv X scope s.heap.objs.size f c')) → PE (oneCx X A outer s H scope x f c') body t)
    (hdb : (g0 == ("__debug__" : Str)) = false) (hd : (a == ("__debug__" : Str)) = false) (hcd : (a == ("__classdict__" : Str)) = false)
    (hs : starEach [e1, .Lambda params body scope lpos] X.env = [(false, eval e1 X.env), (false, eval (.Lambda params body scope lpos) X.env)]) :
    PE X (.Call (.Name g0 p) [e1, .Lambda params body scope lpos] [] pos) (tTwo T TT t1 t) := by
  refine ⟨fun pins s σ H Q I h => ?_⟩
  refine wpAny_Call_Name_kw (ld_glob I hg hm ?_ hdb)
  refine PySem.W.callWith_K (h₀ := X.base) I.ok.mod.kin hk ?_ (by rw [hs]; rfl) rfl
  rw [hs]
  show wpAny _ _ (spliced [(false, eval e1 X.env), (false, eval (.Lambda params body scope lpos) X.env)]) _ _ s
  refine Calls.spliced_cons (thn (he1.run pins s σ H _ I h) fun u0 s0 ⟨v0, H0, I0, r0, hT, h0⟩ => ?_)
  refine Calls.spliced_cons (lam_make2 I0 TB hcode hmT hu hT hdef (L.has I0.ok) fun f c' pm' ctv H1 s' I1 eN T1 hf hfn hfr hco => ?_)
  refine Calls.spliced_nil ⟨I1.kIn, ?_⟩
  have rc : codeAny (model X.prog X.w) X.A (.call (.ref g) ⟨[u0, .ref f], []⟩) (CR CX0 X.stack X.prog X.w H1 s' Q E0) s' := by
    refine run_ofS (N := Ng) (ps := [b, a]) (us := [u0, .ref f]) (vs := [v0, .ref f]) lk hcg Sg hr I1.env0 (hb s' [u0, .ref f] I1.kIn rfl) (.cons r0 (.cons rfl .nil)) rfl fun hr' => ?_
    obtain ⟨t', ht', hq'⟩ := hG f c' s' H1 v0 Q (fun y H' Q' => t (σ ++ [some y]) H' Q') (fun e te p1 p2 he hs1 => one_act (i := i) I1 L nx hf hfn hfr (hbind _ _ _ _ _) hr' (fun A outer s H hr2 => hbody A outer s H f c' hr2) he hNg hva hd hcd hs1) hco (h0 H1 eN T1)
    exact ⟨t', ht'.nox, hq'⟩
  show wpAny _ _ (call (.ref g) [u0, .ref f]) _ _ _
  refine wpAny_call (codeAny_mono rc fun r s2 hq => ?_)
  cases r with
  | error e => exact (show False from hq).elim
  | ok fl =>
    cases fl with
    | ret u => exact I1.after hq
    | next => exact False.elim hq
    | brk => exact False.elim hq
    | cont => exact False.elim hq
end
end Fx
/-! ==== FxWalk ==== -/
/-! Loops over a list or a tuple; enumerate of a list or a tuple. -/
namespace Fx
open PySem PySem.Spec PyProof.Rows L2
open Sem (wp)
section
theorem meets_enumOne {v : Value} {o : Obj} {H : Heap → Prop} (B : Begins v o H) :
    Meets (Builtin.«enumerate.__new__» ⟨[.type "enumerate", v], []⟩) (fun _ R s => H s.heap ∧
      R (.ok (.ret (.ref (s.heap.push o).objs.size))) { s with heap := (s.heap.push o).push { cls := .type "enumerate", data := .fields #[.none, .bool false, .ref s.heap.objs.size, rawInt 0, .none, .none] } }) :=
  .of_wp fun prog w A R s h => by
    obtain ⟨hp, g, d, tk, os⟩ := s
    obtain ⟨h1, h2⟩ := h
    have sube := sub_enumerate
    have begin_ : ∀ {A' : Around} {E : Value → Shared → Prop} {Q : Value → Shared → Prop}, Q (.ref hp.objs.size) ⟨hp.push o, g, d, tk, os⟩ → wpAny (model prog w) A' (pyIter v) Q E ⟨hp, g, d, tk, os⟩ :=
      fun q => B.iter prog w _ _ ⟨hp, g, d, tk, os⟩ _ h1 q
    wp_walk using begin_
    refine wpAny_stack_any fun st => wpAny_pure ?_
    split
    · rename_i c _ _ _ _ _
      cases (c == Value.type "enumerate") <;> (wp_walk using begin_; exact ⟨_, rfl, h2⟩)
    · wp_walk using begin_
      exact ⟨_, rfl, h2⟩
variable {prog : Program} {w : World} {A : Around} {E : Value → Shared → Prop} {s : Shared}
theorem enum_one {v : Value} {o : Obj} {H : Heap → Prop} {Q : Value → Shared → Prop} (B : Begins v o H) (h1 : H s.heap)
    (h : ∀ h', IsEnum h' (s.heap.objs.size + 1) s.heap.objs.size 0 .none → h'.get? s.heap.objs.size = some o → (∀ b o, s.heap.get? b = some o → h'.get? b = some o) → Q (.ref (s.heap.objs.size + 1)) { s with heap := h' }) :
    wpAny (model prog w) A (call (.type "enumerate") [v]) Q E s := by
  refine callType_new F.called_enumerate (by decide) (F.typeCall_enumerate_1 _) (F.newCall_enumerate_1 _) (fun obj => F.args_object_init_2 obj _) F.entry_enumerate_new (meets_enumOne B) ⟨h1, ?_⟩
  have sz : (s.heap.push o).objs.size = s.heap.objs.size + 1 := Heap.size_push ..
  show _ ∧ _
  rw [sz]
  have he : IsEnum ((s.heap.push o).push { cls := .type "enumerate", data := .fields #[.none, .bool false, .ref s.heap.objs.size, rawInt 0, .none, .none] }) (s.heap.objs.size + 1) s.heap.objs.size 0 .none := by
    have q := Heap.get?_push_size (s.heap.push o) (o := { cls := .type "enumerate", data := .fields #[.none, .bool false, .ref s.heap.objs.size, rawInt 0, .none, .none] }) rfl
    rw [sz] at q
    exact q
  exact ⟨⟨_, he, rfl⟩, h _ he (Heap.get?_push_of_some _ (Heap.get?_push_size _ B.free)) fun b o x => Heap.get?_push_of_some _ (Heap.get?_push_of_some _ x)⟩
end
/-- enumerate of a tuple -/
def ItU (K : PySem.W.Frag) (a : Addr) : It :=
  ⟨fun i H => ∃ (xs : List V) (x : V), SqT K H a xs ∧ xs[i]? = some x, fun i H v H' => ∃ T x, v = .ref T ∧ H T = none ∧ H' = upd H T (.tup [.int (i : Nat), x]) ∧ ∀ xs, SqT K H a xs → xs[i]? = some x, fun i H => ∃ xs : List V, SqT K H a xs ∧ xs.length ≤ i⟩
theorem apart_it {h : Heap} {a it : Addr} {its : Array Value} {i : Nat} (p : IsTup h a its) (q : h.IsTupleIter it a i) : a ≠ it := fun z => by
  obtain ⟨o, ho, hc, hd⟩ := q
  obtain ⟨o2, ho2, hc2, n, hd2⟩ := p
  rw [z, ho] at ho2
  cases ho2
  rw [hd] at hd2
  cases hd2
theorem apart_en {h : Heap} {a e it : Addr} {its : Array Value} {i : Int} {old : Value} (p : IsTup h a its) (q : IsEnum h e it i old) : e ≠ a := fun z => by
  obtain ⟨o2, ho2, hc2, n, hd2⟩ := p
  have q' := q
  unfold IsEnum at q'
  rw [z, ho2] at q'
  cases q'
  cases hd2
theorem turn_enumU {P : Program} {w : World} {K : PySem.W.Frag} {elts : List Expr} {kk : Nat} {tpos : Pos} (a e it : Addr) :
    Turn P w K (.Tuple elts kk tpos) (ItU K a) [e, it] e (fun i h => (∃ old, IsEnum h e it ((i : Nat) : Int) old) ∧ h.IsTupleIter it a i ∧ e ≠ it) where
  mem := by simp
  obj := fun i h st b hb => by
    obtain ⟨⟨old, he⟩, ⟨o, ho, hc, hd⟩, _⟩ := st
    have e' : b = e ∨ b = it := by simpa using hb
    rcases e' with z | z
    · rw [z]; exact ⟨_, he, fun v q => nomatch q⟩
    · rw [z]; exact ⟨o, ho, fun v q => by rw [hd] at q; cases q⟩
  keep := fun i h h' st k => by
    obtain ⟨⟨old, he⟩, hi, hne⟩ := st
    exact ⟨⟨old, k e (by simp) _ he⟩, hi.at fun o q => k it (by simp) o q, hne⟩
  item := by
    intro X hP hw hK hc i pins s σ H E I hf st hg
    subst hP hw hK
    obtain ⟨⟨old, he⟩, hit, hne⟩ := st
    obtain ⟨xs, x, hq, hx⟩ := hg
    obtain ⟨its, rv, p, hz⟩ := I.tuple hq
    obtain ⟨u, hu, ru⟩ := rv.get hx
    have hel : e < s.heap.objs.size := Heap.lt_size he
    have hil : it < s.heap.objs.size := by obtain ⟨_, q, _⟩ := hit; exact Heap.lt_size q
    have ne1 := apart_it p hit
    have ne2 := apart_en p he
    have hlt : i < its.toArray.size := by
      have q := (List.getElem?_eq_some_iff.mp hu).1
      simpa using q
    have D := Draws.tuple (prog := X.prog) (w := X.w) (A := X.A.in1) (I.ok.hd hc) it a ne1 its.toArray
    refine wpAny_pyNext_enum_itemD D he ⟨hit, p⟩ hlt hne (by simp [hne, ne2]) fun x' h' tk hx' ho hst hT hsz hk => ?_
    have ex : x' = u := by
      have q : its.toArray[i]? = some u := by simpa using hu
      rw [q] at hx'
      exact (Option.some.inj hx').symm
    rw [ex] at ho hT
    refine ⟨_, rfl, wpAny_letOwnedTupleGo_enum (s := { s with heap := h', toks := tk + 1 }) ho fun h'' he' sb => ?_⟩
    have hT2 : h''.get? s.heap.objs.size = some { cls := .type "tuple", data := .seq #[.int i tk, u] } := (sb.2 _ (Nat.ne_of_gt hel)).trans hT
    have new : ObjOk X.prog X.w (upd H s.heap.objs.size (.tup [.int (i : Nat), x])) h'' s.heap.objs.size (.tup [.int (i : Nat), x]) :=
      ⟨by show 2 ≤ sizeLine; decide, [.int i tk, u], .cons ⟨_, rfl⟩ (.cons ru .nil), ⟨_, hT2, rfl, _, rfl⟩⟩
    have I1 : Inv X pins σ (upd H s.heap.objs.size (.tup [.int (i : Nat), x])) { s with heap := h'', toks := tk + 1 } :=
      I.turnedNew (ch := [e, it]) (fun b ob hb q => (sb.2 b (fun z => hb (by simp [z]))).trans (hk b ob (fun z => hb (by simp [z])) (fun z => hb (by simp [z])) q)) hf (Nat.le_refl _) new
    refine ⟨.ref s.heap.objs.size, _, I1, rfl, ⟨_, x, rfl, I.hok.fresh (Nat.le_refl _), rfl, fun ys hy => by rw [I.tuple_inj hy hq]; exact hx⟩, ⟨⟨u, ?_⟩, hst.1.at fun o q => (sb.2 it (Ne.symm hne)).trans q, hne⟩, fun b hb => ?_⟩
    · have e1 : ((i + 1 : Nat) : Int) = (i : Int) + 1 := by omega
      rw [e1]
      exact he'
    · have hb' : b < s.heap.objs.size := by
        have e' : b = e ∨ b = it := by simpa using hb
        rcases e' with z | z <;> rw [z] <;> assumption
      rw [upd_ne (Nat.ne_of_lt hb')]
      exact (hf b hb).1
  done := by
    intro X hP hw hK hc i pins s σ H E I hf st hg
    subst hP hw hK
    obtain ⟨⟨old, he⟩, hit, hne⟩ := st
    obtain ⟨xs, hq, hx⟩ := hg
    obtain ⟨its, rv, p, hz⟩ := I.tuple hq
    obtain ⟨f0, f1, f2, f3, f4, f5⟩ := hf it (by simp)
    have hl := rv.length
    have hT : s.TypeIs (.ref e) "enumerate" := ⟨_, he, rfl⟩
    unfold pyNext
    refine wpAny_bind (wpAny_attempt (wpAny_callSpecial?_slot (name := Str.ofString "__next__") hT F.slot_enumerate_next
      (wpAny_call_entry F.slot_enumerate_next hT F.entry_enumerate_next ?_ (F.args_enumerate_next_1 _))))
    show wpAny _ _ (field (.ref e) 2 >>= _) _ _ _
    refine wpAny_bind (wpAny_field he rfl (x := .ref it) rfl ?_)
    refine wpAny_bind (wpAny_nextOf_tuple_end (I.ok.hd hc) hit (show s.heap.IsTuple a its.toArray from p) (by simp; omega) fun h' x he' hx' => ?_)
    obtain ⟨o, ho, hcl⟩ := hx'
    refine wpAny_bind (wpAny_isInstance (T := "StopIteration") (b := true) ⟨o, ho, hcl⟩ isSubtype_stop ?_)
    exact wpAny_pure ⟨rfl, I.turned (t' := s.toks) (fun b o hb q => he' b o hb q) f0 f1 f3 f4 f5⟩
  self := fun A i s Q E st h => by
    obtain ⟨⟨_, he⟩, _⟩ := st
    exact wpAny_pyIter_enum he h
/-- list or tuple, walked -/
def iSeq (K : PySem.W.Frag) (tl : TE) : TI := fun σ H R => tl σ H fun x H1 => ∃ a xs, x = .ref a ∧ ((SqL K H1 a xs ∧ R (Itl K a) H1) ∨ (SqT K H1 a xs ∧ R (Itt K a) H1))
/-- list or tuple, by enumerate -/
def iEnumS (K : PySem.W.Frag) (ta : TA) : TI := fun σ H R => ta σ H fun vs H1 => ∃ a xs, vs = [.ref a] ∧ ((SqL K H1 a xs ∧ R (Ite K a) H1) ∨ (SqT K H1 a xs ∧ R (ItU K a) H1))
section
variable {X : Cx} {tg : Expr}
theorem pi_seq {l : Expr} {tl : TE} (hl : PE X l tl) : PI X tg l (iSeq X.K tl) := by
  refine ⟨fun pins s σ H R I h => ?_⟩
  refine thn (hl.run pins s σ H _ I h) fun v s1 ⟨x, H1, I1, r1, a, xs, e, q⟩ => ?_
  subst e
  cases r1
  rcases q with ⟨hq, q⟩ | ⟨hq, q⟩
  · obtain ⟨its, rv, p, hz⟩ := I1.list hq
    refine wpAny_pyIter_list p.isList ?_
    refine ⟨s1.heap.objs.size, [s1.heap.objs.size], _, _, H1, rfl, I1.kept (t' := s1.toks) fun b o e => Heap.get?_push_of_some _ e, turn_list a _, ⟨_, Heap.get?_push_size _ rfl, rfl, rfl⟩, fun b hb => ?_, q⟩
    rw [show b = s1.heap.objs.size by simpa using hb]
    exact I1.fpOk (Nat.le_refl _) (I1.hok.fresh (Nat.le_refl _))
  · obtain ⟨its, rv, p, hz⟩ := I1.tuple hq
    refine wpAny_pyIter_tuple (show s1.heap.IsTuple a its.toArray from p) ?_
    refine ⟨s1.heap.objs.size, [s1.heap.objs.size], _, _, H1, rfl, I1.kept (t' := s1.toks) fun b o e => Heap.get?_push_of_some _ e, turn_tuple a _, ⟨_, Heap.get?_push_size _ rfl, rfl, rfl⟩, fun b hb => ?_, q⟩
    rw [show b = s1.heap.objs.size by simpa using hb]
    exact I1.fpOk (Nat.le_refl _) (I1.hok.fresh (Nat.le_refl _))
theorem pi_enumS {e : Expr} {ta : TA} {p pos tpos : Pos} {elts : List Expr} {kk : Nat} (hg : Gl X "enumerate") (hm : X.mg "enumerate" = none) (ha : PA X [e] ta) (hs : starEach [e] X.env = [(false, eval e X.env)] := by rfl) :
    PI X (.Tuple elts kk tpos) (.Call (.Name "enumerate" p) [e] [] pos) (iEnumS X.K ta) := by
  refine ⟨fun pins s σ H R I h => ?_⟩
  refine Call_ (ld_blt I hg hm boot_enumerate (PyProof.Rows.callWith_type1 (thn (ha.run pos pins s σ H _ I h) fun us s1 ⟨vs, H1, I1, r1, q1⟩ => ?_) hs rfl))
  obtain ⟨a, xs, ex, q⟩ := q1
  subst ex
  obtain ⟨u, rfl, ru⟩ := Vals.one r1
  cases ru
  have fp : ∀ b ∈ [s1.heap.objs.size + 1, s1.heap.objs.size], FpOk X pins H1 b := fun b hb => by
    have hle : s1.heap.objs.size ≤ b := by
      have e' : b = s1.heap.objs.size + 1 ∨ b = s1.heap.objs.size := by simpa using hb
      rcases e' with z | z
      · rw [z]; exact Nat.le_add_right _ _
      · rw [z]; exact Nat.le_refl _
    exact I1.fpOk hle (I1.hok.fresh hle)
  rcases q with ⟨hq, q⟩ | ⟨hq, q⟩
  · obtain ⟨its, rv, p', hz⟩ := I1.list hq
    refine call_enumerate_list p'.isList fun h' he hit hsz hk => wpAny_pyIter_enum he ?_
    exact ⟨s1.heap.objs.size + 1, [s1.heap.objs.size + 1, s1.heap.objs.size], _, _, H1, rfl, I1.kept (t' := s1.toks) hk, turn_enum a (s1.heap.objs.size + 1) s1.heap.objs.size, ⟨⟨.none, he⟩, hit, Nat.succ_ne_self _⟩, fp, q⟩
  · obtain ⟨its, rv, p', hz⟩ := I1.tuple hq
    refine enum_one (begins_tuple a its.toArray) (show s1.heap.IsTuple a its.toArray from p') fun h' he hit hk => wpAny_pyIter_enum he ?_
    exact ⟨s1.heap.objs.size + 1, [s1.heap.objs.size + 1, s1.heap.objs.size], _, _, H1, rfl, I1.kept (t' := s1.toks) hk, turn_enumU a (s1.heap.objs.size + 1) s1.heap.objs.size, ⟨⟨.none, he⟩, ⟨_, hit, rfl, rfl⟩, Nat.succ_ne_self _⟩, fp, q⟩
end
theorem walk_enumU {K : PySem.W.Frag} {a : Addr} {xs : List V} : Walk (ItU K a) xs.length (fun H => SqT K H a xs) (YPair (fun i => some (.int (i : Nat))) (fun i => xs[i]?)) where
  goes := fun i H hi g => ⟨xs, xs[i], g, by simp [hi]⟩
  stops := fun H g => ⟨xs, g, Nat.le_refl _⟩
  yields := fun i H x H' hi g ⟨T, y, e1, e2, e3, e4⟩ => ⟨T, .int (i : Nat), y, e1, e2, e3, rfl, e4 xs g⟩
end Fx
/-! ==== FxDict ==== -/
/-! Dicts: == of tables of data, sorted keys, the greatest value, update by a dict, comprehensions over any walk. -/
namespace Fx
open PySem PySem.Spec PyProof.Rows L2
section
variable {X : Cx} {pins : List (Addr × Obj)} {σ : L2.St} {H : Hp} {s : Shared}
/-- equal as data -/
def SameData (K : PySem.W.Frag) (H : Hp) (x y : V) : Prop := ∃ d e, Dp K H x d ∧ Dp K H y e ∧ SeqAt.shaped d = true ∧ SeqAt.shaped e = true ∧ d.depth ≤ 60 ∧ PyData.eqv d e = true
theorem sameData_at (I : Inv X pins σ H s) {A : Around} (hu : A.units + 60 < cLine) {x y : V} {v u : Value} (h : SameData X.K H x y) (rx : RelV x v) (ry : RelV y u) : SeqAt.EqAt A s v u true := by
  obtain ⟨d, e, hd, he, sd, se, dd, q⟩ := h
  obtain ⟨as, r1⟩ := Dp.reads I d x v hd rx
  obtain ⟨bs, r2⟩ := Dp.reads I e y u he ry
  have z := SeqAt.eqAt_reads d e A s v u as bs r1 r2 (SeqAt.canLay_of_shaped sd) (SeqAt.canLay_of_shaped se) (by have := Nat.min_le_left d.depth e.depth; omega)
  rw [q] at z
  exact z
theorem hitsData (I : Inv X pins σ H s) {A : Around} (hu : A.units + 60 < cLine) {ls : List (Key × V)} {vb : List (Key × Value)} (rb : KV ls vb) {ks : List (Key × V)} {va : List (Key × Value)} (ra : KV ks va) :
    (∀ p ∈ ks, ∃ u, valV ls p.1 = some u ∧ SameData X.K H p.2 u) → PySem.W.KeqHits A s vb va true := by
  unfold KV at ra
  induction ra with
  | nil => exact fun _ => .nil
  | @cons p q ps qs h t k =>
    intro hp
    obtain ⟨h1, h2⟩ := h
    obtain ⟨u, e, f⟩ := hp p List.mem_cons_self
    have rr : RelO (some u) (valueAt vb p.1) := by
      rw [← e]
      exact rb.val p.1
    obtain ⟨y, hy, ry⟩ := rr.some_of
    obtain ⟨key, v⟩ := q
    have h1' : p.1 = key := h1
    rw [h1'] at hy
    show PySem.W.KeqHits A s vb ((key, v) :: qs) (true && true)
    exact .hit hy (sameData_at I hu f h2 ry) (k fun p' hm => hp p' (List.mem_cons_of_mem _ hm))
end
section
variable {X : Cx}
def rDataD (r : Bool) (K : PySem.W.Frag) : R2 := fun x y H Q => ∃ a b ks ls, x = .ref a ∧ y = .ref b ∧ H a = some (.dK ks) ∧ H b = some (.dK ls) ∧ ks.length = ls.length ∧ (∀ p ∈ ks, ∃ u, valV ls p.1 = some u ∧ SameData K H p.2 u) ∧ Q (.bl r) H
theorem op_eqDD (hu : X.A.units + 64 < cLine) : OpR X (compareOp .Eq) (rDataD true X.K) := by
  intro pins s σ H x y v u Q I rx ry h
  obtain ⟨a, b, ks, ls, rfl, rfl, ea, eb, hlen, hp, q⟩ := h
  obtain rfl : v = Value.ref a := rx
  obtain rfl : u = Value.ref b := ry
  obtain ⟨_, ya, va, ra, da⟩ := (show ObjOk X.prog X.w H s.heap a (.dK ks) from I.hok a _ ea)
  obtain ⟨_, yb, vb, rb, db⟩ := (show ObjOk X.prog X.w H s.heap b (.dK ls) from I.hok b _ eb)
  have hl : va.length = vb.length := by rw [← ra.length, ← rb.length]; exact hlen
  refine PySem.W.keq_eq (knd := mixKind X.prog X.w) (r := true) ya yb da db (by omega) (fun _ => hitsData I (by show X.A.units + 1 + 60 < cLine; omega) rb ra hp) ?_
  rw [show (va.length == vb.length && true) = true by rw [hl]; simp]
  exact ⟨.bl true, H, I, rfl, q⟩
theorem op_neDD (hu : X.A.units + 64 < cLine) : OpR X (compareOp .NotEq) (rDataD false X.K) := by
  intro pins s σ H x y v u Q I rx ry h
  obtain ⟨a, b, ks, ls, rfl, rfl, ea, eb, hlen, hp, q⟩ := h
  obtain rfl : v = Value.ref a := rx
  obtain rfl : u = Value.ref b := ry
  obtain ⟨_, ya, va, ra, da⟩ := (show ObjOk X.prog X.w H s.heap a (.dK ks) from I.hok a _ ea)
  obtain ⟨_, yb, vb, rb, db⟩ := (show ObjOk X.prog X.w H s.heap b (.dK ls) from I.hok b _ eb)
  have hl : va.length = vb.length := by rw [← ra.length, ← rb.length]; exact hlen
  refine PySem.W.keq_ne (knd := mixKind X.prog X.w) (r := true) ya yb da db (by omega) (fun _ => hitsData I (by show X.A.units + 1 + 60 < cLine; omega) rb ra hp) ?_
  rw [show (!(va.length == vb.length && true)) = false by rw [hl]; simp]
  exact ⟨.bl false, H, I, rfl, q⟩
/-- sorted(d), a dict of whole numbers, fewer than 64 -/
theorem cr_sortedDI (hcalm : X.calm = true) : CallR X (.builtin "sorted") (fun xs H Q => ∃ (a : Addr) (kvs : List (Key × V)) (ks : List Int), xs = [.ref a] ∧ Rd H a (.dK kvs) ∧ kvs.map (·.1) = ks.map Sum.inl ∧ ks.length < 64 ∧
    ∀ (ys : List Int) p, ys.Perm ks → ys.Pairwise (· ≤ ·) → H p = none → Q (.ref p) (upd H p (.lst (ys.map V.int)))) := by
  intro pins s σ H xs us Q I r q
  obtain ⟨a, kvs, ks, ex, hd, hks, h64, q⟩ := q
  subst ex
  obtain ⟨u, eu, rx⟩ := Vals.one r
  subst eu
  cases rx
  obtain ⟨z, lo, vs, rel, dd⟩ := dk_rd I.hok hd
  obtain ⟨ep, hat⟩ := dd.dictAt
  have hkeys : vs.map (·.1) = ks.map Sum.inl := rel.keys.symm.trans hks
  have hl : vs.length = ks.length := by
    have e := congrArg List.length hkeys
    rw [List.length_map, List.length_map] at e
    exact e
  have h16 : vs.length ≤ sizeLine := by rw [hl, sizeLine_eq]; omega
  refine Calls.call_function_entry PyProof.Rows.kind_sorted PyProof.Rows.plain_sorted PyProof.Rows.entry_sorted (PyProof.Rows.args_sorted1 _) ?_
  unfold Builtin.«sorted»
  refine wpAny_bind (m := checkCount "sorted" 1 1 _) (wpAny_pure ?_)
  refine wpAny_bind (PySem.W.kdu_collect (A := X.A.in1) (PySem.W.kdl_dict (knd := mixKind X.prog X.w) (kvs := vs) (ep := ep) lo) (I.ok.hd hcalm) hat h16 fun h' tk acc hk hacc => ?_)
  have hal : acc.toList.length = ks.length := by rw [Array.length_toList, hacc.1, hl]
  have at_ : ∀ (j : Nat) (v : Value), acc.toList[j]? = some v → ∃ t, v = .int (ks.getD j 0) t := by
    intro j v e
    obtain ⟨k, x, e1, e2⟩ := hacc.2 j v (by rw [← Array.getElem?_toList]; exact e)
    have e3 : (vs.map (·.1))[j]? = some k := by
      rw [List.getElem?_map, e1]
      rfl
    rw [hkeys, List.getElem?_map] at e3
    cases e4 : ks[j]? with
    | none => rw [e4] at e3; cases e3
    | some y =>
      rw [e4] at e3
      have e5 : Sum.inl y = k := Option.some.inj e3
      subst e5
      obtain ⟨t, ev⟩ := Value.isInt_shape (k := y) (v := v) e2
      refine ⟨t, ?_⟩
      rw [ev, List.getD_eq_getElem?_getD, e4]
      rfl
  have hS : IntsAre acc.toList ks := by
    have hv : Vals (ks.map V.int) acc.toList := by
      have e0 : ks.map V.int = (List.range acc.toList.length).map (fun i => V.int (ks.getD i 0)) := by
        rw [hal]
        apply List.ext_getElem?
        intro i
        rw [List.getElem?_map, List.getElem?_map]
        by_cases hi : i < ks.length
        · rw [List.getElem?_range hi, List.getElem?_eq_getElem hi]
          simp [List.getD_eq_getElem?_getD, hi]
        · rw [List.getElem?_eq_none (by omega), List.getElem?_eq_none (by simp; omega)]
          rfl
      rw [e0]
      exact vals_of_get _ _ fun j u e => at_ j u e
    exact Vals.ints hv
  have I1 : Inv X pins σ H { s with heap := h', toks := tk } := I.kept hk
  refine wpAny_bind (wpAny_newList ?_ (by rw [hal, sizeLine_eq]; omega))
  have hoL : (h'.push (seqObj "list" acc.toList.toArray 0)).get? h'.objs.size = some (seqObj "list" acc.toList.toArray 0) := Heap.get?_push_size _ rfl
  show wpAny _ _ _ _ _ { s with heap := h'.push (seqObj "list" acc.toList.toArray 0), toks := tk }
  refine wpAny_bind (wpAny_holding (wpAny_call_entry PyProof.Rows.slot_list_sort ⟨_, hoL, rfl⟩ PyProof.Rows.entry_list_sort
    (PyProof.Rows.list_sort_tree (s := { s with heap := h'.push (seqObj "list" acc.toList.toArray 0), toks := tk }) hoL hS (by rw [hal]; exact h64) fun out ns' g1 g2 g3 => ⟨_, rfl, ?_⟩) (PyProof.Rows.args_list_sort _)))
  obtain ⟨e', he'⟩ := PyProof.Rows.sortedHeap_at (vs := acc.toList) (out := out) hoL
  have hlen : (ns'.map V.int).length ≤ sizeLine := by
    rw [List.length_map, g2.length_eq]
    exact small64 h64
  refine wpAny_pure ⟨_, rfl, .ref h'.objs.size, upd H h'.objs.size (.lst (ns'.map V.int)), I1.laid (t' := tk) (fun b u e => ?_) (Nat.le_refl _)
    (show ObjOk X.prog X.w _ _ _ (.lst (ns'.map V.int)) from ⟨hlen, out.toList, e', vals_of_ints g1, by rw [Array.toArray_toList]; exact he'⟩), rfl, q ns' _ g2 g3 (I1.hok.fresh (Nat.le_refl _))⟩
  have hb : b < h'.objs.size := Heap.lt_size e
  rw [PyProof.Rows.sortedHeap_old (Nat.ne_of_lt hb) (by rw [Heap.size_push]; exact Nat.lt_succ_of_lt hb)]
  exact Heap.get?_push_of_some _ e
/-- d.update(e), e a dict -/
def rUpd : V → List V → Hp → VK → Prop := fun x vs H Q => ∃ a b kvs more, x = .ref a ∧ vs = [.ref b] ∧ a ≠ b ∧ H a = some (.dK kvs) ∧ Rd H b (.dK more) ∧ kvs.length + more.length ≤ sizeLine ∧ Q .non (upd H a (.dK (mergeK kvs more)))
theorem mt_update : MtR X "dict.update" rUpd := by
  intro pins s σ H x xs v us Q I rx rv h
  obtain ⟨a, b, kvs, more, rfl, rfl, hab, ha, hb, hz, q⟩ := h
  cases rx
  obtain ⟨u, rfl, ru⟩ := Vals.one rv
  cases ru
  obtain ⟨z1, y1, vs1, r1, d1⟩ := dk_of I.hok ha
  obtain ⟨z2, y2, vs2, r2, d2⟩ := dk_rd I.hok hb
  refine call_meetsIn F.slot_dict_update d1.typeIs F.entry_dict_update (F.args_dict_update_2 _ _) (meets_dict_update (mixKind X.prog X.w) a b hab y2)
    ⟨vs1, vs2, d1, d2, by rw [← r1.length, ← r2.length]; exact hz, fun h' hd' ho' hs => ?_⟩
  refine ⟨.non, _, d_write I (by rw [ha]; trivial) hs ?_ ?_, rfl, q⟩
  · obtain ⟨o, es, ep, e, _⟩ := hd'
    exact ⟨_, e⟩
  · exact dk_new (Nat.le_trans (length_mergeK _ _) hz) y1 (KV.merge r2 r1) hd'
/-- max(d.values()), whole numbers, not empty -/
def tMaxVals (td : TE) : TE := fun σ H Q => td σ H fun x H1 => ∃ a kvs is, x = V.ref a ∧ Rd H1 a (.dK kvs) ∧ kvs.map (·.2) = is.map V.int ∧ is ≠ [] ∧ ∀ m, m ∈ is → (∀ j ∈ is, j ≤ m) → Q (.int m) H1
theorem pe_maxVals {o : Expr} {p pos apos mpos : Pos} {td : TE} (hc : X.calm = true) (hg : Gl X "max") (hm : X.mg "max" = none) (hd : PE X o td) (hbase : attributeBase o "values" X.env (eval o X.env) = eval o X.env) (hline : (apos.endLine == mpos.line) = true)
    (hse : starEach [Expr.Call (.Attribute o "values" apos) [] [] mpos] X.env = [(false, eval (Expr.Call (.Attribute o "values" apos) [] [] mpos) X.env)]) :
    PE X (.Call (.Name "max" p) [.Call (.Attribute o "values" apos) [] [] mpos] [] pos) (tMaxVals td) := by
  refine ⟨fun pins s σ H Q I h => ?_⟩
  refine wpAny_Call_Name_kw (ld_blt I hg hm (u := .builtin "max") (by first | rfl | decide +kernel) ?_ (by first | decide +kernel | decide) (by first | decide +kernel | decide))
  rw [hse]
  refine PySem.callWith_builtin1 (wpAny_Call_method0_late hbase hline (thn (hd.run pins s σ H _ I h) fun v s1 ⟨x, H1, I1, r1, a, kvs, is, ex, ha, hv, hne, q⟩ => ?_))
  subst ex
  obtain rfl : v = Value.ref a := r1
  obtain ⟨_, hsys, vs, rel, dof⟩ := dk_rd I1.hok ha
  obtain ⟨ep, dat⟩ := dof.dictAt
  obtain ⟨ob, es, ho, ex, hdat, hko, hpr, hnd⟩ := id dat
  refine ⟨"dict", "dict.values", F.plainAttrs_dict, F.slot_dict_values, F.type_dict_values, ⟨ob, ho, ex.1⟩, fun b e => ?_, Calls.callWith_builtin rfl (PySem.evalArgs_none ?_)⟩
  · cases e
    exact ⟨ob, ho, ex.2.1⟩
  refine call_meetsIn F.slot_dict_values ⟨ob, ho, ex.1⟩ F.entry_dict_values (F.args_dict_values_1 _) (meets_dict_values (mixKind X.prog X.w) a hsys) ⟨⟨vs, dof⟩, ?_⟩
  have k1 : ∀ b u, s1.heap.get? b = some u → (s1.heap.push { cls := .type "dict_values", data := .fields #[.ref a] }).get? b = some u := fun b u e => Heap.get?_push_of_some _ e
  have dat1 : (s1.heap.push { cls := .type "dict_values", data := .fields #[.ref a] }).DictAt (mixKind X.prog X.w) a vs ep := dat.keep k1
  have hlv : vs.length = is.length := by
    have e1 := congrArg List.length hv
    rw [List.length_map, List.length_map] at e1
    rw [← e1]
    exact (KV.length rel).symm
  have hlen : 0 < vs.length := by
    rw [hlv]
    exact List.length_pos_iff.mpr hne
  have hval : ∀ (i : Nat) (v : Value), (∃ k, vs[i]? = some (k, v)) → ∃ t, v = Value.int (is.getD i 0) t := by
    intro i v hk
    obtain ⟨k, hk⟩ := hk
    obtain ⟨x, h1, h2⟩ := KV.at' rel hk
    have e1 : (kvs.map (·.2))[i]? = some x := by
      rw [List.getElem?_map, h1]
      rfl
    rw [hv, List.getElem?_map] at e1
    obtain ⟨j, hj, e2⟩ := Option.map_eq_some_iff.mp e1
    subst e2
    obtain ⟨t, e3⟩ := h2
    refine ⟨t, ?_⟩
    rw [e3, List.getD_eq_getElem?_getD, hj]
    rfl
  refine call_max_walk (wpAny_pyIter_values (v := s1.heap.objs.size) (d := a) ⟨_, Heap.get?_push_size _ rfl, rfl, rfl⟩ dat1 ?_)
  have hlt : a < s1.heap.objs.size := Heap.lt_size ho
  have hsz : (s1.heap.push { cls := .type "dict_values", data := .fields #[.ref a] }).objs.size = s1.heap.objs.size + 1 := Heap.size_push _ _
  refine ⟨_, _, _, _, _, _, _, rfl, Walks.dictValues (knd := mixKind X.prog X.w) (A := X.A.in1) (I.ok.hd hc) (s1.heap.push { cls := .type "dict_values", data := .fields #[.ref a] }).objs.size a (by rw [hsz]; exact Nat.ne_of_lt (Nat.lt_succ_of_lt hlt)) vs ep,
    ⟨⟨_, Heap.get?_push_size _ rfl, rfl, rfl⟩, dat1.keep fun b u e => Heap.get?_push_of_some _ e⟩, fun b hb => ?_, hlen, CmpOf.ints_gt (fun i => is.getD i 0) hval, fun v h' tk hP hk => ?_⟩
  · show b < ((s1.heap.push _).push _).objs.size
    rw [Heap.size_push, Heap.size_push]
    rw [hsz] at hb
    rcases List.mem_cons.mp hb with e | hb
    · rw [e]
      exact Nat.lt_succ_self _
    · rw [List.mem_singleton.mp hb]
      exact Nat.lt_succ_of_lt (Nat.lt_succ_of_lt hlt)
  · obtain ⟨t, rfl⟩ := hval _ v hP
    obtain ⟨b1, b2⟩ := argBest_gt (fun i => is.getD i 0) (vs.length - 1)
    refine ⟨.int _, H1, I1.kept (t' := tk) fun b u e => hk b u (fun hmem => ?_) (Heap.get?_push_of_some _ (k1 b u e)), ⟨t, rfl⟩, q _ ?_ fun j hj => ?_⟩
    · have e1 : b = (s1.heap.push { cls := .type "dict_values", data := .fields #[.ref a] }).objs.size := List.mem_singleton.mp hmem
      have e2 := Heap.lt_size e
      rw [hsz] at e1
      rw [e1] at e2
      exact absurd e2 (Nat.not_lt.mpr (Nat.le_succ _))
    · have hb : argBest (fun i j => decide (is.getD i 0 > is.getD j 0)) (vs.length - 1) < is.length := by omega
      rw [List.getD_eq_getElem?_getD, List.getElem?_eq_getElem hb]
      exact List.getElem_mem hb
    · obtain ⟨i, hi, e⟩ := List.mem_iff_getElem.mp hj
      have e2 : is.getD i 0 = j := by
        rw [List.getD_eq_getElem?_getD, List.getElem?_eq_getElem hi, ← e]
        rfl
      rw [← e2]
      exact b2 i (by omega)
end
/-- a dict comprehension over any walk: Pv by the turn and the heap (the new dict at D within) -/
theorem dc_it {J : It} {n : Nat} {G : Hp → Prop} {Y : Nat → Hp → V → Hp → Prop} (w : Walk J n G Y) {g : TG} {tt : TT} {tk tv : TE} {vs : List Nat} {σ : L2.St} {H1 : Hp} {D : Addr} {Qd : Hp → Prop} (Pv : Nat → Hp → Prop) (h0 : Pv 0 (upd H1 D (.dK []))) (hG : ∀ i H, i ≤ n → Pv i H → G H)
    (hs : ∀ i x H H', i < n → Pv i H → Y i H x H' → g x (wipe σ vs) H' fun σ2 H2 => wipe σ2 vs = wipe σ vs ∧ tt σ2 H2 fun b H3 =>
      if b = true then tk σ2 H3 fun y H4 => tv σ2 H4 fun z H5 => ∃ kvs k, y = kV k ∧ H5 D = some (.dK kvs) ∧ kvs.length < sizeLine ∧ Pv (i + 1) (upd H5 D (.dK (putK kvs k z))) else Pv (i + 1) H3) (hd : ∀ H, Pv n H → Qd H) :
    ∃ W : Nat → Nat → Hp → Prop, (∃ m, W 0 m (upd H1 D (.dK []))) ∧ ∀ i m H, W i m H →
      (J.stop i H ∧ Qd H) ∨ (J.go i H ∧ ∃ Nx : Hp → Prop, (∀ H', Nx H' → ∃ m', m' < m ∧ W (i + 1) m' H') ∧ ∀ x H', J.yld i H x H' → g x (wipe σ vs) H' fun σ2 H2 => wipe σ2 vs = wipe σ vs ∧ tt σ2 H2 fun b H3 =>
        if b = true then tk σ2 H3 fun y H4 => tv σ2 H4 fun z H5 => ∃ kvs k, y = kV k ∧ H5 D = some (.dK kvs) ∧ kvs.length < sizeLine ∧ Nx (upd H5 D (.dK (putK kvs k z))) else Nx H3) := by
  refine ⟨fun i m H => m = n - i ∧ i ≤ n ∧ Pv i H, ⟨n, by simp, Nat.zero_le _, h0⟩, ?_⟩
  rintro i m H ⟨rfl, hi, p⟩
  have q := hG i H hi p
  by_cases hlt : i < n
  · exact .inr ⟨w.goes i H hlt q, Pv (i + 1), fun H' p' => ⟨n - (i + 1), by omega, rfl, hlt, p'⟩, fun x H' y => hs i x H H' hlt p (w.yields i H x H' hlt q y)⟩
  · have e : i = n := by omega
    subst e
    exact .inl ⟨w.stops H q, hd H p⟩
end Fx
/-! ==== FxBase ==== -/
namespace Fx
open PySem PySem.Spec PyProof.Rows L2
/-! ### heaps: all but the tables (and the objects of B) stay; the tables that Z names stay good -/
def Exb (Z : List (Addr × Str)) (B : List Addr) (H H' : Hp) : Prop := (∀ b o, b ∉ B → H b = some o → (∀ ps, o ≠ .tbl ps) → H' b = some o) ∧ (LamX.Tabs Z H → LamX.Tabs Z H')
abbrev Ex (Z : List (Addr × Str)) (H H' : Hp) : Prop := Exb Z [] H H'
/-- an object that is no table and no code object -/
def Mb : HO → Prop
  | .tbl _ => False
  | .ext _ => False
  | _ => True
section
variable {Z : List (Addr × Str)} {B : List Addr} {H H1 H2 H' : Hp} {K : PySem.W.Frag} {a p d : Addr} {xs : List V} {o u : HO}
theorem Mb.nt (h : Mb o) : ∀ ps, o ≠ .tbl ps := fun ps z => by
  rw [z] at h
  exact h
theorem Exb.refl (H : Hp) : Exb Z B H H := ⟨fun _ _ _ h _ => h, id⟩
theorem Exb.trans (x : Exb Z B H H1) (y : Exb Z B H1 H2) : Exb Z B H H2 := ⟨fun b o n h t => y.1 b o n (x.1 b o n h t) t, fun h => y.2 (x.2 h)⟩
theorem Exb.any (x : Ex Z H H') : Exb Z B H H' := ⟨fun b o _ h t => x.1 b o (by simp) h t, x.2⟩
theorem Ex.new (h : H p = none) : Ex Z H (upd H p o) := by
  have e : ∀ b u, H b = some u → upd H p o b = some u := fun b u e => by
    rw [upd_ne (ne_of_none e h)]
    exact e
  exact ⟨fun b u _ q _ => e b u q, fun t q hq => (t q hq).ext e⟩
theorem tabs_upd (h : LamX.Tabs Z H') (m : ∀ u, H' p = some u → Mb u) : LamX.Tabs Z (upd H' p o) := fun q hq => by
  obtain ⟨ps, h1, h2, h3⟩ := h q hq
  refine ⟨ps, ?_, h2, fun pos cv hc => ?_⟩
  · rw [upd_ne (fun z => (m (.tbl ps) (by rw [← z]; exact h1) : False))]
    exact h1
  · obtain ⟨c, e1, e2⟩ := h3 pos cv hc
    refine ⟨c, e1, ?_⟩
    rw [upd_ne (fun z => (m (LamX.CodeO c q.2) (by rw [← z]; exact e2) : False))]
    exact e2
theorem Mb.of (h : H' p = some o) (m : Mb o) : ∀ u, H' p = some u → Mb u := fun u e => by
  rw [h] at e
  rw [← Option.some.inj e]
  exact m
/-- an object that is new since H, or of B, is changed -/
theorem Exb.mut (x : Exb Z B H H') (h : p ∈ B ∨ H p = none) (m : ∀ u, H' p = some u → Mb u) : Exb Z B H (upd H' p o) := ⟨fun b u n e t => by
  have ne : b ≠ p := fun z => by
    rcases h with h | h
    · exact n (z ▸ h)
    · rw [z, h] at e
      cases e
  rw [upd_ne ne]
  exact x.1 b u n e t, fun t => tabs_upd (x.2 t) m⟩
theorem Exb.lstb (x : Exb Z B H H') (n : a ∉ B) (h : H a = some (.lst xs)) : H' a = some (.lst xs) := x.1 a _ n h fun ps z => nomatch z
theorem Exb.tupb (x : Exb Z B H H') (n : a ∉ B) (h : H a = some (.tup xs)) : H' a = some (.tup xs) := x.1 a _ n h fun ps z => nomatch z
theorem Exb.dkb {kvs : List (Key × V)} (x : Exb Z B H H') (n : a ∉ B) (h : H a = some (.dK kvs)) : H' a = some (.dK kvs) := x.1 a _ n h fun ps z => nomatch z
theorem Exb.frzb {od : Obj} (x : Exb Z B H H') (n : a ∉ B) (h : H a = some (.frz od u)) : H' a = some (.frz od u) := x.1 a _ n h fun ps z => nomatch z
theorem Exb.insb {C dx : Addr} {fs : List (Str × V)} (x : Exb Z B H H') (n : a ∉ B) (h : H a = some (.ins C dx fs)) : H' a = some (.ins C dx fs) := x.1 a _ n h fun ps z => nomatch z
theorem Exb.sqLb (x : Exb Z B H H') (n : a ∉ B) (h : SqL K H a xs) : SqL K H' a xs := by
  rcases h with (h | ⟨o, h⟩) | h
  · exact .inl (.inl (x.lstb n h))
  · exact .inl (.inr ⟨o, x.frzb n h⟩)
  · exact .inr h
theorem Exb.sqTb (x : Exb Z B H H') (n : a ∉ B) (h : SqT K H a xs) : SqT K H' a xs := by
  rcases h with (h | ⟨o, h⟩) | h
  · exact .inl (.inl (x.tupb n h))
  · exact .inl (.inr ⟨o, x.frzb n h⟩)
  · exact .inr h
theorem Exb.rdDb {kvs : List (Key × V)} (x : Exb Z B H H') (n : a ∉ B) (h : Rd H a (.dK kvs)) : Rd H' a (.dK kvs) := by
  rcases h with h | ⟨o, h⟩
  · exact .inl (x.dkb n h)
  · exact .inr ⟨o, x.frzb n h⟩
/-- what is new behind is new ahead -/
theorem Exb.back (x : Exb Z B H H') (n : p ∉ B) (nt : ∀ ps, H p ≠ some (.tbl ps)) (h : H' p = none) : H p = none := by
  cases q : H p with
  | none => rfl
  | some o =>
    have := x.1 p o n q fun ps z => nt ps (by rw [q, z])
    rw [h] at this
    cases this
/-- a list or a tuple -/
def SqS (K : PySem.W.Frag) (H : Hp) (a : Addr) (xs : List V) : Prop := SqL K H a xs ∨ SqT K H a xs
theorem Exb.sqSb (x : Exb Z B H H') (n : a ∉ B) (h : SqS K H a xs) : SqS K H' a xs := h.elim (fun z => .inl (x.sqLb n z)) fun z => .inr (x.sqTb n z)
theorem Exb.sqL (x : Ex Z H H') (h : SqL K H a xs) : SqL K H' a xs := Exb.sqLb x (by simp) h
theorem Exb.sqT (x : Ex Z H H') (h : SqT K H a xs) : SqT K H' a xs := Exb.sqTb x (by simp) h
theorem Exb.sqS (x : Ex Z H H') (h : SqS K H a xs) : SqS K H' a xs := Exb.sqSb x (by simp) h
theorem Exb.lst (x : Ex Z H H') (h : H a = some (.lst xs)) : H' a = some (.lst xs) := Exb.lstb x (by simp) h
theorem Exb.tup (x : Ex Z H H') (h : H a = some (.tup xs)) : H' a = some (.tup xs) := Exb.tupb x (by simp) h
theorem Exb.dk {kvs : List (Key × V)} (x : Ex Z H H') (h : H a = some (.dK kvs)) : H' a = some (.dK kvs) := Exb.dkb x (by simp) h
theorem Exb.frz {od : Obj} (x : Ex Z H H') (h : H a = some (.frz od u)) : H' a = some (.frz od u) := Exb.frzb x (by simp) h
theorem Exb.ins {C dx : Addr} {fs : List (Str × V)} (x : Ex Z H H') (h : H a = some (.ins C dx fs)) : H' a = some (.ins C dx fs) := Exb.insb x (by simp) h
theorem Exb.rdD {kvs : List (Key × V)} (x : Ex Z H H') (h : Rd H a (.dK kvs)) : Rd H' a (.dK kvs) := Exb.rdDb x (by simp) h
/-- a dict (or list) that is locked: behind it all is as it was -/
theorem Exb.locked {od : Obj} (m : Mb u) (hd : H d = some u) (x : Exb Z B (upd H d (.frz od u)) H') (hd2 : H' d = some (.frz od u)) : Exb Z B H (upd H' d u) := ⟨fun b o n e t => by
  by_cases q : b = d
  · rw [q] at e ⊢
    rw [hd] at e
    rw [← Option.some.inj e]
    exact upd_same
  · rw [upd_ne q]
    exact x.1 b o n (by rw [upd_ne q]; exact e) t, fun t => tabs_upd (x.2 (tabs_upd t (Mb.of hd m))) (Mb.of hd2 trivial)⟩
end
/-! ### defs by facts -/
/-- the module's name x is the def of the statement st -/
structure Df (K : PySem.W.Frag) (mg : Str → Option Value) (x : Str) (st : Stmt) (dvs : List V) : Prop where
  ex : ∃ f fd, FunD K x x (defArgs st) (defBody st) (defScope st) dvs [] f fd ∧ mg x = some (.ref f)
section
variable {P : Program} {w : World} {K : PySem.W.Frag} {mg : Str → Option Value} {base : Heap} {x : Str} {st : Stmt} {N ps : List Str} {k : Nat} {sp : Sp}
theorem Df.cal (D : Df K mg x st []) (S : FnScope N ps (defScope st))
    (hb : ∀ (kV doc pm : Value) (an : Option Addr) (cdv ct : Value) (us : List Value), us.length = ps.length → bindArgs (PySem.W.fnOf x x (defArgs st) (defBody st) (defScope st) .none kV doc pm an cdv ct) ⟨us, []⟩ = pure (ps.zip us))
    (len : ∀ vs H Q E, sp vs H Q E → vs.length = ps.length)
    (hbody : ∀ (f : Addr) (cdv : Value) (A : Around) (outer : List Env) (s : Shared) (H : Hp) (vs : List V) (Q : VK) (E : XK), Room k (A.deeper (envOfC x (defScope st) s.heap.objs.size f cdv)) → sp vs H Q E →
      ∃ t, PSs (cxOf CX0 P w K mg base N x (defScope st) f cdv A outer s H E).nox (defBody st) t ∧ t { nx := fun _ H' => Q .non H', rt := Q } (start N vs) H) : C8.Cal P w K mg base (k + 1) x sp [] := by
  obtain ⟨f, fd, F, hm⟩ := D.ex
  exact ⟨f, fd, ps, [], F.ok S len fun cdv A outer s H vs Q E hr h => (hbody f cdv A outer s H vs Q E hr h).imp fun t q => ⟨q.1.nox, q.2⟩, hm, F.kp, F.bindsN hb, .nil⟩
end
/-! ### the built-ins' names -/
theorem bt_isinstance : bootBuiltins "isinstance" = some (.builtin "isinstance") := by decide +kernel
theorem bt_len : bootBuiltins "len" = some (.builtin "len") := by decide +kernel
theorem bt_sum : bootBuiltins "sum" = some (.builtin "sum") := by decide +kernel
theorem bt_all : bootBuiltins "all" = some (.builtin "all") := by decide +kernel
theorem bt_sorted : bootBuiltins "sorted" = some (.builtin "sorted") := by decide +kernel
theorem bt_abs : bootBuiltins "abs" = some (.builtin "abs") := by decide +kernel
theorem bt_min : bootBuiltins "min" = some (.builtin "min") := by decide +kernel
theorem bt_max : bootBuiltins "max" = some (.builtin "max") := by decide +kernel
theorem bt_int : bootBuiltins "int" = some (.type "int") := by decide +kernel
theorem bt_bool : bootBuiltins "bool" = some (.type "bool") := by decide +kernel
theorem bt_list : bootBuiltins "list" = some (.type "list") := by decide +kernel
theorem bt_tuple : bootBuiltins "tuple" = some (.type "tuple") := by decide +kernel
theorem bt_str : bootBuiltins "str" = some (.type "str") := by decide +kernel
/-- the place of a name that is stored -/
theorem or_dum {a b : Prop} (h : a ∨ b) : a ∨ b := h
end Fx
/-! ==== FxRead ==== -/
/-! Helpers for the readings: answers of tests, walks over what may be a list or a tuple, comprehensions that leave all else as it was. -/
namespace Fx
open PySem PySem.Spec PyProof.Rows L2
section
variable {x y : V} {p : Prop} [Decidable p]
theorem eqT (h : x = y) : V.bl (decide (x = y)) = V.bl true := congrArg V.bl (decide_eq_true h)
theorem eqF (h : x ≠ y) : V.bl (decide (x = y)) = V.bl false := congrArg V.bl (decide_eq_false h)
theorem neT (h : x ≠ y) : V.bl (!decide (x = y)) = V.bl true := by rw [decide_eq_false h]; rfl
theorem neF (h : x = y) : V.bl (!decide (x = y)) = V.bl false := by rw [decide_eq_true h]; rfl
theorem blT (h : p) : V.bl (decide p) = V.bl true := congrArg V.bl (decide_eq_true h)
theorem blF (h : ¬ p) : V.bl (decide p) = V.bl false := congrArg V.bl (decide_eq_false h)
end
section
variable {Z : List (Addr × Str)} {B : List Addr} {H H1 H2 H' : Hp} {K : PySem.W.Frag} {a D d : Addr} {xs acc : List V}
theorem Exb.new (h : H D = none) {o : HO} : Exb Z B H (upd H D o) := (Ex.new h).any
/-- neither a sequence, nor a table, nor locked -/
def Mi : HO → Prop
  | .dK _ => True
  | .dT _ => True
  | .ins _ _ _ => True
  | .own _ => True
  | .ext _ => True
  | _ => False
theorem Exb.sqLm (x : Exb Z B H H') (n : a ∈ B → ∀ u, H a = some u → Mi u) (h : SqL K H a xs) : SqL K H' a xs := by
  by_cases hb : a ∈ B
  · rcases h with (h | ⟨o, h⟩) | h
    · exact ((n hb _ h : Mi (.lst xs)) : False).elim
    · exact ((n hb _ h : Mi (.frz o (.lst xs))) : False).elim
    · exact .inr h
  · exact x.sqLb hb h
theorem Exb.sqTm (x : Exb Z B H H') (n : a ∈ B → ∀ u, H a = some u → Mi u) (h : SqT K H a xs) : SqT K H' a xs := by
  by_cases hb : a ∈ B
  · rcases h with (h | ⟨o, h⟩) | h
    · exact ((n hb _ h : Mi (.tup xs)) : False).elim
    · exact ((n hb _ h : Mi (.frz o (.tup xs))) : False).elim
    · exact .inr h
  · exact x.sqTb hb h
/-- a walk over a list or a tuple -/
theorem seqS {R : It → Hp → Prop} (h : SqS K H a xs) (q : ∀ J G, Walk J xs.length G (YAt xs) → (∀ Z B H', (a ∈ B → ∀ u, H a = some u → Mi u) → Exb Z B H H' → G H') → R J H) : (SqL K H a xs ∧ R (Itl K a) H) ∨ (SqT K H a xs ∧ R (Itt K a) H) :=
  h.elim (fun z => .inl ⟨z, q _ _ walk_list fun Z B H' n x => x.sqLm n z⟩) fun z => .inr ⟨z, q _ _ walk_tup fun Z B H' n x => x.sqTm n z⟩
theorem enumS {R : It → Hp → Prop} (h : SqS K H a xs) (q : ∀ J G, Walk J xs.length G (YPair (fun i => some (.int (i : Nat))) (fun i => xs[i]?)) → (∀ Z B H', (a ∈ B → ∀ u, H a = some u → Mi u) → Exb Z B H H' → G H') → R J H) : (SqL K H a xs ∧ R (Ite K a) H) ∨ (SqT K H a xs ∧ R (ItU K a) H) :=
  h.elim (fun z => .inl ⟨z, q _ _ walk_enum fun Z B H' n x => x.sqLm n z⟩) fun z => .inr ⟨z, q _ _ walk_enumU fun Z B H' n x => x.sqTm n z⟩
/-- within a comprehension: the new list at D, all else as it was -/
def LcP (Z : List (Addr × Str)) (B : List Addr) (H1 : Hp) (D : Addr) (Pi : Nat → List V → Hp → Prop) (i : Nat) (H : Hp) : Prop := Exb Z B H1 H ∧ ∃ acc, H D = some (.lst acc) ∧ acc.length ≤ i ∧ Pi i acc H
variable {Pi : Nat → List V → Hp → Prop} {i : Nat} {y : V}
theorem LcP.put (x1 : Exb Z B H1 H) (hD : H1 D = none) (hD2 : H D = some (.lst acc)) (nB : D ∉ B) (l : acc.length ≤ i) (hi : i < 1000000) (x : Exb Z B H H2) (p : Pi (i + 1) (acc ++ [y]) (upd H2 D (.lst (acc ++ [y])))) :
    ∃ acc, H2 D = some (.lst acc) ∧ acc.length < sizeLine ∧ LcP Z B H1 D Pi (i + 1) (upd H2 D (.lst (acc ++ [y]))) :=
  ⟨acc, x.lstb nB hD2, Nat.lt_of_le_of_lt (Nat.le_trans l (Nat.le_of_lt hi)) (by decide), (x1.trans x).mut (.inr hD) (Mb.of (x.lstb nB hD2) trivial), _, upd_same, by simp; omega, p⟩
theorem lcE {J : It} {n : Nat} {G : Hp → Prop} {Y : Nat → Hp → V → Hp → Prop} (w : Walk J n G Y) {g : TG} {tt : TT} {te : TE} {vs : List Nat} {σ : L2.St} {Qd : Hp → Prop} (hD : H1 D = none) (hG : ∀ H, Exb Z B H1 H → G H) (hn : n ≤ 1000000) (Pi : Nat → List V → Hp → Prop) (h0 : Pi 0 [] (upd H1 D (.lst [])))
    (hs : ∀ i acc x H H', i < n → Exb Z B H1 H → H D = some (.lst acc) → acc.length ≤ i → Pi i acc H → Y i H x H' → g x (wipe σ vs) H' fun σ2 H2 => wipe σ2 vs = wipe σ vs ∧ tt σ2 H2 fun b H3 =>
      if b = true then te σ2 H3 fun y H4 => ∃ acc, H4 D = some (.lst acc) ∧ acc.length < sizeLine ∧ LcP Z B H1 D Pi (i + 1) (upd H4 D (.lst (acc ++ [y]))) else LcP Z B H1 D Pi (i + 1) H3) (hd : ∀ acc H, Exb Z B H1 H → H D = some (.lst acc) → Pi n acc H → Qd H) :
    ∃ W : Nat → Nat → Hp → Prop, (∃ m, W 0 m (upd H1 D (.lst []))) ∧ ∀ i m H, W i m H →
      (J.stop i H ∧ Qd H) ∨ (J.go i H ∧ ∃ Nx : Hp → Prop, (∀ H', Nx H' → ∃ m', m' < m ∧ W (i + 1) m' H') ∧ ∀ x H', J.yld i H x H' → g x (wipe σ vs) H' fun σ2 H2 => wipe σ2 vs = wipe σ vs ∧ tt σ2 H2 fun b H3 =>
        if b = true then te σ2 H3 fun y H4 => ∃ acc, H4 D = some (.lst acc) ∧ acc.length < sizeLine ∧ Nx (upd H4 D (.lst (acc ++ [y]))) else Nx H3) :=
  lc_it w (LcP Z B H1 D Pi) ⟨Exb.new hD, [], upd_same, Nat.le_refl _, h0⟩ (fun i H _ p => hG H p.1)
    (fun i x H H' hi ⟨x1, acc, ha, hl, hp⟩ hy => hs i acc x H H' hi x1 ha hl hp hy) fun H ⟨x1, acc, ha, _, hp⟩ => hd acc H x1 ha hp
/-- the same of a dict -/
def DcP (Z : List (Addr × Str)) (B : List Addr) (H1 : Hp) (D : Addr) (Pi : Nat → List (Key × V) → Hp → Prop) (i : Nat) (H : Hp) : Prop := Exb Z B H1 H ∧ ∃ acc, H D = some (.dK acc) ∧ Pi i acc H
theorem DcP.put {Pi : Nat → List (Key × V) → Hp → Prop} {acc : List (Key × V)} {k : Key} {z : V} {i : Nat} (x1 : Exb Z B H1 H) (hD : H1 D = none) (hD2 : H D = some (.dK acc)) (nB : D ∉ B) (hl : acc.length < 1000000) (x : Exb Z B H H2) (p : Pi (i + 1) (putK acc k z) (upd H2 D (.dK (putK acc k z)))) :
    ∃ kvs k', kV k = kV k' ∧ H2 D = some (.dK kvs) ∧ kvs.length < sizeLine ∧ DcP Z B H1 D Pi (i + 1) (upd H2 D (.dK (putK kvs k' z))) :=
  ⟨acc, k, rfl, x.dkb nB hD2, Nat.lt_of_lt_of_le hl (by decide), (x1.trans x).mut (.inr hD) (Mb.of (x.dkb nB hD2) trivial), _, upd_same, p⟩
theorem dcE {J : It} {n : Nat} {G : Hp → Prop} {Y : Nat → Hp → V → Hp → Prop} (w : Walk J n G Y) {g : TG} {tt : TT} {tk tv : TE} {vs : List Nat} {σ : L2.St} {Qd : Hp → Prop} (hD : H1 D = none) (hG : ∀ H, Exb Z B H1 H → G H) (Pi : Nat → List (Key × V) → Hp → Prop) (h0 : Pi 0 [] (upd H1 D (.dK [])))
    (hs : ∀ i acc x H H', i < n → Exb Z B H1 H → H D = some (.dK acc) → Pi i acc H → Y i H x H' → g x (wipe σ vs) H' fun σ2 H2 => wipe σ2 vs = wipe σ vs ∧ tt σ2 H2 fun b H3 =>
      if b = true then tk σ2 H3 fun y H4 => tv σ2 H4 fun z H5 => ∃ kvs k, y = kV k ∧ H5 D = some (.dK kvs) ∧ kvs.length < sizeLine ∧ DcP Z B H1 D Pi (i + 1) (upd H5 D (.dK (putK kvs k z))) else DcP Z B H1 D Pi (i + 1) H3) (hd : ∀ acc H, Exb Z B H1 H → H D = some (.dK acc) → Pi n acc H → Qd H) :
    ∃ W : Nat → Nat → Hp → Prop, (∃ m, W 0 m (upd H1 D (.dK []))) ∧ ∀ i m H, W i m H →
      (J.stop i H ∧ Qd H) ∨ (J.go i H ∧ ∃ Nx : Hp → Prop, (∀ H', Nx H' → ∃ m', m' < m ∧ W (i + 1) m' H') ∧ ∀ x H', J.yld i H x H' → g x (wipe σ vs) H' fun σ2 H2 => wipe σ2 vs = wipe σ vs ∧ tt σ2 H2 fun b H3 =>
        if b = true then tk σ2 H3 fun y H4 => tv σ2 H4 fun z H5 => ∃ kvs k, y = kV k ∧ H5 D = some (.dK kvs) ∧ kvs.length < sizeLine ∧ Nx (upd H5 D (.dK (putK kvs k z))) else Nx H3) :=
  dc_it w (DcP Z B H1 D Pi) ⟨Exb.new hD, [], upd_same, h0⟩ (fun i H _ p => hG H p.1)
    (fun i x H H' hi ⟨x1, acc, ha, hp⟩ hy => hs i acc x H H' hi x1 ha hp hy) fun H ⟨x1, acc, ha, hp⟩ => hd acc H x1 ha hp
theorem ixS {p : Addr} {j : Nat} {v : V} {Q : VK} (h : SqS K H p xs) (e : xs[j]? = some v) (q : Q v H) : rIx K (.ref p) (.int (j : Nat)) H Q :=
  h.elim (fun z => .inl ⟨_, _, _, _, rfl, rfl, z, atI_nat e, q⟩) fun z => .inr (.inl ⟨_, _, _, _, rfl, rfl, z, atI_nat e, q⟩)
theorem ixT {p : Addr} {j : Nat} {v : V} {Q : VK} (h : SqT K H p xs) (e : xs[j]? = some v) (q : Q v H) : rIxT K (.ref p) (.int (j : Nat)) H Q := ⟨_, _, _, _, rfl, rfl, h, atI_nat e, q⟩
theorem ixL {p : Addr} {j : Nat} {v : V} {Q : VK} (h : SqL K H p xs) (e : xs[j]? = some v) (q : Q v H) : rIxL K (.ref p) (.int (j : Nat)) H Q := ⟨_, _, _, _, rfl, rfl, h, atI_nat e, q⟩
end
/-- a list or a tuple walked: what the walk is, and that it goes on while the thing stays -/
def iSeqW (K : PySem.W.Frag) (tl : TE) : TI := fun σ H R => tl σ H fun x H1 => ∃ a xs, x = .ref a ∧ SqS K H1 a xs ∧ ∀ J G, Walk J xs.length G (YAt xs) → (∀ Z B H', (a ∈ B → ∀ u, H1 a = some u → Mi u) → Exb Z B H1 H' → G H') → R J H1
def iEnumW (K : PySem.W.Frag) (ta : TA) : TI := fun σ H R => ta σ H fun vs H1 => ∃ a xs, vs = [.ref a] ∧ SqS K H1 a xs ∧ ∀ J G, Walk J xs.length G (YPair (fun i => some (.int (i : Nat))) (fun i => xs[i]?)) → (∀ Z B H', (a ∈ B → ∀ u, H1 a = some u → Mi u) → Exb Z B H1 H' → G H') → R J H1
section
variable {X : Cx} {tg : Expr} {pins : List (Addr × Obj)} {σ : L2.St} {H : Hp} {s : Shared}
theorem pi_seqW {l : Expr} {tl : TE} (hl : PE X l tl) : PI X tg l (iSeqW X.K tl) := by
  refine ⟨fun pins s σ H R I h => ?_⟩
  refine thn (hl.run pins s σ H _ I h) fun v s1 ⟨x, H1, I1, r1, a, xs, e, hS, q⟩ => ?_
  subst e
  cases r1
  rcases seqS hS q with ⟨hq, q⟩ | ⟨hq, q⟩
  · obtain ⟨its, rv, p, hz⟩ := I1.list hq
    refine wpAny_pyIter_list p.isList ?_
    refine ⟨s1.heap.objs.size, [s1.heap.objs.size], _, _, H1, rfl, I1.kept (t' := s1.toks) fun b o e => Heap.get?_push_of_some _ e, turn_list a _, ⟨_, Heap.get?_push_size _ rfl, rfl, rfl⟩, fun b hb => ?_, q⟩
    rw [show b = s1.heap.objs.size by simpa using hb]
    exact I1.fpOk (Nat.le_refl _) (I1.hok.fresh (Nat.le_refl _))
  · obtain ⟨its, rv, p, hz⟩ := I1.tuple hq
    refine wpAny_pyIter_tuple (show s1.heap.IsTuple a its.toArray from p) ?_
    refine ⟨s1.heap.objs.size, [s1.heap.objs.size], _, _, H1, rfl, I1.kept (t' := s1.toks) fun b o e => Heap.get?_push_of_some _ e, turn_tuple a _, ⟨_, Heap.get?_push_size _ rfl, rfl, rfl⟩, fun b hb => ?_, q⟩
    rw [show b = s1.heap.objs.size by simpa using hb]
    exact I1.fpOk (Nat.le_refl _) (I1.hok.fresh (Nat.le_refl _))
theorem pi_enumW {e : Expr} {ta : TA} {p pos tpos : Pos} {elts : List Expr} {kk : Nat} (hg : Gl X "enumerate") (hm : X.mg "enumerate" = none) (ha : PA X [e] ta) (hs : starEach [e] X.env = [(false, eval e X.env)] := by rfl) :
    PI X (.Tuple elts kk tpos) (.Call (.Name "enumerate" p) [e] [] pos) (iEnumW X.K ta) := by
  refine ⟨fun pins s σ H R I h => ?_⟩
  refine Call_ (ld_blt I hg hm boot_enumerate (PyProof.Rows.callWith_type1 (thn (ha.run pos pins s σ H _ I h) fun us s1 ⟨vs, H1, I1, r1, q1⟩ => ?_) hs rfl))
  obtain ⟨a, xs, ex, hS, q⟩ := q1
  subst ex
  obtain ⟨u, rfl, ru⟩ := Vals.one r1
  cases ru
  have fp : ∀ b ∈ [s1.heap.objs.size + 1, s1.heap.objs.size], FpOk X pins H1 b := fun b hb => by
    have hle : s1.heap.objs.size ≤ b := by
      have e' : b = s1.heap.objs.size + 1 ∨ b = s1.heap.objs.size := by simpa using hb
      rcases e' with z | z
      · rw [z]; exact Nat.le_add_right _ _
      · rw [z]; exact Nat.le_refl _
    exact I1.fpOk hle (I1.hok.fresh hle)
  rcases enumS hS q with ⟨hq, q⟩ | ⟨hq, q⟩
  · obtain ⟨its, rv, p', hz⟩ := I1.list hq
    refine call_enumerate_list p'.isList fun h' he hit hsz hk => wpAny_pyIter_enum he ?_
    exact ⟨s1.heap.objs.size + 1, [s1.heap.objs.size + 1, s1.heap.objs.size], _, _, H1, rfl, I1.kept (t' := s1.toks) hk, turn_enum a (s1.heap.objs.size + 1) s1.heap.objs.size, ⟨⟨.none, he⟩, hit, Nat.succ_ne_self _⟩, fp, q⟩
  · obtain ⟨its, rv, p', hz⟩ := I1.tuple hq
    refine enum_one (begins_tuple a its.toArray) (show s1.heap.IsTuple a its.toArray from p') fun h' he hit hk => wpAny_pyIter_enum he ?_
    exact ⟨s1.heap.objs.size + 1, [s1.heap.objs.size + 1, s1.heap.objs.size], _, _, H1, rfl, I1.kept (t' := s1.toks) hk, turn_enumU a (s1.heap.objs.size + 1) s1.heap.objs.size, ⟨⟨.none, he⟩, ⟨_, hit, rfl, rfl⟩, Nat.succ_ne_self _⟩, fp, q⟩
end
/-! ### rules with the written part by name (for the items of comprehensions) -/
section
variable {X : Cx} {K : PySem.W.Frag}
def rLenQ (K : PySem.W.Frag) : List V → Hp → VK → Prop := fun xs H Q => ∃ p ys, xs = [V.ref p] ∧ SqS K H p ys ∧ Q (V.int (ys.length : Nat)) H
theorem lenK (h : X.K = K) : CallR X (.builtin "len") (rLenQ K) := by
  subst h
  exact call_len_seq
def rTupQ (K : PySem.W.Frag) : List V → Hp → VK → Prop := fun xs H Q => ∃ p ys, xs = [V.ref p] ∧ ((SqL K H p ys ∧ ∀ l, H l = none → Q (.ref l) (upd H l (.tup ys))) ∨ (SqT K H p ys ∧ Q (.ref p) H))
theorem tupK (h : X.K = K) : CallR X (.type "tuple") (rTupQ K) := by
  subst h
  exact call_tuple_of
def rLstQ (K : PySem.W.Frag) : List V → Hp → VK → Prop := fun xs H Q => ∃ p ys, xs = [V.ref p] ∧ SqS K H p ys ∧ ∀ l, H l = none → Q (.ref l) (upd H l (.lst ys))
theorem lstK (h : X.K = K) : CallR X (.type "list") (rLstQ K) := by
  subst h
  exact call_list_of
theorem ixtK (h : X.K = K) : IxR X (rIxT K) := by
  subst h
  exact ix_tup
theorem ixlK (h : X.K = K) : IxR X (rIxL K) := by
  subst h
  exact ix_list
theorem ixsK (h : X.K = K) : IxR X (rIx K) := by
  subst h
  exact ix_seq
theorem catAK (h : X.K = K) : OpR X (binaryOp .Add) (rCatA K) := by
  subst h
  exact op_catA
def rSumS (K : PySem.W.Frag) : List V → Hp → VK → Prop := fun vs H Q => ∃ (a : Addr) (ns : List Int), vs = [V.ref a] ∧ SqS K H a (ns.map V.int) ∧ Q (.int ns.sum) H
theorem sumK (h : X.K = K) (hc : X.calm = true) : CallR X (.builtin "sum") (rSumS K) := by
  subst h
  intro pins s σ H vs us Q I r h
  obtain ⟨a, ns, rfl, hs, q⟩ := h
  rcases hs with hs | hs
  · obtain ⟨its, rv, hl, _⟩ := I.list hs
    rw [Vals.ref1 r]
    exact sum_raw (I.ok.hd hc) hl.isList rv.ints fun h' tk t' hk => ⟨.int _, H, I.kept hk, ⟨_, rfl⟩, q⟩
  · obtain ⟨its, rv, hl, _⟩ := I.tuple hs
    rw [Vals.ref1 r]
    have hi := rv.ints
    obtain ⟨xs, e⟩ := hi.allInts.items
    have hn : numsOf (intItems xs).toList = ns := by rw [← e]; exact hi.numsOf
    rw [nums_intItems] at hn
    have hl2 : s.heap.IsTuple a its.toArray := hl
    rw [e] at hl2
    refine PySem.W.ktm_sumG (I.ok.hd hc) hl2 fun h' tk t' hk => ?_
    rw [preSum_eq, List.take_of_length_le (by simp), hn]
    exact ⟨.int _, H, I.kept hk, ⟨_, rfl⟩, q⟩
theorem pi_seqK {tg l : Expr} {tl : TE} (h : X.K = K) (hl : PE X l tl) : PI X tg l (iSeqW K tl) := by
  subst h
  exact pi_seqW hl
theorem pg_tupK {es : List Expr} {k : Nat} {t : TGs} {n : Nat} {pos : Pos} (h : X.K = K) (hc : X.calm = true) (hp : PGs X es t)
    (hn : (assignEach es X.env).length = n := by rfl) (hst : (assignEach es X.env).findIdx? (·.1) = none := by rfl) : PG X (.Tuple es k pos) (gTup K n t) := by
  subst h
  exact pg_tup hc hp hn hst
end
end Fx
/-! ==== M62 ==== -/
/-! The plain law of k62: odds, by counting. No program in sight. -/
namespace Od
abbrev Dc := List (Nat × Nat)
def get (d : Dc) (k : Nat) : Option Nat := (d.find? fun e => decide (e.1 = k)).map (·.2)
def put (d : Dc) (k v : Nat) : Dc := if (d.any fun e => decide (e.1 = k)) = true then d.map (fun e => if e.1 = k then (e.1, v) else e) else d ++ [(k, v)]
def bump (d : Dc) (k v : Nat) : Dc := put d k ((get d k).getD 0 + v)
/-- sums over a dict -/
def T (d : Dc) (g : Nat → Nat) : Nat := (d.map fun e => e.2 * g e.1).sum
def Nd (d : Dc) : Prop := (d.map (·.1)).Nodup
def Pos (d : Dc) : Prop := ∀ e ∈ d, 0 < e.2
def Below (n : Nat) (d : Dc) : Prop := ∀ e ∈ d, e.1 < n

theorem get_nil (k : Nat) : get [] k = none := rfl
theorem get_pos {e : Nat × Nat} {r : Dc} {k : Nat} (h : e.1 = k) : get (e :: r) k = some e.2 := by simp [get, List.find?_cons, h]
theorem get_neg {e : Nat × Nat} {r : Dc} {k : Nat} (h : ¬ e.1 = k) : get (e :: r) k = get r k := by simp [get, List.find?_cons, h]
theorem get_none {k : Nat} : ∀ {d : Dc}, get d k = none ↔ k ∉ d.map (·.1)
  | [] => by simp [get]
  | e :: r => by
    by_cases h : e.1 = k
    · simp [get_pos h, h]
    · rw [get_neg h, get_none (d := r)]
      simp only [List.map_cons, List.mem_cons, not_or]
      exact ⟨fun z => ⟨fun q => h q.symm, z⟩, fun z => z.2⟩
theorem any_get (k : Nat) : ∀ d : Dc, (d.any fun e => decide (e.1 = k)) = (get d k).isSome
  | [] => rfl
  | e :: r => by
    rw [List.any_cons]
    by_cases h : e.1 = k
    · simp [get_pos h, h]
    · simp [get_neg h, h, any_get k r]
theorem get_mem {k v : Nat} : ∀ {d : Dc}, get d k = some v → (k, v) ∈ d
  | [], h => by simp [get] at h
  | e :: r, h => by
    by_cases q : e.1 = k
    · rw [get_pos q] at h
      have : e = (k, v) := by
        cases e
        simp at q h
        rw [q, h]
      rw [this]
      exact List.mem_cons_self
    · rw [get_neg q] at h
      exact List.mem_cons_of_mem _ (get_mem h)
theorem mem_get {k v : Nat} : ∀ {d : Dc}, Nd d → (k, v) ∈ d → get d k = some v
  | e :: r, nd, h => by
    have nd' := List.nodup_cons.mp (show ((e :: r).map (·.1)).Nodup from nd)
    rcases List.mem_cons.mp h with q | q
    · rw [← q]
      exact get_pos rfl
    · have : ¬ e.1 = k := fun z => nd'.1 (by show e.1 ∈ _; rw [z]; exact List.mem_map.mpr ⟨_, q, rfl⟩)
      rw [get_neg this]
      exact mem_get nd'.2 q
theorem put_new {d : Dc} {k v : Nat} (h : get d k = none) : put d k v = d ++ [(k, v)] := by
  unfold put
  rw [any_get, h]
  exact if_neg (by decide)
theorem put_old {d : Dc} {k v x : Nat} (h : get d k = some x) : put d k v = d.map (fun e => if e.1 = k then (e.1, v) else e) := by
  unfold put
  rw [any_get, h]
  exact if_pos rfl
theorem keys_old (k v : Nat) (d : Dc) : (d.map (fun e => if e.1 = k then (e.1, v) else e)).map (·.1) = d.map (·.1) := by
  rw [List.map_map]
  apply List.map_congr_left
  intro e _
  show (if e.1 = k then (e.1, v) else e).1 = e.1
  split <;> rfl
theorem put_nd {d : Dc} (k v : Nat) (h : Nd d) : Nd (put d k v) := by
  cases q : get d k with
  | none =>
    rw [put_new q]
    unfold Nd
    rw [List.map_append, List.nodup_append]
    refine ⟨h, by simp, fun a ha b hb => ?_⟩
    have e : b = k := by simpa using hb
    rw [e]
    rintro rfl
    exact get_none.mp q ha
  | some x =>
    rw [put_old q]
    unfold Nd
    rw [keys_old]
    exact h
theorem bump_nd {d : Dc} (k v : Nat) (h : Nd d) : Nd (bump d k v) := put_nd _ _ h
theorem put_pos {d : Dc} {k v : Nat} (h : Pos d) (hv : 0 < v) : Pos (put d k v) := by
  intro e he
  unfold put at he
  split at he
  · obtain ⟨a, ha, rfl⟩ := List.mem_map.mp he
    show 0 < (if a.1 = k then (a.1, v) else a).2
    split
    · exact hv
    · exact h a ha
  · rcases List.mem_append.mp he with q | q
    · exact h e q
    · have e : e = (k, v) := by simpa using q
      rw [e]
      exact hv
theorem bump_pos {d : Dc} {k v : Nat} (h : Pos d) (hv : 0 < v) : Pos (bump d k v) := put_pos h (by omega)
theorem put_below {n : Nat} {d : Dc} {k v : Nat} (h : Below n d) (hk : k < n) : Below n (put d k v) := by
  intro e he
  unfold put at he
  split at he
  · obtain ⟨a, ha, rfl⟩ := List.mem_map.mp he
    show (if a.1 = k then (a.1, v) else a).1 < n
    split
    · exact h a ha
    · exact h a ha
  · rcases List.mem_append.mp he with q | q
    · exact h e q
    · have e : e = (k, v) := by simpa using q
      rw [e]
      exact hk
theorem bump_below {n : Nat} {d : Dc} {k v : Nat} (h : Below n d) (hk : k < n) : Below n (bump d k v) := put_below h hk
theorem T_nil (g : Nat → Nat) : T [] g = 0 := rfl
theorem T_cons (e : Nat × Nat) (r : Dc) (g : Nat → Nat) : T (e :: r) g = e.2 * g e.1 + T r g := by simp [T]
theorem T_app (a b : Dc) (g : Nat → Nat) : T (a ++ b) g = T a g + T b g := by simp [T]
theorem map_id_of {k v : Nat} : ∀ {r : Dc}, k ∉ r.map (·.1) → r.map (fun e => if e.1 = k then (e.1, v) else e) = r
  | [], _ => rfl
  | e :: r, h => by
    have h' : ¬ e.1 = k ∧ k ∉ r.map (·.1) := by
      simp only [List.map_cons, List.mem_cons, not_or] at h
      exact ⟨fun z => h.1 z.symm, h.2⟩
    rw [List.map_cons, if_neg h'.1, map_id_of h'.2]
theorem T_old (g : Nat → Nat) (k v x : Nat) : ∀ {d : Dc}, Nd d → get d k = some x → T (d.map (fun e => if e.1 = k then (e.1, x + v) else e)) g = T d g + v * g k
  | [], _, h => by simp [get] at h
  | e :: r, nd, h => by
    have nd' := List.nodup_cons.mp (show ((e :: r).map (·.1)).Nodup from nd)
    rw [List.map_cons, T_cons, T_cons]
    by_cases q : e.1 = k
    · rw [get_pos q] at h
      have ex : e.2 = x := Option.some.inj h
      rw [if_pos q, map_id_of (by rw [← q]; exact nd'.1)]
      show (x + v) * g e.1 + T r g = e.2 * g e.1 + T r g + v * g k
      rw [q, ex, Nat.add_mul]
      omega
    · rw [get_neg q] at h
      rw [if_neg q, T_old g k v x nd'.2 h]
      omega
theorem T_bump (g : Nat → Nat) {d : Dc} (k v : Nat) (nd : Nd d) : T (bump d k v) g = T d g + v * g k := by
  unfold bump
  cases q : get d k with
  | none =>
    show T (put d k (0 + v)) g = _
    rw [put_new q, T_app, T_cons, T_nil, Nat.zero_add]
    simp
  | some x =>
    show T (put d k (x + v)) g = _
    rw [put_old q, T_old g k v x nd q]
theorem T_le_of {d : Dc} {g h : Nat → Nat} (z : ∀ e ∈ d, g e.1 = h e.1) : T d g = T d h := by
  unfold T
  congr 1
  apply List.map_congr_left
  intro e he
  rw [z e he]
theorem T_mul (c : Nat) (g : Nat → Nat) : ∀ d : Dc, T d (fun p => c * g p) = c * T d g
  | [] => by simp [T]
  | e :: r => by
    rw [T_cons, T_cons, T_mul c g r, Nat.mul_add, Nat.mul_left_comm]
theorem T_add (g h : Nat → Nat) : ∀ d : Dc, T d (fun p => g p + h p) = T d g + T d h
  | [] => rfl
  | e :: r => by
    rw [T_cons, T_cons, T_cons, T_add g h r, Nat.mul_add]
    omega
/-- what a dict holds at a key, by sums -/
theorem T_at {d : Dc} (nd : Nd d) (k : Nat) : T d (fun p => if p = k then 1 else 0) = (get d k).getD 0 := by
  induction d with
  | nil => rfl
  | cons e r ih =>
    have nd' := List.nodup_cons.mp (show ((e :: r).map (·.1)).Nodup from nd)
    rw [T_cons]
    by_cases q : e.1 = k
    · rw [get_pos q]
      have z : T r (fun p => if p = k then 1 else 0) = 0 := by
        rw [ih nd'.2, get_none.mpr (by rw [← q]; exact nd'.1)] <;> rfl
      rw [z]
      simp [q]
    · rw [get_neg q, ih nd'.2]
      simp [q]
theorem get_some_pos {d : Dc} (ps : Pos d) {k v : Nat} (h : get d k = some v) : 0 < v := ps _ (get_mem h)
/-- an entry is there exactly if it is not 0 -/
theorem get_of {d : Dc} (nd : Nd d) (ps : Pos d) (k : Nat) : get d k = if T d (fun p => if p = k then 1 else 0) = 0 then none else some (T d (fun p => if p = k then 1 else 0)) := by
  rw [T_at nd]
  cases q : get d k with
  | none => rfl
  | some v =>
    have := get_some_pos ps q
    show some v = if v = 0 then none else some v
    rw [if_neg (by omega)]

/-! ### watches, and where rows lead -/
structure Wt where
  n : Nat
  k : Nat
  mv : Nat → Nat → Nat
  wd : Nat → Nat
structure Wt.Ok (W : Wt) : Prop where
  n1 : 1 ≤ W.n
  n6 : W.n ≤ 6
  k1 : 1 ≤ W.k
  k4 : W.k ≤ 4
  mv : ∀ p < W.n, ∀ c < W.k, W.mv p c < W.n
  wd : ∀ p < W.n, W.wd p ≤ 3
abbrev Row := List (Option Nat)
def Row.Ok (k : Nat) (s : Row) : Prop := ∀ c, some c ∈ s → c < k
def kindsOf (k : Nat) : Option Nat → List Nat
  | none => List.range k
  | some c => [c]
def wOf (ws : Nat → Nat) : Option Nat → Nat → Nat
  | none, c => ws c
  | some _, _ => 1
def heavier1 (W : Wt) (ws : Nat → Nat) (item : Option Nat) (e : Nat × Nat) (acc : Dc) : Dc := (kindsOf W.k item).foldl (fun acc c => bump acc (W.mv e.1 c) (e.2 * wOf ws item c)) acc
def heavier (W : Wt) (ws : Nat → Nat) (found : Dc) (item : Option Nat) : Dc := found.foldl (fun acc e => heavier1 W ws item e acc) []
def numbers (W : Wt) (ws : Nat → Nat) (s : Row) : Dc := s.foldl (heavier W ws) [(0, 1)]
def sumTo (f : Nat → Nat) (n : Nat) : Nat := ((List.range n).map f).sum
def unk (s : Row) : Nat := (s.filter fun i => i.isNone).length
def whole (ws : Nat → Nat) (k : Nat) (s : Row) : Nat := sumTo ws k ^ unk s
/-- backwards: the weight of all that one event leads to -/
def A (W : Wt) (ws : Nat → Nat) (item : Option Nat) (g : Nat → Nat) : Nat → Nat := fun p => ((kindsOf W.k item).map fun c => wOf ws item c * g (W.mv p c)).sum
def B (W : Wt) (ws : Nat → Nat) : Row → (Nat → Nat) → Nat → Nat
  | [], g => g
  | i :: r, g => A W ws i (B W ws r g)

/-- Nd, Pos, Below together -/
structure Good (n : Nat) (d : Dc) : Prop where
  nd : Nd d
  ps : Pos d
  lt : Below n d
theorem good_one : Good 1 [(0, 1)] := ⟨by simp [Nd], fun e h => (by simp at h; rw [h]; decide), fun e h => (by simp at h; rw [h]; decide)⟩
theorem Good.mono {n m : Nat} {d : Dc} (g : Good n d) (h : n ≤ m) : Good m d := ⟨g.nd, g.ps, fun e he => Nat.lt_of_lt_of_le (g.lt e he) h⟩
theorem good_nil (n : Nat) : Good n [] := ⟨by simp [Nd], fun e h => (by cases h), fun e h => (by cases h)⟩
theorem Good.bump {n : Nat} {d : Dc} {k v : Nat} (g : Good n d) (hk : k < n) (hv : 0 < v) : Good n (bump d k v) := ⟨bump_nd _ _ g.nd, bump_pos g.ps hv, bump_below g.lt hk⟩
theorem kindsOf_lt {k : Nat} {item : Option Nat} (h : ∀ c, item = some c → c < k) : ∀ c ∈ kindsOf k item, c < k := by
  intro c hc
  cases item with
  | none => exact List.mem_range.mp hc
  | some a =>
    have : c = a := by simpa [kindsOf] using hc
    rw [this]
    exact h a rfl
theorem wOf_pos {ws : Nat → Nat} {k : Nat} (hw : ∀ c < k, 0 < ws c) {item : Option Nat} (h : ∀ c, item = some c → c < k) : ∀ c ∈ kindsOf k item, 0 < wOf ws item c := by
  intro c hc
  cases item with
  | none => exact hw c (List.mem_range.mp hc)
  | some a => exact Nat.one_pos
section
variable {W : Wt} {ws : Nat → Nat}
theorem fold_bump_good {n : Nat} (f v : Nat → Nat) : ∀ (l : List Nat) (acc : Dc), (∀ c ∈ l, f c < n ∧ 0 < v c) → Good n acc → Good n (l.foldl (fun acc c => bump acc (f c) (v c)) acc)
  | [], acc, _, h => h
  | c :: r, acc, hl, h => fold_bump_good f v r _ (fun c hc => hl c (List.mem_cons_of_mem _ hc)) (h.bump (hl c List.mem_cons_self).1 (hl c List.mem_cons_self).2)
theorem fold_bump_nd (f v : Nat → Nat) : ∀ (l : List Nat) (acc : Dc), Nd acc → Nd (l.foldl (fun acc c => bump acc (f c) (v c)) acc)
  | [], acc, h => h
  | c :: r, acc, h => fold_bump_nd f v r _ (bump_nd _ _ h)
theorem fold_bump_T (g f v : Nat → Nat) : ∀ (l : List Nat) (acc : Dc), Nd acc → T (l.foldl (fun acc c => bump acc (f c) (v c)) acc) g = T acc g + (l.map fun c => v c * g (f c)).sum
  | [], acc, _ => by simp
  | c :: r, acc, h => by
    rw [List.foldl_cons, fold_bump_T g f v r _ (bump_nd _ _ h), T_bump g _ _ h, List.map_cons, List.sum_cons]
    omega
theorem sum_mul_left (c : Nat) : ∀ l : List Nat, (l.map fun x => c * x).sum = c * l.sum
  | [] => by simp
  | x :: r => by rw [List.map_cons, List.sum_cons, List.sum_cons, sum_mul_left c r, Nat.mul_add]
theorem sum_mul_leftF (c : Nat) (f : Nat → Nat) (l : List Nat) : (l.map fun x => c * f x).sum = c * (l.map f).sum := by
  rw [← sum_mul_left c (l.map f), List.map_map] <;> rfl
theorem heavier1_nd (item : Option Nat) (e : Nat × Nat) {acc : Dc} (h : Nd acc) : Nd (heavier1 W ws item e acc) := fold_bump_nd _ _ _ _ h
theorem heavier1_good (ok : W.Ok) (hw : ∀ c < W.k, 0 < ws c) {item : Option Nat} (hi : ∀ c, item = some c → c < W.k) {e : Nat × Nat} (he : e.1 < W.n) (hp : 0 < e.2) {acc : Dc} (h : Good W.n acc) : Good W.n (heavier1 W ws item e acc) :=
  fold_bump_good _ _ _ _ (fun c hc => ⟨ok.mv _ he _ (kindsOf_lt hi c hc), Nat.mul_pos hp (wOf_pos hw hi c hc)⟩) h
theorem heavier1_T (g : Nat → Nat) (item : Option Nat) (e : Nat × Nat) {acc : Dc} (h : Nd acc) : T (heavier1 W ws item e acc) g = T acc g + e.2 * A W ws item g e.1 := by
  unfold heavier1
  rw [fold_bump_T g _ _ _ _ h]
  congr 1
  unfold A
  rw [← sum_mul_leftF]
  congr 1
  apply List.map_congr_left
  intro c _
  exact Nat.mul_assoc _ _ _
theorem heavier_good_from (ok : W.Ok) (hw : ∀ c < W.k, 0 < ws c) {item : Option Nat} (hi : ∀ c, item = some c → c < W.k) : ∀ (found acc : Dc), (∀ e ∈ found, e.1 < W.n ∧ 0 < e.2) → Good W.n acc → Good W.n (found.foldl (fun acc e => heavier1 W ws item e acc) acc)
  | [], acc, _, h => h
  | e :: r, acc, hf, h => heavier_good_from ok hw hi r _ (fun x hx => hf x (List.mem_cons_of_mem _ hx)) (heavier1_good ok hw hi (hf e List.mem_cons_self).1 (hf e List.mem_cons_self).2 h)
theorem heavier_good (ok : W.Ok) (hw : ∀ c < W.k, 0 < ws c) {item : Option Nat} (hi : ∀ c, item = some c → c < W.k) {found : Dc} (h : Good W.n found) : Good W.n (heavier W ws found item) :=
  heavier_good_from ok hw hi found [] (fun e he => ⟨h.lt e he, h.ps e he⟩) (good_nil _)
theorem heavier_T_from (g : Nat → Nat) (item : Option Nat) : ∀ (found acc : Dc), Nd acc → T (found.foldl (fun acc e => heavier1 W ws item e acc) acc) g = T acc g + T found (A W ws item g)
  | [], acc, _ => by simp [T]
  | e :: r, acc, h => by
    rw [List.foldl_cons, heavier_T_from g item r _ (heavier1_nd item e h), heavier1_T g item e h, T_cons]
    omega
theorem heavier_T (g : Nat → Nat) (item : Option Nat) (found : Dc) : T (heavier W ws found item) g = T found (A W ws item g) := by
  unfold heavier
  rw [heavier_T_from g item found [] (by simp [Nd]), T_nil, Nat.zero_add]
theorem fold_numbers_good (ok : W.Ok) (hw : ∀ c < W.k, 0 < ws c) : ∀ (s : Row) (d : Dc), Row.Ok W.k s → Good W.n d → Good W.n (s.foldl (heavier W ws) d)
  | [], d, _, h => h
  | i :: r, d, hs, h => fold_numbers_good ok hw r _ (fun c hc => hs c (List.mem_cons_of_mem _ hc)) (heavier_good ok hw (fun c e => hs c (by rw [← e]; exact List.mem_cons_self)) h)
theorem numbers_good (ok : W.Ok) (hw : ∀ c < W.k, 0 < ws c) {s : Row} (hs : Row.Ok W.k s) : Good W.n (numbers W ws s) := fold_numbers_good ok hw s _ hs (good_one.mono ok.n1)
theorem fold_numbers_T (g : Nat → Nat) : ∀ (s : Row) (d : Dc), T (s.foldl (heavier W ws) d) g = T d (B W ws s g)
  | [], d => rfl
  | i :: r, d => by
    rw [List.foldl_cons, fold_numbers_T g r _, heavier_T]
    rfl
theorem numbers_T (g : Nat → Nat) (s : Row) : T (numbers W ws s) g = B W ws s g 0 := by
  unfold numbers
  rw [fold_numbers_T]
  simp [T]
theorem B_app (s r : Row) (g : Nat → Nat) : B W ws (s ++ r) g = B W ws s (B W ws r g) := by
  induction s with
  | nil => rfl
  | cons i t ih =>
    show A W ws i (B W ws (t ++ r) g) = A W ws i (B W ws t (B W ws r g))
    rw [ih]
end
/-- what says a verdict -/
def ind (W : Wt) (v : Nat) : Nat → Nat := fun p => if W.wd p = v then 1 else 0
/-- the number of a verdict -/
def M (W : Wt) (ws : Nat → Nat) (s : Row) (v : Nat) : Nat := B W ws s (ind W v) 0
def wordsD (W : Wt) (found : Dc) : Dc := found.foldl (fun acc e => bump acc (W.wd e.1) e.2) []
section
variable {W : Wt} {ws : Nat → Nat}
theorem wordsD_nd_from : ∀ (found acc : Dc), Nd acc → Nd (found.foldl (fun acc e => bump acc (W.wd e.1) e.2) acc)
  | [], acc, h => h
  | e :: r, acc, h => wordsD_nd_from r _ (bump_nd _ _ h)
theorem wordsD_T_from (g : Nat → Nat) : ∀ (found acc : Dc), Nd acc → T (found.foldl (fun acc e => bump acc (W.wd e.1) e.2) acc) g = T acc g + T found (fun p => g (W.wd p))
  | [], acc, _ => by simp [T]
  | e :: r, acc, h => by
    rw [List.foldl_cons, wordsD_T_from g r _ (bump_nd _ _ h), T_bump g _ _ h, T_cons]
    omega
theorem wordsD_good_from {n : Nat} : ∀ (found acc : Dc), (∀ e ∈ found, W.wd e.1 < n ∧ 0 < e.2) → Good n acc → Good n (found.foldl (fun acc e => bump acc (W.wd e.1) e.2) acc)
  | [], acc, _, h => h
  | e :: r, acc, hf, h => wordsD_good_from r _ (fun x hx => hf x (List.mem_cons_of_mem _ hx)) (h.bump (hf e List.mem_cons_self).1 (hf e List.mem_cons_self).2)
theorem wordsD_good (ok : W.Ok) {found : Dc} (h : Good W.n found) : Good 4 (wordsD W found) :=
  wordsD_good_from found [] (fun e he => ⟨Nat.lt_succ_of_le (ok.wd _ (h.lt e he)), h.ps e he⟩) (good_nil _)
theorem wordsD_T (g : Nat → Nat) (found : Dc) : T (wordsD W found) g = T found (fun p => g (W.wd p)) := by
  unfold wordsD
  rw [wordsD_T_from g found [] (by simp [Nd]), T_nil, Nat.zero_add]
theorem words_get (ok : W.Ok) (hw : ∀ c < W.k, 0 < ws c) {s : Row} (hs : Row.Ok W.k s) (v : Nat) : get (wordsD W (numbers W ws s)) v = if M W ws s v = 0 then none else some (M W ws s v) := by
  have gd := wordsD_good ok (numbers_good ok hw hs)
  rw [get_of gd.nd gd.ps, wordsD_T, numbers_T]
  rfl
end
/-- the dict of a function of verdicts, ascending -/
def tab (m : Nat → Nat) : Dc := (List.range 4).filterMap fun v => if m v = 0 then none else some (v, m v)
def frac (a b : Nat) : Nat × Nat := (a / Nat.gcd a b, b / Nat.gcd a b)
theorem frac_eq {a b c d : Nat} (hb : 0 < b) (hd : 0 < d) (h : a * d = c * b) : frac a b = frac c d := by
  have g1 : 0 < Nat.gcd a b := Nat.gcd_pos_of_pos_right _ hb
  have g2 : 0 < Nat.gcd c d := Nat.gcd_pos_of_pos_right _ hd
  have co1 := Nat.coprime_div_gcd_div_gcd g1
  have co2 := Nat.coprime_div_gcd_div_gcd g2
  have ea : a = Nat.gcd a b * (a / Nat.gcd a b) := (Nat.mul_div_cancel' (Nat.gcd_dvd_left a b)).symm
  have eb : b = Nat.gcd a b * (b / Nat.gcd a b) := (Nat.mul_div_cancel' (Nat.gcd_dvd_right a b)).symm
  have ec : c = Nat.gcd c d * (c / Nat.gcd c d) := (Nat.mul_div_cancel' (Nat.gcd_dvd_left c d)).symm
  have ed : d = Nat.gcd c d * (d / Nat.gcd c d) := (Nat.mul_div_cancel' (Nat.gcd_dvd_right c d)).symm
  unfold frac
  generalize Nat.gcd a b = g at *
  generalize Nat.gcd c d = k at *
  generalize a / g = x at *
  generalize b / g = y at *
  generalize c / k = z at *
  generalize d / k = w at *
  have key : x * w = z * y := by
    rw [ea, eb, ec, ed] at h
    have h' : (g * k) * (x * w) = (g * k) * (z * y) := by
      rw [show (g * k) * (x * w) = g * x * (k * w) from by simp [Nat.mul_comm, Nat.mul_left_comm, Nat.mul_assoc], h]
      simp [Nat.mul_comm, Nat.mul_left_comm, Nat.mul_assoc]
    exact Nat.eq_of_mul_eq_mul_left (Nat.mul_pos g1 g2) h'
  have d1 : y ∣ w := by
    have : y ∣ x * w := ⟨z, by rw [key, Nat.mul_comm]⟩
    exact (Nat.Coprime.symm co1).dvd_of_dvd_mul_left this
  have d2 : w ∣ y := by
    have : w ∣ z * y := ⟨x, by rw [← key, Nat.mul_comm]⟩
    exact (Nat.Coprime.symm co2).dvd_of_dvd_mul_left this
  have yw : y = w := Nat.dvd_antisymm d1 d2
  subst yw
  have y0 : 0 < y := by
    rcases Nat.eq_zero_or_pos y with q | q
    · rw [q, Nat.mul_zero] at eb
      omega
    · exact q
  have xz : x = z := Nat.eq_of_mul_eq_mul_right y0 key
  rw [xz]
theorem frac_pos {a b : Nat} (hb : 0 < b) : 0 < (frac a b).2 := Nat.div_pos (Nat.le_of_dvd hb (Nat.gcd_dvd_right a b)) (Nat.gcd_pos_of_pos_right _ hb)
theorem frac_cross {a b : Nat} : (frac a b).1 * b = a * (frac a b).2 := by
  unfold frac
  have ea : a = Nat.gcd a b * (a / Nat.gcd a b) := (Nat.mul_div_cancel' (Nat.gcd_dvd_left a b)).symm
  have eb : b = Nat.gcd a b * (b / Nat.gcd a b) := (Nat.mul_div_cancel' (Nat.gcd_dvd_right a b)).symm
  generalize Nat.gcd a b = g at *
  generalize a / g = x at *
  generalize b / g = y at *
  rw [ea, eb]
  simp [Nat.mul_comm, Nat.mul_left_comm, Nat.mul_assoc]
theorem frac_scale {a b t : Nat} (hb : 0 < b) (ht : 0 < t) : frac (t * a) (t * b) = frac a b :=
  frac_eq (Nat.mul_pos ht hb) hb (by simp [Nat.mul_comm, Nat.mul_left_comm, Nat.mul_assoc])
theorem frac_le1 (a b : Nat) : (frac a b).1 ≤ a := Nat.div_le_self _ _
theorem frac_le2 (a b : Nat) : (frac a b).2 ≤ b := Nat.div_le_self _ _

/-! ### weights times a number -/
section
variable {W : Wt} {ws : Nat → Nat} {t : Nat}
abbrev times (t : Nat) (ws : Nat → Nat) : Nat → Nat := fun c => t * ws c
theorem sumTo_times (t : Nat) (ws : Nat → Nat) (k : Nat) : sumTo (times t ws) k = t * sumTo ws k := sum_mul_leftF t ws _
theorem A_mul (item : Option Nat) (c : Nat) (g : Nat → Nat) : A W ws item (fun p => c * g p) = fun p => c * A W ws item g p := by
  funext p
  unfold A
  rw [← sum_mul_leftF]
  congr 1
  apply List.map_congr_left
  intro x _
  exact Nat.mul_left_comm _ _ _
theorem B_mul (c : Nat) (g : Nat → Nat) : ∀ s : Row, B W ws s (fun p => c * g p) = fun p => c * B W ws s g p
  | [] => rfl
  | i :: r => by
    show A W ws i (B W ws r fun p => c * g p) = _
    rw [B_mul c g r, A_mul]
    rfl
theorem A_times (item : Option Nat) (g : Nat → Nat) : A W (times t ws) item g = fun p => (if item.isNone then t else 1) * A W ws item g p := by
  funext p
  cases item with
  | none =>
    unfold A
    rw [if_pos (show (none : Option Nat).isNone = true from rfl), ← sum_mul_leftF]
    congr 1
    apply List.map_congr_left
    intro x _
    exact Nat.mul_assoc _ _ _
  | some c =>
    rw [if_neg (by simp), Nat.one_mul]
    rfl
theorem unk_cons (i : Option Nat) (r : Row) : unk (i :: r) = (if i.isNone then 1 else 0) + unk r := by
  unfold unk
  rw [List.filter_cons]
  cases i with
  | none => simp [Nat.add_comm]
  | some c => simp
theorem B_times (g : Nat → Nat) : ∀ s : Row, B W (times t ws) s g = fun p => t ^ unk s * B W ws s g p
  | [] => by
    funext p
    simp [B, unk]
  | i :: r => by
    show A W (times t ws) i (B W (times t ws) r g) = _
    rw [B_times g r, A_times, unk_cons]
    funext p
    rw [A_mul]
    show _ * (_ * A W ws i (B W ws r g) p) = _ * A W ws i (B W ws r g) p
    rw [← Nat.mul_assoc, Nat.pow_add]
    congr 1
    cases i with
    | none => simp
    | some c => simp
theorem M_times (s : Row) (v : Nat) : M W (times t ws) s v = t ^ unk s * M W ws s v := by
  unfold M
  rw [B_times]
theorem whole_times (k : Nat) (s : Row) : whole (times t ws) k s = t ^ unk s * whole ws k s := by
  unfold whole
  rw [sumTo_times, Nat.mul_pow]
end
theorem sumTo_pos {ws : Nat → Nat} {k : Nat} (hk : 1 ≤ k) (hw : ∀ c < k, 0 < ws c) : 0 < sumTo ws k := by
  unfold sumTo
  obtain ⟨j, rfl⟩ : ∃ j, k = j + 1 := ⟨k - 1, by omega⟩
  rw [List.range_succ, List.map_append, List.sum_append]
  have := hw j (by omega)
  simp
  omega
theorem whole_pos {ws : Nat → Nat} {k : Nat} (hk : 1 ≤ k) (hw : ∀ c < k, 0 < ws c) (s : Row) : 0 < whole ws k s := Nat.pow_pos (sumTo_pos hk hw)
theorem M_pos_whole {W : Wt} {ws : Nat → Nat} (s : Row) : True := trivial

/-- the odds' table -/
def otab (W : Wt) (ws : Nat → Nat) (s : Row) (v : Nat) : Option (Nat × Nat) := if M W ws s v = 0 then none else some (frac (M W ws s v) (whole ws W.k s))
theorem otab_times {W : Wt} {ws : Nat → Nat} {t : Nat} (ht : 0 < t) (hk : 1 ≤ W.k) (hw : ∀ c < W.k, 0 < ws c) (s : Row) (v : Nat) : otab W (times t ws) s v = otab W ws s v := by
  unfold otab
  rw [M_times, whole_times]
  have tp : 0 < t ^ unk s := Nat.pow_pos ht
  by_cases h : M W ws s v = 0
  · rw [h, Nat.mul_zero, if_pos rfl, if_pos rfl]
  · have h2 : ¬ t ^ unk s * M W ws s v = 0 := Nat.mul_ne_zero (by omega) h
    rw [if_neg h, if_neg h2, frac_scale (whole_pos hk hw s) tp]

/-! ### two kinds that move alike -/
structure Alike (V W : Wt) (a b : Nat → Nat) : Prop where
  n : V.n = W.n
  wd : ∀ p < W.n, V.wd p = W.wd p
  mvOk : ∀ p < W.n, ∀ c < W.k, W.mv p c < W.n
  step : ∀ (g h : Nat → Nat) (p : Nat), p < W.n → (∀ q < W.n, g q = h q) → A V a none g p = A W b none h p
  sum : sumTo a V.k = sumTo b W.k
theorem A_some (W : Wt) (ws : Nat → Nat) (c : Nat) (g : Nat → Nat) (p : Nat) : A W ws (some c) g p = g (W.mv p c) := by
  simp [A, kindsOf, wOf]
/-- rows that go alike -/
def RowsAlike (V W : Wt) (s r : Row) : Prop := Paired2 s r
where Paired2 : Row → Row → Prop
  | [], [] => True
  | none :: s, none :: r => Paired2 s r
  | some c :: s, some d :: r => (∀ p < W.n, V.mv p c = W.mv p d) ∧ d < W.k ∧ Paired2 s r
  | _, _ => False
theorem B_alike {V W : Wt} {a b : Nat → Nat} (al : Alike V W a b) {g h : Nat → Nat} (gh : ∀ q < W.n, g q = h q) : ∀ (s r : Row), RowsAlike V W s r → ∀ p < W.n, B V a s g p = B W b r h p
  | [], [], _, p, hp => gh p hp
  | none :: s, none :: r, q, p, hp => al.step _ _ p hp (fun q' hq => B_alike al gh s r q q' hq)
  | some c :: s, some d :: r, q, p, hp => by
    show A V a (some c) (B V a s g) p = A W b (some d) (B W b r h) p
    rw [A_some, A_some, q.1 p hp]
    exact B_alike al gh s r q.2.2 _ (al.mvOk p hp d q.2.1)
  | [], none :: _, q, _, _ => q.elim
  | [], some _ :: _, q, _, _ => q.elim
  | none :: _, [], q, _, _ => q.elim
  | some _ :: _, [], q, _, _ => q.elim
  | none :: _, some _ :: _, q, _, _ => q.elim
  | some _ :: _, none :: _, q, _, _ => q.elim
theorem unk_alike {V W : Wt} : ∀ (s r : Row), RowsAlike V W s r → unk s = unk r
  | [], [], _ => rfl
  | none :: s, none :: r, q => by rw [unk_cons, unk_cons, unk_alike s r q] <;> rfl
  | some c :: s, some d :: r, q => by rw [unk_cons, unk_cons, unk_alike s r q.2.2] <;> rfl
  | [], none :: _, q => q.elim
  | [], some _ :: _, q => q.elim
  | none :: _, [], q => q.elim
  | some _ :: _, [], q => q.elim
  | none :: _, some _ :: _, q => q.elim
  | some _ :: _, none :: _, q => q.elim
theorem M_alike {V W : Wt} {a b : Nat → Nat} (al : Alike V W a b) (n1 : 1 ≤ W.n) (s r : Row) (h : RowsAlike V W s r) (v : Nat) : M V a s v = M W b r v :=
  B_alike al (fun q hq => by unfold ind; rw [al.wd q hq]) s r h 0 n1
theorem whole_alike {V W : Wt} {a b : Nat → Nat} (al : Alike V W a b) (s r : Row) (h : RowsAlike V W s r) : whole a V.k s = whole b W.k r := by
  unfold whole
  rw [al.sum, unk_alike s r h]
theorem otab_alike {V W : Wt} {a b : Nat → Nat} (al : Alike V W a b) (n1 : 1 ≤ W.n) (s r : Row) (h : RowsAlike V W s r) (v : Nat) : otab V a s v = otab W b r v := by
  unfold otab
  rw [M_alike al n1 s r h, whole_alike al s r h]
end Od
/-! ==== A62 ==== -/
namespace Fx
open PySem PySem.Spec PyProof.Rows L2
/-- what the module's names of the built-ins, its constants, its class stand for -/
structure Txt (K : PySem.W.Frag) (mg : Str → Option Value) (C : Addr) : Prop where
  abs : mg "abs" = none
  all : mg "all" = none
  bool : mg "bool" = none
  enumerate : mg "enumerate" = none
  int : mg "int" = none
  isinstance : mg "isinstance" = none
  len : mg "len" = none
  list : mg "list" = none
  zip : mg "zip" = none
  str : mg "str" = none
  min : mg "min" = none
  range : mg "range" = none
  sorted : mg "sorted" = none
  sum : mg "sum" = none
  tuple : mg "tuple" = none
  c_MOST_EVENTS : ∃ u, mg "MOST_EVENTS" = some u ∧ RelV (.int 300) u
  c_MOST_KINDS : ∃ u, mg "MOST_KINDS" = some u ∧ RelV (.int 4) u
  c_MOST_WORD : ∃ u, mg "MOST_WORD" = some u ∧ RelV (.int 3) u
  c_MOST_PLACES : ∃ u, mg "MOST_PLACES" = some u ∧ RelV (.int 6) u
  c_MOST_PRICE_tariffs : ∃ u, mg "MOST_PRICE_tariffs" = some u ∧ RelV (.int 1000000) u
  c_MOST_PRICE_cheapest : ∃ u, mg "MOST_PRICE_cheapest" = some u ∧ RelV (.int 1000000) u
  c_MOST_TRIED : ∃ u, mg "MOST_TRIED" = some u ∧ RelV (.int 14) u
  c_MOST_BOTTOM : ∃ u, mg "MOST_BOTTOM" = some u ∧ RelV (.int 1000000) u
  c_MOST_LENGTH : ∃ u, mg "MOST_LENGTH" = some u ∧ RelV (.int 40) u
  c_COUNTED : ∃ u, mg "COUNTED" = some u ∧ RelV (.str "counted") u
  c_LOST : ∃ u, mg "LOST" = some u ∧ RelV (.str "lost") u
  c_BEGIN : ∃ u, mg "BEGIN" = some u ∧ RelV (.ref (He.ga K "BEGIN")) u
  begin_ : ∀ H, SqT K H (He.ga K "BEGIN") [.int 0]
  g_Watch : ∃ u, mg "Watch" = some u ∧ RelV (.ref C) u
  cl : Cls K C
  noM : NoAttr K C "own_moves"
  noW : NoAttr K C "own_words"
  ins : C8.InsC K C
end Fx
/-! ==== B62a ==== -/
namespace K62
open PySem PySem.Spec PyProof.Rows L2 Fx Od
section
variable {P : Program} {w : World} {K : PySem.W.Frag} {mg : Str → Option Value} {base : Heap} {C : Addr} {Z : List (Addr × Str)}
theorem kitB_int_int : kitB "int" "int" = some true := by decide +kernel
theorem kitB_int_bool : kitB "int" "bool" = some false := by decide +kernel
theorem kitB_list_list : kitB "list" "list" = some true := by decide +kernel
theorem kitB_tuple_list : kitB "tuple" "list" = some false := by decide +kernel
theorem kitB_tuple_tuple : kitB "tuple" "tuple" = some true := by decide +kernel
theorem _root_.Fx.SqS.ty {H : Hp} {a : Addr} {xs : List V} (h : SqS K H a xs) : TyX K H (.ref a) (.type "list") ∨ TyX K H (.ref a) (.type "tuple") := by
  rcases h with ((h | ⟨o, h⟩) | ⟨o, its, n, h1, h2, _⟩) | ((h | ⟨o, h⟩) | ⟨o, its, n, h1, h2, _⟩)
  · exact .inl (.base (.lst h))
  · exact .inl (.base (.frz h))
  · exact .inl (.kList h1 h2)
  · exact .inr (.base (.tup h))
  · exact .inr (.fTuple h)
  · exact .inr (.kTuple h1 h2)
/-! ### is_number, is_between, is_list, is_word, is_line -/
def spNumber : Sp := fun vs H Q _ => ∃ i : Int, vs = [.int i] ∧ Q (.bl true) H
theorem sc_is_number : FnScope ["thing"] ["thing"] (defScope s_is_number) := ⟨rfl, rfl, rfl, by decide +kernel, rfl, by decide +kernel, by decide +kernel⟩
theorem is_number_ok (T : Txt K mg C) (D : Df K mg "is_number" s_is_number []) : C8.Cal P w K mg base 1 "is_number" spNumber [] := by
  refine D.cal (k := 0) sc_is_number (by intro kV doc pm an cdv ct us h; match us, h with | [_], _ => rfl) (by rintro _ _ _ _ ⟨_, rfl, _⟩; rfl) ?_
  rintro f cdv A outer s H _ Q E hr ⟨i, rfl, hq⟩
  refine ⟨_, (pss_one (ps_ret (pe_and (pe_callB call_isi (by rfl) T.isinstance bt_isinstance (pa_cons (pv 0) (pa_cons (pe_bltn (by rfl) T.int bt_int (show RelV (.ty "int") _ from rfl)) pa_nil))) (pe_one (pe_not (pe_callB call_isi (by rfl) T.isinstance bt_isinstance (pa_cons (pv 0) (pa_cons (pe_bltn (by rfl) T.bool bt_bool (show RelV (.ty "bool") _ from rfl)) pa_nil)))))))), ?_⟩
  exact ⟨_, rfl, _, _, _, _, _, rfl, .ty _, .base (.int _), kit_ty kitB_int_int, true, rfl, _, rfl, _, _, _, _, _, rfl, .ty _, .base (.int _), kit_ty kitB_int_bool, false, rfl, hq⟩
def spBetween : Sp := fun vs H Q _ => ∃ i lo hi : Int, vs = [.int i, .int lo, .int hi] ∧ lo ≤ i ∧ i ≤ hi ∧ Q (.bl true) H
theorem sc_is_between : FnScope ["thing", "low", "high"] ["thing", "low", "high"] (defScope s_is_between) := ⟨rfl, rfl, rfl, by decide +kernel, rfl, by decide +kernel, by decide +kernel⟩
theorem is_between_ok (T : Txt K mg C) (D : Df K mg "is_between" s_is_between []) (c_is_number : C8.Cal P w K mg base 1 "is_number" spNumber []) : C8.Cal P w K mg base 2 "is_between" spBetween [] := by
  refine D.cal (k := 1) sc_is_between (by intro kV doc pm an cdv ct us h; match us, h with | [_, _, _], _ => rfl) (by rintro _ _ _ _ ⟨_, _, _, rfl, _⟩; rfl) ?_
  rintro f cdv A outer s H _ Q E hr ⟨i, lo, hi, rfl, h1, h2, hq⟩
  refine ⟨_, (pss_one (ps_ret (pe_and (C8.pe_c c_is_number hr (by decide) (by rfl) (pa_cons (pv 0) pa_nil)) (pe_one (pe_chain op_le op_le (pv 1) (pv 0) (pv 2)))))), ?_⟩
  refine ⟨_, rfl, _, rfl, true, rfl, _, rfl, _, rfl, _, _, rfl, rfl, true, ?_, _, rfl, _, _, rfl, rfl, ?_⟩
  · exact congrArg V.bl (decide_eq_true h1)
  · show Q (.bl (decide (i ≤ hi))) H
    rw [decide_eq_true h2]
    exact hq
def spList (K : PySem.W.Frag) (Z : List (Addr × Str)) : Sp := fun vs H Q _ => ∃ a xs, vs = [.ref a] ∧ SqS K H a xs ∧ ∀ H', Ex Z H H' → Q (.bl true) H'
theorem sc_is_list : FnScope ["thing"] ["thing"] (defScope s_is_list) := ⟨rfl, rfl, rfl, by decide +kernel, rfl, by decide +kernel, by decide +kernel⟩
theorem is_list_ok (T : Txt K mg C) (D : Df K mg "is_list" s_is_list []) : C8.Cal P w K mg base 1 "is_list" (spList K Z) [] := by
  refine D.cal (k := 0) sc_is_list (by intro kV doc pm an cdv ct us h; match us, h with | [_], _ => rfl) (by rintro _ _ _ _ ⟨_, _, rfl, _⟩; rfl) ?_
  rintro f cdv A outer s H _ Q E hr ⟨a, xs, rfl, hs, hq⟩
  refine ⟨_, (pss_one (ps_ret (pe_callB call_isiT (by rfl) T.isinstance bt_isinstance (pa_cons (pv 0) (pa_cons (pe_tup (pa_cons (pe_bltn (by rfl) T.list bt_list (show RelV (.ty "list") _ from rfl)) (pa_cons (pe_bltn (by rfl) T.tuple bt_tuple (show RelV (.ty "tuple") _ from rfl)) pa_nil))) pa_nil))))), ?_⟩
  refine ⟨_, rfl, by show 2 ≤ sizeLine; decide, fun p np => ?_⟩
  have x : Ex Z H (upd H p (.tup [.ty "list", .ty "tuple"])) := Ex.new np
  have pr : Paired ClsV [.ty "list", .ty "tuple"] [.type "list", .type "tuple"] := .cons (.ty _) (.cons (.ty _) .nil)
  rcases SqS.ty (x.sqS hs) with t | t
  · exact ⟨_, _, _, _, _, true, rfl, upd_same, pr, t, kitAny_cons (kit_ty kitB_list_list) (fun z => nomatch z) fun _ => rfl, hq _ x⟩
  · exact ⟨_, _, _, _, _, true, rfl, upd_same, pr, t, kitAny_cons (kit_ty kitB_tuple_list) (fun _ => kitAny_cons (kit_ty kitB_tuple_tuple) (fun z => nomatch z) fun _ => rfl) (fun z => nomatch z), hq _ x⟩
def spWord : Sp := fun vs H Q _ => ∃ i : Int, vs = [.int i] ∧ 0 ≤ i ∧ i ≤ 3 ∧ Q (.bl true) H
theorem sc_is_word : FnScope ["thing"] ["thing"] (defScope s_is_word) := ⟨rfl, rfl, rfl, by decide +kernel, rfl, by decide +kernel, by decide +kernel⟩
theorem is_word_ok (T : Txt K mg C) (D : Df K mg "is_word" s_is_word []) (c_is_between : C8.Cal P w K mg base 2 "is_between" spBetween []) : C8.Cal P w K mg base 3 "is_word" spWord [] := by
  refine D.cal (k := 2) sc_is_word (by intro kV doc pm an cdv ct us h; match us, h with | [_], _ => rfl) (by rintro _ _ _ _ ⟨_, rfl, _⟩; rfl) ?_
  rintro f cdv A outer s H _ Q E hr ⟨i, rfl, h0, h3, hq⟩
  refine ⟨_, (pss_one (ps_ret (C8.pe_c c_is_between hr (by decide) (by rfl) (pa_cons (pv 0) (pa_cons pe_int (pa_cons (C8.pe_gc (by rfl) T.c_MOST_WORD) pa_nil)))))), ?_⟩
  exact ⟨_, rfl, _, _, _, rfl, h0, h3, hq⟩
/-- one line of a watch's moves -/
def lineV (k : Nat) (f : Nat → Nat) : List V := (List.range k).map fun c => V.int (f c)
theorem lineV_len (k : Nat) (f : Nat → Nat) : (lineV k f).length = k := by simp [lineV]
theorem lineV_get {k : Nat} {f : Nat → Nat} {i : Nat} {v : V} (h : (lineV k f)[i]? = some v) : i < k ∧ v = .int (f i) := by
  unfold lineV at h
  rw [List.getElem?_map] at h
  by_cases hi : i < k
  · rw [List.getElem?_range hi] at h
    exact ⟨hi, (Option.some.inj h).symm⟩
  · rw [List.getElem?_eq_none (by simp; omega)] at h
    cases h
theorem lineV_at {k : Nat} {f : Nat → Nat} {i : Nat} (h : i < k) : (lineV k f)[i]? = some (.int (f i)) := by
  unfold lineV
  rw [List.getElem?_map, List.getElem?_range h]
  rfl
/-- is_line: kinds, places -/
def spLine (K : PySem.W.Frag) (Z : List (Addr × Str)) : Sp := fun vs H Q _ => ∃ a k n f, vs = [.ref a, .int (k : Nat), .int (n : Nat)] ∧ SqS K H a (lineV k f) ∧ (∀ c < k, f c < n) ∧ k ≤ 4 ∧ ∀ H', Ex Z H H' → Q (.bl true) H'
theorem sc_is_line : FnScope ["thing", "kinds", "places", "item"] ["thing", "kinds", "places"] (defScope s_is_line) := ⟨rfl, rfl, rfl, by decide +kernel, rfl, by decide +kernel, by decide +kernel⟩
theorem is_line_ok (T : Txt K mg C) (D : Df K mg "is_line" s_is_line []) (c_is_list : C8.Cal P w K mg base 1 "is_list" (spList K Z) []) (c_is_between : C8.Cal P w K mg base 2 "is_between" spBetween []) : C8.Cal P w K mg base 3 "is_line" (spLine K Z) [] := by
  refine D.cal (k := 2) sc_is_line (by intro kV doc pm an cdv ct us h; match us, h with | [_, _, _], _ => rfl) (by rintro _ _ _ _ ⟨_, _, _, _, rfl, _⟩; rfl) ?_
  rintro f cdv A outer s H _ Q E hr ⟨a, k, n, g, rfl, hs, hlt, hk, hq⟩
  refine ⟨_, (pss_cons (ps_if (PW.pt (pw_or (pt_not (pt_val (C8.pe_c c_is_list hr (by decide) (by rfl) (pa_cons (pv 0) pa_nil)))) (pw_or1 (pt_cmpR op_ne (pe_callB (lenK (K := K) rfl) (by rfl) T.len bt_len (pa_cons (pv 0) pa_nil)) (pv 1) (nomark _))))) (pss_one (ps_ret pe_bl)) pss_nil)
      (pss_one (ps_ret (pe_callB (cr_all rfl) (by rfl) T.all bt_all (pa_cons (pe_lc (own := [("item", 3)]) rfl sc_is_line.nd (pi_seqK (K := K) rfl (pv 0)) (blkOk_by (own := [("item", 3)]) (N := ["thing", "kinds", "places", "item"]) (sc := defScope s_is_line) (by decide +kernel)) (fun _ _ _ _ _ => (pg_name (i := 3) sc_is_line.nd rfl (by first | exact Or.inl rfl | exact Or.inr rfl))) (fun _ _ _ _ _ => pts_nil) (fun _ _ _ _ _ => (C8.pe_c c_is_between hr (by decide) (by rfl) (pa_cons (pv 3) (pa_cons pe_int (pa_cons (pe_op op_sub (pv 2) pe_int) pa_nil)))))) pa_nil))))), ?_⟩
  refine ⟨_, rfl, _, _, rfl, hs, fun H1 x1 => ?_⟩
  refine ⟨true, rfl, _, rfl, _, _, rfl, x1.sqS hs, _, rfl, rfl, false, neF (by rw [lineV_len]), ?_⟩
  refine ⟨_, rfl, _, _, rfl, x1.sqS hs, fun J G wk hG D hD => ?_⟩
  rw [lineV_len] at wk
  refine lcE (B := []) wk hD (hG Z [] · (by simp)) (by omega) (fun i acc _ => acc = List.replicate i (.bl true)) rfl (fun i acc x H2 H3 hi x2 ha hl hp hy => ?_) fun acc H2 x2 ha hp => ?_
  · obtain ⟨rfl, hx⟩ := hy
    obtain ⟨hc, rfl⟩ := lineV_get hx
    have := hlt i hc
    refine ⟨rfl, _, rfl, _, rfl, _, _, rfl, rfl, _, _, _, rfl, by omega, by omega, ?_⟩
    exact LcP.put x2 hD ha (by simp) hl (by omega) (Exb.refl _) (by rw [hp, List.replicate_succ']) 
  · refine ⟨_, List.replicate k true, rfl, ?_, ?_⟩
    · rw [List.map_replicate, ← hp]
      exact SqL.of ha
    · rw [show (List.replicate k true).all id = true by simp]
      exact hq _ (x1.trans x2)
/-! ### first_wrong, need_words -/
def spFirstWord (K : PySem.W.Frag) (Z : List (Addr × Str)) (f : Addr) : Sp := fun vs H Q _ => ∃ a n g, vs = [.ref a, .ref f] ∧ SqS K H a (lineV n g) ∧ (∀ p < n, g p ≤ 3) ∧ ∀ H', Ex Z H H' → Q .non H'
theorem sc_first_wrong : FnScope ["several", "fits", "index", "item"] ["several", "fits"] (defScope s_first_wrong) := ⟨rfl, rfl, rfl, by decide +kernel, rfl, by decide +kernel, by decide +kernel⟩
theorem first_word_ok (T : Txt K mg C) (D : Df K mg "first_wrong" s_first_wrong []) {fw : Addr} {fdw : FuncData} {psw : List Str} (Fw : FnOk P w K mg base CX0 3 fw fdw psw spWord) (kw : PySem.W.keepIn K (.ref fw) = true) (bw : Binds K fdw psw []) : C8.Cal P w K mg base 4 "first_wrong" (spFirstWord K Z fw) [] := by
  refine D.cal (k := 3) sc_first_wrong (by intro kV doc pm an cdv ct us h; match us, h with | [_, _], _ => rfl) (by rintro _ _ _ _ ⟨_, _, _, rfl, _⟩; rfl) ?_
  rintro f cdv A outer s H _ Q E hr ⟨a, n, g, rfl, hs, hlt, hq⟩
  refine ⟨_, (pss_cons (ps_for PassesOwn.never rfl (pi_enumW (by rfl) T.enumerate (pa_cons (pv 0) pa_nil)) (pg_tup rfl (pgs_cons (pg_name (i := 2) sc_first_wrong.nd rfl (by first | exact Or.inl rfl | exact Or.inr rfl)) (pgs_cons (pg_name (i := 3) sc_first_wrong.nd rfl (by first | exact Or.inl rfl | exact Or.inr rfl)) pgs_nil)))
      (pss_one (ps_if (pt_not (pt_val (pe_callL (i := 1) Fw hr rfl (.inl rfl) kw bw .nil pass0 (pa_cons (pv 3) pa_nil)))) (pss_one (ps_ret (pv 2))) pss_nil)))
      (pss_one (ps_ret pe_non))), ?_⟩
  refine ⟨_, rfl, _, _, rfl, hs, fun J G wk hG => ?_⟩
  rw [lineV_len] at wk
  refine for_it wk (fun i σ H' => ∃ u v, σ = [some (.ref a), some (.ref fw), u, v] ∧ Ex Z H H') ⟨_, _, rfl, Exb.refl _⟩ (fun i σ H' _ ⟨u, v, _, x⟩ => hG Z [] H' (by simp) x) (fun i x σ H1 H2 hi ⟨u, v, hσ, x1⟩ hy => ?_) fun σ H' ⟨u, v, _, x⟩ => hq _ x
  subst hσ
  obtain ⟨t, _, _, rfl, hn, rfl, h1, h2⟩ := hy
  obtain rfl := Option.some.inj h1
  obtain ⟨hc, rfl⟩ := lineV_get h2
  have := hlt i hc
  refine ⟨_, _, rfl, SqT.of upd_same, rfl, _, _, rfl, _, _, rfl, rfl, ?_⟩
  exact ⟨rfl, _, rfl, _, rfl, by omega, by omega, true, rfl, _, _, rfl, x1.trans (Exb.new hn)⟩
def spNeedWords (K : PySem.W.Frag) (Z : List (Addr × Str)) : Sp := fun vs H Q _ => ∃ a n g, vs = [.ref a, .int (n : Nat)] ∧ SqS K H a (lineV n g) ∧ (∀ p < n, g p ≤ 3) ∧ ∀ H', Ex Z H H' → Q .non H'
theorem sc_need_words : FnScope ["words", "many", "index"] ["words", "many"] (defScope s_need_words) := ⟨rfl, rfl, rfl, by decide +kernel, rfl, by decide +kernel, by decide +kernel⟩
theorem need_words_ok (T : Txt K mg C) (D : Df K mg "need_words" s_need_words []) (D1 : Df K mg "first_wrong" s_first_wrong []) (c_is_list : C8.Cal P w K mg base 1 "is_list" (spList K Z) []) (c_is_word : C8.Cal P w K mg base 3 "is_word" spWord []) : C8.Cal P w K mg base 5 "need_words" (spNeedWords K Z) [] := by
  obtain ⟨fw, fdw, psw, dsw, Fw, hmw, kw, bw, dw⟩ := c_is_word.ex
  cases dw
  have c_first_wrong := first_word_ok (P := P) (w := w) (base := base) (Z := Z) T D1 Fw kw bw
  have g_is_word : ∃ u, mg "is_word" = some u ∧ RelV (.ref fw) u := ⟨_, hmw, rfl⟩
  refine D.cal (k := 4) sc_need_words (by intro kV doc pm an cdv ct us h; match us, h with | [_, _], _ => rfl) (by rintro _ _ _ _ ⟨_, _, _, rfl, _⟩; rfl) ?_
  rintro f cdv A outer s H _ Q E hr ⟨a, n, g, rfl, hs, hlt, hq⟩
  refine ⟨_, (pss_cons (ps_if (PW.pt (pw_or (pt_not (pt_val (C8.pe_c c_is_list hr (by decide) (by rfl) (pa_cons (pv 0) pa_nil)))) (pw_or1 (pt_cmpR op_ne (pe_callB (lenK (K := K) rfl) (by rfl) T.len bt_len (pa_cons (pv 0) pa_nil)) (pv 1) (nomark _))))) (pss_one ps_never) pss_nil)
      (pss_cons (ps_set (i := 2) sc_need_words.nd rfl (by first | exact Or.inl rfl | exact Or.inr rfl) (C8.pe_c c_first_wrong hr (by decide) (by rfl) (pa_cons (pv 0) (pa_cons (C8.pe_gc (by rfl) g_is_word) pa_nil))))
      (pss_one (ps_if (pt_cmpR op_notN (pv 2) pe_non (nomark _)) (pss_one ps_never) pss_nil)))), ?_⟩
  refine ⟨_, rfl, _, _, rfl, hs, fun H1 x1 => ⟨true, rfl, _, rfl, _, _, rfl, x1.sqS hs, _, rfl, rfl, false, neF (by rw [lineV_len]), ?_⟩⟩
  exact ⟨_, rfl, _, _, _, rfl, x1.sqS hs, hlt, fun H2 x2 => ⟨_, rfl, rfl, false, rfl, hq _ (x1.trans x2)⟩⟩
end
end K62
/-! ==== B62b ==== -/
namespace K62
open PySem PySem.Spec PyProof.Rows L2 Fx Od
section
variable {P : Program} {w : World} {K : PySem.W.Frag} {mg : Str → Option Value} {base : Heap} {C : Addr} {Z : List (Addr × Str)}
/-! ### need_moves: a lambda handed to first_wrong -/
structure DfC (K : PySem.W.Frag) (mg : Str → Option Value) (x : Str) (st : Stmt) (c : Addr) : Prop where
  ex : ∃ f fd, FunD K x x (defArgs st) (defBody st) (defScope st) [] [] f fd ∧ fd.code = .ref c ∧ mg x = some (.ref f)
/-- the name that the lambda's code bears -/
def lamQ : Str := (envOfC "need_moves" (defScope s_need_moves) 0 0 .none).qual ++ "<lambda>"
/-- the moves of a watch: a list or tuple of lists or tuples -/
def MovesAt (K : PySem.W.Frag) (H : Hp) (a : Addr) (W : Wt) : Prop := ∃ rs : List Addr, SqS K H a (rs.map V.ref) ∧ rs.length = W.n ∧ ∀ p r, rs[p]? = some r → SqS K H r (lineV W.k (W.mv p))
theorem MovesAt.ex {H H' : Hp} {a : Addr} {W : Wt} (x : Ex Z H H') (h : MovesAt K H a W) : MovesAt K H' a W := by
  obtain ⟨rs, h1, h2, h3⟩ := h
  exact ⟨rs, x.sqS h1, h2, fun p r e => x.sqS (h3 p r e)⟩
def spNeedMoves (K : PySem.W.Frag) (Z : List (Addr × Str)) : Sp := fun vs H Q _ => ∃ a W, vs = [.ref a] ∧ MovesAt K H a W ∧ W.Ok ∧ LamX.Tabs Z H ∧ ∀ H', Ex Z H H' → Q .non H'
theorem sc_need_moves : FnScope ["moves", "first", "index"] ["moves"] (defScope s_need_moves) := ⟨rfl, rfl, rfl, by decide +kernel, rfl, by decide +kernel, by decide +kernel⟩
theorem first_gives (T : Txt K mg C) {X : Cx} (hK : X.K = K) (hm : X.mg = mg) {g : Addr} {cdg : Value} {q : Str} :
    GivesTwo X ["several", "fits", "index", "item"] "first_wrong" (defScope s_first_wrong) g cdg (defBody s_first_wrong) "fits" 1 q
      (fun tl v H Q => ∃ (a : Addr) (rs : List Addr), v = .ref a ∧ SqS K H a (rs.map V.ref) ∧ (∀ (p : Nat) (r : Addr) (H1 : Hp) (Q1 : VK), rs[p]? = some r → Ex Z H H1 → (∀ H2, Ex Z H H2 → Q1 (.bl true) H2) → tl (.ref r) H1 Q1) ∧ ∀ H', Ex Z H H' → Q .non H') := by
  subst hK hm
  rintro f c' s H v Q tl hcall hc ⟨a, rs, rfl, hs, hl, hq⟩
  refine ⟨_, (pss_cons (ps_for PassesOwn.never rfl (pi_enumW (by rfl) T.enumerate (pa_cons (pv 0) pa_nil)) (pg_tup rfl (pgs_cons (pg_name (i := 2) sc_first_wrong.nd rfl (by first | exact Or.inl rfl | exact Or.inr rfl)) (pgs_cons (pg_name (i := 3) sc_first_wrong.nd rfl (by first | exact Or.inl rfl | exact Or.inr rfl)) pgs_nil)))
      (pss_one (ps_if (pt_not (pt_val (hcall _ _ _ _ (pv 3) (by rfl)))) (pss_one (ps_ret (pv 2))) pss_nil)))
      (pss_one (ps_ret pe_non))), ?_⟩
  refine ⟨_, rfl, _, _, rfl, hs, fun J G wk hG => ?_⟩
  rw [List.length_map] at wk
  refine for_it wk (fun i σ H' => ∃ u v, σ = [some (.ref a), some (.ref f), u, v] ∧ Ex Z H H') ⟨_, _, rfl, Exb.refl _⟩ (fun i σ H' _ ⟨u, v, _, x⟩ => hG Z [] H' (by simp) x) (fun i x σ H1 H2 hi ⟨u, v, hσ, x1⟩ hy => ?_) fun σ H' ⟨u, v, _, x⟩ => hq _ x
  subst hσ
  obtain ⟨t, _, y, rfl, hn, rfl, h1, h2⟩ := hy
  obtain rfl := Option.some.inj h1
  have h2 : (rs.map V.ref)[i]? = some y := h2
  rw [List.getElem?_map, List.getElem?_eq_getElem hi] at h2
  obtain rfl := Option.some.inj h2
  have x2 := x1.trans (Exb.new (o := .tup [.int (i : Nat), .ref rs[i]]) hn)
  refine ⟨_, _, rfl, SqT.of upd_same, rfl, _, _, rfl, _, _, rfl, rfl, ?_⟩
  refine ⟨rfl, _, rfl, x2.1 _ _ (by simp) hc (fun ps z => nomatch z), hl i rs[i] _ _ (List.getElem?_eq_getElem hi) x2 fun H3 x3 => ?_⟩
  exact ⟨true, rfl, _, _, rfl, x3⟩
def rLenQ (K : PySem.W.Frag) : List V → Hp → VK → Prop := fun xs H Q => ∃ p ys, xs = [V.ref p] ∧ (SqL K H p ys ∨ SqT K H p ys) ∧ Q (V.int (ys.length : Nat)) H
theorem need_moves_ok {c Pt : Addr} (T : Txt K mg C) (D : DfC K mg "need_moves" s_need_moves c) (D1 : Df K mg "first_wrong" s_first_wrong []) (TB : LamX.TabB base mg c Pt) (hZ : (Pt, lamQ) ∈ Z) (hZ2 : ∀ p ∈ Z, p.1 = Pt → p.2 = lamQ) (c_is_list : C8.Cal P w K mg base 1 "is_list" (spList K Z) []) (c_is_line : C8.Cal P w K mg base 3 "is_line" (spLine K Z) []) : C8.Cal P w K mg base 6 "need_moves" (spNeedMoves K Z) [] := by
  obtain ⟨f, fd, F, hcode, hmg⟩ := D.ex
  obtain ⟨g, fdg, Fg, hmg1⟩ := D1.ex
  obtain ⟨ocg, odg, dVg, kVg, docg, pmg, ang, cdvg, ctg, oslg, rfl, lkg, hcdg, hDg, _⟩ := Fg.ex
  have bb := Fg.bindsN (ps := ["several", "fits"]) (by intro kV doc pm an cdv ct us h; match us, h with | [_, _], _ => rfl)
  refine ⟨f, fd, ["moves"], [], ?_, hmg, F.kp, F.bindsN (by intro kV doc pm an cdv ct us h; match us, h with | [_], _ => rfl), .nil⟩
  have F2 := F
  obtain ⟨oc, od, dV, kV, doc, pm, an, cdv, ct, osl, rfl, lk, hcd, _, _⟩ := F2.ex
  obtain rfl : cdv = .ref c := hcode
  refine fn_of (k := 5) lk hcd sc_need_moves (by rintro _ _ _ _ ⟨_, _, rfl, _⟩; rfl) ?_
  rintro A outer s H _ Q E hr ⟨a, W, rfl, hM, ok, hT, hq⟩
  refine ⟨_, PSs.nox (pss_cons (ps_if (PW.pt (pw_or (pt_not (pt_val (C8.pe_c c_is_list hr (by decide) (by rfl) (pa_cons (pv 0) pa_nil)))) (pw_or1 (pt_not (pt_chain op_le op_le pe_int (pe_callB call_len_seq (by rfl) T.len bt_len (pa_cons (pv 0) pa_nil)) (C8.pe_gc (by rfl) T.c_MOST_PLACES)))))) (pss_one ps_never) pss_nil)
    (pss_cons (ps_set (i := 1) sc_need_moves.nd rfl (by first | exact Or.inl rfl | exact Or.inr rfl) (pe_ix ix_seq (pv 0) pe_int (fun _ _ => rfl)))
    (pss_cons (ps_if (PW.pt (pw_or (pt_not (pt_val (C8.pe_c c_is_list hr (by decide) (by rfl) (pa_cons (pv 1) pa_nil)))) (pw_or1 (pt_not (pt_chain op_le op_le pe_int (pe_callB call_len_seq (by rfl) T.len bt_len (pa_cons (pv 1) pa_nil)) (C8.pe_gc (by rfl) T.c_MOST_KINDS)))))) (pss_one ps_never) pss_nil)
    (pss_cons (ps_set (i := 2) sc_need_moves.nd rfl (by first | exact Or.inl rfl | exact Or.inr rfl) (pe_two (k := 3) (T := Z) (g := g) (c := c) (P := Pt) (i := 1) (a := "fits") (b := "several") (x := "line") (pv 0) (by rfl) hmg1 Fg.kp lkg hcdg bb sc_first_wrong rfl (.inl rfl) (first_gives (Z := Z) T rfl rfl) TB rfl hZ hZ2 (hr.mono (by decide)) (oneP_by (sc := defScope s_need_moves) (by decide +kernel)) (show ("line" : Str) ∉ (["moves", "first", "index"] : List Str) by decide +kernel) rfl (by intros; rfl)
        (fun A outer s H f c' hr2 => C8.pe_c c_is_line hr2 (by decide) (by rfl) (pa_cons (pv 3) (pa_cons (pe_callB (show CallR _ _ (rLenQ K) from call_len_seq) (by rfl) T.len bt_len (pa_cons (pv 1) pa_nil)) (pa_cons (pe_callB (show CallR _ _ (rLenQ K) from call_len_seq) (by rfl) T.len bt_len (pa_cons (pv 0) pa_nil)) pa_nil))))
        rfl rfl rfl (by rfl)))
    (pss_one (ps_if (pt_cmpR op_notN (pv 2) pe_non (nomark _)) (pss_one ps_never) pss_nil)))))), ?_⟩
  obtain ⟨rs, hs, hn, hrow⟩ := hM
  have n1 := ok.n1
  have n6 := ok.n6
  have k1 := ok.k1
  have k4 := ok.k4
  refine ⟨_, rfl, _, _, rfl, hs, fun H1 x1 => ?_⟩
  have l1 : (1 : Int) ≤ ((rs.map V.ref).length : Nat) := by rw [List.length_map, hn]; omega
  have l6 : (((rs.map V.ref).length : Nat) : Int) ≤ 6 := by rw [List.length_map, hn]; omega
  refine ⟨true, rfl, _, rfl, _, _, rfl, x1.sqS hs, _, _, rfl, rfl, true, blT l1, _, _, rfl, rfl, true, blT l6, ?_⟩
  obtain ⟨r0, h0⟩ : ∃ r0, rs[0]? = some r0 := ⟨rs[0]'(by omega), List.getElem?_eq_getElem (by omega)⟩
  have hr0 := x1.sqS (hrow 0 r0 h0)
  refine ⟨_, rfl, ixS (x1.sqS hs) (j := 0) (v := .ref r0) (by rw [List.getElem?_map, h0]; rfl) ?_⟩
  refine ⟨_, rfl, _, _, rfl, hr0, fun H2 x2 => ?_⟩
  have m1 : (1 : Int) ≤ ((lineV W.k (W.mv 0)).length : Nat) := by rw [lineV_len]; omega
  have m4 : (((lineV W.k (W.mv 0)).length : Nat) : Int) ≤ 4 := by rw [lineV_len]; omega
  refine ⟨true, rfl, _, rfl, _, _, rfl, x2.sqS hr0, _, _, rfl, rfl, true, blT m1, _, _, rfl, rfl, true, blT m4, ?_⟩
  have x12 := x1.trans x2
  refine ⟨_, rfl, x12.2 hT, fun H3 e3 t3 => ?_⟩
  have x3 : Ex Z H2 H3 := ⟨fun b o _ e t => e3 b o e t, fun _ => t3⟩
  have x13 := x12.trans x3
  refine ⟨_, rs, rfl, x13.sqS hs, fun p r H4 Q4 hp x4 q4 => ?_, fun H4 x4 => ?_⟩
  · have x14 := x13.trans x4
    have hp2 : p < W.n := by
      rw [← hn]
      exact (List.getElem?_eq_some_iff.mp hp).1
    refine ⟨_, rfl, _, rfl, _, _, rfl, (x3.trans x4).sqS (x2.sqS hr0), _, rfl, _, _, rfl, x14.sqS hs, r, W.k, W.n, W.mv p, ?_, x14.sqS (hrow p r hp), fun c hc => ok.mv p hp2 c hc, k4, fun H5 x5 => q4 _ (x4.trans x5)⟩
    rw [lineV_len, List.length_map, hn]
    rfl
  · exact ⟨_, rfl, rfl, false, rfl, hq _ (x13.trans x4)⟩
end
end K62
/-! ==== B62c ==== -/
namespace K62
open PySem PySem.Spec PyProof.Rows L2 Fx Od
section
variable {P : Program} {w : World} {K : PySem.W.Frag} {mg : Str → Option Value} {base : Heap} {C : Addr} {Z : List (Addr × Str)}
/-! ### the class Watch -/
/-- no table, no code object, no tuple, nothing locked -/
def Md : HO → Prop
  | .lst _ => True
  | .dK _ => True
  | .dT _ => True
  | .ins _ _ _ => True
  | .own _ => True
  | .ext _ => True
  | _ => False
theorem Md.of {H : Hp} {p : Addr} {o : HO} (h : H p = some o) (m : Md o) : ∀ u, H p = some u → Md u := fun u e => by
  rw [h] at e
  rw [← Option.some.inj e]
  exact m
theorem SqT.put {H : Hp} {p t : Addr} {o : HO} {xs : List V} (h : SqT K H t xs) (m : ∀ u, H p = some u → Md u) : SqT K (upd H p o) t xs := by
  rcases h with (h | ⟨z, h⟩) | h
  · exact .inl (.inl (by rw [upd_ne (fun e => (m (.tup xs) (by rw [← e]; exact h) : False))]; exact h))
  · exact .inl (.inr ⟨z, by rw [upd_ne (fun e => (m (.frz z (.tup xs)) (by rw [← e]; exact h) : False))]; exact h⟩)
  · exact .inr h
theorem SqT.put' {H : Hp} {p t : Addr} {o u : HO} {xs : List V} (h : SqT K H t xs) (e : H p = some u) (m : Md u) : SqT K (upd H p o) t xs := SqT.put h (Md.of e m)
theorem Mi.of {H : Hp} {p : Addr} {o : HO} (h : H p = some o) (m : Mi o) : ∀ u, H p = some u → Mi u := fun u e => by
  rw [h] at e
  rw [← Option.some.inj e]
  exact m
theorem Mi.md {u : HO} (h : Mi u) : Md u := by
  cases u <;> first | trivial | exact h.elim
theorem SqL.putI {H : Hp} {p t : Addr} {o : HO} {xs : List V} (h : SqL K H t xs) (m : ∀ u, H p = some u → Mi u) : SqL K (upd H p o) t xs := by
  rcases h with (h | ⟨z, h⟩) | h
  · exact .inl (.inl (by rw [upd_ne (fun e => (m (.lst xs) (by rw [← e]; exact h) : False))]; exact h))
  · exact .inl (.inr ⟨z, by rw [upd_ne (fun e => (m (.frz z (.lst xs)) (by rw [← e]; exact h) : False))]; exact h⟩)
  · exact .inr h
theorem SqS.putI {H : Hp} {p t : Addr} {o : HO} {xs : List V} (h : SqS K H t xs) (m : ∀ u, H p = some u → Mi u) : SqS K (upd H p o) t xs := h.elim (fun z => .inl (SqL.putI z m)) fun z => .inr (SqT.put z fun u e => Mi.md (m u e))
/-- a watch: its moves as tuples of tuples, its words -/
def WatchAt (K : PySem.W.Frag) (C : Addr) (H : Hp) (a : Addr) (W : Wt) : Prop := ∃ (dx m wd : Addr) (rs : List Addr), H a = some (.ins C dx [("own_moves", .ref m), ("own_words", .ref wd)]) ∧ SqT K H m (rs.map V.ref) ∧ rs.length = W.n ∧ (∀ p r, rs[p]? = some r → SqT K H r (lineV W.k (W.mv p))) ∧ SqT K H wd (lineV W.n W.wd)
/-- a list or a dict -/
def Ml : HO → Prop
  | .lst _ => True
  | .dK _ => True
  | .dT _ => True
  | _ => False
theorem WatchAt.put {H : Hp} {p a : Addr} {W : Wt} {o : HO} (h : WatchAt K C H a W) (m : ∀ u, H p = some u → Ml u) : WatchAt K C (upd H p o) a W := by
  obtain ⟨dx, q, wd, rs, h1, h2, h3, h4, h5⟩ := h
  have md : ∀ u, H p = some u → Md u := fun u e => by
    have := m u e
    cases u <;> first | trivial | exact this.elim
  exact ⟨dx, q, wd, rs, by rw [upd_ne (fun e => (m (.ins C dx _) (by rw [← e]; exact h1) : False))]; exact h1, SqT.put h2 md, h3, fun p r e => SqT.put (h4 p r e) md, SqT.put h5 md⟩
theorem Ml.of {H : Hp} {p : Addr} {o : HO} (h : H p = some o) (m : Ml o) : ∀ u, H p = some u → Ml u := fun u e => by
  rw [h] at e
  rw [← Option.some.inj e]
  exact m
theorem WatchAt.exb {H H' : Hp} {B : List Addr} {a : Addr} {W : Wt} (x : Exb Z B H H') (hB : ∀ b ∈ B, ∀ u, H b = some u → Ml u) (h : WatchAt K C H a W) : WatchAt K C H' a W := by
  have tn : ∀ {t : Addr} {xs : List V}, SqT K H t xs → SqT K H' t xs := fun {t xs} q => by
    by_cases hb : t ∈ B
    · rcases q with (q | ⟨o, q⟩) | q
      · exact ((hB t hb _ q : Ml (.tup xs)) : False).elim
      · exact ((hB t hb _ q : Ml (.frz o (.tup xs))) : False).elim
      · exact .inr q
    · exact x.sqTb hb q
  obtain ⟨dx, m, wd, rs, h1, h2, h3, h4, h5⟩ := h
  exact ⟨dx, m, wd, rs, x.insb (fun hb => ((hB a hb _ h1 : Ml (.ins C dx _)) : False)) h1, tn h2, h3, fun p r e => tn (h4 p r e), tn h5⟩
theorem _root_.Fx.SqS.exb {H H' : Hp} {B : List Addr} {a : Addr} {xs : List V} (x : Exb Z B H H') (hB : ∀ b ∈ B, ∀ u, H b = some u → Mi u) (h : SqS K H a xs) : SqS K H' a xs := by
  by_cases hb : a ∈ B
  · rcases h with ((h | ⟨o, h⟩) | h) | ((h | ⟨o, h⟩) | h)
    · exact ((hB a hb _ h : Mi (.lst xs)) : False).elim
    · exact ((hB a hb _ h : Mi (.frz o (.lst xs))) : False).elim
    · exact .inl (.inr h)
    · exact ((hB a hb _ h : Mi (.tup xs)) : False).elim
    · exact ((hB a hb _ h : Mi (.frz o (.tup xs))) : False).elim
    · exact .inr (.inr h)
  · exact x.sqSb hb h
theorem WatchAt.ex {H H' : Hp} {a : Addr} {W : Wt} (x : Ex Z H H') (h : WatchAt K C H a W) : WatchAt K C H' a W := WatchAt.exb x (fun b hb => absurd hb (by simp)) h
/-- what was new then may change -/
theorem _root_.Fx.Exb.unb {H H1 H' : Hp} {B : List Addr} {p : Addr} (x : Exb Z B H H1) (hp : H p = none) (y : Exb Z (p :: B) H1 H') : Exb Z B H H' := ⟨fun b o n e t => y.1 b o (fun hb => by
  rcases List.mem_cons.mp hb with q | q
  · rw [q, hp] at e
    cases e
  · exact n q) (x.1 b o n e t) t, fun t => y.2 (x.2 t)⟩
/-- a property of the class -/
structure Pg (P : Program) (w : World) (K : PySem.W.Frag) (mg : Str → Option Value) (base : Heap) (k : Nat) (C : Addr) (f : Str) (sp : Sp) : Prop where
  ex : ∃ p g fd ps, PropOf K C f p g ∧ FnOk P w K mg base CX0 k g fd ps sp ∧ Binds K fd ps []
theorem pe_pg {X : Cx} {k j : Nat} {f : Str} {sp : Sp} {e : Expr} {ta : TE} {pos : PySem.Pos} (G : Pg X.prog X.w X.K X.mg X.base k C f sp) (c : Cls X.K C) (he : PE X e ta) (hr : Room j X.A) (hk : k + 1 ≤ j) (hab : attributeBase e f X.env (eval e X.env) = eval e X.env) :
    PE X (.Attribute e f pos) (tProp C sp [] E0 ta) := by
  obtain ⟨p, g, fd, ps, hp, F, b⟩ := G.ex
  exact pe_prop he c hp F (hr.mono hk) b .nil pass0 hab
abbrev s_Watch_moves : Stmt := inClass (topS 33) 1
abbrev s_Watch_words : Stmt := inClass (topS 33) 2
abbrev s_Watch_kinds : Stmt := inClass (topS 33) 3
/-- a getter by its facts -/
structure Dg (K : PySem.W.Frag) (C : Addr) (x q : Str) (st : Stmt) : Prop where
  ex : ∃ p g fd, FunD K x q (defArgs st) (defBody st) (defScope st) [] [] g fd ∧ PropOf K C x p g
def spMoves (K : PySem.W.Frag) (C : Addr) : Sp := fun vs H Q _ => ∃ a W, vs = [.ref a] ∧ WatchAt K C H a W ∧ ∀ (m : Addr) (rs : List Addr), SqT K H m (rs.map V.ref) → rs.length = W.n → (∀ p r, rs[p]? = some r → SqT K H r (lineV W.k (W.mv p))) → Q (.ref m) H
theorem sc_Watch_moves : FnScope ["self"] ["self"] (defScope s_Watch_moves) := ⟨rfl, rfl, rfl, by decide +kernel, rfl, by decide +kernel, by decide +kernel⟩
theorem Watch_moves_ok (T : Txt K mg C) (D : Dg K C "moves" "Watch.moves" s_Watch_moves) : Pg P w K mg base 1 C "moves" (spMoves K C) := by
  obtain ⟨p, g, fd, F, hp⟩ := D.ex
  refine ⟨p, g, fd, ["self"], hp, F.ok sc_Watch_moves (by rintro _ _ _ _ ⟨_, _, rfl, _⟩; rfl) (k := 0) fun cdv A outer s H vs Q E hr h => ?_, F.bindsN (by intro kV doc pm an cdv ct us h; match us, h with | [_], _ => rfl)⟩
  obtain ⟨a, W, rfl, ⟨dx, m, wd, rs, h1, h2, h3, h4, h5⟩, hq⟩ := h
  refine ⟨_, PSs.nox (pss_one (ps_ret (pe_fld (pv 0) rfl))), ?_⟩
  exact ⟨_, rfl, a, C, dx, _, _, rfl, h1, T.cl, T.noM, rfl, hq m rs h2 h3 h4⟩
def spWords (K : PySem.W.Frag) (C : Addr) : Sp := fun vs H Q _ => ∃ a W, vs = [.ref a] ∧ WatchAt K C H a W ∧ ∀ m, SqT K H m (lineV W.n W.wd) → Q (.ref m) H
theorem sc_Watch_words : FnScope ["self"] ["self"] (defScope s_Watch_words) := ⟨rfl, rfl, rfl, by decide +kernel, rfl, by decide +kernel, by decide +kernel⟩
theorem Watch_words_ok (T : Txt K mg C) (D : Dg K C "words" "Watch.words" s_Watch_words) : Pg P w K mg base 1 C "words" (spWords K C) := by
  obtain ⟨p, g, fd, F, hp⟩ := D.ex
  refine ⟨p, g, fd, ["self"], hp, F.ok sc_Watch_words (by rintro _ _ _ _ ⟨_, _, rfl, _⟩; rfl) (k := 0) fun cdv A outer s H vs Q E hr h => ?_, F.bindsN (by intro kV doc pm an cdv ct us h; match us, h with | [_], _ => rfl)⟩
  obtain ⟨a, W, rfl, ⟨dx, m, wd, rs, h1, h2, h3, h4, h5⟩, hq⟩ := h
  refine ⟨_, PSs.nox (pss_one (ps_ret (pe_fld (pv 0) rfl))), ?_⟩
  exact ⟨_, rfl, a, C, dx, _, _, rfl, h1, T.cl, T.noW, rfl, hq wd h5⟩
def spKinds (K : PySem.W.Frag) (C : Addr) : Sp := fun vs H Q _ => ∃ a W, vs = [.ref a] ∧ WatchAt K C H a W ∧ W.Ok ∧ Q (.int (W.k : Nat)) H
theorem sc_Watch_kinds : FnScope ["self"] ["self"] (defScope s_Watch_kinds) := ⟨rfl, rfl, rfl, by decide +kernel, rfl, by decide +kernel, by decide +kernel⟩
theorem Watch_kinds_ok (T : Txt K mg C) (D : Dg K C "kinds" "Watch.kinds" s_Watch_kinds) : Pg P w K mg base 1 C "kinds" (spKinds K C) := by
  obtain ⟨p, g, fd, F, hp⟩ := D.ex
  refine ⟨p, g, fd, ["self"], hp, F.ok sc_Watch_kinds (by rintro _ _ _ _ ⟨_, _, rfl, _⟩; rfl) (k := 0) fun cdv A outer s H vs Q E hr h => ?_, F.bindsN (by intro kV doc pm an cdv ct us h; match us, h with | [_], _ => rfl)⟩
  obtain ⟨a, W, rfl, ⟨dx, m, wd, rs, h1, h2, h3, h4, h5⟩, ok, hq⟩ := h
  obtain ⟨r0, h0⟩ : ∃ r0, rs[0]? = some r0 := ⟨rs[0]'(by have := ok.n1; omega), List.getElem?_eq_getElem (by have := ok.n1; omega)⟩
  refine ⟨_, PSs.nox (pss_one (ps_ret (pe_callB (lenK (K := K) rfl) (by rfl) T.len bt_len (pa_cons (pe_ix (ixtK (K := K) rfl) (pe_fld (pv 0) rfl) pe_int (fun _ _ => rfl)) pa_nil)))), ?_⟩
  refine ⟨_, rfl, a, C, dx, _, _, rfl, h1, T.cl, T.noM, rfl, ixT (j := 0) h2 (v := .ref r0) (by rw [List.getElem?_map, h0]; rfl) ?_⟩
  refine ⟨r0, _, rfl, .inr (h4 0 r0 h0), ?_⟩
  rw [lineV_len]
  exact hq
/-- Watch(moves, words) -/
structure DfI (K : PySem.W.Frag) (mg : Str → Option Value) (C : Addr) (x q : Str) (st : Stmt) : Prop where
  ex : ∃ f fd, FunD K "__init__" q (defArgs st) (defBody st) (defScope st) [] [] f fd ∧ Mk K C f ∧ mg x = some (.ref C)
def spWatch (K : PySem.W.Frag) (Z : List (Addr × Str)) (C : Addr) : Sp := fun vs H Q _ => ∃ x a b dx W, vs = [.ref x, .ref a, .ref b] ∧ H x = some (.ins C dx []) ∧ MovesAt K H a W ∧ SqS K H b (lineV W.n W.wd) ∧ W.Ok ∧ LamX.Tabs Z H ∧ ∀ H', Exb Z [x] H H' → WatchAt K C H' x W → Q .non H'
theorem sc_Watch_init : FnScope ["self", "moves", "words", "line"] ["self", "moves", "words"] (defScope s_Watch_init) := ⟨rfl, rfl, rfl, by decide +kernel, rfl, by decide +kernel, by decide +kernel⟩
theorem Watch_ok (T : Txt K mg C) (D : DfI K mg C "Watch" "Watch.__init__" s_Watch_init) (c_need_moves : C8.Cal P w K mg base 6 "need_moves" (spNeedMoves K Z) []) (c_need_words : C8.Cal P w K mg base 5 "need_words" (spNeedWords K Z) []) : C8.Mak P w K mg base 7 "Watch" C (spWatch K Z C) [] := by
  obtain ⟨f, fd, F, M, hmg⟩ := D.ex
  refine ⟨f, fd, ["self", "moves", "words"], [], M, F.ok sc_Watch_init (by rintro _ _ _ _ ⟨_, _, _, _, _, rfl, _⟩; rfl) (k := 6) fun cdv A outer s H vs Q E hr h => ?_, hmg, F.bindsN (by intro kV doc pm an cdv ct us h; match us, h with | [_, _, _], _ => rfl), .nil⟩
  obtain ⟨x, a, b, dx, W, rfl, hx, hM, hw, ok, hT, hq⟩ := h
  have n1 := ok.n1
  have n6 := ok.n6
  obtain ⟨rs, hs, hn, hrow⟩ := hM
  refine ⟨_, PSs.nox (pss_cons (ps_expr (C8.pe_c c_need_moves hr (by decide) (by rfl) (pa_cons (pv 1) pa_nil)))
      (pss_cons (ps_expr (C8.pe_c c_need_words hr (by decide) (by rfl) (pa_cons (pv 2) (pa_cons (pe_callB (lenK (K := K) rfl) (by rfl) T.len bt_len (pa_cons (pv 1) pa_nil)) pa_nil))))
      (pss_cons (ps_fld (pv 0) (pe_callTy (tupK (K := K) rfl) (by rfl) T.tuple bt_tuple (pa_cons (pe_lc (own := [("line", 3)]) rfl sc_Watch_init.nd (pi_seqK (K := K) rfl (pv 1)) (blkOk_by (own := [("line", 3)]) (N := ["self", "moves", "words", "line"]) (sc := defScope s_Watch_init) (by decide +kernel)) (fun _ _ _ _ _ => (pg_name (i := 3) sc_Watch_init.nd rfl (by first | exact Or.inl rfl | exact Or.inr rfl))) (fun _ _ _ _ _ => pts_nil) (fun _ _ _ _ _ => (pe_callTy (tupK (K := K) rfl) (by rfl) T.tuple bt_tuple (pa_cons (pv 3) pa_nil)))) pa_nil)) rfl)
      (pss_one (ps_fld (pv 0) (pe_callTy (tupK (K := K) rfl) (by rfl) T.tuple bt_tuple (pa_cons (pv 2) pa_nil)) rfl))))), ?_⟩
  refine ⟨_, rfl, a, W, rfl, ⟨rs, hs, hn, hrow⟩, ok, hT, fun H1 x1 => ?_⟩
  refine ⟨_, rfl, _, rfl, _, _, rfl, x1.sqS hs, b, W.n, W.wd, ?_, x1.sqS hw, ok.wd, fun H2 x2 => ?_⟩
  · rw [List.length_map, hn]
    rfl
  have x02 := x1.trans x2
  refine ⟨_, rfl, a, _, rfl, x02.sqS hs, fun J G wk hG D hD => ?_⟩
  rw [List.length_map] at wk
  refine lcE (B := []) (Z := Z) wk hD (hG Z [] · (by simp)) (by omega) (fun i acc H => ∃ ts : List Addr, acc = ts.map V.ref ∧ ts.length = i ∧ ∀ j t, ts[j]? = some t → SqT K H t (lineV W.k (W.mv j))) ⟨[], rfl, rfl, fun j t e => by simp at e⟩ (fun i acc y H3 H4 hi x3 ha hl hp hy => ?_) fun acc H3 x3 ha hp => ?_
  · obtain ⟨rfl, hy⟩ := hy
    obtain ⟨ts, rfl, hts, hti⟩ := hp
    rw [List.getElem?_map, List.getElem?_eq_getElem hi] at hy
    obtain rfl := Option.some.inj hy
    have hrow4 := (x02.trans x3).sqS (hrow i rs[i] (List.getElem?_eq_getElem hi))
    have fin : ∀ (H5 : Hp) (t : Addr), Ex Z H4 H5 → SqT K H5 t (lineV W.k (W.mv i)) → ∃ acc, H5 D = some (.lst acc) ∧ acc.length < sizeLine ∧ LcP Z [] H2 D (fun i acc H => ∃ ts : List Addr, acc = ts.map V.ref ∧ ts.length = i ∧ ∀ j t, ts[j]? = some t → SqT K H t (lineV W.k (W.mv j))) (i + 1) (upd H5 D (.lst (acc ++ [.ref t]))) := fun H5 t x5 ht => by
      refine LcP.put x3 hD ha (by simp) hl (by omega) x5 ⟨ts ++ [t], by simp, by simp [hts], fun j u e => SqT.put' ?_ (x5.lst ha) trivial⟩
      by_cases hj : j < ts.length
      · rw [List.getElem?_append_left hj] at e
        exact x5.sqT (hti j u e)
      · rw [List.getElem?_append_right (by omega)] at e
        have j0 : j = i := by
          have := (List.getElem?_eq_some_iff.mp e).1
          simp at this
          omega
        rw [j0, hts, Nat.sub_self] at e
        rw [j0, ← Option.some.inj e]
        exact ht
    rcases hrow4 with hL | hU
    · exact ⟨rfl, _, rfl, _, _, rfl, .inl ⟨hL, fun l nl => fin _ l (Exb.new nl) (SqT.of upd_same)⟩⟩
    · exact ⟨rfl, _, rfl, _, _, rfl, .inr ⟨hU, fin _ _ (Exb.refl _) hU⟩⟩
  · obtain ⟨ts, rfl, hts, hti⟩ := hp
    refine ⟨D, _, rfl, .inl ⟨SqL.of ha, fun m nm => ?_⟩⟩
    have x4 : Ex Z H (upd H3 m (.tup (ts.map V.ref))) := (x02.trans x3).trans (Exb.new nm)
    refine ⟨_, rfl, x, C, dx, [], rfl, x4.ins hx, T.cl, T.noM, by decide, ?_⟩
    have hx5 : ∀ H' : Hp, H' x = some (.ins C dx [("own_moves", .ref m)]) → ∀ u, H' x = some u → Md u := fun H' e => Md.of e trivial
    have ux : ∀ u, upd H3 m (.tup (ts.map V.ref)) x = some u → Md u := Md.of (x4.ins hx) trivial
    have y5 : Exb Z [x] H (upd (upd H3 m (.tup (ts.map V.ref))) x (.ins C dx [("own_moves", .ref m)])) := x4.any.mut (.inl (by simp)) (Mb.of (x4.ins hx) trivial)
    have hxb : SqS K (upd (upd H3 m (.tup (ts.map V.ref))) x (.ins C dx [("own_moves", .ref m)])) b (lineV W.n W.wd) := SqS.putI (x4.sqS hw) (Mi.of (x4.ins hx) trivial)
    have m5 : SqT K (upd (upd H3 m (.tup (ts.map V.ref))) x (.ins C dx [("own_moves", .ref m)])) m (ts.map V.ref) := SqT.put (SqT.of upd_same) ux
    have t5 : ∀ j t, ts[j]? = some t → SqT K (upd (upd H3 m (.tup (ts.map V.ref))) x (.ins C dx [("own_moves", .ref m)])) t (lineV W.k (W.mv j)) := fun j t e => SqT.put ((Ex.new nm (Z := Z)).sqT (hti j t e)) ux
    have fin : ∀ (H6 : Hp) (wd : Addr), Ex Z (upd (upd H3 m (.tup (ts.map V.ref))) x (.ins C dx [("own_moves", .ref m)])) H6 → SqT K H6 wd (lineV W.n W.wd) → Q .non (upd H6 x (.ins C dx [("own_moves", .ref m), ("own_words", .ref wd)])) := fun H6 wd x6 hwd => by
      have e6 : H6 x = some (.ins C dx [("own_moves", .ref m)]) := x6.ins upd_same
      exact hq _ ((y5.trans x6.any).mut (.inl (by simp)) (Mb.of e6 trivial)) ⟨dx, m, wd, ts, upd_same, SqT.put (x6.sqT m5) (hx5 _ e6), hts.trans hn, fun p r e => SqT.put (x6.sqT (t5 p r e)) (hx5 _ e6), SqT.put hwd (hx5 _ e6)⟩
    rcases hxb with hL | hU
    · refine ⟨_, rfl, b, _, rfl, .inl ⟨hL, fun l nl => ?_⟩⟩
      refine ⟨_, rfl, x, C, dx, _, rfl, (Ex.new nl (Z := Z)).ins upd_same, T.cl, T.noW, by show 1 < 1000; decide, ?_⟩
      exact fin _ l (Ex.new nl) (SqT.of upd_same)
    · refine ⟨_, rfl, b, _, rfl, .inr ⟨hU, ?_⟩⟩
      refine ⟨_, rfl, x, C, dx, _, rfl, upd_same, T.cl, T.noW, by show 1 < 1000; decide, ?_⟩
      exact fin _ b (Exb.refl _) hU
end
end K62
/-! ==== B62d ==== -/
namespace K62
open PySem PySem.Spec PyProof.Rows L2 Fx Od
section
variable {P : Program} {w : World} {K : PySem.W.Frag} {mg : Str → Option Value} {base : Heap} {C : Addr} {Z : List (Addr × Str)}
/-! ### need_watch, need_shown, need_weights -/
def spNeedWatch (C : Addr) : Sp := fun vs H Q _ => ∃ a dx fs, vs = [.ref a, .non] ∧ H a = some (.ins C dx fs) ∧ Q .non H
theorem sc_need_watch : FnScope ["watch", "part"] ["watch", "part"] (defScope s_need_watch) := ⟨rfl, rfl, rfl, by decide +kernel, rfl, by decide +kernel, by decide +kernel⟩
theorem need_watch_ok (T : Txt K mg C) (D : Df K mg "need_watch" s_need_watch [.non]) : C8.Cal P w K mg base 1 "need_watch" (spNeedWatch C) [.non] := by
  obtain ⟨f, fd, F, hm⟩ := D.ex
  obtain ⟨ds, hv, hb⟩ := F.binds1 (ps := ["watch", "part"]) 1 0 (by simp) rfl (fun U kV doc pm an cdv ct us its h1 h2 => by
    match us, its, h1, h2 with
    | [u], [t], _, _ => exact ⟨_, rfl, rfl⟩)
  refine ⟨f, fd, ["watch", "part"], ds, F.ok sc_need_watch (by rintro _ _ _ _ ⟨_, _, _, rfl, _⟩; rfl) (k := 0) fun cdv A outer s H vs Q E hr h => ?_, hm, F.kp, hb, hv⟩
  obtain ⟨a, dx, fs, rfl, ha, hq⟩ := h
  refine ⟨_, PSs.nox (pss_one (ps_if (pt_not (pt_val (pe_callB (C8.call_isC T.ins) (by rfl) T.isinstance bt_isinstance (pa_cons (pv 0) (pa_cons (C8.pe_gc (by rfl) T.g_Watch) pa_nil))))) (pss_one ps_never) pss_nil)), ?_⟩
  exact ⟨_, rfl, a, dx, fs, rfl, ha, true, rfl, hq⟩
/-- a shown row -/
def itemV : Option Nat → V
  | none => .non
  | some c => .int (c : Nat)
def rowV (s : Od.Row) : List V := s.map itemV
theorem rowV_len (s : Od.Row) : (rowV s).length = s.length := by simp [rowV]
theorem rowV_get {s : Od.Row} {i : Nat} {v : V} (h : (rowV s)[i]? = some v) : ∃ c, s[i]? = some c ∧ v = itemV c := by
  unfold rowV at h
  rw [List.getElem?_map] at h
  cases e : s[i]? with
  | none =>
    rw [e] at h
    cases h
  | some c =>
    rw [e] at h
    exact ⟨c, rfl, (Option.some.inj h).symm⟩
def spNeedShown (K : PySem.W.Frag) (Z : List (Addr × Str)) (C : Addr) : Sp := fun vs H Q _ => ∃ a b W s, vs = [.ref a, .ref b] ∧ WatchAt K C H a W ∧ W.Ok ∧ SqS K H b (rowV s) ∧ s.length ≤ 300 ∧ Od.Row.Ok W.k s ∧ ∀ H', Ex Z H H' → Q .non H'
theorem sc_need_shown : FnScope ["watch", "shown", "index", "item"] ["watch", "shown"] (defScope s_need_shown) := ⟨rfl, rfl, rfl, by decide +kernel, rfl, by decide +kernel, by decide +kernel⟩
theorem need_shown_ok (T : Txt K mg C) (D : Df K mg "need_shown" s_need_shown []) (p_kinds : Pg P w K mg base 1 C "kinds" (spKinds K C)) (c_is_list : C8.Cal P w K mg base 1 "is_list" (spList K Z) []) (c_is_between : C8.Cal P w K mg base 2 "is_between" spBetween []) : C8.Cal P w K mg base 3 "need_shown" (spNeedShown K Z C) [] := by
  refine D.cal (k := 2) sc_need_shown (by intro kV doc pm an cdv ct us h; match us, h with | [_, _], _ => rfl) (by rintro _ _ _ _ ⟨_, _, _, _, rfl, _⟩; rfl) ?_
  rintro f cdv A outer s H _ Q E hr ⟨a, b, W, r, rfl, hW, ok, hs, hl, hok, hq⟩
  have k1 := ok.k1
  refine ⟨_, (pss_cons (ps_if (PW.pt (pw_or (pt_not (pt_val (C8.pe_c c_is_list hr (by decide) (by rfl) (pa_cons (pv 1) pa_nil)))) (pw_or1 (pt_cmpR op_gt (pe_callB (lenK (K := K) rfl) (by rfl) T.len bt_len (pa_cons (pv 1) pa_nil)) (C8.pe_gc (by rfl) T.c_MOST_EVENTS) (nomark _))))) (pss_one ps_never) pss_nil)
      (pss_one (ps_for PassesOwn.never rfl (pi_enumW (by rfl) T.enumerate (pa_cons (pv 1) pa_nil)) (pg_tupK (K := K) (n := 2) rfl rfl (pgs_cons (pg_name (i := 2) sc_need_shown.nd rfl (by first | exact Or.inl rfl | exact Or.inr rfl)) (pgs_cons (pg_name (i := 3) sc_need_shown.nd rfl (by first | exact Or.inl rfl | exact Or.inr rfl)) pgs_nil)))
      (pss_one (ps_if (PW.pt (pw_and (pt_cmpR op_notN (pv 3) pe_non (nomark _)) (pw_and1 (pt_not (pt_val (C8.pe_c c_is_between hr (by decide) (by rfl) (pa_cons (pv 3) (pa_cons pe_int (pa_cons (pe_op op_sub (pe_pg p_kinds T.cl (pv 0) hr (by decide) rfl) pe_int) pa_nil))))))))) (pss_one ps_never) pss_nil))))), ?_⟩
  refine ⟨_, rfl, _, _, rfl, hs, fun H1 x1 => ⟨true, rfl, _, rfl, _, _, rfl, x1.sqS hs, _, _, rfl, rfl, false, blF (by rw [rowV_len]; omega), ?_⟩⟩
  refine ⟨_, rfl, _, _, rfl, x1.sqS hs, fun J G wk hG => ?_⟩
  rw [rowV_len] at wk
  refine for_it wk (fun i σ H' => ∃ u v, σ = [some (.ref a), some (.ref b), u, v] ∧ Ex Z H1 H') ⟨_, _, rfl, Exb.refl _⟩ (fun i σ H' _ ⟨u, v, _, x⟩ => hG Z [] H' (by simp) x) (fun i x σ H2 H3 hi ⟨u, v, hσ, x2⟩ hy => ?_) fun σ H' ⟨u, v, _, x⟩ => hq _ (x1.trans x)
  subst hσ
  obtain ⟨t, _, _, rfl, hn, rfl, h1, h2⟩ := hy
  obtain rfl := Option.some.inj h1
  obtain ⟨c, hc, rfl⟩ := rowV_get h2
  refine ⟨_, _, rfl, SqT.of upd_same, rfl, _, _, rfl, _, _, rfl, rfl, ?_⟩
  have x3 := x2.trans (Exb.new hn (o := .tup [.int (i : Nat), itemV c]))
  cases c with
  | none => exact ⟨_, rfl, rfl, false, rfl, _, _, rfl, x3⟩
  | some c =>
    have hck : c < W.k := hok c (List.mem_of_getElem? hc)
    have hdx := hW
    obtain ⟨dx, m, wd, rs, e1, _⟩ := hdx
    refine ⟨_, rfl, rfl, true, rfl, ?_⟩
    refine ⟨_, rfl, _, rfl, _, _, _, rfl, (x1.trans x3).ins e1, _, W, rfl, hW.ex (x1.trans x3), ok, _, _, rfl, rfl, _, _, _, rfl, by omega, by omega, ?_⟩
    exact ⟨true, rfl, _, _, rfl, x3⟩
def spNeedWeights (K : PySem.W.Frag) (Z : List (Addr × Str)) (C : Addr) : Sp := fun vs H Q _ => ∃ a b W ws, vs = [.ref a, .ref b] ∧ WatchAt K C H a W ∧ W.Ok ∧ SqS K H b (lineV W.k ws) ∧ (∀ c < W.k, 1 ≤ ws c ∧ ws c ≤ 1000000) ∧ ∀ H', Ex Z H H' → Q .non H'
theorem sc_need_weights : FnScope ["watch", "weights", "index", "weight"] ["watch", "weights"] (defScope s_need_weights) := ⟨rfl, rfl, rfl, by decide +kernel, rfl, by decide +kernel, by decide +kernel⟩
theorem need_weights_ok (T : Txt K mg C) (D : Df K mg "need_weights" s_need_weights []) (p_kinds : Pg P w K mg base 1 C "kinds" (spKinds K C)) (c_is_list : C8.Cal P w K mg base 1 "is_list" (spList K Z) []) (c_is_between : C8.Cal P w K mg base 2 "is_between" spBetween []) : C8.Cal P w K mg base 3 "need_weights" (spNeedWeights K Z C) [] := by
  refine D.cal (k := 2) sc_need_weights (by intro kV doc pm an cdv ct us h; match us, h with | [_, _], _ => rfl) (by rintro _ _ _ _ ⟨_, _, _, _, rfl, _⟩; rfl) ?_
  rintro f cdv A outer s H _ Q E hr ⟨a, b, W, ws, rfl, hW, ok, hs, hws, hq⟩
  have k4 := ok.k4
  have hdx := hW
  obtain ⟨dx, m, wd, rs, e1, _⟩ := hdx
  refine ⟨_, (pss_cons (ps_if (PW.pt (pw_or (pt_not (pt_val (C8.pe_c c_is_list hr (by decide) (by rfl) (pa_cons (pv 1) pa_nil)))) (pw_or1 (pt_cmpR op_ne (pe_callB (lenK (K := K) rfl) (by rfl) T.len bt_len (pa_cons (pv 1) pa_nil)) (pe_pg p_kinds T.cl (pv 0) hr (by decide) rfl) (nomark _))))) (pss_one ps_never) pss_nil)
      (pss_one (ps_for PassesOwn.never rfl (pi_enumW (by rfl) T.enumerate (pa_cons (pv 1) pa_nil)) (pg_tupK (K := K) (n := 2) rfl rfl (pgs_cons (pg_name (i := 2) sc_need_weights.nd rfl (by first | exact Or.inl rfl | exact Or.inr rfl)) (pgs_cons (pg_name (i := 3) sc_need_weights.nd rfl (by first | exact Or.inl rfl | exact Or.inr rfl)) pgs_nil)))
      (pss_one (ps_if (pt_not (pt_val (C8.pe_c c_is_between hr (by decide) (by rfl) (pa_cons (pv 3) (pa_cons pe_int (pa_cons (C8.pe_gc (by rfl) T.c_MOST_PRICE_tariffs) pa_nil)))))) (pss_one ps_never) pss_nil))))), ?_⟩
  refine ⟨_, rfl, _, _, rfl, hs, fun H1 x1 => ⟨true, rfl, _, rfl, _, _, rfl, x1.sqS hs, _, rfl, _, _, _, rfl, x1.ins e1, _, W, rfl, hW.ex x1, ok, rfl, false, neF (by rw [lineV_len]), ?_⟩⟩
  refine ⟨_, rfl, _, _, rfl, x1.sqS hs, fun J G wk hG => ?_⟩
  rw [lineV_len] at wk
  refine for_it wk (fun i σ H' => ∃ u v, σ = [some (.ref a), some (.ref b), u, v] ∧ Ex Z H1 H') ⟨_, _, rfl, Exb.refl _⟩ (fun i σ H' _ ⟨u, v, _, x⟩ => hG Z [] H' (by simp) x) (fun i x σ H2 H3 hi ⟨u, v, hσ, x2⟩ hy => ?_) fun σ H' ⟨u, v, _, x⟩ => hq _ (x1.trans x)
  subst hσ
  obtain ⟨t, _, _, rfl, hn, rfl, h1, h2⟩ := hy
  obtain rfl := Option.some.inj h1
  obtain ⟨hc, rfl⟩ := lineV_get h2
  have := hws i hc
  refine ⟨_, _, rfl, SqT.of upd_same, rfl, _, _, rfl, _, _, rfl, rfl, ?_⟩
  have x3 := x2.trans (Exb.new hn (o := .tup [.int (i : Nat), .int (ws i : Nat)]))
  exact ⟨_, rfl, _, _, _, rfl, by omega, by omega, true, rfl, _, _, rfl, x3⟩
/-! ### divisor, power, fraction_of -/
def spDivisor : Sp := fun vs H Q _ => ∃ a b : Nat, vs = [.int (a : Nat), .int (b : Nat)] ∧ Q (.int (Nat.gcd a b : Nat)) H
theorem sc_divisor : FnScope ["one", "other"] ["one", "other"] (defScope s_divisor) := ⟨rfl, rfl, rfl, by decide +kernel, rfl, by decide +kernel, by decide +kernel⟩
theorem divisor_ok (D : Df K mg "divisor" s_divisor []) : C8.Cal P w K mg base 1 "divisor" spDivisor [] := by
  refine D.cal (k := 0) sc_divisor (by intro kV doc pm an cdv ct us h; match us, h with | [_, _], _ => rfl) (by rintro _ _ _ _ ⟨_, _, rfl, _⟩; rfl) ?_
  rintro f cdv A outer s H _ Q E hr ⟨a, b, rfl, hq⟩
  refine ⟨_, (pss_cons (ps_while PassesOwn.never (pt_cmpR op_ne (pv 1) pe_int (nomark _)) (pss_one (ps_par rfl sc_divisor.nd (i := 0) (j := 1) rfl rfl (by decide) rfl rfl (pa_cons (pv 1) (pa_cons (pe_op op_mod (pv 0) (pv 1)) pa_nil)) (by rfl))))
      (pss_one (ps_ret (pv 0)))), ?_⟩
  refine while_by (fun σ H' => H' = H ∧ ∃ x y : Nat, σ = [some (.int (x : Nat)), some (.int (y : Nat))] ∧ Nat.gcd x y = Nat.gcd a b) (fun σ _ => match σ with | [_, some (.int y)] => y.toNat | _ => 0) ⟨rfl, a, b, rfl, rfl⟩ ?_ ?_
  · rintro σ H' ⟨rfl, x, y, rfl, hg⟩
    by_cases hy : y = 0
    · subst hy
      refine ⟨_, rfl, rfl, false, rfl, ?_⟩
      refine ⟨_, rfl, ?_⟩
      rw [Nat.gcd_zero_right] at hg
      rw [← hg] at hq
      exact hq
    · refine ⟨_, rfl, rfl, true, neT (by intro z; cases z; exact hy rfl), ?_⟩
      refine ⟨_, rfl, _, rfl, _, rfl, _, _, rfl, rfl, by omega, _, _, rfl, ⟨rfl, y, x % y, rfl, ?_⟩, ?_⟩
      · rw [← hg, Nat.gcd_comm x y, Nat.gcd_rec y x, Nat.gcd_comm]
      · show ((x : Int) % (y : Int)).toNat < (y : Int).toNat
        have := Nat.mod_lt x (Nat.pos_of_ne_zero hy)
        omega
  · rintro σ H Q Q' h ⟨v, e, hs, k, hk, q⟩
    exact ⟨v, e, hs, k, hk, h _ _ q⟩
def spPower : Sp := fun vs H Q _ => ∃ b t : Nat, vs = [.int (b : Nat), .int (t : Nat)] ∧ b < 2 ^ 22 ∧ t ≤ 300 ∧ Q (.int (b ^ t : Nat)) H
theorem sc_power : FnScope ["base", "times", "found", "lap"] ["base", "times"] (defScope s_power) := ⟨rfl, rfl, rfl, by decide +kernel, rfl, by decide +kernel, by decide +kernel⟩
theorem pow_lt {b t : Nat} (hb : b < 2 ^ 22) (ht : t ≤ 300) : b ^ t < 2 ^ 6601 := by
  have h1 : b ^ t ≤ (2 ^ 22) ^ t := Nat.pow_le_pow_left (Nat.le_of_lt hb) t
  have h2 : ((2 : Nat) ^ 22) ^ t ≤ 2 ^ 6600 := by
    rw [← Nat.pow_mul]
    exact Nat.pow_le_pow_right (by decide) (by omega)
  have h3 : (2 : Nat) ^ 6600 < 2 ^ 6601 := Nat.pow_lt_pow_right (by decide) (by decide)
  omega
theorem power_ok (T : Txt K mg C) (D : Df K mg "power" s_power []) : C8.Cal P w K mg base 1 "power" spPower [] := by
  refine D.cal (k := 0) sc_power (by intro kV doc pm an cdv ct us h; match us, h with | [_, _], _ => rfl) (by rintro _ _ _ _ ⟨_, _, rfl, _⟩; rfl) ?_
  rintro f cdv A outer s H _ Q E hr ⟨b, t, rfl, hb, ht, hq⟩
  refine ⟨_, (pss_cons (ps_set (i := 2) sc_power.nd rfl (by first | exact Or.inl rfl | exact Or.inr rfl) pe_int)
      (pss_cons (ps_for PassesOwn.never rfl (pi_range1 (by rfl) T.range (pa_cons (pv 1) pa_nil)) (pg_name (i := 3) sc_power.nd rfl (by first | exact Or.inl rfl | exact Or.inr rfl))
      (pss_one (ps_set (i := 2) sc_power.nd rfl (by first | exact Or.inl rfl | exact Or.inr rfl) (pe_op op_mulW (pv 2) (pv 0)))))
      (pss_one (ps_ret (pv 2))))), ?_⟩
  refine ⟨_, rfl, (t : Nat), rfl, by omega, by omega, for_range (lo := 0) (n := t) (fun i σ H' => H' = H ∧ ∃ u, σ = [some (.int (b : Nat)), some (.int (t : Nat)), some (.int (b ^ i : Nat)), u]) ⟨rfl, _, rfl⟩ (fun i σ H' hi ⟨hH, u, hσ⟩ => ?_) fun σ H' ⟨hH, u, hσ⟩ => ?_⟩
  · subst hH hσ
    refine ⟨_, rfl, _, rfl, _, _, rfl, rfl, wide_mul (a := 6601) (b := 22) ?_ ?_ (by decide) (by decide) (by decide), rfl, some (.int (0 + (i : Nat))), ?_⟩
    · rw [Int.natAbs_natCast]
      exact pow_lt hb (by omega)
    · rw [Int.natAbs_natCast]
      exact hb
    · show _ = [_, _, some (V.int ((b ^ (i + 1) : Nat) : Int)), _]
      rw [Nat.pow_succ, Int.natCast_mul]
      rfl
  · subst hH hσ
    exact ⟨_, rfl, hq⟩
def FracAt (H : Hp) (p : Addr) (f : Nat × Nat) : Prop := H p = some (.tup [.int (f.1 : Nat), .int (f.2 : Nat)])
def spFraction (Z : List (Addr × Str)) : Sp := fun vs H Q _ => ∃ a b : Nat, vs = [.int (a : Nat), .int (b : Nat)] ∧ 0 < b ∧ b < 2 ^ 9000 ∧ ∀ p H', Ex Z H H' → FracAt H' p (frac a b) → Q (.ref p) H'
theorem sc_fraction_of : FnScope ["top", "bottom", "common"] ["top", "bottom"] (defScope s_fraction_of) := ⟨rfl, rfl, rfl, by decide +kernel, rfl, by decide +kernel, by decide +kernel⟩
theorem fraction_of_ok (D : Df K mg "fraction_of" s_fraction_of []) (c_divisor : C8.Cal P w K mg base 1 "divisor" spDivisor []) : C8.Cal P w K mg base 2 "fraction_of" (spFraction Z) [] := by
  refine D.cal (k := 1) sc_fraction_of (by intro kV doc pm an cdv ct us h; match us, h with | [_, _], _ => rfl) (by rintro _ _ _ _ ⟨_, _, rfl, _⟩; rfl) ?_
  rintro f cdv A outer s H _ Q E hr ⟨a, b, rfl, hb, hb2, hq⟩
  refine ⟨_, (pss_cons (ps_set (i := 2) sc_fraction_of.nd rfl (by first | exact Or.inl rfl | exact Or.inr rfl) (C8.pe_c c_divisor hr (by decide) (by rfl) (pa_cons (pv 0) (pa_cons (pv 1) pa_nil))))
      (pss_one (ps_ret (pe_tup (pa_cons (pe_op op_fdivW (pv 0) (pv 2)) (pa_cons (pe_op op_fdivW (pv 1) (pv 2)) pa_nil)))))), ?_⟩
  have g0 : 0 < Nat.gcd a b := Nat.gcd_pos_of_pos_right _ hb
  have g1 : Nat.gcd a b ≤ b := Nat.le_of_dvd hb (Nat.gcd_dvd_right a b)
  have wd : CDivW (a : Int) ((Nat.gcd a b : Nat) : Int) := wide_div (b := 9000) (by omega) (by rw [Int.natAbs_natCast]; exact Nat.lt_of_le_of_lt g1 hb2) (by decide) (by decide)
  have wd2 : CDivW (b : Int) ((Nat.gcd a b : Nat) : Int) := wd
  refine ⟨_, rfl, _, rfl, a, b, rfl, _, rfl, _, rfl, _, _, rfl, rfl, wd, _, rfl, _, rfl, _, _, rfl, rfl, wd2, by show 2 ≤ sizeLine; decide, fun p np => hq p _ (Ex.new np) upd_same⟩
end
end K62
/-! ==== B62e ==== -/
namespace K62
open PySem PySem.Spec PyProof.Rows L2 Fx Od
section
variable {P : Program} {w : World} {K : PySem.W.Frag} {mg : Str → Option Value} {base : Heap} {C : Addr} {Z : List (Addr × Str)}
/-! ### dicts of numbers -/
def kvD (d : Dc) : List (Key × V) := d.map fun e => (Sum.inl (e.1 : Int), V.int (e.2 : Nat))
theorem kvD_len (d : Dc) : (kvD d).length = d.length := by simp [kvD]
theorem kvD_get (k : Nat) : ∀ d : Dc, valV (kvD d) (Sum.inl (k : Int)) = (get d k).map fun n => V.int (n : Nat)
  | [] => rfl
  | e :: r => by
    by_cases h : e.1 = k
    · rw [get_pos h]
      show valV ((Sum.inl (e.1 : Int), V.int (e.2 : Nat)) :: kvD r) _ = _
      rw [valV_pos (by rw [h])]
      rfl
    · rw [get_neg h, ← kvD_get k r]
      show valV ((Sum.inl (e.1 : Int), V.int (e.2 : Nat)) :: kvD r) _ = _
      unfold valV
      rw [List.find?_cons, show decide ((Sum.inl (e.1 : Int) : Key) = Sum.inl (k : Int)) = false from decide_eq_false fun z => h (by have := Sum.inl.inj z; omega)]
theorem kvD_any (k : Nat) (d : Dc) : ((kvD d).any fun kv => decide (kv.1 = Sum.inl (k : Int))) = d.any fun e => decide (e.1 = k) := by
  unfold kvD
  rw [List.any_map]
  congr 1
  funext e
  show decide ((Sum.inl (e.1 : Int) : Key) = Sum.inl (k : Int)) = decide (e.1 = k)
  by_cases h : e.1 = k
  · rw [decide_eq_true h, h]
    exact decide_eq_true rfl
  · rw [decide_eq_false h]
    exact decide_eq_false fun z => h (by have := Sum.inl.inj z; omega)
theorem kvD_put (d : Dc) (k v : Nat) : putK (kvD d) (Sum.inl (k : Int)) (V.int (v : Nat)) = kvD (put d k v) := by
  unfold putK put
  rw [kvD_any]
  split
  · unfold kvD
    rw [List.map_map, List.map_map]
    apply List.map_congr_left
    intro e _
    show (if (Sum.inl (e.1 : Int) : Key) = Sum.inl (k : Int) then _ else _) = _
    by_cases h : e.1 = k
    · rw [if_pos (by rw [h])]
      show _ = ((fun e : Nat × Nat => ((Sum.inl (e.1 : Int) : Key), V.int (e.2 : Nat))) (if e.1 = k then (e.1, v) else e))
      rw [if_pos h]
    · rw [if_neg (fun z => h (by have := Sum.inl.inj z; omega))]
      show _ = ((fun e : Nat × Nat => ((Sum.inl (e.1 : Int) : Key), V.int (e.2 : Nat))) (if e.1 = k then (e.1, v) else e))
      rw [if_neg h]
  · unfold kvD
    rw [List.map_append]
    rfl
theorem nodup_len : ∀ (n : Nat) (l : List Nat), l.Nodup → (∀ x ∈ l, x < n) → l.length ≤ n
  | 0, l, _, h => by
    cases l with
    | nil => exact Nat.le_refl _
    | cons a r => exact absurd (h a List.mem_cons_self) (by omega)
  | n + 1, l, nd, h => by
    by_cases hn : n ∈ l
    · have h1 := nodup_len n (l.erase n) (nd.erase n) fun x hx => by
        have := (List.Nodup.mem_erase_iff nd).mp hx
        have := h x this.2
        omega
      rw [List.length_erase_of_mem hn] at h1
      omega
    · have := nodup_len n l nd fun x hx => by
        have h1 := h x hx
        have h2 : x ≠ n := fun z => hn (z ▸ hx)
        omega
      omega
theorem good_len {n : Nat} {d : Dc} (g : Good n d) : d.length ≤ n := by
  have := nodup_len n (d.map fun e : Nat × Nat => e.1) g.nd fun x hx => by
    obtain ⟨e, he, rfl⟩ := List.mem_map.mp hx
    exact g.lt e he
  rw [List.length_map] at this
  exact this
theorem foldl_take {α β : Type} (f : β → α → β) (b : β) (l : List α) {i : Nat} {x : α} (h : l[i]? = some x) : (l.take (i + 1)).foldl f b = f ((l.take i).foldl f b) x := by
  have hi := (List.getElem?_eq_some_iff.mp h)
  obtain ⟨h1, h2⟩ := hi
  rw [List.take_add_one, h, List.foldl_append]
  rfl
theorem kvD_getD (d : Dc) (k : Nat) : (valV (kvD d) (Sum.inl (k : Int))).getD (.int 0) = .int (((get d k).getD 0 : Nat) : Int) := by
  rw [kvD_get]
  cases get d k <;> rfl
/-! ### heavier_by -/
/-- list(range(watch.kinds)) if item is None else [item] -/
theorem kinds_run {σ : L2.St} {H : Hp} {Q : VK} {a : Addr} {W : Wt} {item : Option Nat} {i j : Nat} (hi : σ[i]? = some (some (.ref a))) (hj : σ[j]? = some (some (itemV item))) (hW : WatchAt K C H a W) (ok : W.Ok)
    (q : ∀ l H', Ex Z H H' → H l = none → H' l = some (.lst ((kindsOf W.k item).map fun c => V.int (c : Nat))) → Q (.ref l) H') :
    tIf (tTest (tOp (fun x y H Q => y = V.non ∧ Q (V.bl (decide (x = V.non))) H) (tVar j) (tC V.non))) (tLstRg (tRg1 (tProp C (spKinds K C) [] E0 (tVar i)))) (tLst (tCons (tVar j) tNil)) σ H Q := by
  have k4 := ok.k4
  cases item with
  | none =>
    obtain ⟨dx, m, wd, rs, e1, _⟩ := id hW
    refine ⟨_, hj, rfl, true, rfl, ?_⟩
    refine ⟨_, hi, a, dx, _, rfl, e1, a, W, rfl, hW, ok, _, rfl, RgOk.of_le (by omega) (by omega) (by omega) (by omega), fun l nl => q l _ (Ex.new nl) nl ?_⟩
    rw [upd_same]
    unfold rgV kindsOf
    rw [show ((W.k : Int) - 0).toNat = W.k by omega]
    simp
  | some c =>
    refine ⟨_, hj, rfl, false, rfl, ?_⟩
    exact ⟨_, hj, by show 1 ≤ sizeLine; decide, fun l nl => q l _ (Ex.new nl) nl upd_same⟩
theorem kinds_get {k : Nat} {item : Option Nat} {i : Nat} {v : V} (h : ((kindsOf k item).map fun c => V.int (c : Nat))[i]? = some v) : ∃ c, (kindsOf k item)[i]? = some c ∧ v = .int (c : Nat) := by
  rw [List.getElem?_map] at h
  cases e : (kindsOf k item)[i]? with
  | none =>
    rw [e] at h
    cases h
  | some c =>
    rw [e] at h
    exact ⟨c, rfl, (Option.some.inj h).symm⟩
def DkAt (H : Hp) (p : Addr) (d : Dc) : Prop := H p = some (.dK (kvD d))
def spHeavier (K : PySem.W.Frag) (Z : List (Addr × Str)) (C : Addr) : Sp := fun vs H Q _ => ∃ a fd item b W ws found, vs = [.ref a, .ref fd, itemV item, .ref b] ∧ WatchAt K C H a W ∧ W.Ok ∧ DkAt H fd found ∧ Good W.n found ∧ (∀ e ∈ found, e.2 < 2 ^ 9000) ∧
  (∀ c, item = some c → c < W.k) ∧ SqS K H b (lineV W.k ws) ∧ (∀ c < W.k, 1 ≤ ws c ∧ ws c ≤ 1000000) ∧ ∀ p H', Ex Z H H' → H p = none → DkAt H' p (heavier W ws found item) → Q (.ref p) H'
theorem sc_heavier_by : FnScope ["watch", "found", "item", "weights", "behind", "place", "many", "kind", "goal"] ["watch", "found", "item", "weights"] (defScope s_heavier_by) := ⟨rfl, rfl, rfl, by decide +kernel, rfl, by decide +kernel, by decide +kernel⟩
theorem heavier_ok (T : Txt K mg C) (D : Df K mg "heavier_by" s_heavier_by []) (p_kinds : Pg P w K mg base 1 C "kinds" (spKinds K C)) (p_moves : Pg P w K mg base 1 C "moves" (spMoves K C)) : C8.Cal P w K mg base 3 "heavier_by" (spHeavier K Z C) [] := by
  refine D.cal (k := 2) sc_heavier_by (by intro kV doc pm an cdv ct us h; match us, h with | [_, _, _, _], _ => rfl) (by rintro _ _ _ _ ⟨_, _, _, _, _, _, _, rfl, _⟩; rfl) ?_
  rintro f cdv A outer s H _ Q E hr ⟨a, fd, item, b, W, ws, found, rfl, hW, ok, hf, hg, hbig, hi, hw, hws, hq⟩
  have hu := hu_of hr
  refine ⟨_, (pss_cons (ps_set (i := 4) sc_heavier_by.nd rfl (by first | exact Or.inl rfl | exact Or.inr rfl) pe_dnewK)
      (pss_cons (ps_lock (ps_for PassesOwn.never rfl (pi_items (pv 1)) (pg_tupK (K := K) (n := 2) rfl rfl (pgs_cons (pg_name (i := 5) sc_heavier_by.nd rfl (by first | exact Or.inl rfl | exact Or.inr rfl)) (pgs_cons (pg_name (i := 6) sc_heavier_by.nd rfl (by first | exact Or.inl rfl | exact Or.inr rfl)) pgs_nil)))
      (pss_one (ps_for PassesOwn.never rfl (pi_seqK (K := K) rfl (pe_ifExp (pt_cmpR op_isN (pv 2) pe_non (nomark _)) (pe_listRg rfl (by rfl) T.list (prg_1 (by rfl) T.range (pe_pg p_kinds T.cl (pv 0) hr (by decide) rfl))) (pe_lst (pa_cons (pv 2) pa_nil)))) (pg_name (i := 7) sc_heavier_by.nd rfl (by first | exact Or.inl rfl | exact Or.inr rfl))
      (pss_cons (ps_set (i := 8) sc_heavier_by.nd rfl (by first | exact Or.inl rfl | exact Or.inr rfl) (pe_ix (ixtK (K := K) rfl) (pe_ix (ixtK (K := K) rfl) (pe_pg p_moves T.cl (pv 0) hr (by decide) rfl) (pv 5) (fun _ _ => rfl)) (pv 7) (fun _ _ => rfl)))
      (pss_one (ps_dput hu (pv 4) (pv 8) (pe_op op_add (pe_dget2 hu (pv 4) (pv 8) pe_int ⟨rfl, rfl, rfl, rfl⟩) (pe_op op_mulW (pv 6) (pe_ifExp (pt_cmpR op_isN (pv 2) pe_non (nomark _)) (pe_ix (ixsK (K := K) rfl) (pv 3) (pv 7) (fun _ _ => rfl)) pe_int))) rfl)))))))
      (pss_one (ps_ret (pv 4))))), ?_⟩
  refine fun d nd => ?_
  have x1 : Ex Z H (upd H d (.dK [])) := Ex.new nd
  have ef : upd H d (.dK []) fd = some (.dK (kvD found)) := x1.dk hf
  refine ⟨fd, _, ef, trivial, fun od => ?_⟩
  refine ⟨_, rfl, fd, od, kvD found, rfl, upd_same, ?_⟩
  have nfd : fd ≠ d := fun z => by
    rw [z] at hf
    rw [show H d = _ from hf] at nd
    cases nd
  generalize eH1 : upd (upd H d (.dK [])) fd (.frz od (.dK (kvD found))) = H1
  have hW1 : WatchAt K C H1 a W := by
    rw [← eH1]
    exact WatchAt.put (hW.ex x1) (Ml.of ef trivial)
  have hw1 : SqS K H1 b (lineV W.k ws) := by
    rw [← eH1]
    exact SqS.putI (x1.sqS hw) (Mi.of ef trivial)
  have f1 : H1 fd = some (.frz od (.dK (kvD found))) := by
    rw [← eH1]
    exact upd_same
  have d1 : H1 d = some (.dK []) := by
    rw [← eH1, upd_ne nfd.symm]
    exact upd_same
  have dB : ∀ b ∈ [d], ∀ u, H1 b = some u → Ml u := fun b hb u e => Ml.of d1 trivial u (by rw [← List.mem_singleton.mp hb]; exact e)
  have dB2 : ∀ b ∈ [d], ∀ u, H1 b = some u → Mi u := fun b hb u e => Mi.of d1 trivial u (by rw [← List.mem_singleton.mp hb]; exact e)
  refine for_it (n := (kvD found).length) walk_items (fun i σ H' => ∃ u5 u6 u7 u8, σ = [some (.ref a), some (.ref fd), some (itemV item), some (.ref b), some (.ref d), u5, u6, u7, u8] ∧ Exb Z [d] H1 H' ∧ DkAt H' d ((found.take i).foldl (fun acc e => heavier1 W ws item e acc) [])) ⟨_, _, _, _, rfl, Exb.refl _, d1⟩
    (fun i σ H' _ ⟨_, _, _, _, _, x, _⟩ => x.frzb (fun z => nfd (List.mem_singleton.mp z)) f1) (fun i x σ H2 H3 hlt ⟨u5, u6, u7, u8, hσ, x2, hd2⟩ hy => ?_) fun σ H2 ⟨u5, u6, u7, u8, hσ, x2, hd2⟩ => ?_
  · subst hσ
    obtain ⟨t, y1, y2, rfl, nt, rfl, hy1, hy2⟩ := hy
    rw [kvD_len] at hlt
    obtain ⟨e, he⟩ : ∃ e, found[i]? = some e := ⟨found[i], List.getElem?_eq_getElem hlt⟩
    have hem := List.mem_of_getElem? he
    have hkv : (kvD found)[i]? = some (Sum.inl (e.1 : Int), V.int (e.2 : Nat)) := by
      unfold kvD
      rw [List.getElem?_map, he]
      rfl
    have hy1 : ((kvD found)[i]?).map (fun kv => kV kv.1) = some y1 := hy1
    have hy2 : ((kvD found)[i]?).map Prod.snd = some y2 := hy2
    rw [hkv] at hy1 hy2
    obtain rfl := Option.some.inj hy1
    obtain rfl := Option.some.inj hy2
    refine ⟨_, _, rfl, SqT.of upd_same, rfl, _, _, rfl, _, _, rfl, rfl, ?_⟩
    have x3 : Exb Z [d] H1 (upd H2 t (.tup [kV (Sum.inl (e.1 : Int)), V.int (e.2 : Nat)])) := x2.trans (Exb.new nt)
    have d3 : DkAt (upd H2 t (.tup [kV (Sum.inl (e.1 : Int)), V.int (e.2 : Nat)])) d ((found.take i).foldl (fun acc e => heavier1 W ws item e acc) []) := (Ex.new nt (Z := Z)).dk hd2
    generalize upd H2 t (.tup [kV (Sum.inl (e.1 : Int)), V.int (e.2 : Nat)]) = H3 at x3 d3
    refine kinds_run (Z := Z) rfl rfl (hW1.exb x3 dB) ok fun l H4 x4 nl hl => ?_
    refine ⟨l, _, rfl, .inl (SqL.of hl), fun J G wk hG => ?_⟩
    rw [List.length_map] at wk
    have d4 := x4.dk d3
    have x14 := x3.trans x4.any
    have nld : l ≠ d := fun z => by
      rw [← z, hl] at d4
      cases d4
    refine for_it wk (fun j σ H' => ∃ u7 u8, σ = [some (.ref a), some (.ref fd), some (itemV item), some (.ref b), some (.ref d), some (.int (e.1 : Int)), some (.int (e.2 : Nat)), u7, u8] ∧ Exb Z [d] H4 H' ∧ DkAt H' d (((kindsOf W.k item).take j).foldl (fun acc c => bump acc (W.mv e.1 c) (e.2 * wOf ws item c)) ((found.take i).foldl (fun acc e => heavier1 W ws item e acc) []))) ⟨_, _, rfl, Exb.refl _, d4⟩
      (fun j σ H' _ ⟨_, _, _, x, _⟩ => hG Z [d] H' (fun z => absurd (List.mem_singleton.mp z) nld) x) (fun j x σ H5 H6 hj ⟨u7, u8, hσ, x5, hd5⟩ hy => ?_) fun σ H5 ⟨u7, u8, hσ, x5, hd5⟩ => ?_
    · subst hσ
      obtain ⟨rfl, hx⟩ := hy
      obtain ⟨c, hc, rfl⟩ := kinds_get hx
      have hck := kindsOf_lt hi c (List.mem_of_getElem? hc)
      have hep := hg.lt e hem
      have x15 := x14.trans x5
      have hW5 := hW1.exb x15 dB
      obtain ⟨dx, _, _, _, e1, _⟩ := id hW5
      refine ⟨_, rfl, a, dx, _, rfl, e1, a, W, rfl, hW5, fun m rs h2 h3 h4 => ?_⟩
      obtain ⟨r, hr0⟩ : ∃ r, rs[e.1]? = some r := ⟨rs[e.1]'(by omega), List.getElem?_eq_getElem (by omega)⟩
      refine ⟨_, rfl, ixT h2 (v := .ref r) (by rw [List.getElem?_map, hr0]; rfl) ?_⟩
      refine ⟨_, rfl, ixT (h4 _ _ hr0) (lineV_at hck) ?_⟩
      refine ⟨_, rfl, d, rfl, .inl ⟨_, .inl hd5⟩, _, rfl, _, DGet.k (k := Sum.inl (W.mv e.1 c : Int)) hd5, _, rfl, ?_⟩
      have gacc : Good W.n (((kindsOf W.k item).take j).foldl (fun acc c => bump acc (W.mv e.1 c) (e.2 * wOf ws item c)) ((found.take i).foldl (fun acc e => heavier1 W ws item e acc) [])) :=
        fold_bump_good _ _ _ _ (fun c hc => ⟨ok.mv _ hep _ (kindsOf_lt hi c (List.mem_of_mem_take hc)), Nat.mul_pos (hg.ps e hem) (wOf_pos (fun c h => (hws c h).1) hi c (List.mem_of_mem_take hc))⟩)
          (heavier_good_from ok (fun c h => (hws c h).1) hi _ [] (fun x hx => ⟨hg.lt x (List.mem_of_mem_take hx), hg.ps x (List.mem_of_mem_take hx)⟩) (good_nil _))
      have hlen := good_len gacc
      have n6 := ok.n6
      have fin : ∀ v : Nat, v = wOf ws item c → v ≤ 1000000 → ∃ i' j', V.int (e.2 : Nat) = .int i' ∧ V.int (v : Nat) = .int j' ∧ CMulW i' j' ∧ i' * j' = ((e.2 * wOf ws item c : Nat) : Int) := fun v hv hv6 => by
        refine ⟨_, _, rfl, rfl, wide_mul (a := 9000) (b := 20) ?_ ?_ (by decide) (by decide) (by decide), ?_⟩
        · rw [Int.natAbs_natCast]
          exact hbig e hem
        · rw [Int.natAbs_natCast]
          omega
        · rw [← hv, Int.natCast_mul]
      have last : DkAt (upd H6 d (.dK (putK (kvD (((kindsOf W.k item).take j).foldl (fun acc c => bump acc (W.mv e.1 c) (e.2 * wOf ws item c)) ((found.take i).foldl (fun acc e => heavier1 W ws item e acc) []))) (Sum.inl (W.mv e.1 c : Int))
          (.int (((get (((kindsOf W.k item).take j).foldl (fun acc c => bump acc (W.mv e.1 c) (e.2 * wOf ws item c)) ((found.take i).foldl (fun acc e => heavier1 W ws item e acc) [])) (W.mv e.1 c)).getD 0 : Nat) + ((e.2 * wOf ws item c : Nat) : Int)))))) d (((kindsOf W.k item).take (j + 1)).foldl (fun acc c => bump acc (W.mv e.1 c) (e.2 * wOf ws item c)) ((found.take i).foldl (fun acc e => heavier1 W ws item e acc) [])) := by
        rw [foldl_take _ _ _ hc, ← Int.natCast_add, kvD_put]
        exact upd_same
      cases item with
      | none =>
        refine ⟨_, rfl, rfl, true, rfl, _, rfl, _, rfl, ixS (hw1.exb x15 dB2) (lineV_at hck) ?_⟩
        obtain ⟨i', j', e1, e2, hm, he⟩ := fin (ws c) rfl (hws c hck).2
        refine ⟨i', j', e1, e2, hm, _, _, kvD_getD _ _, rfl, _, rfl, _, rfl, d, _, rfl, DPut.k (k := Sum.inl (W.mv e.1 c : Int)) hd5 (by rw [kvD_len]; exact Nat.lt_of_le_of_lt hlen (Nat.lt_of_le_of_lt n6 (by decide))), _, _, rfl, ?_, ?_⟩
        · exact x5.mut (.inl (by simp)) (Mb.of hd5 trivial)
        · rw [he]
          exact last
      | some c' =>
        refine ⟨_, rfl, rfl, false, rfl, ?_⟩
        obtain ⟨i', j', e1, e2, hm, he⟩ := fin 1 rfl (by decide)
        refine ⟨i', j', e1, e2, hm, _, _, kvD_getD _ _, rfl, _, rfl, _, rfl, d, _, rfl, DPut.k (k := Sum.inl (W.mv e.1 c : Int)) hd5 (by rw [kvD_len]; exact Nat.lt_of_le_of_lt hlen (Nat.lt_of_le_of_lt n6 (by decide))), _, _, rfl, ?_, ?_⟩
        · exact x5.mut (.inl (by simp)) (Mb.of hd5 trivial)
        · rw [he]
          exact last
    · subst hσ
      refine ⟨_, _, _, _, rfl, x14.trans x5, ?_⟩
      rw [foldl_take _ _ _ he]
      rw [List.take_of_length_le (Nat.le_refl _)] at hd5
      exact hd5
  · subst hσ
    rw [kvD_len, List.take_of_length_le (Nat.le_refl _)] at hd2
    have ff := x2.frzb (fun z => nfd (List.mem_singleton.mp z)) f1
    refine ⟨ff, _, rfl, hq d _ (Exb.unb x1 nd (Exb.locked trivial ef (by rw [eH1]; exact x2) ff)) nd ?_⟩
    show upd H2 fd _ d = _
    rw [upd_ne nfd.symm]
    exact hd2
end
end K62
/-! ==== M62b ==== -/
namespace Od
section
variable {W : Wt} {ws : Nat → Nat}
theorem A_const (item : Option Nat) (c : Nat) : A W ws item (fun _ => c) = fun _ => (if item.isNone then sumTo ws W.k else 1) * c := by
  funext p
  cases item with
  | none =>
    unfold A
    show ((List.range W.k).map fun x => ws x * c).sum = sumTo ws W.k * c
    unfold sumTo
    rw [show (fun x => ws x * c) = fun x => c * ws x from funext fun x => Nat.mul_comm _ _, sum_mul_leftF, Nat.mul_comm]
  | some d => simp [A, kindsOf, wOf]
theorem B_one : ∀ s : Row, B W ws s (fun _ => 1) = fun _ => whole ws W.k s
  | [] => by
    funext p
    simp [B, whole, unk]
  | i :: r => by
    show A W ws i (B W ws r fun _ => 1) = _
    rw [B_one r, A_const]
    funext p
    unfold whole
    rw [unk_cons, Nat.pow_add]
    cases i <;> simp
theorem numbers_total (s : Row) : T (numbers W ws s) (fun _ => 1) = whole ws W.k s := by rw [numbers_T, B_one]
theorem mem_le_T {d : Dc} {e : Nat × Nat} (h : e ∈ d) : e.2 ≤ T d (fun _ => 1) := by
  induction d with
  | nil => cases h
  | cons a r ih =>
    rw [T_cons]
    rcases List.mem_cons.mp h with q | q
    · rw [q]
      omega
    · have := ih q
      omega
theorem numbers_le {s : Row} {e : Nat × Nat} (h : e ∈ numbers W ws s) : e.2 ≤ whole ws W.k s := by
  rw [← numbers_total]
  exact mem_le_T h
theorem unk_le (s : Row) : unk s ≤ s.length := List.length_filter_le _ _
theorem sumTo_le {f : Nat → Nat} {b : Nat} : ∀ {k : Nat}, (∀ c < k, f c ≤ b) → sumTo f k ≤ k * b
  | 0, _ => by simp [sumTo]
  | k + 1, h => by
    have := sumTo_le (k := k) fun c hc => h c (by omega)
    have h2 := h k (by omega)
    unfold sumTo at *
    rw [List.range_succ, List.map_append, List.sum_append, Nat.succ_mul]
    simp
    omega
theorem numbers_take (s : Row) {i : Nat} {x : Option Nat} (h : s[i]? = some x) : numbers W ws (s.take (i + 1)) = heavier W ws (numbers W ws (s.take i)) x := by
  unfold numbers
  rw [List.take_add_one, h, List.foldl_append]
  rfl
end
end Od
namespace Od
/-- the verdicts that have a number -/
def keysOf (m : Nat → Nat) : List Nat := (List.range 4).filter fun v => decide (m v ≠ 0)
def tabK (m : Nat → Nat) : Dc := (keysOf m).map fun v => (v, m v)
theorem mem_keysOf {m : Nat → Nat} {v : Nat} : v ∈ keysOf m ↔ v < 4 ∧ m v ≠ 0 := by simp [keysOf]
theorem keysOf_lt (m : Nat → Nat) : (keysOf m).Pairwise (· < ·) := List.Pairwise.filter _ List.pairwise_lt_range
theorem keysOf_nodup (m : Nat → Nat) : (keysOf m).Nodup := (keysOf_lt m).imp fun h => Nat.ne_of_lt h
theorem keys_sorted {m : Nat → Nat} {d : Dc} {ks : List Int} (nd : Nd d) (lt : ∀ e ∈ d, e.1 < 4) (hg : ∀ v, get d v = if m v = 0 then none else some (m v)) (hp : ks.Perm (d.map fun e => (e.1 : Int))) (hs : ks.Pairwise (· ≤ ·)) : ks = (keysOf m).map fun (v : Nat) => (v : Int) := by
  have e : (d.map fun e => (e.1 : Int)) = (d.map (·.1)).map fun (v : Nat) => (v : Int) := by rw [List.map_map]; rfl
  have p1 : (d.map (·.1)).Perm (keysOf m) := by
    refine (List.perm_ext_iff_of_nodup nd (keysOf_nodup m)).mpr fun v => ?_
    rw [mem_keysOf]
    have h := hg v
    constructor
    · intro hv
      obtain ⟨x, hx, rfl⟩ := List.mem_map.mp hv
      refine ⟨lt x hx, fun z => ?_⟩
      rw [if_pos z] at h
      exact get_none.mp h hv
    · rintro ⟨_, h2⟩
      rw [if_neg h2] at h
      exact List.mem_map.mpr ⟨_, get_mem h, rfl⟩
  have p2 : ks.Perm ((keysOf m).map fun (v : Nat) => (v : Int)) := hp.trans (by rw [e]; exact p1.map _)
  refine p2.eq_of_pairwise (fun a b _ _ h1 h2 => Int.le_antisymm h1 h2) hs ?_
  exact List.Pairwise.map _ (fun a b h => by omega) (keysOf_lt m)
theorem put_fresh {d : Dc} {k v : Nat} (h : k ∉ d.map (·.1)) : put d k v = d ++ [(k, v)] := put_new (get_none.mpr h)
end Od
/-! ==== B62f ==== -/
namespace K62
open PySem PySem.Spec PyProof.Rows L2 Fx Od
section
variable {P : Program} {w : World} {K : PySem.W.Frag} {mg : Str → Option Value} {base : Heap} {C : Addr} {Z : List (Addr × Str)}
theorem lineV_ints (k : Nat) (f : Nat → Nat) : lineV k f = ((List.range k).map fun c => ((f c : Nat) : Int)).map V.int := by simp [lineV]
theorem sum_cast : ∀ l : List Nat, (l.map fun c => ((c : Nat) : Int)).sum = ((l.sum : Nat) : Int)
  | [] => rfl
  | a :: r => by
    rw [List.map_cons, List.sum_cons, List.sum_cons, sum_cast r, Int.natCast_add]
theorem sumTo_cast (k : Nat) (f : Nat → Nat) : ((List.range k).map fun c => ((f c : Nat) : Int)).sum = ((Od.sumTo f k : Nat) : Int) := by
  unfold Od.sumTo
  rw [← sum_cast, List.map_map]
  rfl
theorem sumQ {H : Hp} {b : Addr} {k : Nat} {f : Nat → Nat} {Q : VK} (h : SqS K H b (lineV k f)) (q : Q (.int (Od.sumTo f k : Nat)) H) : rSumS K [.ref b] H Q := ⟨b, _, rfl, by rw [← lineV_ints]; exact h, by rw [sumTo_cast]; exact q⟩
/-- the weights -/
def WsAt (K : PySem.W.Frag) (H : Hp) (b : Addr) (k : Nat) (ws : Nat → Nat) : Prop := SqS K H b (lineV k ws) ∧ ∀ c < k, 1 ≤ ws c ∧ ws c ≤ 1000000
theorem WsAt.ex {H H' : Hp} {b : Addr} {k : Nat} {ws : Nat → Nat} (x : Ex Z H H') (h : WsAt K H b k ws) : WsAt K H' b k ws := ⟨x.sqS h.1, h.2⟩
/-- a shown row of this watch -/
def RowAt (K : PySem.W.Frag) (H : Hp) (b : Addr) (W : Wt) (s : Od.Row) : Prop := SqS K H b (rowV s) ∧ s.length ≤ 300 ∧ Od.Row.Ok W.k s
theorem RowAt.ex {H H' : Hp} {b : Addr} {W : Wt} {s : Od.Row} (x : Ex Z H H') (h : RowAt K H b W s) : RowAt K H' b W s := ⟨x.sqS h.1, h.2⟩
theorem sumTo_lt {W : Wt} (ok : W.Ok) {ws : Nat → Nat} (h : ∀ c < W.k, 1 ≤ ws c ∧ ws c ≤ 1000000) : Od.sumTo ws W.k < 2 ^ 22 := by
  have h1 := sumTo_le (k := W.k) fun c hc => (h c hc).2
  have h2 := ok.k4
  have h3 : W.k * 1000000 ≤ 4 * 1000000 := Nat.mul_le_mul_right _ h2
  have : (2 : Nat) ^ 22 = 4194304 := by decide
  omega
theorem whole_lt {W : Wt} (ok : W.Ok) {ws : Nat → Nat} (h : ∀ c < W.k, 1 ≤ ws c ∧ ws c ≤ 1000000) {s : Od.Row} (hs : s.length ≤ 300) : whole ws W.k s < 2 ^ 6601 := pow_lt (sumTo_lt ok h) (Nat.le_trans (unk_le s) hs)
theorem lt9000 {n : Nat} (h : n < 2 ^ 6601) : n < 2 ^ 9000 := Nat.lt_of_lt_of_le h (Nat.pow_le_pow_right (by decide) (by decide))
/-! ### numbers_by -/
def spNumbers (K : PySem.W.Frag) (Z : List (Addr × Str)) (C : Addr) : Sp := fun vs H Q _ => ∃ a s b W r ws, vs = [.ref a, .ref s, .ref b] ∧ WatchAt K C H a W ∧ W.Ok ∧ RowAt K H s W r ∧ WsAt K H b W.k ws ∧
  ∀ p fd H', Ex Z H H' → H' p = some (.tup [.ref fd, .int (whole ws W.k r : Nat)]) → DkAt H' fd (numbers W ws r) → Q (.ref p) H'
theorem sc_numbers_by : FnScope ["watch", "shown", "weights", "found", "item"] ["watch", "shown", "weights"] (defScope s_numbers_by) := ⟨rfl, rfl, rfl, by decide +kernel, rfl, by decide +kernel, by decide +kernel⟩
theorem numbers_ok (T : Txt K mg C) (D : Df K mg "numbers_by" s_numbers_by []) (c_heavier_by : C8.Cal P w K mg base 3 "heavier_by" (spHeavier K Z C) []) (c_power : C8.Cal P w K mg base 1 "power" spPower []) : C8.Cal P w K mg base 4 "numbers_by" (spNumbers K Z C) [] := by
  refine D.cal (k := 3) sc_numbers_by (by intro kV doc pm an cdv ct us h; match us, h with | [_, _, _], _ => rfl) (by rintro _ _ _ _ ⟨_, _, _, _, _, _, rfl, _⟩; rfl) ?_
  rintro f cdv A outer s H _ Q E hr ⟨a, sa, b, W, r, ws, rfl, hW, ok, hR, hw, hq⟩
  have hws := hw.2
  refine ⟨_, (pss_cons (ps_set (i := 3) sc_numbers_by.nd rfl (by first | exact Or.inl rfl | exact Or.inr rfl) (pe_disp (pps_cons pe_int pe_int pps_nil) (by rfl) (by rfl) (fun z => by cases z) (by decide)))
      (pss_cons (ps_for PassesOwn.never rfl (pi_seqK (K := K) rfl (pv 1)) (pg_name (i := 4) sc_numbers_by.nd rfl (by first | exact Or.inl rfl | exact Or.inr rfl))
      (pss_one (ps_set (i := 3) sc_numbers_by.nd rfl (by first | exact Or.inl rfl | exact Or.inr rfl) (C8.pe_c c_heavier_by hr (by decide) (by rfl) (pa_cons (pv 0) (pa_cons (pv 3) (pa_cons (pv 4) (pa_cons (pv 2) pa_nil))))))))
      (pss_one (ps_ret (pe_tup (pa_cons (pv 3) (pa_cons (C8.pe_c c_power hr (by decide) (by rfl) (pa_cons (pe_callB (sumK (K := K) rfl rfl) (by rfl) T.sum bt_sum (pa_cons (pv 2) pa_nil)) (pa_cons (pe_callB (lenK (K := K) rfl) (by rfl) T.len bt_len (pa_cons (pe_lc (own := [("item", 4)]) rfl sc_numbers_by.nd (pi_seqK (K := K) rfl (pv 1)) (blkOk_by (own := [("item", 4)]) (N := ["watch", "shown", "weights", "found", "item"]) (sc := defScope s_numbers_by) (by decide +kernel)) (fun _ _ _ _ _ => (pg_name (i := 4) sc_numbers_by.nd rfl (by first | exact Or.inl rfl | exact Or.inr rfl))) (fun _ _ _ _ _ => pts_one (pt_cmpR op_isN (pv 4) pe_non (nomark _))) (fun _ _ _ _ _ => (pv 4))) pa_nil)) pa_nil))) pa_nil))))))), ?_⟩
  refine fun d nd => ⟨upd_same, [(Sum.inl 0, .int 1)], rfl, by decide, ?_⟩
  have x1 : Ex Z H (upd (upd H d (.dK [])) d (.dK (mergeK [] [(Sum.inl 0, .int 1)]))) := (Ex.new nd).mut (.inr nd) (Mb.of upd_same trivial)
  have d1 : DkAt (upd (upd H d (.dK [])) d (.dK (mergeK [] [(Sum.inl 0, .int 1)]))) d [(0, 1)] := upd_same
  generalize upd (upd H d (.dK [])) d (.dK (mergeK [] [(Sum.inl 0, .int 1)])) = H1 at x1 d1
  refine ⟨_, rfl, _, _, rfl, x1.sqS hR.1, fun J G wk hG => ?_⟩
  rw [rowV_len] at wk
  refine for_it wk (fun i σ H' => ∃ fd u4, σ = [some (.ref a), some (.ref sa), some (.ref b), some (.ref fd), u4] ∧ Ex Z H1 H' ∧ DkAt H' fd (numbers W ws (r.take i))) ⟨d, _, rfl, Exb.refl _, d1⟩ (fun i σ H' _ ⟨_, _, _, x, _⟩ => hG Z [] H' (by simp) x)
    (fun i x σ H2 H3 hi ⟨fd, u4, hσ, x2, hd2⟩ hy => ?_) fun σ H2 ⟨fd, u4, hσ, x2, hd2⟩ => ?_
  · subst hσ
    obtain ⟨rfl, hx⟩ := hy
    obtain ⟨c, hc, rfl⟩ := rowV_get hx
    have x12 := x1.trans x2
    refine ⟨_, rfl, _, rfl, _, rfl, _, rfl, ?_⟩
    refine ⟨a, fd, c, b, W, ws, _, rfl, hW.ex x12, ok, hd2, numbers_good ok (fun c h => (hws c h).1) (fun c hc => hR.2.2 c (List.mem_of_mem_take hc)), fun e he => ?_, fun c' e => hR.2.2 c' (by rw [← e]; exact List.mem_of_getElem? hc), x12.sqS hw.1, hws, fun p H4 x4 np hp => ?_⟩
    · exact lt9000 (Nat.lt_of_le_of_lt (numbers_le he) (whole_lt ok hws (by rw [List.length_take]; have := hR.2.1; omega)))
    · refine ⟨p, _, rfl, x2.trans x4, ?_⟩
      rw [numbers_take r hc]
      exact hp
  · subst hσ
    rw [List.take_of_length_le (Nat.le_refl _)] at hd2
    have x12 := x1.trans x2
    refine ⟨_, rfl, _, rfl, b, (List.range W.k).map fun c => ((ws c : Nat) : Int), rfl, by rw [← lineV_ints]; exact x12.sqS hw.1, ?_⟩
    rw [sumTo_cast]
    refine ⟨_, rfl, sa, _, rfl, x12.sqS hR.1, fun J G wk hG D hD => ?_⟩
    rw [rowV_len] at wk
    refine lcE (B := []) (Z := Z) wk hD (hG Z [] · (by simp)) (by have := hR.2.1; omega) (fun i acc _ => acc = ((r.take i).filter fun x => x.isNone).map itemV) (by simp) (fun i acc x H3 H4 hi x3 ha hl hp hy => ?_) fun acc H3 x3 ha hp => ?_
    · obtain ⟨rfl, hx⟩ := hy
      obtain ⟨c, hc, rfl⟩ := rowV_get hx
      have hr : i < 1000000 := by have := hR.2.1; omega
      cases c with
      | none =>
        refine ⟨rfl, _, rfl, rfl, true, rfl, _, rfl, LcP.put x3 hD ha (by simp) hl hr (Exb.refl _) ?_⟩
        rw [List.take_add_one, hc, hp]
        simp [itemV]
      | some c =>
        refine ⟨rfl, _, rfl, rfl, false, rfl, x3, acc, ha, by omega, ?_⟩
        show acc = ((r.take (i + 1)).filter fun x => x.isNone).map itemV
        rw [List.take_add_one, hc, hp]
        simp
    · rw [List.take_of_length_le (Nat.le_refl _)] at hp
      have hlen : acc.length = unk r := by
        rw [hp, List.length_map]
        rfl
      refine ⟨D, _, rfl, .inl (SqL.of ha), _, unk r, by rw [hlen]; rfl, sumTo_lt ok hws, Nat.le_trans (unk_le r) hR.2.1, by show 2 ≤ sizeLine; decide, fun p np => ?_⟩
      exact hq p fd _ ((x12.trans x3).trans (Exb.new np)) upd_same ((x3.trans (Exb.new np)).dk hd2)
end
end K62
/-! ==== B62g ==== -/
namespace K62
open PySem PySem.Spec PyProof.Rows L2 Fx Od
section
variable {P : Program} {w : World} {K : PySem.W.Frag} {mg : Str → Option Value} {base : Heap} {C : Addr} {Z : List (Addr × Str)}
/-- the pair of a dict's entry, walked by items() -/
theorem items_get {d : Dc} {i : Nat} {y1 y2 : V} {e : Nat × Nat} (he : d[i]? = some e) (h1 : ((kvD d)[i]?).map (fun kv => kV kv.1) = some y1) (h2 : ((kvD d)[i]?).map Prod.snd = some y2) : y1 = .int (e.1 : Nat) ∧ y2 = .int (e.2 : Nat) := by
  have hkv : (kvD d)[i]? = some (Sum.inl (e.1 : Int), V.int (e.2 : Nat)) := by
    unfold kvD
    rw [List.getElem?_map, he]
    rfl
  rw [hkv] at h1 h2
  exact ⟨(Option.some.inj h1).symm, (Option.some.inj h2).symm⟩
theorem kvD_keys (d : Dc) : (kvD d).map (·.1) = (d.map fun e => (e.1 : Int)).map Sum.inl := by
  unfold kvD
  rw [List.map_map, List.map_map]
  rfl
def spWordsBy (K : PySem.W.Frag) (Z : List (Addr × Str)) (C : Addr) : Sp := fun vs H Q _ => ∃ a s b W r ws, vs = [.ref a, .ref s, .ref b] ∧ WatchAt K C H a W ∧ W.Ok ∧ RowAt K H s W r ∧ WsAt K H b W.k ws ∧
  ∀ p wd H', Ex Z H H' → H' p = some (.tup [.ref wd, .int (whole ws W.k r : Nat)]) → DkAt H' wd (tabK (M W ws r)) → Q (.ref p) H'
theorem sc_words_by : FnScope ["watch", "shown", "weights", "found", "whole", "words", "place", "many", "word"] ["watch", "shown", "weights"] (defScope s_words_by) := ⟨rfl, rfl, rfl, by decide +kernel, rfl, by decide +kernel, by decide +kernel⟩
theorem words_by_ok (T : Txt K mg C) (D : Df K mg "words_by" s_words_by []) (p_words : Pg P w K mg base 1 C "words" (spWords K C)) (c_numbers_by : C8.Cal P w K mg base 4 "numbers_by" (spNumbers K Z C) []) : C8.Cal P w K mg base 5 "words_by" (spWordsBy K Z C) [] := by
  refine D.cal (k := 4) sc_words_by (by intro kV doc pm an cdv ct us h; match us, h with | [_, _, _], _ => rfl) (by rintro _ _ _ _ ⟨_, _, _, _, _, _, rfl, _⟩; rfl) ?_
  rintro f cdv A outer s H _ Q E hr ⟨a, sa, b, W, r, ws, rfl, hW, ok, hR, hw, hq⟩
  have hu := hu_of hr
  have hws := hw.2
  refine ⟨_, (pss_cons (ps_asg (C8.pe_c c_numbers_by hr (by decide) (by rfl) (pa_cons (pv 0) (pa_cons (pv 1) (pa_cons (pv 2) pa_nil)))) (pg_tupK (K := K) (n := 2) rfl rfl (pgs_cons (pg_name (i := 3) sc_words_by.nd rfl (by first | exact Or.inl rfl | exact Or.inr rfl)) (pgs_cons (pg_name (i := 4) sc_words_by.nd rfl (by first | exact Or.inl rfl | exact Or.inr rfl)) pgs_nil))))
      (pss_cons (ps_set (i := 5) sc_words_by.nd rfl (by first | exact Or.inl rfl | exact Or.inr rfl) pe_dnewK)
      (pss_cons (ps_lock (ps_for PassesOwn.never rfl (pi_items (pv 3)) (pg_tupK (K := K) (n := 2) rfl rfl (pgs_cons (pg_name (i := 6) sc_words_by.nd rfl (by first | exact Or.inl rfl | exact Or.inr rfl)) (pgs_cons (pg_name (i := 7) sc_words_by.nd rfl (by first | exact Or.inl rfl | exact Or.inr rfl)) pgs_nil)))
      (pss_one (ps_dput hu (pv 5) (pe_ix (ixtK (K := K) rfl) (pe_pg p_words T.cl (pv 0) hr (by decide) rfl) (pv 6) (fun _ _ => rfl)) (pe_op op_add (pe_dget2 hu (pv 5) (pe_ix (ixtK (K := K) rfl) (pe_pg p_words T.cl (pv 0) hr (by decide) rfl) (pv 6) (fun _ _ => rfl)) pe_int ⟨rfl, rfl, rfl, rfl⟩) (pv 7)) rfl))))
      (pss_one (ps_ret (pe_tup (pa_cons (pe_dc (own := [("word", 8)]) rfl sc_words_by.nd (pi_seqK (K := K) rfl (pe_callB (cr_sortedDI rfl) (by rfl) T.sorted bt_sorted (pa_cons (pv 5) pa_nil))) (blkOk_by (own := [("word", 8)]) (N := ["watch", "shown", "weights", "found", "whole", "words", "place", "many", "word"]) (sc := defScope s_words_by) (by decide +kernel)) (fun _ _ _ _ _ => (pg_name (i := 8) sc_words_by.nd rfl (by first | exact Or.inl rfl | exact Or.inr rfl))) (fun _ _ _ _ _ => pts_nil) (fun _ _ _ _ _ => (pv 8)) (fun _ _ _ _ _ => (pe_dget hu (pv 5) (pv 8) (fun _ _ => rfl)))) (pa_cons (pv 4) pa_nil)))))))), ?_⟩
  refine ⟨_, rfl, _, rfl, _, rfl, a, sa, b, W, r, ws, rfl, hW, ok, hR, hw, fun p fd H1 x1 hp hf => ?_⟩
  refine ⟨_, _, rfl, SqT.of hp, rfl, _, _, rfl, _, _, rfl, rfl, ?_⟩
  generalize hF : numbers W ws r = found at hf
  have hg : Od.Good W.n found := by rw [← hF]; exact numbers_good ok (fun c h => (hws c h).1) hR.2.2
  refine fun d nd => ?_
  have x2 : Ex Z H1 (upd H1 d (.dK [])) := Ex.new nd
  have ef : upd H1 d (.dK []) fd = some (.dK (kvD found)) := x2.dk hf
  refine ⟨fd, _, ef, trivial, fun od => ?_⟩
  refine ⟨_, rfl, fd, od, kvD found, rfl, upd_same, ?_⟩
  have nfd : fd ≠ d := fun z => by
    rw [z] at hf
    rw [show H1 d = _ from hf] at nd
    cases nd
  generalize eH2 : upd (upd H1 d (.dK [])) fd (.frz od (.dK (kvD found))) = H2
  have hW2 : WatchAt K C H2 a W := by
    rw [← eH2]
    exact WatchAt.put (hW.ex (x1.trans x2)) (Ml.of ef trivial)
  have f2 : H2 fd = some (.frz od (.dK (kvD found))) := by
    rw [← eH2]
    exact upd_same
  have d2 : H2 d = some (.dK []) := by
    rw [← eH2, upd_ne nfd.symm]
    exact upd_same
  have dB : ∀ b ∈ [d], ∀ u, H2 b = some u → Ml u := fun b hb u e => Ml.of d2 trivial u (by rw [← List.mem_singleton.mp hb]; exact e)
  refine for_it (n := (kvD found).length) walk_items (fun i σ H' => ∃ u6 u7 u8, σ = [some (.ref a), some (.ref sa), some (.ref b), some (.ref fd), some (.int (whole ws W.k r : Nat)), some (.ref d), u6, u7, u8] ∧ Exb Z [d] H2 H' ∧ DkAt H' d ((found.take i).foldl (fun acc e => bump acc (W.wd e.1) e.2) [])) ⟨_, _, _, rfl, Exb.refl _, d2⟩
    (fun i σ H' _ ⟨_, _, _, _, x, _⟩ => x.frzb (fun z => nfd (List.mem_singleton.mp z)) f2) (fun i x σ H3 H4 hlt ⟨u6, u7, u8, hσ, x3, hd3⟩ hy => ?_) fun σ H3 ⟨u6, u7, u8, hσ, x3, hd3⟩ => ?_
  · subst hσ
    obtain ⟨t, y1, y2, rfl, nt, rfl, hy1, hy2⟩ := hy
    rw [kvD_len] at hlt
    obtain ⟨e, he⟩ : ∃ e, found[i]? = some e := ⟨found[i], List.getElem?_eq_getElem hlt⟩
    have hem := List.mem_of_getElem? he
    obtain ⟨rfl, rfl⟩ := items_get he hy1 hy2
    have hep := hg.lt e hem
    refine ⟨_, _, rfl, SqT.of upd_same, rfl, _, _, rfl, _, _, rfl, rfl, ?_⟩
    have x4 : Exb Z [d] H2 (upd H3 t (.tup [.int (e.1 : Nat), .int (e.2 : Nat)])) := x3.trans (Exb.new nt)
    have d4 : DkAt (upd H3 t (.tup [.int (e.1 : Nat), .int (e.2 : Nat)])) d ((found.take i).foldl (fun acc e => bump acc (W.wd e.1) e.2) []) := (Ex.new nt (Z := Z)).dk hd3
    generalize upd H3 t (.tup [.int (e.1 : Nat), .int (e.2 : Nat)]) = H4 at x4 d4
    have hW4 := hW2.exb x4 dB
    obtain ⟨dx, _, _, _, e1, _⟩ := id hW4
    have gacc : Od.Good 4 ((found.take i).foldl (fun acc e => bump acc (W.wd e.1) e.2) []) := wordsD_good_from _ [] (fun e he => ⟨Nat.lt_succ_of_le (ok.wd _ (hg.lt e (List.mem_of_mem_take he))), hg.ps e (List.mem_of_mem_take he)⟩) (good_nil _)
    have hlen := good_len gacc
    refine ⟨_, rfl, d, rfl, .inl ⟨_, .inl d4⟩, _, rfl, a, dx, _, rfl, e1, a, W, rfl, hW4, fun m hm => ?_⟩
    refine ⟨_, rfl, ixT hm (lineV_at hep) ?_⟩
    refine ⟨_, DGet.k (k := Sum.inl (W.wd e.1 : Int)) d4, _, rfl, _, _, kvD_getD _ _, rfl, _, rfl, _, rfl, a, dx, _, rfl, e1, a, W, rfl, hW4, fun m hm => ?_⟩
    refine ⟨_, rfl, ixT hm (lineV_at hep) ?_⟩
    refine ⟨d, _, rfl, DPut.k (k := Sum.inl (W.wd e.1 : Int)) d4 (by rw [kvD_len]; exact Nat.lt_of_le_of_lt hlen (by decide)), _, _, _, rfl, x4.mut (.inl (by simp)) (Mb.of d4 trivial), ?_⟩
    rw [foldl_take _ _ _ he]
    show upd H4 d (.dK (putK (kvD _) (Sum.inl (W.wd e.1 : Int)) (V.int (((_ : Nat) : Int) + ((_ : Nat) : Int))))) d = _
    rw [← Int.natCast_add, kvD_put]
    exact upd_same
  · subst hσ
    rw [kvD_len, List.take_of_length_le (Nat.le_refl _)] at hd3
    have hd3 : DkAt H3 d (wordsD W found) := hd3
    have ff := x3.frzb (fun z => nfd (List.mem_singleton.mp z)) f2
    have x5 : Ex Z H1 (upd H3 fd (.dK (kvD found))) := Exb.unb x2 nd (Exb.locked trivial ef (by rw [eH2]; exact x3) ff)
    have d5 : DkAt (upd H3 fd (.dK (kvD found))) d (wordsD W found) := by
      show upd H3 fd _ d = _
      rw [upd_ne nfd.symm]
      exact hd3
    refine ⟨ff, ?_⟩
    generalize upd H3 fd (.dK (kvD found)) = H5 at x5 d5
    have gw := wordsD_good ok hg
    have hget : ∀ v, get (wordsD W found) v = if M W ws r v = 0 then none else some (M W ws r v) := fun v => by
      rw [← hF]
      exact words_get ok (fun c h => (hws c h).1) hR.2.2 v
    refine ⟨_, rfl, d, kvD (wordsD W found), (wordsD W found).map fun e => (e.1 : Int), rfl, .inl d5, kvD_keys _, ?_, fun ks l hperm hsort nl => ?_⟩
    · rw [List.length_map]
      have := good_len gw
      omega
    have hks := keys_sorted (m := M W ws r) gw.nd gw.lt hget hperm hsort
    subst hks
    refine ⟨l, _, rfl, .inl (SqL.of upd_same), fun J G wk hG D hD => ?_⟩
    rw [List.length_map, List.length_map] at wk
    have x6 : Ex Z H5 (upd H5 l (.lst (((keysOf (M W ws r)).map fun (v : Nat) => (v : Int)).map V.int))) := Ex.new nl
    have d6 := x6.dk d5
    generalize upd H5 l (.lst (((keysOf (M W ws r)).map fun (v : Nat) => (v : Int)).map V.int)) = H6 at x6 d6 hG hD
    have kl : (keysOf (M W ws r)).length ≤ 4 := List.length_filter_le _ _
    refine dcE (B := []) (Z := Z) wk hD (hG Z [] · (by simp)) (fun i acc _ => acc = kvD (((keysOf (M W ws r)).take i).map fun v => (v, M W ws r v))) rfl (fun i acc x H7 H8 hi x7 ha hp hy => ?_) fun acc H7 x7 ha hp => ?_
    · obtain ⟨rfl, hx⟩ := hy
      rw [List.getElem?_map, List.getElem?_map, List.getElem?_eq_getElem hi] at hx
      obtain rfl := Option.some.inj hx
      have hmem : (keysOf (M W ws r))[i] ∈ keysOf (M W ws r) := List.getElem_mem hi
      have hv := (mem_keysOf.mp hmem).2
      refine ⟨rfl, _, rfl, _, rfl, _, rfl, d, .int (M W ws r (keysOf (M W ws r))[i] : Nat), rfl, ?_, ?_⟩
      · have := DGet.k (k := Sum.inl ((keysOf (M W ws r))[i] : Int)) (x7.dk d6)
        rw [kvD_get, hget, if_neg hv] at this
        exact this
      · refine DcP.put (k := Sum.inl ((keysOf (M W ws r))[i] : Int)) x7 hD ha (by simp) ?_ (Exb.refl _) ?_
        · rw [hp, kvD_len, List.length_map, List.length_take]
          omega
        · rw [hp, kvD_put, put_fresh]
          · rw [List.take_add_one, List.getElem?_eq_getElem hi, List.map_append]
            rfl
          · rw [List.map_map, show ((fun x : Nat × Nat => x.1) ∘ fun v => (v, M W ws r v)) = id from rfl, List.map_id]
            intro hm
            have nd := keysOf_nodup (M W ws r)
            rw [← List.take_append_drop i (keysOf (M W ws r)), List.nodup_append] at nd
            exact nd.2.2 _ hm _ (by rw [List.drop_eq_getElem_cons hi]; exact List.mem_cons_self) rfl
    · rw [List.take_of_length_le (Nat.le_refl _)] at hp
      subst hp
      refine ⟨_, rfl, by show 2 ≤ sizeLine; decide, fun q nq => ?_⟩
      exact hq q D _ ((((x1.trans x5).trans x6).trans x7).trans (Exb.new nq)) upd_same ((Ex.new nq (Z := Z)).dk ha)
end
end K62
/-! ==== B62h ==== -/
namespace K62
open PySem PySem.Spec PyProof.Rows L2 Fx Od
section
variable {P : Program} {w : World} {K : PySem.W.Frag} {mg : Str → Option Value} {base : Heap} {C : Addr} {Z : List (Addr × Str)}
/-! ### dicts of fractions -/
def encF (e : Nat × Addr) : Key × V := (Sum.inl (e.1 : Int), .ref e.2)
/-- at p a dict of fractions: the table t, some way about -/
def FdAt (H : Hp) (p : Addr) (t : Nat → Option (Nat × Nat)) : Prop := ∃ l : List (Nat × Addr), H p = some (.dK (l.map encF)) ∧ (l.map (·.1)).Nodup ∧ (∀ v, v ∈ l.map (·.1) ↔ (t v).isSome = true) ∧ ∀ e ∈ l, ∃ f, t e.1 = some f ∧ FracAt H e.2 f
theorem FracAt.ex {H H' : Hp} {p : Addr} {f : Nat × Nat} (x : Ex Z H H') (h : FracAt H p f) : FracAt H' p f := x.tup h
theorem FracAt.put {H : Hp} {p q : Addr} {f : Nat × Nat} {o : HO} (h : FracAt H p f) (m : ∀ u, H q = some u → Md u) : FracAt (upd H q o) p f := by
  show upd H q o p = _
  rw [upd_ne (fun e => (m (.tup _) (by rw [← e]; exact h) : False))]
  exact h
theorem FdAt.ex {H H' : Hp} {p : Addr} {t : Nat → Option (Nat × Nat)} (x : Ex Z H H') (h : FdAt H p t) : FdAt H' p t := by
  obtain ⟨l, h1, h2, h3, h4⟩ := h
  exact ⟨l, x.dk h1, h2, h3, fun e he => (h4 e he).imp fun f q => ⟨q.1, q.2.ex x⟩⟩
theorem encF_get (k : Nat) : ∀ l : List (Nat × Addr), valV (l.map encF) (Sum.inl (k : Int)) = ((l.find? fun e => decide (e.1 = k)).map fun e => V.ref e.2)
  | [] => rfl
  | e :: r => by
    rw [List.find?_cons]
    by_cases h : e.1 = k
    · rw [decide_eq_true h]
      show valV (encF e :: r.map encF) _ = _
      rw [valV_pos (by show (Sum.inl (e.1 : Int) : Key) = _; rw [h])]
      rfl
    · rw [decide_eq_false h]
      show valV (encF e :: r.map encF) _ = _
      have ih := encF_get k r
      unfold valV at ih ⊢
      rw [List.find?_cons, show decide ((encF e).1 = Sum.inl (k : Int)) = false from decide_eq_false fun z => h (by have := Sum.inl.inj (show (Sum.inl (e.1 : Int) : Key) = Sum.inl (k : Int) from z); omega)]
      exact ih
theorem find_mem {k : Nat} {a : Addr} : ∀ {l : List (Nat × Addr)}, (l.map (·.1)).Nodup → (k, a) ∈ l → (l.find? fun e => decide (e.1 = k)) = some (k, a)
  | e :: r, nd, h => by
    rw [List.map_cons] at nd
    have nd' := List.nodup_cons.mp nd
    rw [List.find?_cons]
    rcases List.mem_cons.mp h with q | q
    · rw [← q, decide_eq_true rfl]
    · have : ¬ e.1 = k := fun z => nd'.1 (List.mem_map.mpr ⟨_, q, z.symm⟩)
      rw [decide_eq_false this]
      exact find_mem nd'.2 q
theorem encF_mem {k : Nat} {a : Addr} {l : List (Nat × Addr)} (nd : (l.map (·.1)).Nodup) (h : (k, a) ∈ l) : valV (l.map encF) (Sum.inl (k : Int)) = some (.ref a) := by
  rw [encF_get, find_mem nd h]
  rfl
theorem dp_int {H : Hp} (i : Int) : Dp K H (.int i) (.int i) := .int i
theorem FracAt.dp {H : Hp} {p : Addr} {f : Nat × Nat} (h : FracAt H p f) : Dp K H (.ref p) (.tuple [.int (f.1 : Nat), .int (f.2 : Nat)]) := .tup (SqT.of h) (.cons (.int _) (.cons (.int _) .nil))
theorem FracAt.same {H : Hp} {p q : Addr} {f : Nat × Nat} (h : FracAt H p f) (h2 : FracAt H q f) : SameData K H (.ref p) (.ref q) := by
  exact ⟨_, _, h.dp, h2.dp, rfl, rfl, Nat.le_of_ble_eq_true rfl, SeqAt.eqv_refl _ rfl⟩
/-- two dicts of one table are equal -/
theorem FdAt.eq {H : Hp} {p q : Addr} {t : Nat → Option (Nat × Nat)} (h : FdAt H p t) (h2 : FdAt H q t) : ∃ ks ls, H p = some (.dK ks) ∧ H q = some (.dK ls) ∧ ks.length = ls.length ∧ ∀ e ∈ ks, ∃ u, valV ls e.1 = some u ∧ SameData K H e.2 u := by
  obtain ⟨l, a1, a2, a3, a4⟩ := h
  obtain ⟨m, b1, b2, b3, b4⟩ := h2
  have pm : (l.map (·.1)).Perm (m.map (·.1)) := (List.perm_ext_iff_of_nodup a2 b2).mpr fun v => by rw [a3, b3]
  refine ⟨_, _, a1, b1, ?_, fun e he => ?_⟩
  · have := pm.length_eq
    rw [List.length_map, List.length_map] at this
    rw [List.length_map, List.length_map, this]
  · obtain ⟨x, hx, rfl⟩ := List.mem_map.mp he
    obtain ⟨f, hf, hfa⟩ := a4 x hx
    have : x.1 ∈ m.map (·.1) := (b3 _).mpr (by rw [hf]; rfl)
    obtain ⟨y, hy, hxy⟩ := List.mem_map.mp this
    obtain ⟨g, hg, hga⟩ := b4 y hy
    refine ⟨.ref y.2, ?_, ?_⟩
    · show valV _ (Sum.inl (x.1 : Int)) = _
      exact encF_mem b2 (by rw [← hxy]; exact hy)
    · have e : f = g := by
        rw [hxy, hf] at hg
        exact Option.some.inj hg
      subst e
      exact hfa.same hga
/-- p was no object then (or a table) -/
def Nw (H : Hp) (p : Addr) : Prop := ∀ o, H p = some o → ∃ ps, o = .tbl ps
theorem Nw.of {H H' : Hp} {p : Addr} (x : Ex Z H H') (h : H' p = none) : Nw H p := fun o e => by
  cases o with
  | tbl ps => exact ⟨ps, rfl⟩
  | _ =>
    have := x.1 p _ (by simp) e (fun ps z => nomatch z)
    rw [h] at this
    cases this
theorem Nw.ex {H H' : Hp} {p : Addr} (x : Ex Z H H') (h : Nw H' p) : Nw H p := fun o e => by
  cases o with
  | tbl ps => exact ⟨ps, rfl⟩
  | _ => exact h _ (x.1 p _ (by simp) e (fun ps z => nomatch z))
theorem Nw.ne {H : Hp} {p q : Addr} {kvs : List (Key × V)} (h : Nw H p) (e : H q = some (.dK kvs)) : p ≠ q := fun z => by
  rw [← z] at e
  obtain ⟨ps, y⟩ := h _ e
  cases y
/-! ### odds_by, need_odds, odds -/
def spOdds (K : PySem.W.Frag) (Z : List (Addr × Str)) (C : Addr) : Sp := fun vs H Q _ => ∃ a s b W r ws, vs = [.ref a, .ref s, .ref b] ∧ WatchAt K C H a W ∧ W.Ok ∧ RowAt K H s W r ∧ WsAt K H b W.k ws ∧
  ∀ p H', Ex Z H H' → Nw H p → FdAt H' p (otab W ws r) → Q (.ref p) H'
theorem sc_odds_by : FnScope ["watch", "shown", "weights", "words", "whole", "word", "many"] ["watch", "shown", "weights"] (defScope s_odds_by) := ⟨rfl, rfl, rfl, by decide +kernel, rfl, by decide +kernel, by decide +kernel⟩
theorem whole_pos' {W : Wt} (ok : W.Ok) {ws : Nat → Nat} (h : ∀ c < W.k, 1 ≤ ws c ∧ ws c ≤ 1000000) (s : Od.Row) : 0 < whole ws W.k s := whole_pos ok.k1 (fun c hc => (h c hc).1) s
theorem odds_by_ok (T : Txt K mg C) (D : Df K mg "odds_by" s_odds_by []) (c_words_by : C8.Cal P w K mg base 5 "words_by" (spWordsBy K Z C) []) (c_fraction_of : C8.Cal P w K mg base 2 "fraction_of" (spFraction Z) []) : C8.Cal P w K mg base 6 "odds_by" (spOdds K Z C) [] := by
  refine D.cal (k := 5) sc_odds_by (by intro kV doc pm an cdv ct us h; match us, h with | [_, _, _], _ => rfl) (by rintro _ _ _ _ ⟨_, _, _, _, _, _, rfl, _⟩; rfl) ?_
  rintro f cdv A outer s H _ Q E hr ⟨a, sa, b, W, r, ws, rfl, hW, ok, hR, hw, hq⟩
  have hws := hw.2
  refine ⟨_, (pss_cons (ps_asg (C8.pe_c c_words_by hr (by decide) (by rfl) (pa_cons (pv 0) (pa_cons (pv 1) (pa_cons (pv 2) pa_nil)))) (pg_tupK (K := K) (n := 2) rfl rfl (pgs_cons (pg_name (i := 3) sc_odds_by.nd rfl (by first | exact Or.inl rfl | exact Or.inr rfl)) (pgs_cons (pg_name (i := 4) sc_odds_by.nd rfl (by first | exact Or.inl rfl | exact Or.inr rfl)) pgs_nil))))
      (pss_one (ps_ret (pe_lock (pe_dc (own := [("word", 5), ("many", 6)]) rfl sc_odds_by.nd (pi_items (pv 3)) (blkOk_by (own := [("word", 5), ("many", 6)]) (N := ["watch", "shown", "weights", "words", "whole", "word", "many"]) (sc := defScope s_odds_by) (by decide +kernel)) (fun _ _ _ _ _ => (pg_tupK (K := K) (n := 2) rfl rfl (pgs_cons (pg_name (i := 5) sc_odds_by.nd rfl (by first | exact Or.inl rfl | exact Or.inr rfl)) (pgs_cons (pg_name (i := 6) sc_odds_by.nd rfl (by first | exact Or.inl rfl | exact Or.inr rfl)) pgs_nil)))) (fun _ _ _ _ _ => pts_nil) (fun _ _ _ _ _ => (pv 5)) (fun _ _ _ _ _ => (C8.pe_c c_fraction_of hr (by decide) (by rfl) (pa_cons (pv 6) (pa_cons (pv 4) pa_nil))))))))), ?_⟩
  refine ⟨_, rfl, _, rfl, _, rfl, a, sa, b, W, r, ws, rfl, hW, ok, hR, hw, fun p fd H1 x1 hp hf => ?_⟩
  refine ⟨_, _, rfl, SqT.of hp, rfl, _, _, rfl, _, _, rfl, rfl, ?_⟩
  refine ⟨fd, _, hf, trivial, fun od => ?_⟩
  generalize eH2 : upd H1 fd (.frz od (.dK (kvD (tabK (M W ws r))))) = H2
  have f2 : H2 fd = some (.frz od (.dK (kvD (tabK (M W ws r))))) := by
    rw [← eH2]
    exact upd_same
  refine ⟨_, rfl, fd, od, _, rfl, f2, fun D hD => ?_⟩
  have kl : (keysOf (M W ws r)).length ≤ 4 := List.length_filter_le _ _
  have tl : (kvD (tabK (M W ws r))).length = (keysOf (M W ws r)).length := by rw [kvD_len]; exact List.length_map ..
  refine dcE (B := []) (Z := Z) (n := (kvD (tabK (M W ws r))).length) walk_items hD (fun H x => x.frz f2) (fun i acc H => ∃ l : List (Nat × Addr), acc = l.map encF ∧ l.map (·.1) = (keysOf (M W ws r)).take i ∧ ∀ e ∈ l, FracAt H e.2 (frac (M W ws r e.1) (whole ws W.k r))) ⟨[], rfl, rfl, fun e he => by cases he⟩
    (fun i acc x H3 H4 hi x3 ha hp hy => ?_) fun acc H3 x3 ha hp => ?_
  · obtain ⟨t, y1, y2, rfl, nt, rfl, hy1, hy2⟩ := hy
    rw [tl] at hi
    have he : (tabK (M W ws r))[i]? = some ((keysOf (M W ws r))[i], M W ws r (keysOf (M W ws r))[i]) := by
      unfold tabK
      rw [List.getElem?_map, List.getElem?_eq_getElem hi]
      rfl
    obtain ⟨rfl, rfl⟩ := items_get he hy1 hy2
    obtain ⟨l, rfl, hl, hfr⟩ := hp
    refine ⟨_, _, rfl, SqT.of upd_same, rfl, _, _, rfl, _, _, rfl, rfl, rfl, ?_⟩
    have x4 : Ex Z H3 (upd H3 t (.tup [.int ((keysOf (M W ws r))[i] : Nat), .int (M W ws r (keysOf (M W ws r))[i] : Nat)])) := Ex.new nt
    refine ⟨_, rfl, _, rfl, _, rfl, _, _, rfl, whole_pos' ok hws r, lt9000 (whole_lt ok hws hR.2.1), fun q H5 x5 hq5 => ?_⟩
    have x45 := x4.trans x5
    refine DcP.put (k := Sum.inl ((keysOf (M W ws r))[i] : Int)) x3 hD ha (by simp) ?_ x45 ⟨l ++ [((keysOf (M W ws r))[i], q)], ?_, ?_, fun e he => ?_⟩
    · have := congrArg List.length hl
      rw [List.length_map, List.length_take] at this
      rw [List.length_map]
      omega
    · unfold putK
      rw [if_neg]
      · rw [List.map_append]
        rfl
      · intro hany
        obtain ⟨y, hy, hyk⟩ := List.any_eq_true.mp hany
        obtain ⟨z, hz, rfl⟩ := List.mem_map.mp hy
        have hzk : z.1 = (keysOf (M W ws r))[i] := by
          have := Sum.inl.inj (show (Sum.inl (z.1 : Int) : Key) = Sum.inl ((keysOf (M W ws r))[i] : Int) from of_decide_eq_true hyk)
          omega
        have hm : z.1 ∈ (keysOf (M W ws r)).take i := by
          rw [← hl]
          exact List.mem_map.mpr ⟨z, hz, rfl⟩
        have nd := keysOf_nodup (M W ws r)
        rw [← List.take_append_drop i (keysOf (M W ws r)), List.nodup_append] at nd
        exact nd.2.2 _ hm _ (by rw [List.drop_eq_getElem_cons hi]; exact List.mem_cons_self) hzk
    · rw [List.map_append, hl, List.take_add_one, List.getElem?_eq_getElem hi]
      rfl
    · refine FracAt.put ?_ (Md.of (x45.dk ha) trivial)
      rcases List.mem_append.mp he with h | h
      · exact (hfr e h).ex x45
      · rw [List.mem_singleton.mp h]
        exact hq5
  · obtain ⟨l, rfl, hl, hfr⟩ := hp
    rw [tl, List.take_of_length_le (Nat.le_refl _)] at hl
    have ff := x3.frz f2
    have x5 : Ex Z H1 (upd H3 fd (.dK (kvD (tabK (M W ws r))))) := Exb.locked trivial hf (by rw [eH2]; exact x3) ff
    have nDf : D ≠ fd := fun z => by
      rw [z, f2] at hD
      cases hD
    refine ⟨ff, hq D _ (x1.trans x5) (Nw.of x1 (by rw [← eH2, upd_ne nDf] at hD; exact hD)) ⟨l, by rw [upd_ne nDf]; exact ha, by rw [hl]; exact keysOf_nodup _, fun v => ?_, fun e he => ?_⟩⟩
    · rw [hl, mem_keysOf]
      unfold otab
      by_cases hv : M W ws r v = 0
      · rw [if_pos hv]
        simp [hv]
      · rw [if_neg hv]
        refine ⟨fun _ => rfl, fun _ => ⟨?_, hv⟩⟩
        have := words_get ok (fun c h => (hws c h).1) hR.2.2 v
        rw [if_neg hv] at this
        have gw := wordsD_good ok (numbers_good ok (fun c h => (hws c h).1) hR.2.2)
        exact gw.lt _ (get_mem this)
    · refine ⟨frac (M W ws r e.1) (whole ws W.k r), ?_, ?_⟩
      · have hm : e.1 ∈ keysOf (M W ws r) := by
          rw [← hl]
          exact List.mem_map.mpr ⟨e, he, rfl⟩
        unfold otab
        rw [if_neg (mem_keysOf.mp hm).2]
      · have nf : e.2 ≠ fd := fun z => by
          have h1 : H3 e.2 = _ := hfr e he
          rw [z, ff] at h1
          cases h1
        show upd H3 fd _ e.2 = _
        rw [upd_ne nf]
        exact hfr e he
def spNeedOdds (K : PySem.W.Frag) (Z : List (Addr × Str)) (C : Addr) : Sp := fun vs H Q _ => ∃ a s b W r ws, vs = [.ref a, .ref s, .ref b] ∧ WatchAt K C H a W ∧ W.Ok ∧ RowAt K H s W r ∧ WsAt K H b W.k ws ∧ ∀ H', Ex Z H H' → Q .non H'
theorem sc_need_odds : FnScope ["watch", "shown", "weights"] ["watch", "shown", "weights"] (defScope s_need_odds) := ⟨rfl, rfl, rfl, by decide +kernel, rfl, by decide +kernel, by decide +kernel⟩
theorem need_odds_ok (D : Df K mg "need_odds" s_need_odds []) (c_need_watch : C8.Cal P w K mg base 1 "need_watch" (spNeedWatch C) [.non]) (c_need_shown : C8.Cal P w K mg base 3 "need_shown" (spNeedShown K Z C) []) (c_need_weights : C8.Cal P w K mg base 3 "need_weights" (spNeedWeights K Z C) []) : C8.Cal P w K mg base 4 "need_odds" (spNeedOdds K Z C) [] := by
  refine D.cal (k := 3) sc_need_odds (by intro kV doc pm an cdv ct us h; match us, h with | [_, _, _], _ => rfl) (by rintro _ _ _ _ ⟨_, _, _, _, _, _, rfl, _⟩; rfl) ?_
  rintro f cdv A outer s H _ Q E hr ⟨a, sa, b, W, r, ws, rfl, hW, ok, hR, hw, hq⟩
  obtain ⟨dx, _, _, _, e1, _⟩ := id hW
  refine ⟨_, (pss_cons (ps_expr (C8.pe_c c_need_watch hr (by decide) (by rfl) (pa_cons (pv 0) pa_nil)))
      (pss_cons (ps_expr (C8.pe_c c_need_shown hr (by decide) (by rfl) (pa_cons (pv 0) (pa_cons (pv 1) pa_nil))))
      (pss_one (ps_expr (C8.pe_c c_need_weights hr (by decide) (by rfl) (pa_cons (pv 0) (pa_cons (pv 2) pa_nil))))))), ?_⟩
  refine ⟨_, rfl, a, dx, _, rfl, e1, _, rfl, _, rfl, a, sa, W, r, rfl, hW, ok, hR.1, hR.2.1, hR.2.2, fun H1 x1 => ?_⟩
  exact ⟨_, rfl, _, rfl, a, b, W, ws, rfl, hW.ex x1, ok, x1.sqS hw.1, hw.2, fun H2 x2 => hq _ (x1.trans x2)⟩
theorem sc_odds : FnScope ["watch", "shown", "weights"] ["watch", "shown", "weights"] (defScope s_odds) := ⟨rfl, rfl, rfl, by decide +kernel, rfl, by decide +kernel, by decide +kernel⟩
theorem odds_ok (D : Df K mg "odds" s_odds []) (c_need_odds : C8.Cal P w K mg base 4 "need_odds" (spNeedOdds K Z C) []) (c_odds_by : C8.Cal P w K mg base 6 "odds_by" (spOdds K Z C) []) : C8.Cal P w K mg base 7 "odds" (spOdds K Z C) [] := by
  refine D.cal (k := 6) sc_odds (by intro kV doc pm an cdv ct us h; match us, h with | [_, _, _], _ => rfl) (by rintro _ _ _ _ ⟨_, _, _, _, _, _, rfl, _⟩; rfl) ?_
  rintro f cdv A outer s H _ Q E hr ⟨a, sa, b, W, r, ws, rfl, hW, ok, hR, hw, hq⟩
  refine ⟨_, (pss_cons (ps_expr (C8.pe_c c_need_odds hr (by decide) (by rfl) (pa_cons (pv 0) (pa_cons (pv 1) (pa_cons (pv 2) pa_nil)))))
      (pss_one (ps_ret (C8.pe_c c_odds_by hr (by decide) (by rfl) (pa_cons (pv 0) (pa_cons (pv 1) (pa_cons (pv 2) pa_nil))))))), ?_⟩
  refine ⟨_, rfl, _, rfl, _, rfl, a, sa, b, W, r, ws, rfl, hW, ok, hR, hw, fun H1 x1 => ?_⟩
  exact ⟨_, rfl, _, rfl, _, rfl, a, sa, b, W, r, ws, rfl, hW.ex x1, ok, hR.ex x1, hw.ex x1, fun p H2 x2 nw h2 => hq p _ (x1.trans x2) (nw.ex x1) h2⟩
end
end K62
/-! ==== M62c ==== -/
namespace Od
/-! ### words that may come, and beginnings that make sure -/
def ins1 (l : List Nat) (k : Nat) : List Nat := if k ∈ l then l else l ++ [k]
def insA (l ks : List Nat) : List Nat := ks.foldl ins1 l
def LW (W : Wt) : Nat → Nat → List Nat
  | 0, p => [W.wd p]
  | t + 1, p => (List.range W.k).foldl (fun l c => insA l (LW W t (W.mv p c))) []
def sureB (W : Wt) (t p : Nat) : Bool := decide ((LW W t p).length = 1)
theorem mem_ins1 {l : List Nat} {k x : Nat} : x ∈ ins1 l k ↔ x ∈ l ∨ x = k := by
  unfold ins1
  split
  · constructor
    · exact .inl
    · rintro (h | rfl)
      · exact h
      · assumption
  · simp
theorem mem_insA {x : Nat} : ∀ {ks l : List Nat}, x ∈ insA l ks ↔ x ∈ l ∨ x ∈ ks
  | [], l => by simp [insA]
  | k :: r, l => by
    show x ∈ insA (ins1 l k) r ↔ _
    rw [mem_insA (ks := r), mem_ins1, List.mem_cons, or_assoc]
theorem ins1_old {l : List Nat} {k : Nat} (h : k ∈ l) : ins1 l k = l := if_pos h
theorem insA_old : ∀ {ks l : List Nat}, (∀ k ∈ ks, k ∈ l) → insA l ks = l
  | [], l, _ => rfl
  | k :: r, l, h => by
    show insA (ins1 l k) r = l
    rw [ins1_old (h k List.mem_cons_self), insA_old fun x hx => h x (List.mem_cons_of_mem _ hx)]
theorem mem_foldA {x : Nat} (f : Nat → List Nat) : ∀ {cs l : List Nat}, x ∈ cs.foldl (fun l c => insA l (f c)) l ↔ x ∈ l ∨ ∃ c ∈ cs, x ∈ f c
  | [], l => by simp
  | c :: r, l => by
    rw [List.foldl_cons, mem_foldA f (cs := r), mem_insA]
    simp only [List.mem_cons]
    constructor
    · rintro ((h | h) | ⟨d, hd, h⟩)
      · exact .inl h
      · exact .inr ⟨c, .inl rfl, h⟩
      · exact .inr ⟨d, .inr hd, h⟩
    · rintro (h | ⟨d, rfl | hd, h⟩)
      · exact .inl (.inl h)
      · exact .inl (.inr h)
      · exact .inr ⟨d, hd, h⟩
theorem ins1_nodup {l : List Nat} {k : Nat} (h : l.Nodup) : (ins1 l k).Nodup := by
  unfold ins1
  split
  · exact h
  · rw [List.nodup_append]
    refine ⟨h, by simp, fun a ha b hb => ?_⟩
    rw [List.mem_singleton.mp hb]
    rintro rfl
    contradiction
theorem insA_nodup : ∀ {ks l : List Nat}, l.Nodup → (insA l ks).Nodup
  | [], _, h => h
  | _ :: r, _, h => insA_nodup (ks := r) (ins1_nodup h)
theorem foldA_nodup (f : Nat → List Nat) : ∀ {cs l : List Nat}, l.Nodup → (cs.foldl (fun l c => insA l (f c)) l).Nodup
  | [], _, h => h
  | _ :: r, _, h => foldA_nodup f (cs := r) (insA_nodup h)
theorem LW_nodup (W : Wt) (t p : Nat) : (LW W t p).Nodup := by
  cases t with
  | zero => simp [LW]
  | succ t => exact foldA_nodup _ (by simp)
theorem LW_lt {W : Wt} (ok : W.Ok) : ∀ {t p x : Nat}, p < W.n → x ∈ LW W t p → x < 4
  | 0, p, x, hp, h => by
    have : x = W.wd p := by simpa [LW] using h
    rw [this]
    exact Nat.lt_succ_of_le (ok.wd p hp)
  | t + 1, p, x, hp, h => by
    rcases (mem_foldA _).mp h with h | ⟨c, hc, h⟩
    · cases h
    · exact LW_lt ok (ok.mv p hp c (List.mem_range.mp hc)) h
/-- the line of the unsure, event by event -/
def lineD (W : Wt) (ws : Nat → Nat) (len : Nat) : Nat → Dc
  | 0 => [(0, 1)]
  | i + 1 => heavier W ws ((lineD W ws len i).filter fun e => !sureB W (len - i) e.1) none
def foundN (W : Wt) (ws : Nat → Nat) (len i : Nat) : Nat := T ((lineD W ws len i).filter fun e => sureB W (len - i) e.1) (fun _ => 1) * sumTo ws W.k ^ (len - i)
theorem T_filter (q : Nat → Bool) (g : Nat → Nat) : ∀ d : Dc, T (d.filter fun e => q e.1) g = T d (fun p => if q p = true then g p else 0)
  | [] => rfl
  | e :: r => by
    rw [List.filter_cons, T_cons]
    by_cases h : q e.1 = true
    · rw [if_pos h, T_cons, T_filter q g r, if_pos h]
    · rw [if_neg h, T_filter q g r, if_neg h, Nat.mul_zero, Nat.zero_add]
section
variable {W : Wt} {ws : Nat → Nat}
theorem good_filter {n : Nat} {d : Dc} (q : Nat × Nat → Bool) (g : Good n d) : Good n (d.filter q) := ⟨(List.Sublist.map _ List.filter_sublist).nodup g.nd, fun e he => g.ps e (List.mem_filter.mp he).1, fun e he => g.lt e (List.mem_filter.mp he).1⟩
theorem line_good (ok : W.Ok) (hw : ∀ c < W.k, 0 < ws c) (len : Nat) : ∀ i, Good W.n (lineD W ws len i)
  | 0 => good_one.mono ok.n1
  | i + 1 => heavier_good ok hw (fun c e => by cases e) (good_filter _ (line_good ok hw len i))
theorem T_le {d : Dc} {g h : Nat → Nat} (z : ∀ p, g p ≤ h p) : T d g ≤ T d h := by
  induction d with
  | nil => exact Nat.le_refl _
  | cons e r ih =>
    rw [T_cons, T_cons]
    have := Nat.mul_le_mul_left e.2 (z e.1)
    omega
theorem line_le (len : Nat) : ∀ i, T (lineD W ws len i) (fun _ => 1) ≤ sumTo ws W.k ^ i
  | 0 => by simp [lineD, T]
  | i + 1 => by
    show T (heavier W ws _ none) (fun _ => 1) ≤ _
    rw [heavier_T, A_const, T_filter (fun p => !sureB W (len - i) p)]
    have h1 : T (lineD W ws len i) (fun p => if (!sureB W (len - i) p) = true then (if (none : Option Nat).isNone then sumTo ws W.k else 1) * 1 else 0) ≤ T (lineD W ws len i) (fun p => sumTo ws W.k * 1) := T_le fun p => by
      split
      · exact Nat.le_refl _
      · omega
    rw [T_mul] at h1
    have h2 := Nat.mul_le_mul_left (sumTo ws W.k) (line_le len i)
    rw [Nat.pow_succ, Nat.mul_comm (sumTo ws W.k ^ i)]
    omega
theorem found_le (len i : Nat) (hi : i ≤ len) : foundN W ws len i ≤ sumTo ws W.k ^ len := by
  unfold foundN
  rw [T_filter (fun p => sureB W (len - i) p)]
  have h1 : T (lineD W ws len i) (fun p => if sureB W (len - i) p = true then 1 else 0) ≤ T (lineD W ws len i) (fun _ => 1) := T_le fun p => by split <;> omega
  have h2 := Nat.mul_le_mul_right (sumTo ws W.k ^ (len - i)) (Nat.le_trans h1 (line_le (W := W) (ws := ws) len i))
  rw [← Nat.pow_add, Nat.add_sub_cancel' hi] at h2
  exact h2
/-! weights times a number -/
theorem line_times (t len : Nat) : ∀ (i : Nat) (g : Nat → Nat), T (lineD W (times t ws) len i) g = t ^ i * T (lineD W ws len i) g
  | 0, g => by simp [lineD]
  | i + 1, g => by
    show T (heavier W (times t ws) _ none) g = _ * T (heavier W ws _ none) g
    rw [heavier_T, heavier_T, T_filter (fun p => !sureB W (len - i) p), T_filter (fun p => !sureB W (len - i) p), line_times t len i, A_times]
    rw [show (fun p => if (!sureB W (len - i) p) = true then (fun p => (if (none : Option Nat).isNone then t else 1) * A W ws none g p) p else 0) = fun p => t * (if (!sureB W (len - i) p) = true then A W ws none g p else 0) from funext fun p => by
      split
      · rfl
      · rfl, T_mul, Nat.pow_succ, Nat.mul_assoc]
theorem found_times (t len i : Nat) (hi : i ≤ len) : foundN W (times t ws) len i = t ^ len * foundN W ws len i := by
  unfold foundN
  rw [T_filter (fun p => sureB W (len - i) p), T_filter (fun p => sureB W (len - i) p), line_times, sumTo_times, Nat.mul_pow]
  rw [show t ^ len = t ^ i * t ^ (len - i) by rw [← Nat.pow_add, Nat.add_sub_cancel' hi]]
  simp [Nat.mul_comm, Nat.mul_left_comm, Nat.mul_assoc]
end
/-! kinds made one -/
theorem LW_alike {V W : Wt} (n : V.n = W.n) (wd : ∀ p < W.n, V.wd p = W.wd p) (k : V.k = W.k + 1) (k1 : 1 ≤ W.k) (mv : ∀ p < W.n, ∀ c < W.k, V.mv p c = W.mv p c) (last : ∀ p < W.n, V.mv p W.k = W.mv p 0) (lt : ∀ p < W.n, ∀ c < W.k, W.mv p c < W.n) : ∀ (t p : Nat), p < W.n → LW V t p = LW W t p
  | 0, p, hp => by simp [LW, wd p hp]
  | t + 1, p, hp => by
    show (List.range V.k).foldl (fun l c => insA l (LW V t (V.mv p c))) [] = (List.range W.k).foldl (fun l c => insA l (LW W t (W.mv p c))) []
    rw [k, List.range_succ, List.foldl_append]
    have e : (List.range W.k).foldl (fun l c => insA l (LW V t (V.mv p c))) [] = (List.range W.k).foldl (fun l c => insA l (LW W t (W.mv p c))) [] := by
      have go : ∀ (cs l : List Nat), (∀ c ∈ cs, c < W.k) → cs.foldl (fun l c => insA l (LW V t (V.mv p c))) l = cs.foldl (fun l c => insA l (LW W t (W.mv p c))) l := by
        intro cs
        induction cs with
        | nil => intro l _; rfl
        | cons c r ih =>
          intro l h
          rw [List.foldl_cons, List.foldl_cons, mv p hp c (h c List.mem_cons_self), LW_alike n wd k k1 mv last lt t _ (lt p hp c (h c List.mem_cons_self)), ih _ fun x hx => h x (List.mem_cons_of_mem _ hx)]
      exact go _ _ fun c hc => List.mem_range.mp hc
    rw [e]
    show insA _ (LW V t (V.mv p W.k)) = _
    rw [last p hp, LW_alike n wd k k1 mv last lt t _ (lt p hp 0 k1)]
    exact insA_old fun x hx => (mem_foldA _).mpr (.inr ⟨0, List.mem_range.mpr k1, hx⟩)
theorem line_alike {V W : Wt} {a b : Nat → Nat} (al : Alike V W a b) (ok : W.Ok) (hb : ∀ c < W.k, 0 < b c) (hs : ∀ t p, p < W.n → sureB V t p = sureB W t p) (len : Nat) : ∀ (i : Nat) (g h : Nat → Nat), (∀ q < W.n, g q = h q) → T (lineD V a len i) g = T (lineD W b len i) h
  | 0, g, h, gh => by
    show T [(0, 1)] g = T [(0, 1)] h
    simp [T, gh 0 ok.n1]
  | i + 1, g, h, gh => by
    show T (heavier V a _ none) g = T (heavier W b _ none) h
    rw [heavier_T, heavier_T, T_filter (fun p => !sureB V (len - i) p), T_filter (fun p => !sureB W (len - i) p)]
    refine line_alike al ok hb hs len i _ _ fun q hq => ?_
    rw [hs _ q hq, al.step g h q hq gh]
theorem found_alike {V W : Wt} {a b : Nat → Nat} (al : Alike V W a b) (ok : W.Ok) (hb : ∀ c < W.k, 0 < b c) (hs : ∀ t p, p < W.n → sureB V t p = sureB W t p) (len i : Nat) : foundN V a len i = foundN W b len i := by
  unfold foundN
  rw [T_filter (fun p => sureB V (len - i) p), T_filter (fun p => sureB W (len - i) p), al.sum, line_alike al ok hb hs len i _ (fun p => if sureB W (len - i) p = true then 1 else 0) fun q hq => by rw [hs _ q hq]]
end Od
namespace Od
theorem LW_ne {W : Wt} (ok : W.Ok) : ∀ (t p : Nat), p < W.n → ∃ x, x ∈ LW W t p
  | 0, p, _ => ⟨W.wd p, by simp [LW]⟩
  | t + 1, p, hp => by
    obtain ⟨x, hx⟩ := LW_ne ok t _ (ok.mv p hp 0 ok.k1)
    exact ⟨x, (mem_foldA _).mpr (.inr ⟨0, List.mem_range.mpr ok.k1, hx⟩)⟩
theorem filter_take {α : Type} (q : α → Bool) (l : List α) {i : Nat} {x : α} (h : l[i]? = some x) : (l.take (i + 1)).filter q = if q x = true then (l.take i).filter q ++ [x] else (l.take i).filter q := by
  rw [List.take_add_one, h, List.filter_append]
  by_cases hq : q x = true
  · rw [if_pos hq]
    simp [hq]
  · rw [if_neg hq]
    simp [hq]
theorem T_one (d : Dc) : T d (fun _ => 1) = (d.map fun e => e.2).sum := by
  unfold T
  congr 1
  apply List.map_congr_left
  intro e _
  exact Nat.mul_one _
end Od
/-! ==== B62i ==== -/
namespace K62
open PySem PySem.Spec PyProof.Rows L2 Fx Od
section
variable {P : Program} {w : World} {K : PySem.W.Frag} {mg : Str → Option Value} {base : Heap} {C : Addr} {Z : List (Addr × Str)}
/-! ### words that may come: words_of, later_words -/
def encN (l : List Nat) : List (Key × V) := l.map fun (x : Nat) => (Sum.inl (x : Int), V.non)
theorem encN_len (l : List Nat) : (encN l).length = l.length := by simp [encN]
theorem encN_any (k : Nat) (l : List Nat) : ((encN l).any fun kv => decide (kv.1 = Sum.inl (k : Int))) = decide (k ∈ l) := by
  induction l with
  | nil => rfl
  | cons a r ih =>
    show (decide ((Sum.inl (a : Int) : Key) = Sum.inl (k : Int)) || (encN r).any _) = _
    rw [ih]
    by_cases h : a = k
    · rw [decide_eq_true (by rw [h]), h]
      simp
    · rw [decide_eq_false (fun z => h (by have := Sum.inl.inj z; omega))]
      simp [h, Ne.symm h]
theorem encN_put (l : List Nat) (k : Nat) : putK (encN l) (Sum.inl (k : Int)) .non = encN (ins1 l k) := by
  unfold putK ins1
  rw [encN_any]
  by_cases h : k ∈ l
  · rw [if_pos (decide_eq_true h), if_pos h]
    unfold encN
    rw [List.map_map]
    apply List.map_congr_left
    intro x _
    show (if (Sum.inl (x : Int) : Key) = Sum.inl (k : Int) then _ else _) = _
    split <;> rfl
  · rw [if_neg (by rw [decide_eq_false h]; decide), if_neg h]
    unfold encN
    rw [List.map_append]
    rfl
theorem encN_merge : ∀ (ks l : List Nat), mergeK (encN l) (encN ks) = encN (insA l ks)
  | [], l => rfl
  | k :: r, l => by
    show mergeK (putK (encN l) (Sum.inl (k : Int)) .non) (encN r) = _
    rw [encN_put, encN_merge r]
    rfl
theorem lenLW {W : Wt} (ok : W.Ok) {t p : Nat} (hp : p < W.n) : (LW W t p).length ≤ 4 := nodup_len 4 _ (LW_nodup W t p) fun _ hx => LW_lt ok hp hx
theorem _root_.Fx.Exb.shift {H H' : Hp} {B : List Addr} {d : Addr} {o : HO} (x : Exb Z B H H') : Exb [] (d :: B) (upd H d o) H' := ⟨fun b u n e t => by
  have h := not_or.mp (fun z => n (List.mem_cons.mpr z))
  rw [upd_ne h.1] at e
  exact x.1 b u h.2 e t, fun _ q hq => by cases hq⟩
/-- a list of dicts: what may come from each place -/
def LwAt (K : PySem.W.Frag) (H : Hp) (r : Addr) (W : Wt) (t : Nat) : Prop := ∃ ds : List Addr, SqL K H r (ds.map V.ref) ∧ ds.length = W.n ∧ ∀ p d, ds[p]? = some d → H d = some (.dK (encN (LW W t p)))
theorem LwAt.ex {H H' : Hp} {r : Addr} {W : Wt} {t : Nat} (x : Ex Z H H') (h : LwAt K H r W t) : LwAt K H' r W t := by
  obtain ⟨ds, h1, h2, h3⟩ := h
  exact ⟨ds, x.sqL h1, h2, fun p d e => x.dk (h3 p d e)⟩
def spWordsOf (K : PySem.W.Frag) (Z : List (Addr × Str)) : Sp := fun vs H Q _ => ∃ s g W t k f, vs = [.ref s, .ref g] ∧ W.Ok ∧ LwAt K H s W t ∧ SqT K H g (lineV k f) ∧ (∀ c < k, f c < W.n) ∧ k ≤ 4 ∧
  ∀ p H', Ex Z H H' → H' p = some (.dK (encN ((List.range k).foldl (fun l c => insA l (LW W t (f c))) []))) → Q (.ref p) H'
theorem sc_words_of : FnScope ["several", "goals", "found", "goal"] ["several", "goals"] (defScope s_words_of) := ⟨rfl, rfl, rfl, by decide +kernel, rfl, by decide +kernel, by decide +kernel⟩
theorem words_of_ok (D : Df K mg "words_of" s_words_of []) : C8.Cal P w K mg base 1 "words_of" (spWordsOf K Z) [] := by
  refine D.cal (k := 0) sc_words_of (by intro kV doc pm an cdv ct us h; match us, h with | [_, _], _ => rfl) (by rintro _ _ _ _ ⟨_, _, _, _, _, _, rfl, _⟩; rfl) ?_
  rintro f cdv A outer s H _ Q E hr ⟨sa, g, W, t, k, fn, rfl, ok, ⟨ds, hs, hn, hd⟩, hg, hlt, hk, hq⟩
  refine ⟨_, (pss_cons (ps_set (i := 2) sc_words_of.nd rfl (by first | exact Or.inl rfl | exact Or.inr rfl) pe_dnewK)
      (pss_cons (ps_for PassesOwn.never rfl (pi_seqK (K := K) rfl (pv 1)) (pg_name (i := 3) sc_words_of.nd rfl (by first | exact Or.inl rfl | exact Or.inr rfl))
      (pss_one (ps_expr (pe_bm PySem.F.plainAttrs_dict PySem.F.slot_dict_update PySem.F.type_dict_update mt_update (pv 2) (pa_cons (pe_ix (ixlK (K := K) rfl) (pv 0) (pv 3) (fun _ _ => rfl)) pa_nil)))))
      (pss_one (ps_ret (pv 2))))), ?_⟩
  refine fun d nd => ?_
  have x1 : Ex Z H (upd H d (.dK [])) := Ex.new nd
  refine ⟨_, rfl, _, _, rfl, .inr (x1.sqT hg), fun J G wk hG => ?_⟩
  rw [lineV_len] at wk
  have hG' : ∀ H', Exb Z [] H H' → G H' := fun H' x => hG [] [d] H' (fun z u q => by rw [List.mem_singleton.mp z, upd_same] at q; rw [← Option.some.inj q]; trivial) x.shift
  refine for_it wk (fun i σ H' => ∃ u, σ = [some (.ref sa), some (.ref g), some (.ref d), u] ∧ Ex Z H H' ∧ H' d = some (.dK (encN (((List.range k).take i).foldl (fun l c => insA l (LW W t (fn c))) [])))) ⟨_, rfl, x1, by rw [List.take_zero]; exact upd_same⟩ (fun i σ H' _ ⟨u, _, x, _⟩ => hG' H' x)
    (fun i x σ H2 H3 hi ⟨u, hσ, x2, hd2⟩ hy => ?_) fun σ H2 ⟨u, hσ, x2, hd2⟩ => ?_
  · subst hσ
    obtain ⟨rfl, hx⟩ := hy
    obtain ⟨hc, rfl⟩ := lineV_get hx
    have hp := hlt i hc
    obtain ⟨b, hb⟩ : ∃ b, ds[fn i]? = some b := ⟨ds[fn i]'(by omega), List.getElem?_eq_getElem (by omega)⟩
    have hbd := x2.dk (hd _ _ hb)
    refine ⟨_, rfl, .inr (.inr (.inl ⟨rfl, .inl ⟨_, hd2⟩⟩)), _, rfl, _, rfl, ixL (x2.sqL hs) (v := .ref b) (by rw [List.getElem?_map, hb]; rfl) ?_⟩
    refine ⟨d, b, _, _, rfl, rfl, fun z => ?_, hd2, .inl hbd, ?_, ?_⟩
    · have h0 := hd _ _ hb
      rw [← z, nd] at h0
      cases h0
    · rw [encN_len, encN_len]
      have h1 := lenLW ok (t := t) hp
      have h2 : (((List.range k).take i).foldl (fun l c => insA l (LW W t (fn c))) []).length ≤ 4 := nodup_len 4 _ (foldA_nodup _ (by simp)) fun x hx => by
        rcases (mem_foldA _).mp hx with h | ⟨c, hc, h⟩
        · cases h
        · exact LW_lt ok (hlt c (List.mem_range.mp (List.mem_of_mem_take hc))) h
      exact Nat.le_trans (Nat.add_le_add h2 h1) (by decide)
    · refine ⟨_, rfl, x2.mut (.inr nd) (Mb.of hd2 trivial), ?_⟩
      rw [encN_merge, foldl_take _ _ _ (List.getElem?_range hc)]
      exact upd_same
  · subst hσ
    rw [List.take_of_length_le (by simp)] at hd2
    exact ⟨_, rfl, hq d H2 x2 hd2⟩
end
end K62
/-! ==== B62j ==== -/
namespace K62
open PySem PySem.Spec PyProof.Rows L2 Fx Od
section
variable {P : Program} {w : World} {K : PySem.W.Frag} {mg : Str → Option Value} {base : Heap} {C : Addr} {Z : List (Addr × Str)}
theorem SqL.ne {H : Hp} {p t : Addr} {o : HO} {xs : List V} (h : SqL K H t xs) (n : t ≠ p) : SqL K (upd H p o) t xs := by
  rcases h with (h | ⟨z, h⟩) | h
  · exact .inl (.inl (by rw [upd_ne n]; exact h))
  · exact .inl (.inr ⟨z, by rw [upd_ne n]; exact h⟩)
  · exact .inr h
theorem dk_ne {H : Hp} {p d : Addr} {o : HO} {kvs : List (Key × V)} {xs : List V} (h : H d = some (.dK kvs)) (hp : H p = some (.lst xs)) : upd H p o d = some (.dK kvs) := by
  rw [upd_ne (fun z => by rw [z, hp] at h; cases h)]
  exact h
theorem LwAt.ne {H : Hp} {r F : Addr} {W : Wt} {t : Nat} {xs : List V} {o : HO} (h : LwAt K H r W t) (n : r ≠ F) (hF : H F = some (.lst xs)) : LwAt K (upd H F o) r W t := by
  obtain ⟨ds, h1, h2, h3⟩ := h
  exact ⟨ds, SqL.ne h1 n, h2, fun p d e => dk_ne (h3 p d e) hF⟩
theorem atI_end {rows : List Addr} {i : Nat} {r : Addr} (hl : rows.length = i + 1) (hr : rows[i]? = some r) : atI (rows.map V.ref) (-1) = some (.ref r) := by
  have e : rows = rows.take i ++ [r] := by
    have h1 : rows.take (i + 1) = rows := List.take_of_length_le (by omega)
    rw [List.take_add_one, hr] at h1
    exact h1.symm
  rw [e, List.map_append]
  exact atI_last _ _
def LaterAt (K : PySem.W.Frag) (H : Hp) (a : Addr) (W : Wt) (len : Nat) : Prop := ∃ rows : List Addr, SqL K H a (rows.map V.ref) ∧ rows.length = len + 1 ∧ ∀ t r, rows[t]? = some r → LwAt K H r W t
theorem LaterAt.ex {H H' : Hp} {a : Addr} {W : Wt} {len : Nat} (x : Ex Z H H') (h : LaterAt K H a W len) : LaterAt K H' a W len := by
  obtain ⟨rows, h1, h2, h3⟩ := h
  exact ⟨rows, x.sqL h1, h2, fun t r e => (h3 t r e).ex x⟩
def spLater (K : PySem.W.Frag) (Z : List (Addr × Str)) (C : Addr) : Sp := fun vs H Q _ => ∃ a W len, vs = [.ref a, .int (len : Nat)] ∧ WatchAt K C H a W ∧ W.Ok ∧ len ≤ 40 ∧ ∀ p H', Ex Z H H' → LaterAt K H' p W len → Q (.ref p) H'
/-- within a comprehension of dicts -/
def PiD (l : Nat → List Nat) : Nat → List V → Hp → Prop := fun i acc H => ∃ ds : List Addr, acc = ds.map V.ref ∧ ds.length = i ∧ ∀ j d, ds[j]? = some d → H d = some (.dK (encN (l j)))
theorem PiD.step {l : Nat → List Nat} {i : Nat} {acc : List V} {H H' : Hp} {D q : Addr} (h : PiD l i acc H) (x : Ex Z H H') (hD : H' D = some (.lst acc)) (hq : H' q = some (.dK (encN (l i)))) : PiD l (i + 1) (acc ++ [.ref q]) (upd H' D (.lst (acc ++ [.ref q]))) := by
  obtain ⟨ds, rfl, hl, hd⟩ := h
  refine ⟨ds ++ [q], by simp, by simp [hl], fun j d e => dk_ne ?_ hD⟩
  by_cases hj : j < ds.length
  · rw [List.getElem?_append_left hj] at e
    exact x.dk (hd j d e)
  · rw [List.getElem?_append_right (by omega)] at e
    have j0 : j = i := by
      have := (List.getElem?_eq_some_iff.mp e).1
      simp at this
      omega
    rw [j0, hl, Nat.sub_self] at e
    rw [j0, ← Option.some.inj e]
    exact hq
theorem sc_later_words : FnScope ["watch", "length", "found", "ticks", "last", "word", "goals"] ["watch", "length"] (defScope s_later_words) := ⟨rfl, rfl, rfl, by decide +kernel, rfl, by decide +kernel, by decide +kernel⟩
theorem later_ok (T : Txt K mg C) (D : Df K mg "later_words" s_later_words []) (p_words : Pg P w K mg base 1 C "words" (spWords K C)) (p_moves : Pg P w K mg base 1 C "moves" (spMoves K C)) (c_words_of : C8.Cal P w K mg base 1 "words_of" (spWordsOf K Z) []) : C8.Cal P w K mg base 3 "later_words" (spLater K Z C) [] := by
  refine D.cal (k := 2) sc_later_words (by intro kV doc pm an cdv ct us h; match us, h with | [_, _], _ => rfl) (by rintro _ _ _ _ ⟨_, _, _, rfl, _⟩; rfl) ?_
  rintro f cdv A outer s H _ Q E hr ⟨a, W, len, rfl, hW, ok, hl, hq⟩
  have n6 := ok.n6
  have k4 := ok.k4
  obtain ⟨dx, _, _, _, e1, _⟩ := id hW
  refine ⟨_, (pss_cons (ps_set (i := 2) sc_later_words.nd rfl (by first | exact Or.inl rfl | exact Or.inr rfl) (pe_lst (pa_cons (pe_lc (own := [("word", 5)]) rfl sc_later_words.nd (pi_seqK (K := K) rfl (pe_pg p_words T.cl (pv 0) hr (by decide) rfl)) (blkOk_by (own := [("word", 5)]) (N := ["watch", "length", "found", "ticks", "last", "word", "goals"]) (sc := defScope s_later_words) (by decide +kernel)) (fun _ _ _ _ _ => (pg_name (i := 5) sc_later_words.nd rfl (by first | exact Or.inl rfl | exact Or.inr rfl))) (fun _ _ _ _ _ => pts_nil) (fun _ _ _ _ _ => (pe_disp (pps_cons (pv 5) pe_non pps_nil) (by rfl) (by rfl) (fun z => by cases z) (by decide)))) pa_nil)))
      (pss_cons (ps_for PassesOwn.never rfl (pi_range1 (by rfl) T.range (pa_cons (pv 1) pa_nil)) (pg_name (i := 3) sc_later_words.nd rfl (by first | exact Or.inl rfl | exact Or.inr rfl))
      (pss_cons (ps_set (i := 4) sc_later_words.nd rfl (by first | exact Or.inl rfl | exact Or.inr rfl) (pe_ix (ixlK (K := K) rfl) (pv 2) (pe_un un_neg pe_int) (fun _ _ => rfl)))
      (pss_one (ps_expr (pe_bm PySem.F.plainAttrs_list PySem.F.slot_list_append PySem.F.type_list_append mt_append (pv 2) (pa_cons (pe_lc (own := [("goals", 6)]) rfl sc_later_words.nd (pi_seqK (K := K) rfl (pe_pg p_moves T.cl (pv 0) hr (by decide) rfl)) (blkOk_by (own := [("goals", 6)]) (N := ["watch", "length", "found", "ticks", "last", "word", "goals"]) (sc := defScope s_later_words) (by decide +kernel)) (fun _ _ _ _ _ => (pg_name (i := 6) sc_later_words.nd rfl (by first | exact Or.inl rfl | exact Or.inr rfl))) (fun _ _ _ _ _ => pts_nil) (fun _ _ _ _ _ => (C8.pe_c c_words_of hr (by decide) (by rfl) (pa_cons (pv 4) (pa_cons (pv 6) pa_nil))))) pa_nil))))))
      (pss_one (ps_ret (pv 2))))), ?_⟩
  refine ⟨_, rfl, a, dx, _, rfl, e1, a, W, rfl, hW, fun m hm => ?_⟩
  refine ⟨m, _, rfl, .inr hm, fun J G wk hG D hD => ?_⟩
  rw [lineV_len] at wk
  refine lcE (B := []) (Z := Z) wk hD (hG Z [] · (by simp)) (by omega) (PiD fun j => LW W 0 j) ⟨[], rfl, rfl, fun j d e => by simp at e⟩ (fun i acc x H2 H3 hi x2 ha hla hp hy => ?_) fun acc H2 x2 ha hp => ?_
  · obtain ⟨rfl, hx⟩ := hy
    obtain ⟨hc, rfl⟩ := lineV_get hx
    refine ⟨rfl, fun q nq => ⟨_, rfl, upd_same, [(Sum.inl (W.wd i : Int), .non)], rfl, by show 1 ≤ 15; decide, ?_⟩⟩
    have x3 : Ex Z H3 (upd (upd H3 q (.dK [])) q (.dK (mergeK [] [(Sum.inl (W.wd i : Int), .non)]))) := (Ex.new nq).mut (.inr nq) (Mb.of upd_same trivial)
    exact LcP.put x2 hD ha (by simp) hla (by omega) x3 (hp.step x3 (x3.lst ha) upd_same)
  · refine ⟨by show 1 ≤ sizeLine; decide, fun F nF => ?_⟩
    have nDF : D ≠ F := fun z => by
      rw [z, nF] at ha
      cases ha
    obtain ⟨ds, rfl, hdl, hds⟩ := hp
    have x3 : Ex Z H2 (upd H2 F (.lst [.ref D])) := Ex.new nF
    have hD0 : LwAt K (upd H2 F (.lst [.ref D])) D W 0 := ⟨ds, SqL.of (x3.lst ha), hdl, fun p d e => x3.dk (hds p d e)⟩
    have hW3 := hW.ex (x2.trans x3)
    have hF3 : upd H2 F (.lst [.ref D]) F = some (.lst ([D].map V.ref)) := upd_same
    generalize upd H2 F (.lst [.ref D]) = H3 at x3 hD0 hW3 hF3
    have hB : ∀ b ∈ [F], ∀ u, H3 b = some u → Ml u := fun b hb u e => Ml.of hF3 trivial u (by rw [← List.mem_singleton.mp hb]; exact e)
    refine ⟨_, rfl, (len : Nat), rfl, by omega, by omega, for_range (lo := 0) (n := len) (fun i σ H' => ∃ rows u3 u4 u5 u6, σ = [some (.ref a), some (.int (len : Nat)), some (.ref F), u3, u4, u5, u6] ∧ rows.length = i + 1 ∧ Exb Z [F] H3 H' ∧ H' F = some (.lst (rows.map V.ref)) ∧ (∀ r ∈ rows, r ≠ F) ∧ ∀ t r, rows[t]? = some r → LwAt K H' r W t) ⟨[D], _, _, _, _, rfl, rfl, Exb.refl _, hF3, fun r hr => by rw [List.mem_singleton.mp hr]; exact nDF, fun t r e => ?_⟩ (fun i σ H4 hi ⟨rows, u3, u4, u5, u6, hσ, hrl, x4, hF, hne, hrows⟩ => ?_) fun σ H4 ⟨rows, u3, u4, u5, u6, hσ, hrl, x4, hF, hne, hrows⟩ => ?_⟩
    · cases t with
      | zero =>
        rw [← Option.some.inj (show some D = some r from e)]
        exact hD0
      | succ t => simp at e
    · subst hσ
      obtain ⟨r, hr⟩ : ∃ r, rows[i]? = some r := ⟨rows[i]'(by omega), List.getElem?_eq_getElem (by omega)⟩
      refine ⟨_, rfl, 1, rfl, F, _, _, .ref r, rfl, rfl, SqL.of hF, atI_end hrl hr, ?_⟩
      have hW4 := hW3.exb x4 hB
      obtain ⟨dx4, _, _, _, e4, _⟩ := id hW4
      refine ⟨_, rfl, .inl ⟨rfl, _, SqL.of hF⟩, _, rfl, a, dx4, _, rfl, e4, a, W, rfl, hW4, fun m4 rs h2 h3 h4 => ?_⟩
      refine ⟨m4, _, rfl, .inr h2, fun J G wk hG D' hD' => ?_⟩
      rw [List.length_map, h3] at wk
      refine lcE (B := []) (Z := Z) wk hD' (hG Z [] · (by simp)) (by omega) (PiD fun p => LW W (i + 1) p) ⟨[], rfl, rfl, fun j d e => by simp at e⟩ (fun p acc x H5 H6 hp x5 ha5 hla hpi hy => ?_) fun acc H5 x5 ha5 hpi => ?_
      · obtain ⟨rfl, hx⟩ := hy
        rw [List.getElem?_map, List.getElem?_eq_getElem (by omega)] at hx
        obtain rfl := Option.some.inj hx
        refine ⟨rfl, _, rfl, _, rfl, r, rs[p], W, i, W.k, W.mv p, rfl, ok, (hrows i r hr).ex x5, x5.sqT (h4 p _ (List.getElem?_eq_getElem (by omega))), fun c hc => ok.mv p hp c hc, k4, fun q H7 x7 hq7 => ?_⟩
        exact LcP.put x5 hD' ha5 (by simp) hla (by omega) x7 (hpi.step x7 (x7.lst ha5) hq7)
      · obtain ⟨ds', rfl, hdl', hds'⟩ := hpi
        have nD'F : D' ≠ F := fun z => by
          rw [z, hF] at hD'
          cases hD'
        have hF5 := x5.lst hF
        refine ⟨F, rows.map V.ref, .ref D', rfl, rfl, hF5, by rw [List.length_map, hrl]; exact Nat.lt_of_le_of_lt (show i + 1 ≤ 40 by omega) (by decide), ?_⟩
        refine ⟨rows ++ [D'], _, _, _, _, rfl, by simp [hrl], (x4.trans x5.any).mut (.inl (by simp)) (Mb.of hF5 trivial), by rw [List.map_append]; exact upd_same, fun r' hr' => ?_, fun t r' e => ?_⟩
        · rcases List.mem_append.mp hr' with h | h
          · exact hne _ h
          · rw [List.mem_singleton.mp h]
            exact nD'F
        · by_cases ht : t < rows.length
          · rw [List.getElem?_append_left ht] at e
            exact ((hrows t r' e).ex x5).ne (hne _ (List.mem_of_getElem? e)) hF5
          · rw [List.getElem?_append_right (by omega)] at e
            have t0 : t = i + 1 := by
              have := (List.getElem?_eq_some_iff.mp e).1
              simp at this
              omega
            rw [t0, hrl, Nat.sub_self] at e
            rw [t0, ← Option.some.inj e]
            exact LwAt.ne ⟨ds', SqL.of ha5, hdl', hds'⟩ nD'F hF5
    · subst hσ
      exact ⟨_, rfl, hq F H4 (x2.trans (Exb.unb x3 nF x4)) ⟨rows, SqL.of hF, hrl, hrows⟩⟩
end
end K62
/-! ==== B62k ==== -/
namespace K62
open PySem PySem.Spec PyProof.Rows L2 Fx Od
section
variable {P : Program} {w : World} {K : PySem.W.Frag} {mg : Str → Option Value} {base : Heap} {C : Addr} {Z : List (Addr × Str)}
/-! ### sure_at -/
theorem LaterAt.lock {H : Hp} {a line : Addr} {W : Wt} {len : Nat} {l : Dc} {o : HO} (ok : W.Ok) (h : LaterAt K H a W len) (hl : DkAt H line l) : LaterAt K (upd H line o) a W len := by
  obtain ⟨rows, h1, h2, h3⟩ := h
  have hm : ∀ u, H line = some u → Mi u := Mi.of hl trivial
  refine ⟨rows, SqL.putI h1 hm, h2, fun t r e => ?_⟩
  obtain ⟨ds, g1, g2, g3⟩ := h3 t r e
  refine ⟨ds, SqL.putI g1 hm, g2, fun p d e => ?_⟩
  have hd := g3 p d e
  rw [upd_ne (fun z => ?_)]
  · exact hd
  · rw [z, show H line = _ from hl] at hd
    have e2 : kvD l = encN (LW W t p) := HO.dK.inj (Option.some.inj hd)
    have hp : p < W.n := by
      rw [← g2]
      exact (List.getElem?_eq_some_iff.mp e).1
    obtain ⟨x, hx⟩ := LW_ne ok t p hp
    obtain ⟨y, ys, ey⟩ : ∃ y ys, LW W t p = y :: ys := by
      cases q : LW W t p with
      | nil => rw [q] at hx; cases hx
      | cons y ys => exact ⟨y, ys, rfl⟩
    rw [ey] at e2
    cases l with
    | nil => cases e2
    | cons e r =>
      have := (List.cons.inj e2).1
      have h4 : V.int (e.2 : Nat) = V.non := congrArg Prod.snd this
      cases h4
def spSureAt (K : PySem.W.Frag) (Z : List (Addr × Str)) (C : Addr) : Sp := fun vs H Q _ => ∃ a b W ws len, vs = [.ref a, .ref b, .int (len : Nat)] ∧ WatchAt K C H a W ∧ W.Ok ∧ WsAt K H b W.k ws ∧ len ≤ 40 ∧
  ∀ p F H', Ex Z H H' → H' p = some (.tup [.ref F, .int (Od.sumTo ws W.k ^ len : Nat)]) → H' F = some (.lst ((List.range (len + 1)).map fun i => V.int (foundN W ws len i : Nat))) → Q (.ref p) H'
theorem sc_sure_at : FnScope ["watch", "weights", "length", "later", "found", "line", "whole", "ticks", "sure", "behind", "place", "many", "kind", "goal"] ["watch", "weights", "length"] (defScope s_sure_at) := ⟨rfl, rfl, rfl, by decide +kernel, rfl, by decide +kernel, by decide +kernel⟩
theorem sure_at_ok (T : Txt K mg C) (D : Df K mg "sure_at" s_sure_at []) (p_moves : Pg P w K mg base 1 C "moves" (spMoves K C)) (c_later_words : C8.Cal P w K mg base 3 "later_words" (spLater K Z C) []) (c_power : C8.Cal P w K mg base 1 "power" spPower []) : C8.Cal P w K mg base 4 "sure_at" (spSureAt K Z C) [] := by
  refine D.cal (k := 3) sc_sure_at (by intro kV doc pm an cdv ct us h; match us, h with | [_, _, _], _ => rfl) (by rintro _ _ _ _ ⟨_, _, _, _, _, rfl, _⟩; rfl) ?_
  rintro f cdv A outer s H _ Q E hr ⟨a, b, W, ws, len, rfl, hW, ok, hw, hl, hq⟩
  have hu := hu_of hr
  have n6 := ok.n6
  have k4 := ok.k4
  have hws := hw.2
  have hw0 : ∀ c < W.k, 0 < ws c := fun c h => (hws c h).1
  refine ⟨_, (pss_cons (ps_asg (pe_tup (pa_cons (C8.pe_c c_later_words hr (by decide) (by rfl) (pa_cons (pv 0) (pa_cons (pv 2) pa_nil))) (pa_cons (pe_lst pa_nil) (pa_cons (pe_disp (pps_cons pe_int pe_int pps_nil) (by rfl) (by rfl) (fun z => by cases z) (by decide)) (pa_cons (pe_callB (sumK (K := K) rfl rfl) (by rfl) T.sum bt_sum (pa_cons (pv 1) pa_nil)) pa_nil))))) (pg_tupK (K := K) (n := 4) rfl rfl (pgs_cons (pg_name (i := 3) sc_sure_at.nd rfl (by first | exact Or.inl rfl | exact Or.inr rfl)) (pgs_cons (pg_name (i := 4) sc_sure_at.nd rfl (by first | exact Or.inl rfl | exact Or.inr rfl)) (pgs_cons (pg_name (i := 5) sc_sure_at.nd rfl (by first | exact Or.inl rfl | exact Or.inr rfl)) (pgs_cons (pg_name (i := 6) sc_sure_at.nd rfl (by first | exact Or.inl rfl | exact Or.inr rfl)) pgs_nil))))))
      (pss_cons (ps_for PassesOwn.never rfl (pi_range1 (by rfl) T.range (pa_cons (pe_op op_add (pv 2) pe_int) pa_nil)) (pg_name (i := 7) sc_sure_at.nd rfl (by first | exact Or.inl rfl | exact Or.inr rfl))
      (pss_cons (ps_lock (ps_setLc (i := 8) (own := [("place", 10)]) rfl sc_sure_at.nd rfl rfl (sw_true rfl rfl rfl (by decide +kernel)) (pi_keys (pv 5)) (blkOk_by (own := [("place", 10)]) (N := ["watch", "weights", "length", "later", "found", "line", "whole", "ticks", "sure", "behind", "place", "many", "kind", "goal"]) (sc := defScope s_sure_at) (by decide +kernel)) (fun _ _ _ _ _ => (pg_name (i := 10) sc_sure_at.nd rfl (by first | exact Or.inl rfl | exact Or.inr rfl))) (fun _ _ _ _ _ => pts_one (pt_cmpR op_eq (pe_callB call_lenD (by rfl) T.len bt_len (pa_cons (pe_ix (ixlK (K := K) rfl) (pe_ix (ixlK (K := K) rfl) (pv 3) (pe_op op_sub (pv 2) (pv 7)) (fun _ _ => rfl)) (pv 10) (fun _ _ => rfl)) pa_nil)) pe_int (nomark _))) (fun _ _ _ _ _ => (pv 10))))
      (pss_cons (ps_expr (pe_bm PySem.F.plainAttrs_list PySem.F.slot_list_append PySem.F.type_list_append mt_append (pv 4) (pa_cons (pe_op op_mulW (pe_callB (sumK (K := K) rfl rfl) (by rfl) T.sum bt_sum (pa_cons (pe_lc (own := [("place", 10)]) rfl sc_sure_at.nd (pi_seqK (K := K) rfl (pv 8)) (blkOk_by (own := [("place", 10)]) (N := ["watch", "weights", "length", "later", "found", "line", "whole", "ticks", "sure", "behind", "place", "many", "kind", "goal"]) (sc := defScope s_sure_at) (by decide +kernel)) (fun _ _ _ _ _ => (pg_name (i := 10) sc_sure_at.nd rfl (by first | exact Or.inl rfl | exact Or.inr rfl))) (fun _ _ _ _ _ => pts_nil) (fun _ _ _ _ _ => (pe_dget hu (pv 5) (pv 10) (fun _ _ => rfl)))) pa_nil)) (C8.pe_c c_power hr (by decide) (by rfl) (pa_cons (pv 6) (pa_cons (pe_op op_sub (pv 2) (pv 7)) pa_nil)))) pa_nil)))
      (pss_cons (ps_set (i := 9) sc_sure_at.nd rfl (by first | exact Or.inl rfl | exact Or.inr rfl) pe_dnewK)
      (pss_cons (ps_lock (ps_for PassesOwn.never rfl (pi_items (pv 5)) (pg_tupK (K := K) (n := 2) rfl rfl (pgs_cons (pg_name (i := 10) sc_sure_at.nd rfl (by first | exact Or.inl rfl | exact Or.inr rfl)) (pgs_cons (pg_name (i := 11) sc_sure_at.nd rfl (by first | exact Or.inl rfl | exact Or.inr rfl)) pgs_nil)))
      (pss_one (ps_if (pt_cmpR op_notIn_seq (pv 10) (pv 8) (by rfl)) (pss_one (ps_for PassesOwn.never rfl (pi_enumW (by rfl) T.enumerate (pa_cons (pe_ix (ixtK (K := K) rfl) (pe_pg p_moves T.cl (pv 0) hr (by decide) rfl) (pv 10) (fun _ _ => rfl)) pa_nil)) (pg_tupK (K := K) (n := 2) rfl rfl (pgs_cons (pg_name (i := 12) sc_sure_at.nd rfl (by first | exact Or.inl rfl | exact Or.inr rfl)) (pgs_cons (pg_name (i := 13) sc_sure_at.nd rfl (by first | exact Or.inl rfl | exact Or.inr rfl)) pgs_nil)))
      (pss_one (ps_dput hu (pv 9) (pv 13) (pe_op op_add (pe_dget2 hu (pv 9) (pv 13) pe_int ⟨rfl, rfl, rfl, rfl⟩) (pe_op op_mulW (pv 11) (pe_ix (ixsK (K := K) rfl) (pv 1) (pv 12) (fun _ _ => rfl)))) rfl)))) pss_nil))))
      (pss_one (ps_set (i := 5) sc_sure_at.nd rfl (by first | exact Or.inl rfl | exact Or.inr rfl) (pv 9))))))))
      (pss_one (ps_ret (pe_tup (pa_cons (pv 4) (pa_cons (C8.pe_c c_power hr (by decide) (by rfl) (pa_cons (pv 6) (pa_cons (pv 2) pa_nil))) pa_nil))))))), ?_⟩
  refine ⟨_, rfl, _, rfl, a, W, len, rfl, hW, ok, hl, fun la H1 x1 hla => ?_⟩
  refine ⟨by show 0 ≤ sizeLine; decide, fun F nF => ?_⟩
  refine fun li ni => ⟨upd_same, [(Sum.inl 0, .int 1)], rfl, by decide, ?_⟩
  have x2 : Ex Z H1 (upd H1 F (.lst [])) := Ex.new nF
  have hF2 : upd H1 F (.lst []) F = some (.lst []) := upd_same
  generalize upd H1 F (.lst []) = H2 at x2 hF2 ni
  have x3 : Ex Z H2 (upd (upd H2 li (.dK [])) li (.dK (mergeK [] [(Sum.inl 0, .int 1)]))) := (Ex.new ni).mut (.inr ni) (Mb.of upd_same trivial)
  have l3 : DkAt (upd (upd H2 li (.dK [])) li (.dK (mergeK [] [(Sum.inl 0, .int 1)]))) li [(0, 1)] := upd_same
  generalize upd (upd H2 li (.dK [])) li (.dK (mergeK [] [(Sum.inl 0, .int 1)])) = H3 at x3 l3
  have x13 := x2.trans x3
  refine ⟨_, rfl, b, (List.range W.k).map fun c => ((ws c : Nat) : Int), rfl, by rw [← lineV_ints]; exact (x1.trans x13).sqS hw.1, ?_⟩
  rw [sumTo_cast]
  refine ⟨by show 4 ≤ sizeLine; decide, fun tp nt => ?_⟩
  refine ⟨_, _, rfl, SqT.of upd_same, rfl, _, _, rfl, _, _, rfl, _, _, rfl, _, _, rfl, rfl, ?_⟩
  have x4 : Ex Z H3 (upd H3 tp (.tup [.ref la, .ref F, .ref li, .int (Od.sumTo ws W.k : Nat)])) := Ex.new nt
  generalize upd H3 tp (.tup [.ref la, .ref F, .ref li, .int (Od.sumTo ws W.k : Nat)]) = H4 at x4
  have x14 := x13.trans x4
  have hF4 := (x3.trans x4).lst hF2
  have l4 : DkAt H4 li [(0, 1)] := x4.dk l3
  have hW1 := hW.ex x1
  have hw1 := hw.ex x1
  refine ⟨_, rfl, _, _, rfl, rfl, ((len + 1 : Nat) : Int), rfl, by omega, by omega, ?_⟩
  refine for_range (lo := 0) (n := len + 1) (fun i σ H' => ∃ li u7 u8 u9 u10 u11 u12 u13, σ = [some (.ref a), some (.ref b), some (.int (len : Nat)), some (.ref la), some (.ref F), some (.ref li), some (.int (Od.sumTo ws W.k : Nat)), u7, u8, u9, u10, u11, u12, u13] ∧ Ex Z H1 H' ∧
      H' F = some (.lst ((List.range i).map fun j => V.int (foundN W ws len j : Nat))) ∧ DkAt H' li (lineD W ws len i)) ⟨li, _, _, _, _, _, _, _, rfl, x14, hF4, l4⟩ (fun i σ H5 hi ⟨li, u7, u8, u9, u10, u11, u12, u13, hσ, x5, hF5, l5⟩ => ?_) fun σ H5 ⟨li, u7, u8, u9, u10, u11, u12, u13, hσ, x5, hF5, l5⟩ => ?_
  · subst hσ
    have gL := line_good ok hw0 len i
    have hLl := good_len gL
    generalize hL : lineD W ws len i = L at l5 gL hLl
    have hLA : LaterAt K H5 la W len := (hla.ex x5)
    obtain ⟨rows, r1, r2, r3⟩ := hLA.lock (o := .frz default (.dK (kvD L))) ok l5
    refine ⟨li, _, l5, trivial, fun od => ⟨_, rfl, li, od, rfl, .inl ⟨_, upd_same, fun D hD => ?_⟩⟩⟩
    obtain ⟨rows, r1, r2, r3⟩ := hLA.lock (o := .frz od (.dK (kvD L))) ok l5
    obtain ⟨row, hrow⟩ : ∃ row, rows[len - i]? = some row := ⟨rows[len - i]'(by omega), List.getElem?_eq_getElem (by omega)⟩
    obtain ⟨ds, d1, d2, d3⟩ := r3 _ _ hrow
    have f6 : upd H5 li (.frz od (.dK (kvD L))) li = some (.frz od (.dK (kvD L))) := upd_same
    generalize eH6 : upd H5 li (.frz od (.dK (kvD L))) = H6 at hD f6 r1 d1 d3
    refine lcE (B := []) (Z := Z) (n := (kvD L).length) walk_keys hD (fun H x => x.frz f6) (by rw [kvD_len]; omega) (fun j acc _ => acc = (((L.take j).filter fun e => sureB W (len - i) e.1).map fun e => V.int (e.1 : Nat))) rfl (fun j acc x H7 H8 hj x7 ha hla' hp hy => ?_) fun acc H7 x7 ha hp => ?_
    · obtain ⟨rfl, k, v, hkv, rfl⟩ := hy
      rw [kvD_len] at hj
      obtain ⟨e, he⟩ : ∃ e, L[j]? = some e := ⟨L[j], List.getElem?_eq_getElem hj⟩
      have hem := List.mem_of_getElem? he
      have hep := gL.lt e hem
      have hkv2 : (kvD L)[j]? = some (Sum.inl (e.1 : Int), V.int (e.2 : Nat)) := by
        unfold kvD
        rw [List.getElem?_map, he]
        rfl
      rw [hkv2] at hkv
      obtain ⟨rfl, rfl⟩ := Prod.mk.inj (Option.some.inj hkv)
      obtain ⟨dd, hdd⟩ : ∃ dd, ds[e.1]? = some dd := ⟨ds[e.1]'(by omega), List.getElem?_eq_getElem (by omega)⟩
      refine ⟨rfl, _, rfl, _, rfl, _, rfl, _, _, rfl, rfl, ?_⟩
      refine ⟨la, _, _, .ref row, rfl, rfl, x7.sqL r1, ?_, ?_⟩
      · rw [show (len : Int) - (0 + (i : Int)) = ((len - i : Nat) : Int) by omega]
        exact atI_nat (by rw [List.getElem?_map, hrow]; rfl)
      refine ⟨_, rfl, ixL (x7.sqL d1) (v := .ref dd) (by rw [List.getElem?_map, hdd]; rfl) ?_⟩
      have hdec : V.bl (decide (V.int (((encN (LW W (len - i) e.1)).length : Nat) : Int) = V.int 1)) = V.bl (sureB W (len - i) e.1) := by
        rw [encN_len]
        unfold sureB
        refine congrArg V.bl (decide_eq_decide.mpr ⟨fun z => ?_, fun z => by rw [z]; rfl⟩)
        have := V.int.inj z
        omega
      cases hsu : sureB W (len - i) e.1 with
      | true =>
        refine ⟨dd, _, rfl, x7.dk (d3 _ _ hdd), rfl, true, by rw [hsu] at hdec; exact hdec, ?_⟩
        refine ⟨_, rfl, LcP.put x7 hD ha (by simp) hla' (by omega) (Exb.refl _) ?_⟩
        rw [filter_take _ _ he, if_pos hsu, hp, List.map_append]
        rfl
      | false =>
        refine ⟨dd, _, rfl, x7.dk (d3 _ _ hdd), rfl, false, by rw [hsu] at hdec; exact hdec, ?_⟩
        refine ⟨x7, acc, ha, by omega, ?_⟩
        show acc = (((L.take (j + 1)).filter fun e => sureB W (len - i) e.1).map fun e => V.int (e.1 : Nat))
        rw [filter_take _ _ he, if_neg (by rw [hsu]; decide), hp]
    rw [kvD_len, List.take_of_length_le (Nat.le_refl _)] at hp
    subst hp
    have f7 := x7.frz f6
    refine ⟨f7, ?_⟩
    have x8 : Ex Z H5 (upd H7 li (.dK (kvD L))) := Exb.locked trivial l5 (by rw [eH6]; exact x7) f7
    have nDl : D ≠ li := fun z => by
      rw [z, f6] at hD
      cases hD
    have ha8 : upd H7 li (.dK (kvD L)) D = some (.lst ((L.filter fun e => sureB W (len - i) e.1).map fun e => V.int (e.1 : Nat))) := by
      rw [upd_ne nDl]
      exact ha
    generalize upd H7 li (.dK (kvD L)) = H8 at x8 ha8
    have x18 := x5.trans x8
    have hF8 := x8.lst hF5
    have l8 : DkAt H8 li L := x8.dk l5
    refine ⟨_, rfl, .inl ⟨rfl, _, SqL.of hF8⟩, _, rfl, D, _, rfl, .inl (SqL.of ha8), fun J G wk hG D2 hD2 => ?_⟩
    rw [List.length_map] at wk
    have hSl : (L.filter fun e => sureB W (len - i) e.1).length ≤ 6 := Nat.le_trans (List.length_filter_le _ _) (Nat.le_trans hLl n6)
    refine lcE (B := []) (Z := Z) wk hD2 (hG Z [] · (by simp)) (by omega) (fun j acc _ => acc = (((L.filter fun e => sureB W (len - i) e.1).take j).map fun e => V.int (e.2 : Nat))) rfl (fun j acc x H9 H10 hj x9 ha9 hla' hp hy => ?_) fun acc H9 x9 ha9 hp => ?_
    · obtain ⟨rfl, hx⟩ := hy
      rw [List.getElem?_map, List.getElem?_eq_getElem hj] at hx
      obtain rfl := Option.some.inj hx
      have hmem := (List.mem_filter.mp (List.getElem_mem hj)).1
      refine ⟨rfl, _, rfl, _, rfl, li, .int (((L.filter fun e => sureB W (len - i) e.1)[j]).2 : Nat), rfl, ?_, ?_⟩
      · have hm2 : get L ((L.filter fun e => sureB W (len - i) e.1)[j]).1 = some ((L.filter fun e => sureB W (len - i) e.1)[j]).2 := mem_get gL.nd hmem
        have := DGet.k (k := Sum.inl (((L.filter fun e => sureB W (len - i) e.1)[j]).1 : Int)) (x9.dk l8)
        rw [kvD_get, hm2] at this
        exact this
      · refine LcP.put x9 hD2 ha9 (by simp) hla' (by omega) (Exb.refl _) ?_
        rw [hp, List.take_add_one, List.getElem?_eq_getElem hj, List.map_append]
        rfl
    rw [List.take_of_length_le (Nat.le_refl _)] at hp
    subst hp
    refine ⟨D2, (L.filter fun e => sureB W (len - i) e.1).map fun e => ((e.2 : Nat) : Int), rfl, .inl (SqL.of (by rw [ha9, List.map_map]; rfl)), ?_⟩
    have hsum : ((L.filter fun e => sureB W (len - i) e.1).map fun e => ((e.2 : Nat) : Int)).sum = ((Od.T (L.filter fun e => sureB W (len - i) e.1) (fun _ => 1) : Nat) : Int) := by
      rw [T_one, ← sum_cast, List.map_map]
      rfl
    rw [hsum]
    refine ⟨_, rfl, _, rfl, _, rfl, _, _, rfl, rfl, Od.sumTo ws W.k, len - i, ?_, sumTo_lt ok hws, by omega, ?_⟩
    · show [V.int _, V.int ((len : Int) - (0 + (i : Int)))] = _
      rw [show (len : Int) - (0 + (i : Int)) = ((len - i : Nat) : Int) by omega]
    have hTle : Od.T (L.filter fun e => sureB W (len - i) e.1) (fun _ => 1) < 2 ^ 6601 := by
      refine Nat.lt_of_le_of_lt ?_ (pow_lt (sumTo_lt ok hws) (show i ≤ 300 by omega))
      refine Nat.le_trans ?_ (line_le (W := W) (ws := ws) len i)
      rw [hL, T_filter (fun p => sureB W (len - i) p)]
      exact T_le fun p => by split <;> omega
    have hmul : ((Od.T (L.filter fun e => sureB W (len - i) e.1) (fun _ => 1) : Nat) : Int) * ((Od.sumTo ws W.k ^ (len - i) : Nat) : Int) = ((foundN W ws len i : Nat) : Int) := by
      rw [← Int.natCast_mul]
      unfold foundN
      rw [hL]
    refine ⟨_, _, rfl, rfl, wide_mul (a := 6601) (b := 6601) ?_ ?_ (by decide) (by decide) (by decide), F, _, .int (foundN W ws len i : Nat), rfl, ?_, x9.lst hF8, ?_, ?_⟩
    · rw [Int.natAbs_natCast]
      exact hTle
    · rw [Int.natAbs_natCast]
      exact pow_lt (sumTo_lt ok hws) (by omega)
    · show [V.int (_ * _)] = _
      rw [hmul]
    · rw [List.length_map, List.length_range]
      exact Nat.lt_of_le_of_lt (show i ≤ 40 by omega) (by decide)
    have hF9 := x9.lst hF8
    have x10 : Ex Z H1 (upd H9 F (.lst (((List.range i).map fun j => V.int (foundN W ws len j : Nat)) ++ [.int (foundN W ws len i : Nat)]))) := (x18.trans x9).mut (.inr nF) (Mb.of hF9 trivial)
    have nFl : li ≠ F := fun z => by
      have := x9.dk l8
      rw [z, hF9] at this
      cases this
    have nDF : D ≠ F := fun z => by
      have h1 : H6 F = some (.lst ((List.range i).map fun j => V.int (foundN W ws len j : Nat))) := by
        rw [← eH6, upd_ne nFl.symm]
        exact hF5
      rw [z, h1] at hD
      cases hD
    have l10 : DkAt (upd H9 F (.lst (((List.range i).map fun j => V.int (foundN W ws len j : Nat)) ++ [.int (foundN W ws len i : Nat)]))) li L := by
      show upd H9 F _ li = _
      rw [upd_ne nFl]
      exact x9.dk l8
    have hD10 : upd H9 F (.lst (((List.range i).map fun j => V.int (foundN W ws len j : Nat)) ++ [.int (foundN W ws len i : Nat)])) D = some (.lst ((L.filter fun e => sureB W (len - i) e.1).map fun e => V.int (e.1 : Nat))) := by
      rw [upd_ne nDF]
      exact x9.lst ha8
    have hF10 : upd H9 F (.lst (((List.range i).map fun j => V.int (foundN W ws len j : Nat)) ++ [.int (foundN W ws len i : Nat)])) F = some (.lst ((List.range (i + 1)).map fun j => V.int (foundN W ws len j : Nat))) := by
      rw [upd_same, List.range_succ, List.map_append]
      rfl
    generalize upd H9 F (.lst (((List.range i).map fun j => V.int (foundN W ws len j : Nat)) ++ [.int (foundN W ws len i : Nat)])) = H10 at x10 l10 hD10 hF10
    refine fun bd nbd => ?_
    have x11 : Ex Z H10 (upd H10 bd (.dK [])) := Ex.new nbd
    have l11 := x11.dk l10
    have hD11 := x11.lst hD10
    refine ⟨li, _, l11, trivial, fun od2 => ⟨_, rfl, li, od2, kvD L, rfl, upd_same, ?_⟩⟩
    have nlb : li ≠ bd := fun z => by
      rw [z] at l10
      rw [show H10 bd = _ from l10] at nbd
      cases nbd
    generalize eH12 : upd (upd H10 bd (.dK [])) li (.frz od2 (.dK (kvD L))) = H12
    have hW12 : WatchAt K C H12 a W := by
      rw [← eH12]
      exact WatchAt.put (hW1.ex (x10.trans x11)) (Ml.of l11 trivial)
    have hw12 : SqS K H12 b (lineV W.k ws) := by
      rw [← eH12]
      exact SqS.putI ((x10.trans x11).sqS hw1.1) (Mi.of l11 trivial)
    have hD12 : H12 D = some (.lst ((L.filter fun e => sureB W (len - i) e.1).map fun e => V.int (e.1 : Nat))) := by
      rw [← eH12, upd_ne nDl]
      exact hD11
    have f12 : H12 li = some (.frz od2 (.dK (kvD L))) := by
      rw [← eH12]
      exact upd_same
    have d12 : H12 bd = some (.dK []) := by
      rw [← eH12, upd_ne nlb.symm]
      exact upd_same
    have nDb : D ≠ bd := fun z => by
      rw [z, d12] at hD12
      cases hD12
    have dB : ∀ b ∈ [bd], ∀ u, H12 b = some u → Ml u := fun b hb u e => Ml.of d12 trivial u (by rw [← List.mem_singleton.mp hb]; exact e)
    have dB2 : ∀ b ∈ [bd], ∀ u, H12 b = some u → Mi u := fun b hb u e => Mi.of d12 trivial u (by rw [← List.mem_singleton.mp hb]; exact e)
    refine for_it (n := (kvD L).length) walk_items (fun j σ H' => ∃ u10 u11 u12 u13, σ = [some (.ref a), some (.ref b), some (.int (len : Nat)), some (.ref la), some (.ref F), some (.ref li), some (.int (Od.sumTo ws W.k : Nat)), some (.int (0 + (i : Int))), some (.ref D), some (.ref bd), u10, u11, u12, u13] ∧ Exb Z [bd] H12 H' ∧
      DkAt H' bd (((L.take j).filter fun e => !sureB W (len - i) e.1).foldl (fun acc e => heavier1 W ws none e acc) [])) ⟨_, _, _, _, rfl, Exb.refl _, d12⟩
      (fun j σ H' _ ⟨_, _, _, _, _, x, _⟩ => x.frzb (fun z => nlb (List.mem_singleton.mp z)) f12) (fun j x σ H13 H14 hj ⟨u10, u11, u12, u13, hσ, x13, d13⟩ hy => ?_) fun σ H13 ⟨u10, u11, u12, u13, hσ, x13, d13⟩ => ?_
    · subst hσ
      obtain ⟨t, y1, y2, rfl, nt, rfl, hy1, hy2⟩ := hy
      rw [kvD_len] at hj
      obtain ⟨e, he⟩ : ∃ e, L[j]? = some e := ⟨L[j], List.getElem?_eq_getElem hj⟩
      have hem := List.mem_of_getElem? he
      obtain ⟨rfl, rfl⟩ := items_get he hy1 hy2
      have hep := gL.lt e hem
      refine ⟨_, _, rfl, SqT.of upd_same, rfl, _, _, rfl, _, _, rfl, rfl, ?_⟩
      have x14 : Exb Z [bd] H12 (upd H13 t (.tup [.int (e.1 : Nat), .int (e.2 : Nat)])) := x13.trans (Exb.new nt)
      have d14 : DkAt (upd H13 t (.tup [.int (e.1 : Nat), .int (e.2 : Nat)])) bd _ := (Ex.new nt (Z := Z)).dk d13
      generalize upd H13 t (.tup [.int (e.1 : Nat), .int (e.2 : Nat)]) = H14 at x14 d14
      have hin : inV (.int (e.1 : Nat)) ((L.filter fun e => sureB W (len - i) e.1).map fun e => V.int (e.1 : Nat)) = sureB W (len - i) e.1 := by
        unfold inV
        rw [List.any_map]
        cases hsu : sureB W (len - i) e.1 with
        | true => exact List.any_eq_true.mpr ⟨e, List.mem_filter.mpr ⟨hem, hsu⟩, by show ((e.1 : Int) == (e.1 : Int)) = true; simp⟩
        | false =>
          rw [List.any_eq_false]
          intro y hy hyk
          have h1 : ((y.1 : Int) == (e.1 : Int)) = true := hyk
          have h2 : y.1 = e.1 := by
            have := eq_of_beq h1
            omega
          have h3 := (List.mem_filter.mp hy).2
          rw [h2, hsu] at h3
          cases h3
      cases hsu : sureB W (len - i) e.1 with
      | true =>
        refine ⟨_, rfl, _, rfl, D, _, rfl, .inl (SqL.of (x14.lstb (fun z => nDb (List.mem_singleton.mp z)) hD12)), rfl, by rw [List.all_map]; exact List.all_eq_true.mpr fun _ _ => rfl, false, ?_, ?_⟩
        · show V.bl (!inV _ _) = _
          rw [hin, hsu]
          rfl
        · refine ⟨_, _, _, _, rfl, x14, ?_⟩
          rw [filter_take (fun e : Nat × Nat => !sureB W (len - i) e.1) _ he, if_neg (by rw [hsu]; decide)]
          exact d14
      | false =>
        refine ⟨_, rfl, _, rfl, D, _, rfl, .inl (SqL.of (x14.lstb (fun z => nDb (List.mem_singleton.mp z)) hD12)), rfl, by rw [List.all_map]; exact List.all_eq_true.mpr fun _ _ => rfl, true, ?_, ?_⟩
        · show V.bl (!inV _ _) = _
          rw [hin, hsu]
          rfl
        have hW14 := hW12.exb x14 dB
        obtain ⟨dx, _, _, _, e1, _⟩ := id hW14
        refine ⟨_, rfl, a, dx, _, rfl, e1, a, W, rfl, hW14, fun m rs h2 h3 h4 => ?_⟩
        obtain ⟨r, hr0⟩ : ∃ r, rs[e.1]? = some r := ⟨rs[e.1]'(by omega), List.getElem?_eq_getElem (by omega)⟩
        refine ⟨_, rfl, ixT h2 (v := .ref r) (by rw [List.getElem?_map, hr0]; rfl) ?_⟩
        refine ⟨r, _, rfl, .inr (h4 _ _ hr0), fun J G wk hG => ?_⟩
        rw [lineV_len] at wk
        generalize hacc : ((L.take j).filter fun e => !sureB W (len - i) e.1).foldl (fun acc e => heavier1 W ws none e acc) [] = acc0 at d14
        have g0 : Od.Good W.n acc0 := by
          rw [← hacc]
          exact heavier_good_from ok hw0 (fun c e => by cases e) _ [] (fun x hx => by
            have hx2 := List.mem_of_mem_take (List.mem_filter.mp hx).1
            exact ⟨gL.lt x hx2, gL.ps x hx2⟩) (good_nil _)
        refine for_it wk (fun c σ H' => ∃ u12 u13, σ = [some (.ref a), some (.ref b), some (.int (len : Nat)), some (.ref la), some (.ref F), some (.ref li), some (.int (Od.sumTo ws W.k : Nat)), some (.int (0 + (i : Int))), some (.ref D), some (.ref bd), some (.int (e.1 : Nat)), some (.int (e.2 : Nat)), u12, u13] ∧ Exb Z [bd] H14 H' ∧
          DkAt H' bd (((List.range W.k).take c).foldl (fun acc c => bump acc (W.mv e.1 c) (e.2 * ws c)) acc0)) ⟨_, _, rfl, Exb.refl _, d14⟩ (fun c σ H' _ ⟨_, _, _, x, _⟩ => hG Z [bd] H' (fun z u q => by rw [List.mem_singleton.mp z, show H14 bd = _ from d14] at q; rw [← Option.some.inj q]; trivial) x)
          (fun c x σ H15 H16 hc ⟨u12, u13, hσ, x15, d15⟩ hy => ?_) fun σ H15 ⟨u12, u13, hσ, x15, d15⟩ => ?_
        · subst hσ
          obtain ⟨t2, z1, z2, rfl, nt2, rfl, hz1, hz2⟩ := hy
          obtain rfl := Option.some.inj hz1
          obtain ⟨hck, rfl⟩ := lineV_get hz2
          refine ⟨_, _, rfl, SqT.of upd_same, rfl, _, _, rfl, _, _, rfl, rfl, ?_⟩
          have x16 : Exb Z [bd] H14 (upd H15 t2 (.tup [.int (c : Nat), .int (W.mv e.1 c : Nat)])) := x15.trans (Exb.new nt2)
          have d16 : DkAt (upd H15 t2 (.tup [.int (c : Nat), .int (W.mv e.1 c : Nat)])) bd _ := (Ex.new nt2 (Z := Z)).dk d15
          generalize upd H15 t2 (.tup [.int (c : Nat), .int (W.mv e.1 c : Nat)]) = H16 at x16 d16
          have gacc : Od.Good W.n (((List.range W.k).take c).foldl (fun acc c => bump acc (W.mv e.1 c) (e.2 * ws c)) acc0) :=
            fold_bump_good _ _ _ _ (fun c hc => by
              have hc2 := List.mem_range.mp (List.mem_of_mem_take hc)
              exact ⟨ok.mv _ hep _ hc2, Nat.mul_pos (gL.ps e hem) (hw0 c hc2)⟩) g0
          have hlen := good_len gacc
          have hbe : e.2 < 2 ^ 6601 := by
            refine Nat.lt_of_le_of_lt (mem_le_T hem) ?_
            rw [← hL]
            exact Nat.lt_of_le_of_lt (line_le len i) (pow_lt (sumTo_lt ok hws) (by omega))
          have hmul2 : ((e.2 : Nat) : Int) * ((ws c : Nat) : Int) = ((e.2 * ws c : Nat) : Int) := by rw [← Int.natCast_mul]
          refine ⟨_, rfl, bd, rfl, .inl ⟨_, .inl d16⟩, _, rfl, _, DGet.k (k := Sum.inl (W.mv e.1 c : Int)) d16, _, rfl, _, rfl, _, rfl, ixS (hw12.exb (x14.trans x16) dB2) (lineV_at hck) ?_⟩
          refine ⟨_, _, rfl, rfl, wide_mul (a := 6601) (b := 20) ?_ ?_ (by decide) (by decide) (by decide), _, _, kvD_getD _ _, rfl, _, rfl, _, rfl, bd, _, rfl, DPut.k (k := Sum.inl (W.mv e.1 c : Int)) d16 (by rw [kvD_len]; exact Nat.lt_of_le_of_lt hlen (Nat.lt_of_le_of_lt n6 (by decide))), _, _, rfl, ?_, ?_⟩
          · rw [Int.natAbs_natCast]
            exact hbe
          · rw [Int.natAbs_natCast]
            have := (hws c hck).2
            omega
          · exact x16.mut (.inl (by simp)) (Mb.of d16 trivial)
          · rw [foldl_take _ _ _ (List.getElem?_range hck)]
            show upd H16 bd (.dK (putK (kvD _) (Sum.inl (W.mv e.1 c : Int)) (V.int (((_ : Nat) : Int) + (((e.2 : Nat) : Int) * ((ws c : Nat) : Int)))))) bd = _
            rw [hmul2, ← Int.natCast_add, kvD_put]
            exact upd_same
        · subst hσ
          rw [List.take_of_length_le (by simp)] at d15
          refine ⟨_, _, _, _, rfl, x14.trans x15, ?_⟩
          rw [filter_take (fun e : Nat × Nat => !sureB W (len - i) e.1) _ he, if_pos (by rw [hsu]; rfl), List.foldl_append, hacc]
          exact d15
    · subst hσ
      rw [kvD_len, List.take_of_length_le (Nat.le_refl _)] at d13
      have ff := x13.frzb (fun z => nlb (List.mem_singleton.mp z)) f12
      have x14 : Ex Z H10 (upd H13 li (.dK (kvD L))) := Exb.unb x11 nbd (Exb.locked trivial l11 (by rw [eH12]; exact x13) ff)
      refine ⟨ff, _, rfl, bd, _, _, _, _, _, _, _, rfl, x10.trans x14, x14.lst hF10, ?_⟩
      show upd H13 li _ bd = _
      rw [upd_ne nlb.symm]
      show H13 bd = some (.dK (kvD (heavier W ws ((lineD W ws len i).filter fun e => !sureB W (len - i) e.1) none)))
      rw [hL]
      exact d13
  · subst hσ
    refine ⟨_, rfl, _, rfl, _, rfl, Od.sumTo ws W.k, len, rfl, sumTo_lt ok hws, by omega, by show 2 ≤ sizeLine; decide, fun p np => ?_⟩
    exact hq p F _ ((x1.trans x5).trans (Exb.new np)) upd_same ((Ex.new np (Z := Z)).lst hF5)
end
end K62
/-! ==== M62d ==== -/
namespace Od
/-- the greatest number and its first verdict -/
def gm (m : Nat → Nat) : Nat := max (max (m 0) (m 1)) (max (m 2) (m 3))
def gw (m : Nat → Nat) : Nat := ((keysOf m).find? fun v => decide (m v = gm m)).getD 0
theorem lt4 {v : Nat} (h : v < 4) : v = 0 ∨ v = 1 ∨ v = 2 ∨ v = 3 := by omega
theorem le_gm {m : Nat → Nat} {v : Nat} (h : v < 4) : m v ≤ gm m := by
  unfold gm
  rcases lt4 h with rfl | rfl | rfl | rfl <;> omega
theorem gm_at (m : Nat → Nat) : ∃ v, v < 4 ∧ m v = gm m := by
  unfold gm
  by_cases h1 : m 1 ≤ m 0 <;> by_cases h2 : m 3 ≤ m 2 <;> by_cases h3 : max (m 2) (m 3) ≤ max (m 0) (m 1)
  · exact ⟨0, by omega, by omega⟩
  · exact ⟨2, by omega, by omega⟩
  · exact ⟨0, by omega, by omega⟩
  · exact ⟨3, by omega, by omega⟩
  · exact ⟨1, by omega, by omega⟩
  · exact ⟨2, by omega, by omega⟩
  · exact ⟨1, by omega, by omega⟩
  · exact ⟨3, by omega, by omega⟩
theorem gm_unique {m : Nat → Nat} {x : Int} (h1 : ∃ v ∈ keysOf m, ((m v : Nat) : Int) = x) (h2 : ∀ v ∈ keysOf m, ((m v : Nat) : Int) ≤ x) : x = ((gm m : Nat) : Int) := by
  obtain ⟨v, hv, rfl⟩ := h1
  obtain ⟨u, hu, e⟩ := gm_at m
  have a1 := le_gm (m := m) (mem_keysOf.mp hv).1
  by_cases z : m u = 0
  · omega
  · have := h2 u (mem_keysOf.mpr ⟨hu, z⟩)
    omega
theorem gm_mem {m : Nat → Nat} (h : keysOf m ≠ []) : ∃ v ∈ keysOf m, m v = gm m := by
  obtain ⟨u, hu, e⟩ := gm_at m
  by_cases z : m u = 0
  · obtain ⟨v, hv⟩ := List.exists_mem_of_ne_nil _ h
    have := mem_keysOf.mp hv
    have := le_gm (m := m) this.1
    omega
  · exact ⟨u, mem_keysOf.mpr ⟨hu, z⟩, e⟩
theorem gw_head {m : Nat → Nat} (h : keysOf m ≠ []) : ((keysOf m).filter fun v => decide (m v = gm m))[0]? = some (gw m) := by
  have e : ∀ (q : Nat → Bool) (l : List Nat), (l.filter q)[0]? = l.find? q := by
    intro q l
    induction l with
    | nil => rfl
    | cons a r ih =>
      rw [List.filter_cons, List.find?_cons]
      by_cases hq : q a = true
      · rw [if_pos hq, hq]
        rfl
      · rw [if_neg hq, ih]
        cases hq2 : q a
        · rfl
        · exact absurd hq2 hq
  rw [e]
  obtain ⟨v, hv, hm⟩ := gm_mem h
  unfold gw
  cases q : (keysOf m).find? fun v => decide (m v = gm m) with
  | none =>
    have := List.find?_eq_none.mp q v hv
    simp [hm] at this
  | some x => rfl
theorem keysOf_mul {m : Nat → Nat} {t : Nat} (ht : 0 < t) : keysOf (fun v => t * m v) = keysOf m := by
  unfold keysOf
  congr 1
  funext v
  by_cases h : m v = 0
  · simp [h]
  · have : ¬ t * m v = 0 := Nat.mul_ne_zero (by omega) h
    rw [decide_eq_true this, decide_eq_true h]
theorem gm_mul {m : Nat → Nat} {t : Nat} : gm (fun v => t * m v) = t * gm m := by
  unfold gm
  rw [Nat.mul_max_mul_left, Nat.mul_max_mul_left, Nat.mul_max_mul_left]
theorem gw_mul {m : Nat → Nat} {t : Nat} (ht : 0 < t) : gw (fun v => t * m v) = gw m := by
  unfold gw
  rw [keysOf_mul ht, gm_mul]
  congr 2
  funext v
  by_cases h : m v = gm m
  · rw [decide_eq_true h, decide_eq_true (show t * m v = t * gm m by rw [h])]
  · have : ¬ t * m v = t * gm m := fun z => h (Nat.eq_of_mul_eq_mul_left ht z)
    rw [decide_eq_false this, decide_eq_false h]
section
variable {W : Wt} {ws : Nat → Nat}
theorem keysOf_M (ok : W.Ok) (hw : ∀ c < W.k, 0 < ws c) {s : Row} (hs : Row.Ok W.k s) : keysOf (M W ws s) ≠ [] := by
  have h1 : T (wordsD W (numbers W ws s)) (fun _ => 1) = whole ws W.k s := by rw [wordsD_T, numbers_total]
  have h2 := whole_pos ok.k1 hw s
  cases q : wordsD W (numbers W ws s) with
  | nil =>
    rw [q, T_nil] at h1
    omega
  | cons e r =>
    have gd := wordsD_good ok (numbers_good ok hw hs)
    have he : (e.1, e.2) ∈ wordsD W (numbers W ws s) := by
      rw [q]
      exact List.mem_cons_self
    have hg := mem_get gd.nd he
    rw [words_get ok hw hs] at hg
    intro z
    have : e.1 ∈ keysOf (M W ws s) := mem_keysOf.mpr ⟨gd.lt _ he, fun y => by rw [if_pos y] at hg; cases hg⟩
    rw [z] at this
    cases this
theorem M_le (ok : W.Ok) (s : Row) (v : Nat) : M W ws s v ≤ whole ws W.k s := by
  have h : T (numbers W ws s) (ind W v) ≤ T (numbers W ws s) (fun _ => 1) := T_le fun p => by
    unfold ind
    split <;> omega
  rw [numbers_T, numbers_total] at h
  exact h
theorem gm_le (ok : W.Ok) (s : Row) : gm (M W ws s) ≤ whole ws W.k s := by
  obtain ⟨v, _, e⟩ := gm_at (M W ws s)
  rw [← e]
  exact M_le ok s v
/-- the row with a place known -/
def kn (s : Row) (p c : Nat) : Row := s.set p (some c)
theorem kn_len (s : Row) (p c : Nat) : (kn s p c).length = s.length := List.length_set ..
theorem kn_ok {k : Nat} {s : Row} {p c : Nat} (h : Row.Ok k s) (hc : c < k) : Row.Ok k (kn s p c) := fun d hd => by
  rcases List.mem_or_eq_of_mem_set hd with h1 | h1
  · exact h d h1
  · rw [Option.some.inj h1]
    exact hc
theorem unk_kn (s : Row) (p c d : Nat) : unk (kn s p c) = unk (kn s p d) := by
  unfold kn
  induction s generalizing p with
  | nil => rfl
  | cons a r ih =>
    cases p with
    | zero => rw [List.set_cons_zero, List.set_cons_zero, unk_cons, unk_cons]; rfl
    | succ p => rw [List.set_cons_succ, List.set_cons_succ, unk_cons, unk_cons, ih p]
theorem whole_kn (k : Nat) (s : Row) (p c d : Nat) : whole ws k (kn s p c) = whole ws k (kn s p d) := by
  unfold whole
  rw [unk_kn s p c d]
def gtop (W : Wt) (ws : Nat → Nat) (s : Row) (p n : Nat) : Nat := sumTo (fun c => ws c * gm (M W ws (kn s p c))) n
def guessF (W : Wt) (ws : Nat → Nat) (s : Row) (p : Nat) : Nat × Nat := frac (gtop W ws s p W.k) (whole ws W.k (kn s p 0) * sumTo ws W.k)
theorem sumTo_succ (f : Nat → Nat) (n : Nat) : sumTo f (n + 1) = sumTo f n + f n := by
  unfold sumTo
  rw [List.range_succ, List.map_append, List.sum_append]
  simp
theorem sumTo_le2 {f g : Nat → Nat} : ∀ {n : Nat}, (∀ c < n, f c ≤ g c) → sumTo f n ≤ sumTo g n
  | 0, _ => Nat.le_refl _
  | n + 1, h => by
    rw [sumTo_succ, sumTo_succ]
    have := sumTo_le2 (n := n) fun c hc => h c (by omega)
    have := h n (by omega)
    omega
theorem sumTo_mulr (f : Nat → Nat) (b : Nat) : ∀ n, sumTo (fun c => f c * b) n = sumTo f n * b
  | 0 => by simp [sumTo]
  | n + 1 => by rw [sumTo_succ, sumTo_succ, sumTo_mulr f b n, Nat.add_mul]
theorem sumTo_mull (f : Nat → Nat) (b : Nat) (n : Nat) : sumTo (fun c => b * f c) n = b * sumTo f n := sum_mul_leftF b f _
theorem sumTo_congr {f g : Nat → Nat} {n : Nat} (h : ∀ c < n, f c = g c) : sumTo f n = sumTo g n := by
  unfold sumTo
  congr 1
  exact List.map_congr_left fun c hc => h c (List.mem_range.mp hc)
theorem gtop_le (ok : W.Ok) (s : Row) (p : Nat) {n : Nat} : gtop W ws s p n ≤ sumTo ws n * whole ws W.k (kn s p 0) := by
  unfold gtop
  rw [← sumTo_mulr]
  refine sumTo_le2 fun c _ => Nat.mul_le_mul_left _ ?_
  rw [whole_kn W.k s p 0 c]
  exact gm_le ok _
theorem M_times_fun (t : Nat) (s : Row) : M W (times t ws) s = fun v => t ^ unk s * M W ws s v := funext fun v => M_times s v
theorem guessF_times {t : Nat} (ht : 0 < t) (hk : 1 ≤ W.k) (hw : ∀ c < W.k, 0 < ws c) (s : Row) (p : Nat) : guessF W (times t ws) s p = guessF W ws s p := by
  unfold guessF
  have e1 : gtop W (times t ws) s p W.k = (t ^ unk (kn s p 0) * t) * gtop W ws s p W.k := by
    unfold gtop
    rw [← sumTo_mull]
    refine sumTo_congr fun c _ => ?_
    rw [M_times_fun, gm_mul, unk_kn s p c 0]
    show t * ws c * _ = _
    simp [Nat.mul_comm, Nat.mul_left_comm, Nat.mul_assoc]
  rw [e1, whole_times, sumTo_times, show t ^ unk (kn s p 0) * whole ws W.k (kn s p 0) * (t * sumTo ws W.k) = (t ^ unk (kn s p 0) * t) * (whole ws W.k (kn s p 0) * sumTo ws W.k) by simp [Nat.mul_comm, Nat.mul_left_comm, Nat.mul_assoc]]
  exact frac_scale (Nat.mul_pos (whole_pos hk hw _) (sumTo_pos hk hw)) (Nat.mul_pos (Nat.pow_pos ht) ht)
end
def above (a b : Nat × Nat) : Bool := decide (b.1 * a.2 < a.1 * b.2)
def mtStep (W : Wt) (ws : Nat → Nat) (s : Row) (found : Option (Nat × (Nat × Nat))) (p : Nat) : Option (Nat × (Nat × Nat)) :=
  if s[p]? = some none then (match found with
    | none => some (p, guessF W ws s p)
    | some (q, f) => if above (guessF W ws s p) f = true then some (p, guessF W ws s p) else some (q, f)) else found
def mt (W : Wt) (ws : Nat → Nat) (s : Row) (n : Nat) : Option (Nat × (Nat × Nat)) := (List.range n).foldl (mtStep W ws s) none
theorem mt_succ (W : Wt) (ws : Nat → Nat) (s : Row) (n : Nat) : mt W ws s (n + 1) = mtStep W ws s (mt W ws s n) n := by
  unfold mt
  rw [List.range_succ, List.foldl_append]
  rfl
theorem mt_times {W : Wt} {ws : Nat → Nat} {t : Nat} (ht : 0 < t) (hk : 1 ≤ W.k) (hw : ∀ c < W.k, 0 < ws c) (s : Row) : ∀ n, mt W (times t ws) s n = mt W ws s n
  | 0 => rfl
  | n + 1 => by
    rw [mt_succ, mt_succ, mt_times ht hk hw s n]
    unfold mtStep
    rw [guessF_times ht hk hw]
theorem gw_M_times {W : Wt} {ws : Nat → Nat} {t : Nat} (ht : 0 < t) (s : Row) : gw (M W (times t ws) s) = gw (M W ws s) := by
  rw [M_times_fun]
  exact gw_mul (Nat.pow_pos ht)
end Od
/-! ==== B62l ==== -/
namespace K62
open PySem PySem.Spec PyProof.Rows L2 Fx Od
section
variable {P : Program} {w : World} {K : PySem.W.Frag} {mg : Str → Option Value} {base : Heap} {C : Addr} {Z : List (Addr × Str)}
/-! ### need_timed, sure_times, mean_sure -/
def spNeedTimed (K : PySem.W.Frag) (Z : List (Addr × Str)) (C : Addr) : Sp := fun vs H Q _ => ∃ a b W ws len, vs = [.ref a, .ref b, .int (len : Nat)] ∧ WatchAt K C H a W ∧ W.Ok ∧ WsAt K H b W.k ws ∧ len ≤ 40 ∧ ∀ H', Ex Z H H' → Q .non H'
theorem sc_need_timed : FnScope ["watch", "weights", "length"] ["watch", "weights", "length"] (defScope s_need_timed) := ⟨rfl, rfl, rfl, by decide +kernel, rfl, by decide +kernel, by decide +kernel⟩
theorem need_timed_ok (T : Txt K mg C) (D : Df K mg "need_timed" s_need_timed []) (c_need_watch : C8.Cal P w K mg base 1 "need_watch" (spNeedWatch C) [.non]) (c_need_weights : C8.Cal P w K mg base 3 "need_weights" (spNeedWeights K Z C) []) (c_is_between : C8.Cal P w K mg base 2 "is_between" spBetween []) : C8.Cal P w K mg base 4 "need_timed" (spNeedTimed K Z C) [] := by
  refine D.cal (k := 3) sc_need_timed (by intro kV doc pm an cdv ct us h; match us, h with | [_, _, _], _ => rfl) (by rintro _ _ _ _ ⟨_, _, _, _, _, rfl, _⟩; rfl) ?_
  rintro f cdv A outer s H _ Q E hr ⟨a, b, W, ws, len, rfl, hW, ok, hw, hl, hq⟩
  obtain ⟨dx, _, _, _, e1, _⟩ := id hW
  refine ⟨_, (pss_cons (ps_expr (C8.pe_c c_need_watch hr (by decide) (by rfl) (pa_cons (pv 0) pa_nil)))
      (pss_cons (ps_expr (C8.pe_c c_need_weights hr (by decide) (by rfl) (pa_cons (pv 0) (pa_cons (pv 1) pa_nil))))
      (pss_one (ps_if (pt_not (pt_val (C8.pe_c c_is_between hr (by decide) (by rfl) (pa_cons (pv 2) (pa_cons pe_int (pa_cons (C8.pe_gc (by rfl) T.c_MOST_LENGTH) pa_nil)))))) (pss_one ps_never) pss_nil)))), ?_⟩
  refine ⟨_, rfl, a, dx, _, rfl, e1, _, rfl, _, rfl, a, b, W, ws, rfl, hW, ok, hw.1, hw.2, fun H1 x1 => ?_⟩
  exact ⟨_, rfl, _, _, _, rfl, by omega, by omega, true, rfl, hq _ x1⟩
/-- a tuple of fractions -/
def TfAt (H : Hp) (p : Addr) (fs : List (Nat × Nat)) : Prop := ∃ l : List Addr, H p = some (.tup (l.map V.ref)) ∧ l.length = fs.length ∧ ∀ (i : Nat) (a : Addr), l[i]? = some a → ∃ f, fs[i]? = some f ∧ FracAt H a f
theorem TfAt.ex {H H' : Hp} {p : Addr} {fs : List (Nat × Nat)} (x : Ex Z H H') (h : TfAt H p fs) : TfAt H' p fs := by
  obtain ⟨l, h1, h2, h3⟩ := h
  exact ⟨l, x.tup h1, h2, fun i a e => (h3 i a e).imp fun f q => ⟨q.1, q.2.ex x⟩⟩
def spSureTimes (K : PySem.W.Frag) (Z : List (Addr × Str)) (C : Addr) : Sp := fun vs H Q _ => ∃ a b W ws len, vs = [.ref a, .ref b, .int (len : Nat)] ∧ WatchAt K C H a W ∧ W.Ok ∧ WsAt K H b W.k ws ∧ len ≤ 40 ∧
  ∀ p H', Ex Z H H' → TfAt H' p ((List.range (len + 1)).map fun i => frac (foundN W ws len i) (Od.sumTo ws W.k ^ len)) → Q (.ref p) H'
theorem range_get {n i : Nat} {f : Nat → V} {v : V} (h : ((List.range n).map f)[i]? = some v) : i < n ∧ v = f i := by
  rw [List.getElem?_map] at h
  by_cases hi : i < n
  · rw [List.getElem?_range hi] at h
    exact ⟨hi, (Option.some.inj h).symm⟩
  · rw [List.getElem?_eq_none (by simp; omega)] at h
    cases h
def meanN (W : Wt) (ws : Nat → Nat) (len : Nat) : Nat × Nat := frac (Od.sumTo (fun i => i * foundN W ws len i) (len + 1)) (Od.sumTo ws W.k ^ len)
def spMean (K : PySem.W.Frag) (Z : List (Addr × Str)) (C : Addr) : Sp := fun vs H Q _ => ∃ a b W ws len, vs = [.ref a, .ref b, .int (len : Nat)] ∧ WatchAt K C H a W ∧ W.Ok ∧ WsAt K H b W.k ws ∧ len ≤ 40 ∧ ∀ p H', Ex Z H H' → FracAt H' p (meanN W ws len) → Q (.ref p) H'
theorem sc_mean_sure : FnScope ["watch", "weights", "length", "found", "whole", "ticks", "many"] ["watch", "weights", "length"] (defScope s_mean_sure) := ⟨rfl, rfl, rfl, by decide +kernel, rfl, by decide +kernel, by decide +kernel⟩
theorem mean_sure_ok (T : Txt K mg C) (D : Df K mg "mean_sure" s_mean_sure []) (c_need_timed : C8.Cal P w K mg base 4 "need_timed" (spNeedTimed K Z C) []) (c_sure_at : C8.Cal P w K mg base 4 "sure_at" (spSureAt K Z C) []) (c_fraction_of : C8.Cal P w K mg base 2 "fraction_of" (spFraction Z) []) : C8.Cal P w K mg base 5 "mean_sure" (spMean K Z C) [] := by
  refine D.cal (k := 4) sc_mean_sure (by intro kV doc pm an cdv ct us h; match us, h with | [_, _, _], _ => rfl) (by rintro _ _ _ _ ⟨_, _, _, _, _, rfl, _⟩; rfl) ?_
  rintro f cdv A outer s H _ Q E hr ⟨a, b, W, ws, len, rfl, hW, ok, hw, hl, hq⟩
  have hws := hw.2
  have wl : Od.sumTo ws W.k ^ len < 2 ^ 6601 := pow_lt (sumTo_lt ok hws) (by omega)
  have w0 : 0 < Od.sumTo ws W.k ^ len := Nat.pow_pos (sumTo_pos ok.k1 fun c h => (hws c h).1)
  refine ⟨_, (pss_cons (ps_expr (C8.pe_c c_need_timed hr (by decide) (by rfl) (pa_cons (pv 0) (pa_cons (pv 1) (pa_cons (pv 2) pa_nil)))))
      (pss_cons (ps_asg (C8.pe_c c_sure_at hr (by decide) (by rfl) (pa_cons (pv 0) (pa_cons (pv 1) (pa_cons (pv 2) pa_nil)))) (pg_tupK (K := K) (n := 2) rfl rfl (pgs_cons (pg_name (i := 3) sc_mean_sure.nd rfl (by first | exact Or.inl rfl | exact Or.inr rfl)) (pgs_cons (pg_name (i := 4) sc_mean_sure.nd rfl (by first | exact Or.inl rfl | exact Or.inr rfl)) pgs_nil))))
      (pss_one (ps_ret (C8.pe_c c_fraction_of hr (by decide) (by rfl) (pa_cons (pe_callB (sumK (K := K) rfl rfl) (by rfl) T.sum bt_sum (pa_cons (pe_lc (own := [("ticks", 5), ("many", 6)]) rfl sc_mean_sure.nd (pi_enumW (by rfl) T.enumerate (pa_cons (pv 3) pa_nil)) (blkOk_by (own := [("ticks", 5), ("many", 6)]) (N := ["watch", "weights", "length", "found", "whole", "ticks", "many"]) (sc := defScope s_mean_sure) (by decide +kernel)) (fun _ _ _ _ _ => (pg_tupK (K := K) (n := 2) rfl rfl (pgs_cons (pg_name (i := 5) sc_mean_sure.nd rfl (by first | exact Or.inl rfl | exact Or.inr rfl)) (pgs_cons (pg_name (i := 6) sc_mean_sure.nd rfl (by first | exact Or.inl rfl | exact Or.inr rfl)) pgs_nil)))) (fun _ _ _ _ _ => pts_nil) (fun _ _ _ _ _ => (pe_op op_mulW (pv 5) (pv 6)))) pa_nil)) (pa_cons (pv 4) pa_nil))))))), ?_⟩
  refine ⟨_, rfl, _, rfl, _, rfl, a, b, W, ws, len, rfl, hW, ok, hw, hl, fun H1 x1 => ?_⟩
  refine ⟨_, rfl, _, rfl, _, rfl, a, b, W, ws, len, rfl, hW.ex x1, ok, hw.ex x1, hl, fun p F H2 x2 hp hF => ?_⟩
  refine ⟨_, _, rfl, SqT.of hp, rfl, _, _, rfl, _, _, rfl, rfl, ?_⟩
  refine ⟨_, rfl, F, _, rfl, .inl (SqL.of hF), fun J G wk hG D hD => ?_⟩
  rw [List.length_map, List.length_range] at wk
  refine lcE (B := []) (Z := Z) wk hD (hG Z [] · (by simp)) (by omega) (fun i acc H => acc = (List.range i).map fun j => V.int (j * foundN W ws len j : Nat)) rfl (fun i acc x H3 H4 hi x3 ha hla hpi hy => ?_) fun acc H3 x3 ha hpi => ?_
  · obtain ⟨t, z1, z2, rfl, nt, rfl, hz1, hz2⟩ := hy
    obtain rfl := Option.some.inj hz1
    obtain ⟨hi2, rfl⟩ := range_get hz2
    refine ⟨_, _, rfl, SqT.of upd_same, rfl, _, _, rfl, _, _, rfl, rfl, rfl, ?_⟩
    refine ⟨_, rfl, _, rfl, _, _, rfl, rfl, wide_mul (a := 6) (b := 6601) ?_ ?_ (by decide) (by decide) (by decide), LcP.put x3 hD ha (by simp) hla (by omega) (Exb.new nt) ?_⟩
    · rw [Int.natAbs_natCast]
      exact Nat.lt_of_le_of_lt (show i ≤ 40 by omega) (by decide)
    · rw [Int.natAbs_natCast]
      exact Nat.lt_of_le_of_lt (found_le len i (by omega)) wl
    · rw [hpi, List.range_succ, List.map_append]
      show _ ++ [V.int (((i : Nat) : Int) * ((foundN W ws len i : Nat) : Int))] = _
      rw [← Int.natCast_mul]
      rfl
  · subst hpi
    refine ⟨D, (List.range (len + 1)).map fun c => ((c * foundN W ws len c : Nat) : Int), rfl, .inl (SqL.of (by rw [ha, List.map_map]; rfl)), ?_⟩
    rw [sumTo_cast]
    exact ⟨_, rfl, _, _, rfl, w0, lt9000 wl, fun q H4 x4 hq4 => hq q _ (((x1.trans x2).trans x3).trans x4) hq4⟩
end
end K62
/-! ==== M62e ==== -/
namespace Od
/-- one lap of Euclid's: the product falls to its half -/
theorem lap_half {x y : Nat} (hxy : y < x) (hy : 0 < y) : y * (x % y) * 2 ≤ x * y := by
  have h1 := Nat.mod_lt x hy
  have h2 : x % y + y ≤ x := by
    have := Nat.div_add_mod x y
    have hq : 1 ≤ x / y := (Nat.le_div_iff_mul_le hy).mpr (by omega)
    have : y * 1 ≤ y * (x / y) := Nat.mul_le_mul_left y hq
    omega
  have h3 : (x % y) * 2 ≤ x := by omega
  have h4 := Nat.mul_le_mul_left y h3
  rw [Nat.mul_comm x y, Nat.mul_assoc]
  exact h4
def sumF (fs : List (Nat × Nat)) : Nat × Nat := fs.foldl (fun t f => (t.1 * f.2 + f.1 * t.2, t.2 * f.2)) (0, 1)
theorem sumF_snoc (fs : List (Nat × Nat)) (f : Nat × Nat) : sumF (fs ++ [f]) = ((sumF fs).1 * f.2 + f.1 * (sumF fs).2, (sumF fs).2 * f.2) := by
  unfold sumF
  rw [List.foldl_append]
  rfl
theorem sumF_pos {fs : List (Nat × Nat)} (h : ∀ f ∈ fs, 0 < f.2) : 0 < (sumF fs).2 := by
  have go : ∀ (fs : List (Nat × Nat)) (t : Nat × Nat), (∀ f ∈ fs, 0 < f.2) → 0 < t.2 → 0 < (fs.foldl (fun t f => (t.1 * f.2 + f.1 * t.2, t.2 * f.2)) t).2 := by
    intro fs
    induction fs with
    | nil => intro t _ ht; exact ht
    | cons f r ih => intro t hf ht; exact ih _ (fun x hx => hf x (List.mem_cons_of_mem _ hx)) (Nat.mul_pos ht (hf f List.mem_cons_self))
  exact go fs _ h (by decide)
/-- of at most two -/
theorem sumF_lt {fs : List (Nat × Nat)} {b : Nat} (hl : fs.length ≤ 2) (h : ∀ f ∈ fs, f.1 < 2 ^ b ∧ f.2 < 2 ^ b) : (sumF fs).1 < 2 ^ (b + b + 2) ∧ (sumF fs).2 < 2 ^ (b + b + 2) := by
  have e0 : (1 : Nat) ≤ 2 ^ b := Nat.one_le_two_pow
  have e2 : (2 : Nat) ^ (b + b + 2) = 2 ^ b * 2 ^ b * 4 := by rw [Nat.pow_add, Nat.pow_add]
  have e3 : 2 ^ b ≤ 2 ^ b * 2 ^ b := Nat.le_mul_of_pos_left _ (by omega)
  match fs, hl, h with
  | [], _, _ =>
    show 0 < _ ∧ 1 < _
    rw [e2]
    omega
  | [f], _, h =>
    have := h f List.mem_cons_self
    show 0 * f.2 + f.1 * 1 < _ ∧ 1 * f.2 < _
    rw [e2]
    omega
  | [f, g], _, h =>
    have h1 := h f List.mem_cons_self
    have h2 := h g (List.mem_cons_of_mem _ List.mem_cons_self)
    show (0 * f.2 + f.1 * 1) * g.2 + g.1 * (1 * f.2) < _ ∧ 1 * f.2 * g.2 < _
    have a1 : f.1 * g.2 ≤ 2 ^ b * 2 ^ b := Nat.mul_le_mul (Nat.le_of_lt h1.1) (Nat.le_of_lt h2.2)
    have a2 : g.1 * f.2 ≤ 2 ^ b * 2 ^ b := Nat.mul_le_mul (Nat.le_of_lt h2.1) (Nat.le_of_lt h1.2)
    have a3 : f.2 * g.2 ≤ 2 ^ b * 2 ^ b := Nat.mul_le_mul (Nat.le_of_lt h1.2) (Nat.le_of_lt h2.2)
    rw [e2]
    simp only [Nat.zero_mul, Nat.zero_add, Nat.mul_one, Nat.one_mul]
    omega
  | _ :: _ :: _ :: _, hl, _ => simp at hl
end Od
/-! ==== M64 ==== -/
/-! The plain law of k64: sure places, likely reasons, the cheapest reasons, beginnings. No program in sight. -/
namespace Od
section
variable {W : Wt} {ws : Nat → Nat}
/-- the place that a row leads to -/
def led (W : Wt) (p : Nat) (row : List Nat) : Nat := row.foldl (fun p c => W.mv p c) p
def goalsB (W : Wt) (item : Option Nat) (p q : Nat) : Bool := (kindsOf W.k item).any fun c => decide (W.mv p c = q)
def stepS (W : Wt) (S : List Nat) (item : Option Nat) : List Nat := (List.range W.n).filter fun q => S.any fun p => goalsB W item p q
def ledS (W : Wt) (s : Row) : List Nat := s.foldl (stepS W) [0]
/-- all places of a set say one verdict -/
def OneW (W : Wt) (S : List Nat) : Prop := (insA [] (S.map W.wd)).length = 1
theorem goalsB_iff {item : Option Nat} {p q : Nat} : goalsB W item p q = true ↔ ∃ c ∈ kindsOf W.k item, W.mv p c = q := by simp [goalsB]
theorem mem_stepS {S : List Nat} {item : Option Nat} {q : Nat} : q ∈ stepS W S item ↔ q < W.n ∧ ∃ p ∈ S, ∃ c ∈ kindsOf W.k item, W.mv p c = q := by
  simp only [stepS, List.mem_filter, List.mem_range, List.any_eq_true, goalsB_iff]
theorem stepS_lt {S : List Nat} {item : Option Nat} : ∀ q ∈ stepS W S item, q < W.n := fun q h => (mem_stepS.mp h).1
/-- from p a shown row may lead to q -/
def Reach (W : Wt) : Row → Nat → Nat → Prop
  | [], p, q => p = q
  | i :: r, p, q => ∃ c ∈ kindsOf W.k i, Reach W r (W.mv p c) q
theorem mem_fold_stepS (ok : W.Ok) {q : Nat} : ∀ {s : Row} {S : List Nat}, Row.Ok W.k s → (∀ p ∈ S, p < W.n) → (q ∈ s.foldl (stepS W) S ↔ ∃ p ∈ S, Reach W s p q)
  | [], S, _, _ => by simp [Reach]
  | i :: r, S, hs, h => by
    have hr : Row.Ok W.k r := fun c hc => hs c (List.mem_cons_of_mem _ hc)
    have hi : ∀ c ∈ kindsOf W.k i, c < W.k := kindsOf_lt fun c e => hs c (by rw [e]; exact List.mem_cons_self)
    rw [List.foldl_cons, mem_fold_stepS ok hr stepS_lt]
    constructor
    · rintro ⟨p, hp, h2⟩
      obtain ⟨_, p0, hp0, c, hc, rfl⟩ := mem_stepS.mp hp
      exact ⟨p0, hp0, c, hc, h2⟩
    · rintro ⟨p, hp, c, hc, h2⟩
      exact ⟨_, mem_stepS.mpr ⟨ok.mv p (h p hp) c (hi c hc), p, hp, c, hc, rfl⟩, h2⟩
theorem mem_ledS (ok : W.Ok) {s : Row} (hs : Row.Ok W.k s) {q : Nat} : q ∈ ledS W s ↔ Reach W s 0 q := by
  rw [ledS, mem_fold_stepS ok hs (fun p hp => by rw [List.mem_singleton.mp hp]; exact ok.n1)]
  simp
theorem one_iff {l : List Nat} (nd : l.Nodup) {v : Nat} (hv : v ∈ l) : l.length = 1 ↔ ∀ x ∈ l, x = v := by
  constructor
  · intro h x hx
    match l, h with
    | [a], _ =>
      rw [List.mem_singleton.mp hx, List.mem_singleton.mp hv]
  · intro h
    match l, nd, hv with
    | [a], _, _ => rfl
    | a :: b :: r, nd, _ =>
      have e1 := h a (by simp)
      have e2 := h b (by simp)
      rw [e1, e2] at nd
      simp at nd
theorem OneW_iff {S : List Nat} {v : Nat} (hv : ∃ p ∈ S, W.wd p = v) : OneW W S ↔ ∀ p ∈ S, W.wd p = v := by
  have e : ∀ x, x ∈ insA [] (S.map W.wd) ↔ ∃ p ∈ S, W.wd p = x := fun x => by rw [mem_insA]; simp
  unfold OneW
  rw [one_iff (insA_nodup List.nodup_nil) ((e v).mpr hv)]
  constructor
  · exact fun h p hp => h _ ((e _).mpr ⟨p, hp, rfl⟩)
  · intro h x hx
    obtain ⟨p, hp, rfl⟩ := (e x).mp hx
    exact h p hp
/-! ### odds that are whole -/
theorem sum_le_all {f g w : Nat → Nat} : ∀ {l : List Nat}, (∀ c ∈ l, f c ≤ g c) → (l.map fun c => w c * f c).sum ≤ (l.map fun c => w c * g c).sum
  | [], _ => Nat.le_refl _
  | c :: r, h => by
    simp only [List.map_cons, List.sum_cons]
    exact Nat.add_le_add (Nat.mul_le_mul_left _ (h c List.mem_cons_self)) (sum_le_all fun d hd => h d (List.mem_cons_of_mem _ hd))
theorem sum_eq_all {f g w : Nat → Nat} : ∀ {l : List Nat}, (∀ c ∈ l, f c ≤ g c) → (∀ c ∈ l, 0 < w c) → ((l.map fun c => w c * f c).sum = (l.map fun c => w c * g c).sum ↔ ∀ c ∈ l, f c = g c)
  | [], _, _ => by simp
  | c :: r, h, hw => by
    have h1 : w c * f c ≤ w c * g c := Nat.mul_le_mul_left _ (h c List.mem_cons_self)
    have h2 := sum_le_all (w := w) fun d hd => h d (List.mem_cons_of_mem c hd)
    have ih := sum_eq_all (w := w) (fun d hd => h d (List.mem_cons_of_mem c hd)) fun d hd => hw d (List.mem_cons_of_mem c hd)
    simp only [List.map_cons, List.sum_cons, List.mem_cons, forall_eq_or_imp]
    rw [← ih]
    constructor
    · intro e
      refine ⟨Nat.eq_of_mul_eq_mul_left (hw c List.mem_cons_self) (by omega), by omega⟩
    · rintro ⟨e1, e2⟩
      rw [e1, e2]
theorem B_le {g h : Nat → Nat} (z : ∀ p, g p ≤ h p) : ∀ (s : Row) (p : Nat), B W ws s g p ≤ B W ws s h p
  | [], p => z p
  | i :: r, p => sum_le_all (w := wOf ws i) (f := fun c => B W ws r g (W.mv p c)) (g := fun c => B W ws r h (W.mv p c)) fun c _ => B_le z r _
theorem B_eq_iff {g h : Nat → Nat} (z : ∀ p, g p ≤ h p) (hw : ∀ c < W.k, 0 < ws c) : ∀ {s : Row} {p : Nat}, Row.Ok W.k s → (B W ws s g p = B W ws s h p ↔ ∀ q, Reach W s p q → g q = h q)
  | [], p, _ => by simp [B, Reach]
  | i :: r, p, hs => by
    have hr : Row.Ok W.k r := fun c hc => hs c (List.mem_cons_of_mem _ hc)
    show A W ws i (B W ws r g) p = A W ws i (B W ws r h) p ↔ _
    unfold A
    rw [sum_eq_all (w := wOf ws i) (f := fun c => B W ws r g (W.mv p c)) (g := fun c => B W ws r h (W.mv p c)) (fun c _ => B_le z r _) (wOf_pos hw fun c e => hs c (by rw [e]; exact List.mem_cons_self))]
    constructor
    · rintro h1 q ⟨c, hc, h2⟩
      exact (B_eq_iff z hw hr).mp (h1 c hc) q h2
    · intro h1 c hc
      exact (B_eq_iff z hw hr).mpr fun q hq => h1 q ⟨c, hc, hq⟩
theorem M_whole_iff (ok : W.Ok) (hw : ∀ c < W.k, 0 < ws c) {s : Row} (hs : Row.Ok W.k s) {v : Nat} : whole ws W.k s ≤ M W ws s v ↔ ∀ q ∈ ledS W s, W.wd q = v := by
  have e1 : whole ws W.k s = B W ws s (fun _ => 1) 0 := by rw [B_one]
  have z : ∀ p, ind W v p ≤ 1 := fun p => by unfold ind; split <;> decide
  have h1 := B_le (W := W) (ws := ws) (h := fun _ => 1) z s 0
  have h2 := B_eq_iff (W := W) (ws := ws) (h := fun _ => 1) z hw (p := 0) hs
  unfold M
  rw [e1]
  constructor
  · intro h q hq
    have := h2.mp (Nat.le_antisymm h1 h) q ((mem_ledS ok hs).mp hq)
    unfold ind at this
    by_cases e : W.wd q = v
    · exact e
    · rw [if_neg e] at this
      cases this
  · intro h
    refine Nat.le_of_eq (h2.mpr fun q hq => ?_).symm
    exact if_pos (h q ((mem_ledS ok hs).mpr hq))
/-! ### rows some events of which are shown -/
inductive Hide : List Nat → Row → Nat → Prop
  | nil : Hide [] [] 0
  | show_ {c : Nat} {row : List Nat} {s : Row} {m : Nat} (h : Hide row s m) : Hide (c :: row) (some c :: s) (m + 1)
  | hide {c : Nat} {row : List Nat} {s : Row} {m : Nat} (h : Hide row s m) : Hide (c :: row) (none :: s) m
theorem Hide.len {row : List Nat} {s : Row} {m : Nat} (h : Hide row s m) : s.length = row.length := by
  induction h with
  | nil => rfl
  | show_ _ ih => simp [ih]
  | hide _ ih => simp [ih]
theorem Hide.le {row : List Nat} {s : Row} {m : Nat} (h : Hide row s m) : m ≤ row.length := by
  induction h with
  | nil => exact Nat.le_refl _
  | show_ _ ih => simp; omega
  | hide _ ih => simp; omega
theorem Hide.ok {k : Nat} {row : List Nat} {s : Row} {m : Nat} (h : Hide row s m) (hr : ∀ c ∈ row, c < k) : Row.Ok k s := by
  induction h with
  | nil => intro c hc; cases hc
  | @show_ a row s m _ ih =>
    intro c hc
    rcases List.mem_cons.mp hc with e | hc
    · rw [Option.some.inj e]
      exact hr a List.mem_cons_self
    · exact ih (fun d hd => hr d (List.mem_cons_of_mem _ hd)) c hc
  | @hide a row s m _ ih =>
    intro c hc
    rcases List.mem_cons.mp hc with e | hc
    · cases e
    · exact ih (fun d hd => hr d (List.mem_cons_of_mem _ hd)) c hc
theorem Hide.snocS {row : List Nat} {s : Row} {m c : Nat} (h : Hide row s m) : Hide (row ++ [c]) (s ++ [some c]) (m + 1) := by
  induction h with
  | nil => exact .show_ .nil
  | show_ _ ih => exact .show_ ih
  | hide _ ih => exact .hide ih
theorem Hide.snocH {row : List Nat} {s : Row} {m c : Nat} (h : Hide row s m) : Hide (row ++ [c]) (s ++ [none]) m := by
  induction h with
  | nil => exact .hide .nil
  | show_ _ ih => exact .show_ ih
  | hide _ ih => exact .hide ih
theorem Hide.snoc {c : Nat} : ∀ {row : List Nat} {s : Row} {m : Nat}, Hide (row ++ [c]) s m → ∃ r, (∃ m', m = m' + 1 ∧ s = r ++ [some c] ∧ Hide row r m') ∨ (s = r ++ [none] ∧ Hide row r m)
  | [], _, _, h => by
    cases h with
    | show_ h =>
      cases h
      exact ⟨[], .inl ⟨0, rfl, rfl, .nil⟩⟩
    | hide h =>
      cases h
      exact ⟨[], .inr ⟨rfl, .nil⟩⟩
  | a :: row, _, _, h => by
    cases h with
    | show_ h =>
      obtain ⟨r, ⟨m', rfl, rfl, h2⟩ | ⟨rfl, h2⟩⟩ := Hide.snoc h
      · exact ⟨some a :: r, .inl ⟨_, rfl, rfl, .show_ h2⟩⟩
      · exact ⟨some a :: r, .inr ⟨rfl, .show_ h2⟩⟩
    | hide h =>
      obtain ⟨r, ⟨m', rfl, rfl, h2⟩ | ⟨rfl, h2⟩⟩ := Hide.snoc h
      · exact ⟨none :: r, .inl ⟨_, rfl, rfl, .hide h2⟩⟩
      · exact ⟨none :: r, .inr ⟨rfl, .hide h2⟩⟩
theorem Hide.all : ∀ row : List Nat, Hide row (row.map some) row.length
  | [] => .nil
  | _ :: r => .show_ (Hide.all r)
theorem Hide.none_ : ∀ row : List Nat, Hide row (List.replicate row.length none) 0
  | [] => .nil
  | _ :: r => .hide (Hide.none_ r)
theorem Hide.zero : ∀ {row : List Nat} {s : Row}, Hide row s 0 → s = List.replicate row.length none
  | [], _, .nil => rfl
  | _ :: _, _, .hide h => by rw [Hide.zero h]; rfl
/-- the row with its first events shown -/
def beginS (row : List Nat) (t : Nat) : Row := (row.take t).map some ++ List.replicate (row.length - t) none
theorem Hide.begin : ∀ (row : List Nat) (t : Nat), t ≤ row.length → Hide row (beginS row t) t
  | row, 0, _ => by
    have := Hide.none_ row
    simpa [beginS] using this
  | c :: row, t + 1, h => by
    have e : beginS (c :: row) (t + 1) = some c :: beginS row t := by simp [beginS]
    rw [e]
    exact .show_ (Hide.begin row t (by simpa using h))
theorem Hide.reach (W : Wt) {row : List Nat} {s : Row} {m : Nat} (h : Hide row s m) (hr : ∀ c ∈ row, c < W.k) : ∀ p, Reach W s p (led W p row) := by
  induction h with
  | nil => intro p; rfl
  | @show_ a row s m _ ih =>
    intro p
    exact ⟨a, List.mem_singleton.mpr rfl, ih (fun d hd => hr d (List.mem_cons_of_mem _ hd)) _⟩
  | @hide a row s m _ ih =>
    intro p
    exact ⟨a, List.mem_range.mpr (hr a List.mem_cons_self), ih (fun d hd => hr d (List.mem_cons_of_mem _ hd)) _⟩
theorem led_lt (ok : W.Ok) : ∀ {row : List Nat} {p : Nat}, (∀ c ∈ row, c < W.k) → p < W.n → led W p row < W.n
  | [], _, _, h => h
  | c :: r, p, hr, h => led_lt (row := r) ok (fun d hd => hr d (List.mem_cons_of_mem _ hd)) (ok.mv p h c (hr c List.mem_cons_self))
/-! ### likely reasons -/
def Lk (W : Wt) (ws : Nat → Nat) (row : List Nat) (sh : Nat × Nat) (s : Row) : Prop := sh.1 * whole ws W.k s ≤ M W ws s (W.wd (led W 0 row)) * sh.2
/-- m is the fewest places of a likely reason -/
def Size (W : Wt) (ws : Nat → Nat) (row : List Nat) (sh : Nat × Nat) (m : Nat) : Prop := (∃ s, Hide row s m ∧ Lk W ws row sh s) ∧ ∀ m' s, m' < m → Hide row s m' → ¬ Lk W ws row sh s
theorem Size.uniq {row : List Nat} {sh : Nat × Nat} {m m' : Nat} (h : Size W ws row sh m) (h' : Size W ws row sh m') : m = m' := by
  obtain ⟨⟨s, a, b⟩, c⟩ := h
  obtain ⟨⟨s', a', b'⟩, c'⟩ := h'
  rcases Nat.lt_trichotomy m m' with z | z | z
  · exact absurd b (c' m s z a)
  · exact z
  · exact absurd b' (c m' s' z a')
theorem Lk.mono {row : List Nat} {sh th : Nat × Nat} (hp : 0 < th.2) (h : sh.1 * th.2 ≤ th.1 * sh.2) {s : Row} (q : Lk W ws row th s) : Lk W ws row sh s := by
  unfold Lk at q ⊢
  refine Nat.le_of_mul_le_mul_right ?_ hp
  calc sh.1 * whole ws W.k s * th.2 = (sh.1 * th.2) * whole ws W.k s := by rw [Nat.mul_right_comm]
    _ ≤ (th.1 * sh.2) * whole ws W.k s := Nat.mul_le_mul_right _ h
    _ = (th.1 * whole ws W.k s) * sh.2 := by rw [Nat.mul_right_comm]
    _ ≤ (M W ws s (W.wd (led W 0 row)) * th.2) * sh.2 := Nat.mul_le_mul_right _ q
    _ = M W ws s (W.wd (led W 0 row)) * sh.2 * th.2 := by rw [Nat.mul_right_comm]
theorem Size.mono {row : List Nat} {sh th : Nat × Nat} (hp : 0 < th.2) (h : sh.1 * th.2 ≤ th.1 * sh.2) {m m' : Nat} (x : Size W ws row sh m) (y : Size W ws row th m') : m ≤ m' := by
  obtain ⟨⟨s', a', b'⟩, _⟩ := y
  rcases Nat.lt_or_ge m' m with z | z
  · exact absurd (b'.mono hp h) (x.2 m' s' z a')
  · exact z
theorem Size.zero_iff {row : List Nat} {sh : Nat × Nat} {m : Nat} (x : Size W ws row sh m) : m = 0 ↔ Lk W ws row sh (List.replicate row.length none) := by
  constructor
  · rintro rfl
    obtain ⟨⟨s, a, b⟩, _⟩ := x
    rw [Hide.zero a] at b
    exact b
  · intro h
    rcases Nat.eq_zero_or_pos m with z | z
    · exact z
    · exact absurd h (x.2 0 _ z (Hide.none_ row))
/-- the last try: all places shown -/
theorem Lk.all (ok : W.Ok) (hw : ∀ c < W.k, 0 < ws c) {row : List Nat} (hr : ∀ c ∈ row, c < W.k) {sh : Nat × Nat} (h : sh.1 ≤ sh.2) : Lk W ws row sh (row.map some) := by
  have hh := Hide.all row
  have hs := hh.ok hr
  have e : ∀ (r : List Nat) (p : Nat) (g : Nat → Nat), B W ws (r.map some) g p = g (led W p r) := by
    intro r
    induction r with
    | nil => intro p g; rfl
    | cons c r ih =>
      intro p g
      show A W ws (some c) (B W ws (r.map some) g) p = _
      rw [A_some, ih]
      rfl
  have e1 : whole ws W.k (row.map some) = 1 := by
    rw [← congrFun (B_one (W := W) (ws := ws) (row.map some)) 0, e]
  have e2 : M W ws (row.map some) (W.wd (led W 0 row)) = 1 := by
    unfold M
    rw [e]
    exact if_pos rfl
  unfold Lk
  rw [e1, e2]
  omega
theorem M_led_pos (ok : W.Ok) (hw : ∀ c < W.k, 0 < ws c) {row : List Nat} (hr : ∀ c ∈ row, c < W.k) {s : Row} {m : Nat} (h : Hide row s m) : 0 < M W ws s (W.wd (led W 0 row)) := by
  have hs := h.ok hr
  rcases Nat.eq_zero_or_pos (M W ws s (W.wd (led W 0 row))) with z | z
  · have e1 : B W ws s (fun _ => 0) 0 = 0 := by
      have : ∀ (s : Row) (p : Nat), B W ws s (fun _ => 0) p = 0 := by
        intro s
        induction s with
        | nil => intro p; rfl
        | cons i r ih =>
          intro p
          show A W ws i (B W ws r fun _ => 0) p = 0
          unfold A
          rw [show (fun c => wOf ws i c * B W ws r (fun _ => 0) (W.mv p c)) = fun c => 0 * c from funext fun c => by rw [ih]; simp]
          rw [sum_mul_leftF 0 (fun c => c)]
          simp
      exact this s 0
    have h2 := (B_eq_iff (W := W) (ws := ws) (g := fun _ => 0) (h := ind W (W.wd (led W 0 row))) (fun p => Nat.zero_le _) hw (p := 0) hs).mp (by rw [e1]; exact z.symm) _ (h.reach W hr 0)
    have h2 : 0 = ind W (W.wd (led W 0 row)) (led W 0 row) := h2
    unfold ind at h2
    rw [if_pos rfl] at h2
    cases h2
  · exact z
/-! ### the cheapest reason -/
theorem Lk_one (ok : W.Ok) (hw : ∀ c < W.k, 0 < ws c) {row : List Nat} (hr : ∀ c ∈ row, c < W.k) {s : Row} {m : Nat} (h : Hide row s m) : Lk W ws row (1, 1) s ↔ OneW W (ledS W s) := by
  have hs := h.ok hr
  rw [OneW_iff ⟨_, (mem_ledS ok hs).mpr (h.reach W hr 0), rfl⟩, ← M_whole_iff ok hw hs]
  unfold Lk
  rw [Nat.one_mul, Nat.mul_one]
def Cheap (W : Wt) (row : List Nat) (m : Nat) : Prop := (∃ s, Hide row s m ∧ OneW W (ledS W s)) ∧ ∀ m' s, m' < m → Hide row s m' → ¬ OneW W (ledS W s)
theorem Size.cheap (ok : W.Ok) (hw : ∀ c < W.k, 0 < ws c) {row : List Nat} (hr : ∀ c ∈ row, c < W.k) {m m' : Nat} (x : Size W ws row (1, 1) m) (y : Cheap W row m') : m = m' := by
  refine x.uniq ⟨?_, fun k s hk h q => y.2 k s hk h ((Lk_one ok hw hr h).mp q)⟩
  obtain ⟨⟨s, a, b⟩, _⟩ := y
  exact ⟨s, a, (Lk_one ok hw hr a).mpr b⟩
theorem Cheap.le {row : List Nat} {m t : Nat} (x : Cheap W row m) (ht : t ≤ row.length) (h : OneW W (ledS W (beginS row t))) : m ≤ t := by
  rcases Nat.lt_or_ge t m with z | z
  · exact absurd h (x.2 t _ z (Hide.begin row t ht))
  · exact z
/-- sets with the least price for each -/
abbrev SpD := List (List Nat × Nat)
def offer (D : SpD) (S : List Nat) (c : Nat) : SpD := if S ∈ D.map (·.1) then D.map (fun e => if e.1 = S ∧ c < e.2 then (S, c) else e) else D ++ [(S, c)]
theorem offer_mem {D : SpD} {S : List Nat} {c : Nat} {e : List Nat × Nat} (h : e ∈ offer D S c) : e = (S, c) ∨ e ∈ D := by
  unfold offer at h
  split at h
  · obtain ⟨a, ha, rfl⟩ := List.mem_map.mp h
    split
    · exact .inl rfl
    · exact .inr ha
  · rcases List.mem_append.mp h with h | h
    · exact .inr h
    · exact .inl (List.mem_singleton.mp h)
theorem offer_has {D : SpD} {S : List Nat} {c : Nat} : ∃ c', c' ≤ c ∧ (S, c') ∈ offer D S c := by
  unfold offer
  split
  · rename_i h
    obtain ⟨a, ha, e⟩ := List.mem_map.mp h
    by_cases z : c < a.2
    · exact ⟨c, Nat.le_refl _, List.mem_map.mpr ⟨a, ha, if_pos ⟨e, z⟩⟩⟩
    · refine ⟨a.2, by omega, List.mem_map.mpr ⟨a, ha, ?_⟩⟩
      rw [if_neg fun y => z y.2, ← e]
  · exact ⟨c, Nat.le_refl _, by simp⟩
theorem offer_keep {D : SpD} {S : List Nat} {c : Nat} {e : List Nat × Nat} (h : e ∈ D) : ∃ c', c' ≤ e.2 ∧ (e.1, c') ∈ offer D S c := by
  unfold offer
  split
  · by_cases z : e.1 = S ∧ c < e.2
    · refine ⟨c, by omega, List.mem_map.mpr ⟨e, h, ?_⟩⟩
      rw [if_pos z, z.1]
    · exact ⟨e.2, Nat.le_refl _, List.mem_map.mpr ⟨e, h, if_neg z⟩⟩
  · exact ⟨e.2, Nat.le_refl _, List.mem_append.mpr (.inl h)⟩
theorem offer_len (D : SpD) (S : List Nat) (c : Nat) : (offer D S c).length ≤ D.length + 1 := by
  unfold offer
  split <;> simp
theorem offer_nd {D : SpD} {S : List Nat} {c : Nat} (h : (D.map (·.1)).Nodup) : ((offer D S c).map (·.1)).Nodup := by
  unfold offer
  split
  · rw [List.map_map]
    rw [show ((fun e : List Nat × Nat => e.1) ∘ fun e : List Nat × Nat => if e.1 = S ∧ c < e.2 then (S, c) else e) = fun e => e.1 from funext fun e => by
      show (if e.1 = S ∧ c < e.2 then (S, c) else e).1 = e.1
      split
      · rename_i z
        exact z.1.symm
      · rfl]
    exact h
  · rename_i z
    rw [List.map_append, List.nodup_append]
    refine ⟨h, by simp, fun a ha b hb => ?_⟩
    rw [show b = S by simpa using hb]
    rintro rfl
    exact z ha
def paid1 (W : Wt) (kind : Nat) (B : SpD) (e : List Nat × Nat) : SpD := offer (offer B (stepS W e.1 (some kind)) (e.2 + 1)) (stepS W e.1 none) e.2
def paidOn (W : Wt) (D : SpD) (kind : Nat) : SpD := D.foldl (paid1 W kind) []
def paidD (W : Wt) (row : List Nat) : SpD := row.foldl (paidOn W) [([0], 0)]
theorem paid_fold_len (kind : Nat) : ∀ (D B : SpD), (D.foldl (paid1 W kind) B).length ≤ B.length + 2 * D.length
  | [], B => by simp
  | e :: r, B => by
    rw [List.foldl_cons]
    have h1 := paid_fold_len kind r (paid1 W kind B e)
    have h2 := offer_len (offer B (stepS W e.1 (some kind)) (e.2 + 1)) (stepS W e.1 none) e.2
    have h3 := offer_len B (stepS W e.1 (some kind)) (e.2 + 1)
    have h4 : (paid1 W kind B e).length ≤ B.length + 2 := by
      unfold paid1
      omega
    simp only [List.length_cons]
    omega
theorem paidD_len (row : List Nat) : (paidD W row).length ≤ 2 ^ row.length := by
  unfold paidD
  have : ∀ (row : List Nat) (D : SpD), (row.foldl (paidOn W) D).length ≤ 2 ^ row.length * D.length := by
    intro row
    induction row with
    | nil => intro D; simp
    | cons c r ih =>
      intro D
      rw [List.foldl_cons]
      refine Nat.le_trans (ih _) ?_
      have := paid_fold_len (W := W) c D []
      have h2 : (paidOn W D c).length ≤ 2 * D.length := by
        unfold paidOn
        simpa using this
      calc 2 ^ r.length * (paidOn W D c).length ≤ 2 ^ r.length * (2 * D.length) := Nat.mul_le_mul_left _ h2
        _ = 2 ^ (c :: r).length * D.length := by rw [List.length_cons, Nat.pow_succ, Nat.mul_assoc]
  have h := this row [([0], 0)]
  simpa using h
theorem paid_fold_nd (kind : Nat) : ∀ (D B : SpD), (B.map (·.1)).Nodup → ((D.foldl (paid1 W kind) B).map (·.1)).Nodup
  | [], _, h => h
  | e :: r, B, h => paid_fold_nd kind r _ (offer_nd (offer_nd h))
/-- what a dict of sets and prices is worth, behind a row -/
structure Due (W : Wt) (row : List Nat) (D : SpD) : Prop where
  sound : ∀ e ∈ D, ∃ s, Hide row s e.2 ∧ ledS W s = e.1
  compl : ∀ s m, Hide row s m → ∃ c, c ≤ m ∧ (ledS W s, c) ∈ D
  nd : (D.map (·.1)).Nodup
theorem ledS_snoc (s : Row) (i : Option Nat) : ledS W (s ++ [i]) = stepS W (ledS W s) i := by simp [ledS]
theorem Due.step {row : List Nat} {D : SpD} (x : Due W row D) (c : Nat) : Due W (row ++ [c]) (paidOn W D c) := by
  have key : ∀ (L B : SpD), (∀ e ∈ L, ∃ s, Hide row s e.2 ∧ ledS W s = e.1) → (∀ e ∈ B, ∃ s, Hide (row ++ [c]) s e.2 ∧ ledS W s = e.1) →
      (∀ e ∈ L.foldl (paid1 W c) B, ∃ s, Hide (row ++ [c]) s e.2 ∧ ledS W s = e.1) ∧ (∀ e ∈ B, ∃ d, d ≤ e.2 ∧ (e.1, d) ∈ L.foldl (paid1 W c) B) ∧
      ∀ e ∈ L, (∃ d, d ≤ e.2 + 1 ∧ (stepS W e.1 (some c), d) ∈ L.foldl (paid1 W c) B) ∧ ∃ d, d ≤ e.2 ∧ (stepS W e.1 none, d) ∈ L.foldl (paid1 W c) B := by
    intro L
    induction L with
    | nil => exact fun B _ hB => ⟨hB, fun e he => ⟨e.2, Nat.le_refl _, he⟩, fun e he => by cases he⟩
    | cons a r ih =>
      intro B hL hB
      obtain ⟨s, h1, h2⟩ := hL a List.mem_cons_self
      have hB2 : ∀ e ∈ paid1 W c B a, ∃ s, Hide (row ++ [c]) s e.2 ∧ ledS W s = e.1 := by
        intro e he
        rcases offer_mem he with rfl | he
        · exact ⟨s ++ [none], h1.snocH, by rw [ledS_snoc, h2]⟩
        · rcases offer_mem he with rfl | he
          · exact ⟨s ++ [some c], h1.snocS, by rw [ledS_snoc, h2]⟩
          · exact hB e he
      obtain ⟨i1, i2, i3⟩ := ih _ (fun e he => hL e (List.mem_cons_of_mem _ he)) hB2
      refine ⟨i1, fun e he => ?_, fun e he => ?_⟩
      · obtain ⟨d1, l1, m1⟩ := offer_keep (S := stepS W a.1 (some c)) (c := a.2 + 1) he
        obtain ⟨d2, l2, m2⟩ := offer_keep (S := stepS W a.1 none) (c := a.2) m1
        obtain ⟨d3, l3, m3⟩ := i2 _ m2
        exact ⟨d3, by simp only at l2 l3; omega, m3⟩
      · rcases List.mem_cons.mp he with rfl | he
        · constructor
          · obtain ⟨d1, l1, m1⟩ := offer_has (D := B) (S := stepS W e.1 (some c)) (c := e.2 + 1)
            obtain ⟨d2, l2, m2⟩ := offer_keep (S := stepS W e.1 none) (c := e.2) m1
            obtain ⟨d3, l3, m3⟩ := i2 _ m2
            exact ⟨d3, by simp only at l2 l3; omega, m3⟩
          · obtain ⟨d2, l2, m2⟩ := offer_has (D := offer B (stepS W e.1 (some c)) (e.2 + 1)) (S := stepS W e.1 none) (c := e.2)
            obtain ⟨d3, l3, m3⟩ := i2 _ m2
            exact ⟨d3, by simp only at l3; omega, m3⟩
        · exact i3 e he
  obtain ⟨k1, _, k3⟩ := key D [] x.sound (fun e he => by cases he)
  refine ⟨k1, fun s m h => ?_, paid_fold_nd c D [] (by simp)⟩
  obtain ⟨r, ⟨m', rfl, rfl, h2⟩ | ⟨rfl, h2⟩⟩ := h.snoc
  · obtain ⟨c', l, hm⟩ := x.compl _ _ h2
    obtain ⟨⟨d, l2, m2⟩, _⟩ := k3 _ hm
    rw [ledS_snoc]
    exact ⟨d, by simp only at l2; omega, m2⟩
  · obtain ⟨c', l, hm⟩ := x.compl _ _ h2
    obtain ⟨_, d, l2, m2⟩ := k3 _ hm
    rw [ledS_snoc]
    exact ⟨d, by simp only at l2; omega, m2⟩
theorem due_all (row : List Nat) : Due W row (paidD W row) := by
  have : ∀ (row r : List Nat) (D : SpD), Due W r D → Due W (r ++ row) (row.foldl (paidOn W) D) := by
    intro row
    induction row with
    | nil => intro r D h; simpa using h
    | cons c l ih =>
      intro r D h
      have := ih (r ++ [c]) _ (h.step c)
      rw [List.append_assoc] at this
      exact this
  refine this row [] _ ⟨fun e he => ?_, fun s m h => ?_, by simp⟩
  · rw [List.mem_singleton.mp he]
    exact ⟨[], .nil, rfl⟩
  · cases h
    exact ⟨0, Nat.le_refl _, by simp [ledS]⟩
theorem Due.cheap {row : List Nat} {D : SpD} (x : Due W row D) {m : Nat} (h1 : ∃ e ∈ D, OneW W e.1 ∧ e.2 = m) (h2 : ∀ e ∈ D, OneW W e.1 → m ≤ e.2) : Cheap W row m := by
  constructor
  · obtain ⟨e, he, ho, rfl⟩ := h1
    obtain ⟨s, h, q⟩ := x.sound e he
    exact ⟨s, h, by rw [q]; exact ho⟩
  · intro m' s hm h ho
    obtain ⟨c, l, q⟩ := x.compl s m' h
    have := h2 _ q ho
    simp only at this
    omega
/-! ### beginnings that make sure -/
theorem reach_none (W : Wt) : ∀ (t p q : Nat), Reach W (List.replicate t none) p q ↔ ∃ r, r.length = t ∧ (∀ c ∈ r, c < W.k) ∧ led W p r = q
  | 0, p, q => by
    constructor
    · rintro rfl
      exact ⟨[], rfl, by simp, rfl⟩
    · rintro ⟨r, h, _, e⟩
      rw [List.length_eq_zero_iff.mp h] at e
      exact e
  | t + 1, p, q => by
    show (∃ c ∈ kindsOf W.k none, Reach W (List.replicate t none) (W.mv p c) q) ↔ _
    constructor
    · rintro ⟨c, hc, h⟩
      obtain ⟨r, h1, h2, h3⟩ := (reach_none W t _ q).mp h
      exact ⟨c :: r, by simp [h1], fun d hd => (List.mem_cons.mp hd).elim (fun e => e ▸ List.mem_range.mp hc) (h2 d), h3⟩
    · rintro ⟨r, h1, h2, h3⟩
      match r, h1 with
      | c :: r, h1 =>
        exact ⟨c, List.mem_range.mpr (h2 c List.mem_cons_self), (reach_none W t _ q).mpr ⟨r, by simpa using h1, fun d hd => h2 d (List.mem_cons_of_mem _ hd), h3⟩⟩
theorem mem_LW {W : Wt} {x : Nat} : ∀ {t p : Nat}, x ∈ LW W t p ↔ ∃ q, Reach W (List.replicate t none) p q ∧ W.wd q = x
  | 0, p => by
    show x ∈ [W.wd p] ↔ _
    simp only [List.mem_singleton, List.replicate_zero, Reach]
    constructor
    · rintro rfl
      exact ⟨p, rfl, rfl⟩
    · rintro ⟨q, rfl, rfl⟩
      rfl
  | t + 1, p => by
    show x ∈ (List.range W.k).foldl (fun l c => insA l (LW W t (W.mv p c))) [] ↔ _
    rw [mem_foldA]
    simp only [List.not_mem_nil, false_or]
    constructor
    · rintro ⟨c, hc, h⟩
      obtain ⟨q, h1, h2⟩ := mem_LW.mp h
      exact ⟨q, ⟨c, hc, h1⟩, h2⟩
    · rintro ⟨q, ⟨c, hc, h1⟩, h2⟩
      exact ⟨c, hc, mem_LW.mpr ⟨q, h1, h2⟩⟩
theorem reach_app (W : Wt) (r : List Nat) (s : Row) : ∀ {p q : Nat}, Reach W (r.map some ++ s) p q ↔ Reach W s (led W p r) q := by
  induction r with
  | nil => intro p q; rfl
  | cons c r ih =>
    intro p q
    show (∃ d ∈ [c], Reach W (r.map some ++ s) (W.mv p d) q) ↔ _
    simp only [List.mem_singleton, exists_eq_left]
    rw [ih]
    rfl
theorem sure_begin (ok : W.Ok) {row : List Nat} (hr : ∀ c ∈ row, c < W.k) {t : Nat} (ht : t ≤ row.length) : OneW W (ledS W (beginS row t)) ↔ sureB W (row.length - t) (led W 0 (row.take t)) = true := by
  have hh := Hide.begin row t ht
  have hs := hh.ok hr
  have hm : ∀ q, q ∈ ledS W (beginS row t) ↔ Reach W (List.replicate (row.length - t) none) (led W 0 (row.take t)) q := fun q => by
    rw [mem_ledS ok hs]
    exact reach_app W _ _
  have hreach := (hm _).mp ((mem_ledS ok hs).mpr (hh.reach W hr 0))
  rw [OneW_iff ⟨_, (hm _).mpr hreach, rfl⟩]
  unfold sureB
  rw [decide_eq_true_iff, one_iff (LW_nodup W _ _) (mem_LW.mpr ⟨_, hreach, rfl⟩)]
  constructor
  · intro h x hx
    obtain ⟨q, h1, rfl⟩ := mem_LW.mp hx
    exact h q ((hm q).mpr h1)
  · intro h p hp
    exact h _ (mem_LW.mpr ⟨p, (hm p).mp hp, rfl⟩)
/-- how many events make a row sure, begun at a place -/
def tk (W : Wt) : Nat → List Nat → Nat
  | _, [] => 0
  | p, c :: r => if sureB W (r.length + 1) p = true then 0 else 1 + tk W (W.mv p c) r
theorem tk_le : ∀ (row : List Nat) (p : Nat), tk W p row ≤ row.length
  | [], _ => Nat.le_refl _
  | c :: r, p => by
    unfold tk
    have := tk_le r (W.mv p c)
    split
    · exact Nat.zero_le _
    · simp only [List.length_cons]
      omega
theorem tk_sure : ∀ (row : List Nat) (p : Nat), sureB W (row.length - tk W p row) (led W p (row.take (tk W p row))) = true
  | [], p => by simp [tk, sureB, LW]
  | c :: r, p => by
    unfold tk
    split
    · rename_i h
      simpa [led] using h
    · have := tk_sure r (W.mv p c)
      have e : (c :: r).length - (1 + tk W (W.mv p c) r) = r.length - tk W (W.mv p c) r := by
        simp only [List.length_cons]
        omega
      rw [e, Nat.add_comm 1, List.take_succ_cons]
      exact this
theorem tk_first : ∀ (row : List Nat) (p t : Nat), t < tk W p row → ¬ sureB W (row.length - t) (led W p (row.take t)) = true
  | [], p, t, h => by
    unfold tk at h
    omega
  | c :: r, p, t, h => by
    unfold tk at h
    split at h
    · omega
    · rename_i z
      match t with
      | 0 => simpa [led] using z
      | t + 1 =>
        have := tk_first r (W.mv p c) t (by omega)
        rw [List.take_succ_cons]
        simpa [led] using this
theorem filter_head {q : Nat → Bool} {t : Nat} : ∀ {n : Nat}, t < n → q t = true → (∀ t' < t, q t' = false) → ((List.range n).filter q)[0]? = some t := by
  intro n h1 h2 h3
  have e : List.range n = List.range t ++ (List.range' t (n - t)) := by
    rw [List.range_eq_range', List.range_eq_range']
    have := List.range'_append (s := 0) (m := t) (n := n - t) (step := 1)
    simp only [Nat.one_mul, Nat.zero_add] at this
    rw [this]
    congr 1
    omega
  have e2 : List.range' t (n - t) = t :: List.range' (t + 1) (n - t - 1) := by
    obtain ⟨m, hm⟩ : ∃ m, n - t = m + 1 := ⟨n - t - 1, by omega⟩
    rw [hm, List.range'_succ]
    simp
  have e3 : (List.range t).filter q = [] := by
    rw [List.filter_eq_nil_iff]
    intro x hx
    rw [h3 x (List.mem_range.mp hx)]
    decide
  rw [e, List.filter_append, e3, e2, List.filter_cons, if_pos h2]
  rfl
theorem tk_head (ok : W.Ok) {row : List Nat} (hr : ∀ c ∈ row, c < W.k) (q : Nat → Bool) (hq : ∀ t ≤ row.length, (q t = true ↔ OneW W (ledS W (beginS row t)))) : ((List.range (row.length + 1)).filter q)[0]? = some (tk W 0 row) := by
  have hl := tk_le (W := W) row 0
  refine filter_head (by omega) ((hq _ hl).mpr ((sure_begin ok hr hl).mpr (tk_sure row 0))) fun t ht => ?_
  have := tk_first row 0 t ht
  rw [← sure_begin ok hr (by omega), ← hq t (by omega)] at this
  simpa using this
/-! ### sums over all rows -/
def allRows (k : Nat) : Nat → List (List Nat)
  | 0 => [[]]
  | t + 1 => (List.range k).flatMap fun c => (allRows k t).map fun r => c :: r
def part (ws : Nat → Nat) : List Nat → Nat
  | [] => 1
  | c :: r => ws c * part ws r
/-- the sum of a number over all rows, by weights -/
def Sr (k : Nat) (ws : Nat → Nat) (t : Nat) (f : List Nat → Nat) : Nat := ((allRows k t).map fun r => part ws r * f r).sum
theorem sum_flatMap {α : Type} (f : α → Nat) (g : Nat → List α) : ∀ l : List Nat, ((l.flatMap g).map f).sum = (l.map fun c => ((g c).map f).sum).sum
  | [] => rfl
  | c :: r => by simp [sum_flatMap f g r]
theorem sum_mul_leftL {α : Type} (c : Nat) (f : α → Nat) : ∀ l : List α, (l.map fun x => c * f x).sum = c * (l.map f).sum
  | [] => rfl
  | a :: r => by
    simp only [List.map_cons, List.sum_cons]
    rw [sum_mul_leftL c f r, Nat.mul_add]
theorem sum_addL {α : Type} (f g : α → Nat) : ∀ l : List α, (l.map fun x => f x + g x).sum = (l.map f).sum + (l.map g).sum
  | [] => rfl
  | a :: r => by
    simp only [List.map_cons, List.sum_cons]
    rw [sum_addL f g r]
    omega
theorem Sr_succ (k : Nat) (ws : Nat → Nat) (t : Nat) (f : List Nat → Nat) : Sr k ws (t + 1) f = sumTo (fun c => ws c * Sr k ws t fun r => f (c :: r)) k := by
  unfold Sr sumTo
  show ((List.flatMap _ (List.range k)).map _).sum = _
  rw [sum_flatMap]
  congr 1
  apply List.map_congr_left
  intro c _
  rw [List.map_map, ← sum_mul_leftL]
  congr 1
  apply List.map_congr_left
  intro r _
  show ws c * part ws r * f (c :: r) = _
  rw [Nat.mul_assoc]
theorem Sr_one (k : Nat) (ws : Nat → Nat) : ∀ t, Sr k ws t (fun _ => 1) = sumTo ws k ^ t
  | 0 => rfl
  | t + 1 => by
    rw [Sr_succ, Sr_one k ws t, sumTo_mulr, Nat.pow_succ, Nat.mul_comm]
theorem Sr_add (k : Nat) (ws : Nat → Nat) (t : Nat) (f g : List Nat → Nat) : Sr k ws t (fun r => f r + g r) = Sr k ws t f + Sr k ws t g := by
  unfold Sr
  rw [← sum_addL]
  congr 1
  apply List.map_congr_left
  intro r _
  rw [Nat.mul_add]
theorem Sr_le {k : Nat} {ws : Nat → Nat} {t : Nat} {f g : List Nat → Nat} (h : ∀ r ∈ allRows k t, f r ≤ g r) : Sr k ws t f ≤ Sr k ws t g := by
  unfold Sr
  revert h
  generalize allRows k t = l
  induction l with
  | nil => intro _; exact Nat.le_refl _
  | cons a r ih =>
    intro h
    simp only [List.map_cons, List.sum_cons]
    exact Nat.add_le_add (Nat.mul_le_mul_left _ (h a List.mem_cons_self)) (ih fun x hx => h x (List.mem_cons_of_mem _ hx))
theorem Sr_congr {k : Nat} {ws : Nat → Nat} {t : Nat} {f g : List Nat → Nat} (h : ∀ r ∈ allRows k t, f r = g r) : Sr k ws t f = Sr k ws t g :=
  Nat.le_antisymm (Sr_le fun r hr => Nat.le_of_eq (h r hr)) (Sr_le fun r hr => Nat.le_of_eq (h r hr).symm)
theorem mem_allRows {k : Nat} : ∀ {t : Nat} {r : List Nat}, r ∈ allRows k t ↔ r.length = t ∧ ∀ c ∈ r, c < k
  | 0, r => by
    show r ∈ [[]] ↔ _
    rw [List.mem_singleton]
    constructor
    · rintro rfl
      exact ⟨rfl, by simp⟩
    · exact fun h => List.length_eq_zero_iff.mp h.1
  | t + 1, r => by
    show r ∈ (List.range k).flatMap _ ↔ _
    rw [List.mem_flatMap]
    constructor
    · rintro ⟨c, hc, h⟩
      obtain ⟨a, ha, rfl⟩ := List.mem_map.mp h
      obtain ⟨h1, h2⟩ := mem_allRows.mp ha
      exact ⟨by simp [h1], fun d hd => (List.mem_cons.mp hd).elim (fun e => e ▸ List.mem_range.mp hc) (h2 d)⟩
    · rintro ⟨h1, h2⟩
      match r, h1 with
      | c :: a, h1 =>
        exact ⟨c, List.mem_range.mpr (h2 c List.mem_cons_self), List.mem_map.mpr ⟨a, mem_allRows.mpr ⟨by simpa using h1, fun d hd => h2 d (List.mem_cons_of_mem _ hd)⟩, rfl⟩⟩
/-- the number of events, summed over all rows begun at a place -/
def Gk (W : Wt) (ws : Nat → Nat) (t p : Nat) : Nat := Sr W.k ws t (tk W p)
theorem Gk_zero (p : Nat) : Gk W ws 0 p = 0 := rfl
theorem Gk_succ (t p : Nat) : Gk W ws (t + 1) p = if sureB W (t + 1) p = true then 0 else sumTo ws W.k ^ (t + 1) + A W ws none (Gk W ws t) p := by
  unfold Gk
  rw [Sr_succ]
  have e : ∀ c, Sr W.k ws t (fun r => tk W p (c :: r)) = if sureB W (t + 1) p = true then 0 else sumTo ws W.k ^ t + Sr W.k ws t (tk W (W.mv p c)) := by
    intro c
    rw [show Sr W.k ws t (fun r => tk W p (c :: r)) = Sr W.k ws t fun r => if sureB W (t + 1) p = true then 0 else 1 + tk W (W.mv p c) r from Sr_congr fun r hr => by
      show (if sureB W (r.length + 1) p = true then 0 else 1 + tk W (W.mv p c) r) = _
      rw [(mem_allRows.mp hr).1]]
    split
    · unfold Sr
      rw [show (fun r => part ws r * 0) = fun r => 0 * part ws r from funext fun r => by rw [Nat.mul_comm], sum_mul_leftL 0 (part ws), Nat.zero_mul]
    · rw [Sr_add W.k ws t (fun _ => 1) (tk W (W.mv p c)), Sr_one]
  rw [sumTo_congr (g := fun c => ws c * if sureB W (t + 1) p = true then 0 else sumTo ws W.k ^ t + Sr W.k ws t (tk W (W.mv p c))) fun c _ => by rw [e]]
  split
  · rw [sumTo_mulr]
    simp
  · show sumTo (fun c => ws c * (sumTo ws W.k ^ t + Sr W.k ws t (tk W (W.mv p c)))) W.k = _
    rw [sumTo_congr (g := fun c => ws c * sumTo ws W.k ^ t + ws c * Sr W.k ws t (tk W (W.mv p c))) fun c _ => by rw [Nat.mul_add]]
    have : sumTo (fun c => ws c * sumTo ws W.k ^ t + ws c * Sr W.k ws t (tk W (W.mv p c))) W.k = sumTo (fun c => ws c * sumTo ws W.k ^ t) W.k + sumTo (fun c => ws c * Sr W.k ws t (tk W (W.mv p c))) W.k := sum_addL _ _ _
    rw [this, sumTo_mulr, Nat.pow_succ, Nat.mul_comm (sumTo ws W.k ^ t)]
    rfl
theorem sure_zero (p : Nat) : sureB W 0 p = true := rfl
/-- the number of rows that are not sure ahead of i events -/
def leftN (W : Wt) (ws : Nat → Nat) (len i : Nat) : Nat := T (lineD W ws len i) (fun _ => 1) * sumTo ws W.k ^ (len - i)
theorem T_split (q : Nat → Bool) (g : Nat → Nat) (d : Dc) : T d g = T (d.filter fun e => q e.1) g + T (d.filter fun e => !q e.1) g := by
  rw [T_filter, T_filter (fun x => !q x), ← T_add]
  refine T_le_of fun e _ => ?_
  cases q e.1 <;> simp
theorem line_step (len i : Nat) (hi : i < len) (g : Nat → Nat) : T (lineD W ws len (i + 1)) g = T ((lineD W ws len i).filter fun e => !sureB W (len - i) e.1) (A W ws none g) := by
  show T (heavier W ws _ none) g = _
  rw [heavier_T]
theorem left_step (len i : Nat) (hi : i < len) : leftN W ws len i = foundN W ws len i + leftN W ws len (i + 1) := by
  unfold leftN foundN
  rw [T_split (fun p => sureB W (len - i) p) (fun _ => 1) (lineD W ws len i), line_step len i hi, Nat.add_mul]
  congr 1
  rw [show A W ws none (fun _ => 1) = fun p => sumTo ws W.k * 1 from by rw [A_const]; rfl, T_mul]
  have e : len - i = (len - (i + 1)) + 1 := by omega
  rw [e, Nat.pow_succ, ← e]
  rw [Nat.mul_comm (sumTo ws W.k ^ (len - (i + 1))), ← Nat.mul_assoc, Nat.mul_comm (T _ _) (sumTo ws W.k)]
theorem left_last (len : Nat) : leftN W ws len len = foundN W ws len len := by
  unfold leftN foundN
  rw [T_split (fun p => sureB W (len - len) p) (fun _ => 1) (lineD W ws len len)]
  have : (lineD W ws len len).filter (fun e => !sureB W (len - len) e.1) = [] := by
    rw [List.filter_eq_nil_iff]
    intro e _
    rw [Nat.sub_self, sure_zero]
    decide
  rw [this, T_nil, Nat.add_zero]
/-- the events still to come, of rows not sure ahead -/
def evN (W : Wt) (ws : Nat → Nat) (len i : Nat) : Nat := T (lineD W ws len i) (Gk W ws (len - i))
theorem ev_step (len i : Nat) (hi : i < len) : evN W ws len i = leftN W ws len (i + 1) + evN W ws len (i + 1) := by
  unfold evN leftN
  obtain ⟨t, ht⟩ : ∃ t, len - i = t + 1 := ⟨len - i - 1, by omega⟩
  have ht2 : len - (i + 1) = t := by omega
  rw [line_step len i hi, line_step len i hi, ht, ht2]
  rw [T_filter (fun p => !sureB W (t + 1) p), T_filter (fun p => !sureB W (t + 1) p)]
  rw [Nat.mul_comm, ← T_mul, ← T_add]
  refine T_le_of fun e _ => ?_
  rw [Gk_succ, A_const]
  cases sureB W (t + 1) e.1
  · simp only [Bool.not_false, if_true, Bool.false_eq_true, if_false, Option.isNone_none, Nat.mul_one]
    rw [Nat.pow_succ]
  · simp
theorem ev_last (len : Nat) : evN W ws len len = 0 := by
  unfold evN
  rw [Nat.sub_self]
  exact T_zero' _
where
  T_zero' : ∀ d : Dc, T d (Gk W ws 0) = 0
    | [] => rfl
    | e :: r => by rw [T_cons, T_zero' r, Gk_zero]; simp
theorem mean_begun (len : Nat) : sumTo (fun i => i * foundN W ws len i) (len + 1) = Sr W.k ws len (tk W 0) := by
  have key : ∀ i, i ≤ len → sumTo (fun i => i * foundN W ws len i) i + (i * leftN W ws len i + evN W ws len i) = evN W ws len 0 := by
    intro i
    induction i with
    | zero => intro _; simp [sumTo]
    | succ i ih =>
      intro hi
      have h1 := ih (by omega)
      rw [ev_step len i (by omega), left_step len i (by omega)] at h1
      rw [sumTo_succ, Nat.add_mul, ← h1, Nat.mul_add]
      omega
  have h := key len (Nat.le_refl _)
  rw [ev_last, left_last] at h
  rw [sumTo_succ]
  have e : evN W ws len 0 = Sr W.k ws len (tk W 0) := by
    unfold evN
    show T [(0, 1)] (Gk W ws (len - 0)) = _
    rw [T_cons, T_nil]
    show 1 * Gk W ws (len - 0) 0 + 0 = _
    rw [Nat.sub_zero]
    simp [Gk]
  rw [← e, ← h]
  omega
end
end Od
/-! ==== M64b ==== -/
/-! Sets of a size, and the rows that they show. -/
namespace Od
def setsOf : List Nat → Nat → List (List Nat)
  | _, 0 => [[]]
  | xs, m + 1 => (List.range xs.length).flatMap fun i => (setsOf (xs.drop (i + 1)) m).map fun r => xs.getD i 0 :: r
theorem mem_setsOf : ∀ {m : Nat} {xs ps : List Nat}, ps ∈ setsOf xs m ↔ ps.Sublist xs ∧ ps.length = m
  | 0, xs, ps => by
    show ps ∈ [[]] ↔ _
    rw [List.mem_singleton]
    constructor
    · rintro rfl
      exact ⟨List.nil_sublist _, rfl⟩
    · exact fun h => List.length_eq_zero_iff.mp h.2
  | m + 1, xs, ps => by
    show ps ∈ (List.range xs.length).flatMap _ ↔ _
    rw [List.mem_flatMap]
    constructor
    · rintro ⟨i, hi, h⟩
      obtain ⟨r, hr, rfl⟩ := List.mem_map.mp h
      have hi := List.mem_range.mp hi
      obtain ⟨h1, h2⟩ := mem_setsOf.mp hr
      refine ⟨?_, by simp [h2]⟩
      have e : xs.getD i 0 = xs[i] := by rw [List.getD_eq_getElem?_getD, List.getElem?_eq_getElem hi]; rfl
      rw [e]
      have : (xs[i] :: xs.drop (i + 1)).Sublist xs := by
        rw [← List.drop_eq_getElem_cons hi]
        exact List.drop_sublist i xs
      exact (h1.cons₂ _).trans this
    · rintro ⟨h1, h2⟩
      match ps, h2 with
      | a :: r, h2 =>
        induction xs with
        | nil => cases h1
        | cons x xs ih =>
          rcases List.sublist_cons_iff.mp h1 with h | ⟨r', e, h⟩
          · obtain ⟨i, hi, hm⟩ := ih h
            refine ⟨i + 1, List.mem_range.mpr (by have := List.mem_range.mp hi; simp; omega), ?_⟩
            simpa using hm
          · injection e with e1 e2
            subst e1 e2
            exact ⟨0, List.mem_range.mpr (by simp), List.mem_map.mpr ⟨r, mem_setsOf.mpr ⟨h, by simpa using h2⟩, rfl⟩⟩
/-- the sets that begin ahead of the i-th item -/
def setsTo (xs : List Nat) (m i : Nat) : List (List Nat) := (List.range i).flatMap fun i => (setsOf (xs.drop (i + 1)) m).map fun r => xs.getD i 0 :: r
theorem setsTo_succ (xs : List Nat) (m i : Nat) : setsTo xs m (i + 1) = setsTo xs m i ++ (setsOf (xs.drop (i + 1)) m).map fun r => xs.getD i 0 :: r := by
  unfold setsTo
  rw [List.range_succ, List.flatMap_append]
  simp
theorem setsOf_len : ∀ (m : Nat) (xs : List Nat), (setsOf xs m).length ≤ 2 ^ xs.length
  | 0, xs => by
    show 1 ≤ _
    exact Nat.one_le_two_pow
  | m + 1, xs => by
    have key : ∀ i, i ≤ xs.length → (setsTo xs m i).length + 2 ^ (xs.length - i) ≤ 2 ^ xs.length := by
      intro i
      induction i with
      | zero => intro _; simp [setsTo]
      | succ i ih =>
        intro hi
        have h1 := ih (by omega)
        have h2 := setsOf_len m (xs.drop (i + 1))
        rw [List.length_drop] at h2
        rw [setsTo_succ, List.length_append, List.length_map]
        have e : xs.length - i = (xs.length - (i + 1)) + 1 := by omega
        rw [e, Nat.pow_succ] at h1
        omega
    have := key xs.length (Nat.le_refl _)
    show (setsTo xs m xs.length).length ≤ 2 ^ xs.length
    rw [Nat.sub_self] at this
    omega
theorem setsTo_len (xs : List Nat) (m i : Nat) (hi : i ≤ xs.length) : (setsTo xs m i).length ≤ 2 ^ xs.length := by
  have h := setsOf_len (m + 1) xs
  have e : setsOf xs (m + 1) = setsTo xs m xs.length := rfl
  rw [e] at h
  refine Nat.le_trans ?_ h
  obtain ⟨k, hk⟩ : ∃ k, xs.length = i + k := ⟨xs.length - i, by omega⟩
  rw [hk]
  clear hk h e hi
  induction k with
  | zero => exact Nat.le_refl _
  | succ k ih =>
    refine Nat.le_trans ih ?_
    rw [← Nat.add_assoc, setsTo_succ, List.length_append]
    omega
/-- the row with the events at some places, from place k on -/
def shownF : Nat → List Nat → List Nat → Row
  | _, [], _ => []
  | k, c :: r, ps => (if k ∈ ps then some c else none) :: shownF (k + 1) r ps
theorem shownF_skip {j : Nat} : ∀ {k : Nat} {row ps : List Nat}, j < k → shownF k row (j :: ps) = shownF k row ps
  | _, [], _, _ => rfl
  | k, c :: r, ps, h => by
    unfold shownF
    rw [shownF_skip (k := k + 1) (by omega)]
    congr 1
    have : k ∈ j :: ps ↔ k ∈ ps := by
      rw [List.mem_cons]
      exact ⟨fun z => z.resolve_left (by omega), .inr⟩
    by_cases q : k ∈ ps
    · rw [if_pos q, if_pos (this.mpr q)]
    · rw [if_neg q, if_neg fun z => q (this.mp z)]
theorem hide_of_sub : ∀ {row ps : List Nat} {k : Nat}, ps.Sublist (List.range' k row.length) → Hide row (shownF k row ps) ps.length
  | [], ps, k, h => by
    have : ps = [] := List.sublist_nil.mp (by simpa using h)
    subst this
    exact .nil
  | c :: r, ps, k, h => by
    rw [List.length_cons, List.range'_succ] at h
    rcases List.sublist_cons_iff.mp h with h | ⟨q, rfl, h2⟩
    · have hk : k ∉ ps := fun z => by
        have := List.mem_range'.mp (h.subset z)
        obtain ⟨i, _, e⟩ := this
        omega
      unfold shownF
      rw [if_neg hk]
      exact .hide (hide_of_sub h)
    · unfold shownF
      rw [if_pos List.mem_cons_self, shownF_skip (by omega)]
      exact .show_ (hide_of_sub h2)
theorem sub_of_hide : ∀ {row : List Nat} {s : Row} {m k : Nat}, Hide row s m → ∃ ps, ps.Sublist (List.range' k row.length) ∧ ps.length = m ∧ s = shownF k row ps
  | _, _, _, k, .nil => ⟨[], List.nil_sublist _, rfl, rfl⟩
  | c :: row, _, _, k, .show_ h => by
    obtain ⟨ps, h1, h2, rfl⟩ := sub_of_hide (k := k + 1) h
    refine ⟨k :: ps, ?_, by simp [h2], ?_⟩
    · rw [List.length_cons, List.range'_succ]
      exact h1.cons₂ _
    · show _ = (if k ∈ k :: ps then some c else none) :: shownF (k + 1) row (k :: ps)
      rw [if_pos List.mem_cons_self, shownF_skip (by omega)]
  | c :: row, _, _, k, .hide h => by
    obtain ⟨ps, h1, h2, rfl⟩ := sub_of_hide (k := k + 1) h
    refine ⟨ps, ?_, h2, ?_⟩
    · rw [List.length_cons, List.range'_succ]
      exact h1.cons _
    · show none :: _ = (if k ∈ ps then some c else none) :: _
      rw [if_neg fun z => by
        obtain ⟨i, _, e⟩ := List.mem_range'.mp (h1.subset z)
        omega]
/-- the row shown at some places -/
def shownAt (row ps : List Nat) : Row := (List.range row.length).map fun i => if i ∈ ps then some (row.getD i 0) else none
theorem shownF_eq (ps : List Nat) : ∀ (row : List Nat) (k : Nat), shownF k row ps = (List.range row.length).map fun i => if k + i ∈ ps then some (row.getD i 0) else none
  | [], _ => rfl
  | c :: r, k => by
    unfold shownF
    rw [shownF_eq ps r (k + 1), List.length_cons, List.range_succ_eq_map, List.map_cons, List.map_map]
    congr 1
    apply List.map_congr_left
    intro i _
    show _ = if k + (i + 1) ∈ ps then some ((c :: r).getD (i + 1) 0) else none
    rw [show k + (i + 1) = k + 1 + i by omega]
    rfl
theorem shownAt_eq (row ps : List Nat) : shownAt row ps = shownF 0 row ps := by
  rw [shownF_eq]
  unfold shownAt
  simp
theorem sets_hide {row ps : List Nat} {m : Nat} (h : ps ∈ setsOf (List.range row.length) m) : Hide row (shownAt row ps) m := by
  obtain ⟨h1, h2⟩ := mem_setsOf.mp h
  rw [List.range_eq_range'] at h1
  rw [shownAt_eq, ← h2]
  exact hide_of_sub h1
theorem hide_sets {row : List Nat} {s : Row} {m : Nat} (h : Hide row s m) : ∃ ps ∈ setsOf (List.range row.length) m, s = shownAt row ps := by
  obtain ⟨ps, h1, h2, h3⟩ := sub_of_hide (k := 0) h
  refine ⟨ps, mem_setsOf.mpr ⟨by rw [List.range_eq_range']; exact h1, h2⟩, by rw [shownAt_eq]; exact h3⟩
theorem get_tabK {m : Nat → Nat} {v : Nat} (h4 : v < 4) (h0 : m v ≠ 0) : get (tabK m) v = some (m v) := by
  have hm : v ∈ keysOf m := mem_keysOf.mpr ⟨h4, h0⟩
  apply mem_get
  · unfold Nd tabK
    rw [List.map_map]
    show ((keysOf m).map fun v => v).Nodup
    rw [List.map_id']
    exact keysOf_nodup m
  · exact List.mem_map.mpr ⟨v, hm, rfl⟩
end Od
/-! ==== FxTup ==== -/
/-! Dicts whose keys are tuples: a display of one pair whose key may be a written tuple, d[k] and walks over keys and pairs of such a dict or of a tracked one. -/
namespace Fx
open PySem PySem.Spec PyProof.Rows L2
/-- what is known of the one object of a dict with tuple keys: keys, their addresses, values -/
structure ObT (P : Program) (w : World) (ob : Obj) (l : List (List Key × Addr × V)) : Prop where
  ex : ob.ExactDict
  at_ : ∃ (es : Array DictEntry) (ep : Nat) (xs : List (List Key × Addr × Value)), ob.data = .dict es ep ∧ Paired (fun (p : List Key × Addr × V) (q : List Key × Addr × Value) => p.1 = q.1 ∧ p.2.1 = q.2.1 ∧ RelV p.2.2 q.2.2) l xs ∧
    es.toList = xs.map (entryOfKey (tupleKind (mixKind P w))) ∧ (xs.map (·.1)).Nodup
/-- a dict with tuple keys that stands still -/
def FrT (P : Program) (w : World) (K : PySem.W.Frag) (H : Hp) (d : Addr) (o : Obj) (kvs : List (List Key × V)) : Prop :=
  H d = some (.frz o (.dT kvs)) ∨ ∃ l u, H d = some (.frz o u) ∧ (d == sysModules) = false ∧ ObT P w o l ∧ kvs = l.map (fun e => (e.1, e.2.2)) ∧ ∀ e ∈ l, SqT K H e.2.1 (e.1.map kV)
/-- .. or that may be changed -/
def RdT (P : Program) (w : World) (K : PySem.W.Frag) (H : Hp) (d : Addr) (kvs : List (List Key × V)) : Prop := H d = some (.dT kvs) ∨ ∃ o, FrT P w K H d o kvs
section
variable {X : Cx} {pins : List (Addr × Obj)} {σ : L2.St} {H : Hp} {s : Shared} {d : Addr} {o : Obj} {kvs : List (List Key × V)}
theorem key_ofT {ks : List Key} {q : Addr} (I : Inv X pins σ H s) (e : SqT X.K H q (ks.map kV)) : (tupleKind (mixKind X.prog X.w)).is s.heap ks q := by
  obtain ⟨its, r, p, _⟩ := I.tuple e
  obtain ⟨o, h1, h2, n, h3⟩ := (show IsTup s.heap q its.toArray from p)
  exact ⟨o, its.toArray, n, h1, h2, h3, by simpa using items_are r⟩
theorem ObT.get {P : Program} {w : World} {l : List (List Key × Addr × V)} {xs : List (List Key × Addr × Value)} (h : Paired (fun (p : List Key × Addr × V) (q : List Key × Addr × Value) => p.1 = q.1 ∧ p.2.1 = q.2.1 ∧ RelV p.2.2 q.2.2) l xs) (k : List Key) :
    RelO (valV (l.map fun e => (e.1, e.2.2)) k) ((atKey xs k).map (·.2)) := by
  induction h with
  | nil => exact True.intro
  | @cons p q ps qs h t ih =>
    obtain ⟨h1, _, h2⟩ := h
    by_cases e : p.1 = k
    · have e' : q.1 = k := h1.symm.trans e
      have b : atKey (q :: qs) k = some q.2 := by simp [atKey, List.find?_cons, e']
      rw [List.map_cons, valV_pos (p := (p.1, p.2.2)) e, b]
      exact h2
    · have e' : ¬ q.1 = k := fun z => e (h1.trans z)
      have b : atKey (q :: qs) k = atKey qs k := by simp [atKey, List.find?_cons, e']
      rw [List.map_cons, valV_neg (p := (p.1, p.2.2)) e, b]
      exact ih
theorem FrT.facts (I : Inv X pins σ H s) (h : FrT X.prog X.w X.K H d o kvs) : (d == sysModules) = false ∧ s.heap.get? d = some o ∧ o.ExactDict ∧ ∃ (es : Array DictEntry) (ep : Nat), o.data = .dict es ep ∧ es.size = kvs.length ∧
    ∀ (i : Nat) (k : List Key) (v : V), kvs[i]? = some (k, v) → ∃ (en : DictEntry) (q : Addr), es[i]? = some en ∧ en.key = .ref q ∧ SqT X.K H q (k.map kV) ∧ RelV v en.val := by
  rcases h with h | ⟨l, u, h, hs, ob, rfl, hk⟩
  · obtain ⟨hd, z, hs, xs, pr, o', es, ep, ho, hx, hdt, he, _⟩ := I.hok d _ h
    rw [hd] at ho
    cases ho
    refine ⟨hs, hd, hx, es, ep, hdt, ?_, fun i k v e => ?_⟩
    · have l1 : es.size = xs.length := size_of_entries he
      have l2 : kvs.length = xs.length := Paired.length pr
      omega
    · obtain ⟨b, hb, e1, e2, e3⟩ := paired_get pr e
      have q := entry_at he i
      rw [hb] at q
      exact ⟨_, b.2.1, q, rfl, SqT.of e2, e3⟩
  · obtain ⟨hd, _⟩ := I.hok d _ h
    obtain ⟨es, ep, xs, hdt, pr, he, _⟩ := ob.at_
    refine ⟨hs, hd, ob.ex, es, ep, hdt, ?_, fun i k v e => ?_⟩
    · have l1 : es.size = xs.length := size_of_entries he
      have l2 : l.length = xs.length := Paired.length pr
      rw [List.length_map]
      omega
    · rw [List.getElem?_map] at e
      obtain ⟨a, ha, e0⟩ := Option.map_eq_some_iff.mp e
      obtain ⟨rfl, rfl⟩ := Prod.mk.inj e0
      obtain ⟨b, hb, e1, e2, e3⟩ := paired_get pr ha
      have q := entry_at he i
      rw [hb] at q
      refine ⟨_, b.2.1, q, rfl, ?_, e3⟩
      rw [← e2]
      exact hk a (List.mem_of_getElem? ha)
theorem RdT.dict (I : Inv X pins σ H s) (h : RdT X.prog X.w X.K H d kvs) : (d == sysModules) = false ∧ ∃ xs, s.heap.DictOfH (tupleKind (mixKind X.prog X.w)) d xs ∧ ∀ k, RelO (valV kvs k) ((atKey xs k).map (·.2)) := by
  rcases h with h | ⟨o, h | ⟨l, u, h, hs, ob, rfl, hk⟩⟩
  · obtain ⟨_, hs, xs, kt, dd⟩ := dt_of I.hok h
    exact ⟨hs, xs, dd, kt.val⟩
  · obtain ⟨_, hs, xs, kt, dd⟩ := dt_rd I.hok (.inr ⟨o, h⟩)
    exact ⟨hs, xs, dd, kt.val⟩
  · obtain ⟨hd, _⟩ := I.hok d _ h
    obtain ⟨es, ep, xs, hdt, pr, he, nd⟩ := ob.at_
    refine ⟨hs, xs, ⟨o, es, ep, hd, ob.ex, hdt, he, fun x hx => ?_, nd⟩, ObT.get (P := X.prog) (w := X.w) pr⟩
    have all : ∀ {l : List (List Key × Addr × V)} {m : List (List Key × Addr × Value)}, Paired (fun (p : List Key × Addr × V) (q : List Key × Addr × Value) => p.1 = q.1 ∧ p.2.1 = q.2.1 ∧ RelV p.2.2 q.2.2) l m → (∀ e ∈ l, SqT X.K H e.2.1 (e.1.map kV)) → ∀ x ∈ m, (tupleKind (mixKind X.prog X.w)).is s.heap x.1 x.2.1 := by
      intro l m q
      induction q with
      | nil => intro _ x hx; exact nomatch hx
      | @cons p q ps qs hq t ih =>
        intro hl x hx
        rcases List.mem_cons.mp hx with e | hx
        · subst e
          have := hl p List.mem_cons_self
          rw [hq.1, hq.2.1] at this
          exact key_ofT I this
        · exact ih (fun e he => hl e (List.mem_cons_of_mem _ he)) x hx
    exact all pr hk x hx
end
/-! ### d[k] -/
def tDGetT (X : Cx) (td ty : TE) : TE := fun σ H Q => td σ H fun x H1 => ty σ H1 fun y H2 => ∃ a b kvs k v, x = .ref a ∧ y = .ref b ∧ RdT X.prog X.w X.K H2 a kvs ∧ SqT X.K H2 b (k.map kV) ∧ valV kvs k = some v ∧ Q v H2
section
variable {X : Cx} {o i k v : Expr} {pos : Pos} {td ty tk tv : TE}
theorem pe_dgetT (hu : X.A.units + 1 < cLine) (ho : PE X o td) (hi : PE X i ty) (hs : NoSl i) : PE X (.Subscript o i pos) (tDGetT X td ty) := by
  refine ⟨fun pins s σ H Q I h => ?_⟩
  refine subD_of PySem.F.slot_dict_getitem.lookup hs (thn (ho.run pins s σ H _ I h) fun u s1 ⟨x, H1, I1, rx, q1⟩ => thn (hi.run pins s1 σ H1 _ I1 q1) fun iv s2 ⟨y, H2, I2, ry, a, b, kvs, k, v, ex, ey, g, hk, hv, q2⟩ => ?_)
  subst ex ey
  obtain rfl : u = Value.ref a := rx
  obtain rfl : iv = Value.ref b := ry
  obtain ⟨_, xs, dd, rel⟩ := g.dict I2
  refine ⟨dd.typeIs, ?_⟩
  obtain ⟨w', hw, rw'⟩ := RelO.some_of (v := v) (o := (atKey xs k).map (·.2)) (by rw [← hv]; exact rel k)
  obtain ⟨p, hp, hp2⟩ := Option.map_eq_some_iff.mp hw
  refine wpAny_getItem_heap (tupleKind_room_in1 hu) (key_ofT I2 hk) dd hp ?_
  rw [hp2]
  exact ⟨v, H2, I2.tok _, rw', q2⟩
/-! ### {k: v}, k a tuple -/
def tDisp1 (X : Cx) (tk tv : TE) : TE := fun σ H Q => ∀ p, H p = none → tk σ (upd H p (.dT [])) fun y H1 => tv σ H1 fun z H2 => ∃ q ks, y = .ref q ∧ SqT X.K H2 q (ks.map kV) ∧ H2 p = some (.dT []) ∧
  ∀ ob, FrT X.prog X.w X.K (upd H2 p (.frz ob (.own 0))) p ob [(ks, z)] → Q (.ref p) (upd H2 p (.frz ob (.own 0)))
theorem pe_disp1 (hu : X.A.units + 1 < cLine) (hk : PE X k tk) (hv : PE X v tv) : PE X (.Dict [some k] [v] pos) (tDisp1 X tk tv) := by
  refine ⟨fun pins s σ H Q I q => ?_⟩
  have hn := I.hok.fresh (Nat.le_refl s.heap.objs.size)
  have I1 := I.laid (a := s.heap.objs.size) (o := .dT []) (h' := s.heap.push { cls := .type "dict", data := .dict #[] }) (t' := s.toks) (fun _ _ q => Heap.get?_push_of_some _ q) (Nat.le_refl _) (dt_empty s.heap I.big)
  refine wpAny_Dict_any (by rfl) (by rfl) (by simp) (by show 1 ≤ 15; decide) (pairTrees_cons_walk (thn (hk.run pins _ σ _ _ I1 (q _ hn)) fun u s1 ⟨y, H1, J1, ry, q1⟩ => thn (hv.run pins s1 σ H1 _ J1 q1) fun r s2 ⟨z, H2, J2, rz, b, ks, ey, hb, hp, q2⟩ => pairTrees_nil_walk ?_))
  subst ey
  obtain rfl : u = Value.ref b := ry
  obtain ⟨_, hs, xs, kt, dd⟩ := dt_of J2.hok hp
  cases kt
  refine wpAny_storeAllH (knd := tupleKind (mixKind X.prog X.w)) (by show X.A.units < cLine; omega) _ [(ks, b, r)] [] s2 _ ⟨rfl, rfl, key_ofT J2 hb, trivial⟩ dd (by show 1 ≤ sizeLine; decide) fun h' tk' dd' sb => ?_
  obtain ⟨o, es, ep, ho, hx, hdt, he, _, nd⟩ := dd'
  have he1 : es.toList = ([(ks, b, r)] : List (List Key × Addr × Value)).map (entryOfKey (tupleKind (mixKind X.prog X.w))) := he
  have J3 : Inv X pins σ (upd H2 s.heap.objs.size (.frz o (.own 0))) { s2 with heap := h', toks := tk' } := d_write J2 (by rw [hp]; exact True.intro) sb ⟨o, ho⟩ ⟨ho, o, ho⟩
  refine ⟨.ref s.heap.objs.size, _, J3, rfl, q2 o (.inr ⟨[(ks, b, z)], .own 0, upd_same, hs, ⟨hx, es, ep, [(ks, b, r)], hdt, .cons ⟨rfl, rfl, rz⟩ .nil, he1, by simp⟩, rfl, fun e he => ?_⟩)⟩
  rw [List.mem_singleton.mp he]
  rcases hb with (h | ⟨ob, h⟩) | h
  · exact .inl (.inl (by rw [upd_ne (ne_of h hp (fun z => nomatch z))]; exact h))
  · exact .inl (.inr ⟨ob, by rw [upd_ne (ne_of h hp (fun z => nomatch z))]; exact h⟩)
  · exact .inr h
end
/-! ### walks -/
def ItkT (P : Program) (w : World) (K : PySem.W.Frag) (d : Addr) (o : Obj) (kvs : List (List Key × V)) : It :=
  ⟨fun i H => FrT P w K H d o kvs ∧ i < kvs.length, fun i H x H' => H' = H ∧ ∃ k v q, kvs[i]? = some (k, v) ∧ x = .ref q ∧ SqT K H q (k.map kV), fun i H => FrT P w K H d o kvs ∧ kvs.length ≤ i⟩
def ItiT (P : Program) (w : World) (K : PySem.W.Frag) (d : Addr) (o : Obj) (kvs : List (List Key × V)) : It :=
  ⟨fun i H => FrT P w K H d o kvs ∧ i < kvs.length, fun i H x H' => ∃ T k v q, kvs[i]? = some (k, v) ∧ SqT K H q (k.map kV) ∧ x = .ref T ∧ H T = none ∧ H' = upd H T (.tup [.ref q, v]), fun i H => FrT P w K H d o kvs ∧ kvs.length ≤ i⟩
section
variable {P : Program} {w : World} {K : PySem.W.Frag} {tg : Expr} {d : Addr} {o : Obj} {es : Array DictEntry} {ep : Nat}
theorem turn_keysTT {kvs : List (List Key × V)} (it : Addr) (hod : o.data = .dict es ep) : Turn P w K tg (ItkT P w K d o kvs) [it] it (fun i h => h.IsKeyIter it d i kvs.length ep) where
  mem := by simp
  obj := fun i h st b hb => by
    have e : b = it := by simpa using hb
    subst e
    obtain ⟨oi, e, c, dd⟩ := st
    exact ⟨oi, e, fun v z => by rw [dd] at z; cases z⟩
  keep := fun i h h' st k => st.at fun oi e => k it (by simp) oi e
  item := by
    intro X hP hw hK hc i pins s σ H E I hf st hg
    subst hP hw hK
    obtain ⟨hd, hi⟩ := hg
    obtain ⟨f0, f1, f2, f3, f4, f5⟩ := hf it (by simp)
    obtain ⟨hs, hgd, hx, es', ep', hdt, hsz, ent⟩ := FrT.facts I hd
    obtain ⟨rfl, rfl⟩ := dict_ep hod hdt
    obtain ⟨⟨k, v⟩, hkv⟩ : ∃ p, kvs[i]? = some p := ⟨kvs[i], List.getElem?_eq_getElem hi⟩
    obtain ⟨en, q, hen, hkey, hq, _⟩ := ent i k v hkv
    refine next_key_item st hgd hdt hsz hen fun h' st' sb => ?_
    have I1 : Inv X pins σ H { s with heap := h' } := I.turned (t' := s.toks) (fun b ob hb e => (sb.2 b hb).trans e) f0 f1 f3 f4 f5
    obtain ⟨oi, e, c, dd⟩ := id st'
    exact ⟨en.key, rfl, go_of (s := { s with heap := h' }) e c dd (by decide) ⟨.ref q, H, I1, hkey, ⟨rfl, k, v, q, hkv, rfl, hq⟩, st', fun b hb => (hf b hb).1⟩⟩
  done := by
    intro X hP hw hK hc i pins s σ H E I hf st hg
    subst hP hw hK
    obtain ⟨hd, hi⟩ := hg
    obtain ⟨f0, f1, f2, f3, f4, f5⟩ := hf it (by simp)
    obtain ⟨hs, hgd, hx, es', ep', hdt, hsz, ent⟩ := FrT.facts I hd
    obtain ⟨rfl, rfl⟩ := dict_ep hod hdt
    exact next_key_end (I.ok.hd hc) st hgd hdt hsz hi fun h' eb => ⟨rfl, I.turned (t' := s.toks) (fun b ob hb e => eb b ob hb e) f0 f1 f3 f4 f5⟩
  self := fun A i s Q E st h => by
    refine wpAny_pyIter_slot st.typeIs F.slot_dict_keyiterator_iter (wpAny_call_entry F.slot_dict_keyiterator_iter st.typeIs F.entry_dict_keyiterator_iter ?_ (F.args_dict_keyiterator_iter_1 _))
    show wpAny _ _ (ret (.ref it)) _ _ s
    exact wpAny_pure ⟨_, rfl, "dict_keyiterator", _, st.typeIs, F.slot_dict_keyiterator_next.lookup, h⟩
theorem turn_itemsTT {kvs : List (List Key × V)} {elts : List Expr} {kk : Nat} {tpos : Pos} (it : Addr) (hod : o.data = .dict es ep) :
    Turn P w K (.Tuple elts kk tpos) (ItiT P w K d o kvs) [it] it (fun i h => ∃ ok ov, IsItemIter h it d i kvs.length ep ok ov) where
  mem := by simp
  obj := fun i h st b hb => by
    have e : b = it := by simpa using hb
    subst e
    obtain ⟨ok, ov, e⟩ := st
    exact ⟨_, e, fun v z => nomatch z⟩
  keep := fun i h h' st k => let ⟨ok, ov, e⟩ := st; ⟨ok, ov, k it (by simp) _ e⟩
  item := by
    intro X hP hw hK hc i pins s σ H E I hf st hg
    subst hP hw hK
    obtain ⟨hd, hi⟩ := hg
    obtain ⟨hs, hgd, hx, es', ep', hdt, hsz, ent⟩ := FrT.facts I hd
    obtain ⟨rfl, rfl⟩ := dict_ep hod hdt
    obtain ⟨⟨k, v⟩, hkv⟩ : ∃ p, kvs[i]? = some p := ⟨kvs[i], List.getElem?_eq_getElem hi⟩
    obtain ⟨en, q, hen, hkey, hq, rv⟩ := ent i k v hkv
    obtain ⟨ok, ov, he⟩ := st
    rw [← hsz] at he hi
    have hlt : it < s.heap.objs.size := Heap.lt_size he
    have een : es'[i] = en := by
      rw [Array.getElem?_eq_getElem hi] at hen
      exact Option.some.inj hen
    refine DT.nextI he ⟨o, hgd, hx, hdt⟩ hi fun h' ho hT hz hk => ?_
    rw [een] at ho hT
    refine ⟨_, rfl, wpAny_letOwnedTupleGo_items (s := { s with heap := h' }) ho fun h'' he' sb => ?_⟩
    have hT2 : h''.get? s.heap.objs.size = some { cls := .type "tuple", data := .seq #[en.key, en.val] } := (sb.2 _ (Nat.ne_of_gt hlt)).trans hT
    have new : ObjOk X.prog X.w (upd H s.heap.objs.size (.tup [.ref q, v])) h'' s.heap.objs.size (.tup [.ref q, v]) :=
      ⟨by show 2 ≤ sizeLine; decide, [en.key, en.val], .cons hkey (.cons rv .nil), ⟨_, hT2, rfl, _, rfl⟩⟩
    have I1 : Inv X pins σ (upd H s.heap.objs.size (.tup [.ref q, v])) { s with heap := h'' } :=
      I.turnedNew (t' := s.toks) (ch := [it]) (fun b ob hb e => (sb.2 b (by simpa using hb)).trans (hk b ob (by simpa using hb) e)) hf (Nat.le_refl _) new
    refine ⟨.ref s.heap.objs.size, _, I1, rfl, ⟨_, k, v, q, hkv, hq, rfl, I.hok.fresh (Nat.le_refl _), rfl⟩, ⟨en.key, en.val, ?_⟩, fun b hb => ?_⟩
    · rw [← hsz]; exact he'
    · have e : b = it := by simpa using hb
      rw [e, upd_ne (Nat.ne_of_lt hlt)]
      exact (hf it (by simp)).1
  done := by
    intro X hP hw hK hc i pins s σ H E I hf st hg
    subst hP hw hK
    obtain ⟨hd, hi⟩ := hg
    obtain ⟨f0, f1, f2, f3, f4, f5⟩ := hf it (by simp)
    obtain ⟨hs, hgd, hx, es', ep', hdt, hsz, ent⟩ := FrT.facts I hd
    obtain ⟨rfl, rfl⟩ := dict_ep hod hdt
    obtain ⟨ok, ov, he⟩ := st
    rw [← hsz] at he hi
    exact DT.endI (I.ok.hd hc) he ⟨o, hgd, hx, hdt⟩ hi fun h' eb => ⟨rfl, I.turned (t' := s.toks) (fun b ob hb e => eb b ob hb e) f0 f1 f3 f4 f5⟩
  self := fun A i s Q E st h => let ⟨_, _, e⟩ := st; PySem.W.kcp_self e h
end
def iKeysT (X : Cx) (td : TE) : TI := fun σ H R => td σ H fun x H1 => ∃ d o kvs, x = .ref d ∧ FrT X.prog X.w X.K H1 d o kvs ∧ R (ItkT X.prog X.w X.K d o kvs) H1
def iItemsT (X : Cx) (td : TE) : TI := fun σ H R => td σ H fun x H1 => ∃ d o kvs, x = .ref d ∧ FrT X.prog X.w X.K H1 d o kvs ∧ R (ItiT X.prog X.w X.K d o kvs) H1
section
variable {X : Cx} {tg e : Expr} {td : TE} {apos cpos : Pos}
theorem pi_keysT (he : PE X e td) : PI X tg e (iKeysT X td) := by
  refine ⟨fun pins s σ H R I h => ?_⟩
  refine thn (he.run pins s σ H _ I h) fun u s1 ⟨x, H1, I1, rx, d, o, kvs, ex, hd, q⟩ => ?_
  subst ex
  obtain rfl : u = Value.ref d := rx
  obtain ⟨hs, hgd, hx, es, ep, hdt, hsz, ent⟩ := FrT.facts I1 hd
  refine iter_keys hs hgd hx hdt (pi_one (tk := s1.toks) I1 _ (turn_keysTT _ hdt) ⟨_, Heap.get?_push_size _ rfl, rfl, ?_⟩ q)
  rw [hsz] <;> rfl
theorem pi_itemsT {elts : List Expr} {kk : Nat} {tpos : Pos} (he : PE X e td) (hbase : attributeBase e "items" X.env (eval e X.env) = eval e X.env := by rfl) (hline : (apos.endLine == cpos.line) = true := by rfl) :
    PI X (.Tuple elts kk tpos) (.Call (.Attribute e "items" apos) [] [] cpos) (iItemsT X td) := by
  refine ⟨fun pins s σ H R I h => ?_⟩
  refine wpAny_Call_method (T := "dict") (id := "dict.items") hbase rfl hline F.plainAttrs_dict F.slot_dict_items F.type_dict_items (thn (he.run pins s σ H _ I h) fun u s1 ⟨x, H1, I1, rx, d, o, kvs, ex, hd, q⟩ => ?_)
  subst ex
  obtain rfl : u = Value.ref d := rx
  obtain ⟨hs, hgd, hx, es, ep, hdt, hsz, ent⟩ := FrT.facts I1 hd
  have raw : DT.Raw s1.heap d es ep := ⟨o, hgd, hx, hdt⟩
  refine ⟨raw.typeIs, fun b qb => ?_, ?_⟩
  · cases qb
    exact ⟨o, hgd, hx.2.1⟩
  have I2 : Inv X pins σ H1 { s1 with heap := s1.heap.push { cls := .type "dict_items", data := .fields #[.ref d] } } := I1.kept (t' := s1.toks) fun b ob q => Heap.get?_push_of_some _ q
  have fin : wpAny (model X.prog X.w) X.A (pyIter (.ref s1.heap.objs.size)) (PIE X pins σ (.Tuple elts kk tpos) R) X.xe { s1 with heap := s1.heap.push { cls := .type "dict_items", data := .fields #[.ref d] } } := by
    refine DT.iterI (d := d) ⟨_, Heap.get?_push_size _ rfl, rfl, rfl⟩ (raw.push _) (pi_one (tk := s1.toks) I2 _ (turn_itemsTT _ hdt) ⟨.none, .none, ?_⟩ q)
    rw [← hsz]
    exact Heap.get?_push_size _ rfl
  show wpAny _ _ (callWith cpos (.builtin "dict.items") [.ref d] [] []) _ X.xe s1
  exact method_meetsIn F.slot_dict_items F.entry_dict_items rfl (PySem.evalArgs_none ⟨rfl, raw.typeIs, F.args_dict_items_1 _, _, DT.meetsItems (es := es) (ep := ep) hs, ⟨raw, fin⟩⟩)
theorem walk_keysTT {P : Program} {w : World} {K : PySem.W.Frag} {d : Addr} {o : Obj} {kvs : List (List Key × V)} : Walk (ItkT P w K d o kvs) kvs.length (fun H => FrT P w K H d o kvs) (fun i H x H' => H' = H ∧ ∃ k v q, kvs[i]? = some (k, v) ∧ x = .ref q ∧ SqT K H q (k.map kV)) :=
  ⟨fun _ _ hi q => ⟨q, hi⟩, fun _ q => ⟨q, Nat.le_refl _⟩, fun _ _ _ _ _ _ y => y⟩
theorem walk_itemsTT {P : Program} {w : World} {K : PySem.W.Frag} {d : Addr} {o : Obj} {kvs : List (List Key × V)} : Walk (ItiT P w K d o kvs) kvs.length (fun H => FrT P w K H d o kvs) (fun i H x H' => ∃ T k v q, kvs[i]? = some (k, v) ∧ SqT K H q (k.map kV) ∧ x = .ref T ∧ H T = none ∧ H' = upd H T (.tup [.ref q, v])) :=
  ⟨fun _ _ hi q => ⟨q, hi⟩, fun _ q => ⟨q, Nat.le_refl _⟩, fun _ _ _ _ _ _ y => y⟩
end
/-! ### with the text, the world and the written part by name -/
section
variable {P : Program} {w : World} {K : PySem.W.Frag} {X : Cx} {tg o i e k v : Expr} {td ty tk tv : TE} {pos apos cpos : Pos}
def tDGetQ (P : Program) (w : World) (K : PySem.W.Frag) (td ty : TE) : TE := fun σ H Q => td σ H fun x H1 => ty σ H1 fun y H2 => ∃ a b kvs k v, x = .ref a ∧ y = .ref b ∧ RdT P w K H2 a kvs ∧ SqT K H2 b (k.map kV) ∧ valV kvs k = some v ∧ Q v H2
def tDisp1Q (P : Program) (w : World) (K : PySem.W.Frag) (tk tv : TE) : TE := fun σ H Q => ∀ p, H p = none → tk σ (upd H p (.dT [])) fun y H1 => tv σ H1 fun z H2 => ∃ q ks, y = .ref q ∧ SqT K H2 q (ks.map kV) ∧ H2 p = some (.dT []) ∧
  ∀ ob, FrT P w K (upd H2 p (.frz ob (.own 0))) p ob [(ks, z)] → Q (.ref p) (upd H2 p (.frz ob (.own 0)))
def iKeysQ (P : Program) (w : World) (K : PySem.W.Frag) (td : TE) : TI := fun σ H R => td σ H fun x H1 => ∃ d o kvs, x = .ref d ∧ FrT P w K H1 d o kvs ∧ R (ItkT P w K d o kvs) H1
def iItemsQ (P : Program) (w : World) (K : PySem.W.Frag) (td : TE) : TI := fun σ H R => td σ H fun x H1 => ∃ d o kvs, x = .ref d ∧ FrT P w K H1 d o kvs ∧ R (ItiT P w K d o kvs) H1
theorem pe_dgetK (hP : X.prog = P) (hw : X.w = w) (hK : X.K = K) (hu : X.A.units + 1 < cLine) (ho : PE X o td) (hi : PE X i ty) (hs : NoSl i) : PE X (.Subscript o i pos) (tDGetQ P w K td ty) := by
  subst hP hw hK
  exact pe_dgetT hu ho hi hs
theorem pe_disp1K (hP : X.prog = P) (hw : X.w = w) (hK : X.K = K) (hu : X.A.units + 1 < cLine) (hk : PE X k tk) (hv : PE X v tv) : PE X (.Dict [some k] [v] pos) (tDisp1Q P w K tk tv) := by
  subst hP hw hK
  exact pe_disp1 hu hk hv
theorem pi_keysTK (hP : X.prog = P) (hw : X.w = w) (hK : X.K = K) (he : PE X e td) : PI X tg e (iKeysQ P w K td) := by
  subst hP hw hK
  exact pi_keysT he
theorem pi_itemsTK {elts : List Expr} {kk : Nat} {tpos : Pos} (hP : X.prog = P) (hw : X.w = w) (hK : X.K = K) (he : PE X e td) (hbase : attributeBase e "items" X.env (eval e X.env) = eval e X.env := by rfl) (hline : (apos.endLine == cpos.line) = true := by rfl) :
    PI X (.Tuple elts kk tpos) (.Call (.Attribute e "items" apos) [] [] cpos) (iItemsQ P w K td) := by
  subst hP hw hK
  exact pi_itemsT he hbase hline
end
theorem paStarK {X : Cx} {K : PySem.W.Frag} {e : Expr} {es : List Expr} {te : TE} {t : TA} {p : PySem.Pos} (h : X.K = K) (he : PE X e te) (hr : PA X es t) (hs : starEach (.Starred e p :: es) X.env = (true, eval e X.env) :: starEach es X.env := by rfl) : PA X (.Starred e p :: es) (StX.tStar K te t) := by
  subst h
  exact StX.pa_star he hr hs
/-! ### a lock only where the thing may be changed -/
section
variable {X : Cx}
def tLockF (t : TS) : TS := fun D σ H => tLock t D σ H ∨ t D σ H
theorem ps_lockF {st : Stmt} {t : TS} (h : PS X st t) : PS X st (tLockF t) := ⟨fun pins s σ H D I q => q.elim (fun z => (ps_lock h).run pins s σ H D I z) fun z => h.run pins s σ H D I z⟩
def tLockEF (t : TE) : TE := fun σ H Q => tLockE t σ H Q ∨ t σ H Q
theorem pe_lockF {e : Expr} {t : TE} (h : PE X e t) : PE X e (tLockEF t) := ⟨fun pins s σ H Q I q => q.elim (fun z => (pe_lock h).run pins s σ H Q I z) fun z => h.run pins s σ H Q I z⟩
end
end Fx
/-! ==== FxOrd ==== -/
/-! Order of data with a Lean type: x < y, min of a list; a tuple times a number from 0 on. -/
namespace Fx
open PySem PySem.Spec PyProof.Rows L2
section
variable {α : Type} [DecidableEq α] [PySem.W.DatumOrd α]
/-- x < y, both data of one type -/
def rLtO (α : Type) [DecidableEq α] [PySem.W.DatumOrd α] (K : PySem.W.Frag) : R2 := fun x y H Q => ∃ d e : α, Dp K H x (PySem.W.Datum.toD d) ∧ Dp K H y (PySem.W.Datum.toD e) ∧ Q (.bl (PySem.W.DatumOrd.lt d e)) H
theorem op_ltO {X : Cx} (hu : X.A.units + 64 < cLine) (hd : PySem.W.Datum.depth α ≤ 60) : OpR X (compareOp .Lt) (rLtO α X.K) := by
  intro pins s σ H x y v u Q I rx ry h
  obtain ⟨d, e, h1, h2, q⟩ := h
  obtain ⟨as, r1⟩ := Dp.reads I _ x v h1 rx
  obtain ⟨bs, r2⟩ := Dp.reads I _ y u h2 ry
  have a1 := PySem.W.Datum.depth_le d
  have a2 := Nat.min_le_left (PySem.W.Datum.toD d).depth (PySem.W.Datum.toD e).depth
  refine PySem.W.lt_data r1 r2 (PySem.W.DatumOrd.alike d e) (PySem.W.DatumOrd.notNone d) (by omega) ?_
  rw [PySem.W.DatumOrd.lt_eq]
  exact ⟨.bl (PySem.W.DatumOrd.lt d e), H, I, rfl, q⟩
theorem dp_get {K : PySem.W.Frag} {H : Hp} : ∀ {xs : List V} {ds : List PyData}, DpAll K H xs ds → xs.length = ds.length
  | _, _, .nil => rfl
  | _, _, .cons _ t => by simp [dp_get t]
/-- min(list), by a measure that the order keeps -/
def rMinO (α : Type) [DecidableEq α] [PySem.W.DatumOrd α] (f : α → Int) (K : PySem.W.Frag) : List V → Hp → VK → Prop := fun vs H Q => ∃ (a : Addr) (xs : List V) (ds : List α), vs = [V.ref a] ∧ SqL K H a xs ∧ DpAll K H xs (ds.map PySem.W.Datum.toD) ∧ xs ≠ [] ∧
  ∀ (i : Nat) (v : V) (d : α), xs[i]? = some v → ds[i]? = some d → (∀ e ∈ ds, f d ≤ f e) → Q v H
theorem argBest_le {bt : Nat → Nat → Bool} {f : Nat → Int} (h1 : ∀ i j, bt i j = true → f i ≤ f j) (h2 : ∀ i j, bt i j = false → f j ≤ f i) : ∀ k i, i ≤ k → f (argBest bt k) ≤ f i
  | 0, i, hi => by
    rw [Nat.le_zero.mp hi]
    exact Int.le_refl _
  | k + 1, i, hi => by
    unfold argBest
    have ih := argBest_le h1 h2 k
    by_cases b : bt (k + 1) (argBest bt k) = true
    · rw [if_pos b]
      rcases Nat.lt_or_ge k i with z | z
      · rw [show i = k + 1 by omega]
        exact Int.le_refl _
      · exact Int.le_trans (h1 _ _ b) (ih i z)
    · rw [if_neg b]
      rcases Nat.lt_or_ge k i with z | z
      · rw [show i = k + 1 by omega]
        exact h2 _ _ (by simpa using b)
      · exact ih i z
theorem argBest_lt' (bt : Nat → Nat → Bool) : ∀ k, argBest bt k ≤ k
  | 0 => Nat.le_refl _
  | k + 1 => by
    unfold argBest
    split
    · exact Nat.le_refl _
    · exact Nat.le_succ_of_le (argBest_lt' bt k)
theorem depthAll_le {n : Nat} : ∀ {ds : List PyData}, (∀ d ∈ ds, d.depth ≤ n) → PyData.depthAll ds ≤ n
  | [], _ => Nat.zero_le _
  | d :: r, h => Nat.max_le.mpr ⟨h d List.mem_cons_self, depthAll_le fun e he => h e (List.mem_cons_of_mem _ he)⟩
theorem cr_minO {X : Cx} {f : α → Int} (hc : X.calm = true) (hu : X.A.units + 64 < cLine) (hd : PySem.W.Datum.depth α ≤ 60) (h1 : ∀ d e : α, PySem.W.DatumOrd.lt d e = true → f d ≤ f e) (h2 : ∀ d e : α, PySem.W.DatumOrd.lt d e = false → f e ≤ f d) : CallR X (.builtin "min") (rMinO α f X.K) := by
  intro pins s σ H vs us Q I r h
  obtain ⟨a, xs, ds, rfl, hs, hdp, hne, q⟩ := h
  obtain ⟨its, rv, hl, _⟩ := I.list hs
  rw [Vals.ref1 r]
  obtain ⟨as, hr⟩ := Dp.readsAll I _ xs its hdp rv
  have hr' : PySem.ReadsAll s.heap its.toArray.toList (ds.map PySem.W.Datum.toD) as := by simpa using hr
  have hlen : xs.length = ds.length := by
    have := dp_get hdp
    rw [List.length_map] at this
    exact this
  have hdl : PyData.depthAll (ds.map PySem.W.Datum.toD) ≤ 60 := depthAll_le fun d hd2 => by
    obtain ⟨e, _, rfl⟩ := List.mem_map.mp hd2
    exact Nat.le_trans (PySem.W.Datum.depth_le e) hd
  have hn : its.toArray.size = xs.length := by rw [List.size_toArray, ← rv.length]
  have hpos : 0 < xs.length := List.length_pos_iff.mpr hne
  refine PySem.call_min_walkH (PySem.W.iter_listW (A := X.A.in1) (I.ok.hd hc) hl.isList fun s₂ e W st hfp hw hk => ?_)
  refine ⟨_, _, _, _, _, _, _, s.heap, _, rfl, W, st, hfp, by omega, hw, hk, PySem.W.cmpIn_lt (A := X.A.in1) hr' (PySem.W.alikeAll_datum ds) (by show X.A.units + 1 + _ < cLine; omega), fun v s' hP m => ?_⟩
  obtain ⟨h', tk, rfl, hk'⟩ := PySem.W.moved_old e rfl m
  rw [hn] at hP
  have hb := argBest_lt' (fun i j => PySem.W.dataLt ((ds.map PySem.W.Datum.toD).getD i .none) ((ds.map PySem.W.Datum.toD).getD j .none)) (xs.length - 1)
  generalize hm : argBest (fun i j => PySem.W.dataLt ((ds.map PySem.W.Datum.toD).getD i .none) ((ds.map PySem.W.Datum.toD).getD j .none)) (xs.length - 1) = b at hb hP
  have hbl : b < ds.length := by omega
  obtain ⟨x, hx⟩ : ∃ x, xs[b]? = some x := ⟨xs[b]'(by omega), List.getElem?_eq_getElem (by omega)⟩
  obtain ⟨u, hu2, ru⟩ := rv.get hx
  have ev : v = u := by
    have : its[b]? = some v := by simpa using hP
    rw [hu2] at this
    exact (Option.some.inj this).symm
  subst ev
  refine ⟨x, H, I.kept (t' := tk) hk', ru, q b x ds[b] hx (List.getElem?_eq_getElem hbl) fun e he => ?_⟩
  obtain ⟨i, hi, rfl⟩ := List.mem_iff_getElem.mp he
  -- the measure by places below the length; above, the same as at 0
  let g : Nat → Int := fun i => if h : i < ds.length then f ds[i] else f ds[b]
  have gi : ∀ i (h : i < ds.length), g i = f ds[i] := fun i h => dif_pos h
  have gd : ∀ i (h : i < ds.length), (ds.map PySem.W.Datum.toD).getD i .none = PySem.W.Datum.toD ds[i] := fun i h => by
    rw [List.getD_eq_getElem?_getD, List.getElem?_map, List.getElem?_eq_getElem h]
    rfl
  have key : ∀ k, k < ds.length → ∀ i, i ≤ k → g (argBest (fun i j => PySem.W.dataLt ((ds.map PySem.W.Datum.toD).getD i .none) ((ds.map PySem.W.Datum.toD).getD j .none)) k) ≤ g i := by
    intro k
    induction k with
    | zero =>
      intro hk0 i hi
      rw [Nat.le_zero.mp hi]
      exact Int.le_refl _
    | succ k ih =>
      intro hk1 i hi
      have hkl : k < ds.length := by omega
      have ihk := ih hkl
      have hbk := argBest_lt' (fun i j => PySem.W.dataLt ((ds.map PySem.W.Datum.toD).getD i .none) ((ds.map PySem.W.Datum.toD).getD j .none)) k
      have e1 : argBest (fun i j => PySem.W.dataLt ((ds.map PySem.W.Datum.toD).getD i .none) ((ds.map PySem.W.Datum.toD).getD j .none)) (k + 1) = if PySem.W.dataLt ((ds.map PySem.W.Datum.toD).getD (k + 1) .none) ((ds.map PySem.W.Datum.toD).getD (argBest (fun i j => PySem.W.dataLt ((ds.map PySem.W.Datum.toD).getD i .none) ((ds.map PySem.W.Datum.toD).getD j .none)) k) .none) = true then k + 1 else argBest (fun i j => PySem.W.dataLt ((ds.map PySem.W.Datum.toD).getD i .none) ((ds.map PySem.W.Datum.toD).getD j .none)) k := rfl
      rw [e1]
      generalize argBest (fun i j => PySem.W.dataLt ((ds.map PySem.W.Datum.toD).getD i .none) ((ds.map PySem.W.Datum.toD).getD j .none)) k = c at ihk hbk
      have hcl : c < ds.length := by omega
      rw [gd (k + 1) hk1, gd c hcl, PySem.W.DatumOrd.lt_eq]
      by_cases z : PySem.W.DatumOrd.lt ds[k + 1] ds[c] = true
      · rw [if_pos z]
        rcases Nat.lt_or_ge k i with y | y
        · rw [show i = k + 1 by omega]
          exact Int.le_refl _
        · refine Int.le_trans ?_ (ihk i y)
          rw [gi _ hk1, gi _ hcl]
          exact h1 _ _ z
      · rw [if_neg z]
        rcases Nat.lt_or_ge k i with y | y
        · rw [show i = k + 1 by omega, gi _ hk1, gi _ hcl]
          exact h2 _ _ (by simpa using z)
        · exact ihk i y
  have kk := key (xs.length - 1) (by omega) i (by omega)
  rw [gi i hi, hm, gi b hbl] at kk
  exact kk
end
/-! ### t * n, n from 0 on -/
theorem tuple_mul1 (l : Addr) (items : Array Value) (n : Nat) (dd : Option Addr) (sl : Array (Option Value)) (u : Tok) :
    Meets (Builtin.«tuple.__mul__» ⟨[.ref l, .int 1 u], []⟩) (fun _ R s => s.heap.get? l = some { cls := .type "tuple", dict := dd, data := .seq items n, slots := sl } ∧ R (.ok (.ret (Value.ref l))) s) :=
  .of_wp fun prog w A R s h => by
    obtain ⟨hp, g, d, tk, os⟩ := s
    obtain ⟨hl, h⟩ := h
    have f1 := AutoSeq1.idx_int
    have f2 := AutoSeq1.sub_tuple_tuple
    wp_walk using wpAny_loadPart' hl
    exact ⟨_, rfl, h⟩
theorem tuple_mul0 (l : Addr) (items : Array Value) (n : Nat) (dd : Option Addr) (sl : Array (Option Value)) (u : Tok) (he : items.isEmpty = false) :
    Meets (Builtin.«tuple.__mul__» ⟨[.ref l, .int 0 u], []⟩) (fun _ R s => s.heap.get? l = some { cls := .type "tuple", dict := dd, data := .seq items n, slots := sl } ∧
      R (.ok (.ret (Value.ref s.heap.objs.size))) { s with heap := s.heap.push { cls := Value.type "tuple", data := Data.seq #[] }, toks := s.toks }) :=
  .of_wp fun prog w A R s h => by
    obtain ⟨hp, g, d, tk, os⟩ := s
    obtain ⟨hl, h⟩ := h
    have f1 := AutoSeq1.idx_int
    have f2 := AutoSeq1.sub_tuple_tuple
    have c1 : (items.isEmpty || (0 : Int) == 1) = false := by rw [he]; rfl
    wp_walk using wpAny_loadPart' hl
    repeat (first
      | (refine wpAny_ite_false (decide_eq_false (by rw [c1]; exact Bool.false_ne_true)) ?_; wp_walk using wpAny_loadPart' hl))
    exact ⟨_, rfl, h⟩
/-- t * k, k from 0 on -/
def rRepA (K : PySem.W.Frag) : R2 := fun x y H Q => ∃ l k xs, x = .ref l ∧ y = .int ((k : Nat) : Int) ∧ SqT K H l xs ∧ xs ≠ [] ∧ k ≤ 1000 ∧ xs.length ≤ 1000 ∧ (k = 1 → Q (.ref l) H) ∧ (k ≠ 1 → ∀ p, H p = none → Q (.ref p) (upd H p (.tup (List.replicate k xs).flatten)))
theorem op_repA {X : Cx} : OpR X (binaryOp .Mult) (rRepA X.K) := by
  intro pins s σ H x y v u Q I rx ry h
  obtain ⟨l, k, xs, rfl, rfl, hT, hne, h2, hz, q1, q⟩ := h
  by_cases k2 : 2 ≤ k
  · exact op_repT pins s σ H (.ref l) (.int ((k : Nat) : Int)) v u Q I rx ry ⟨l, (k : Nat), xs, rfl, rfl, hT, hne, by omega, by omega, hz, by rw [Int.toNat_natCast]; exact q (by omega)⟩
  cases rx
  obtain ⟨t, rfl⟩ := ry
  have tup := I.tuple hT
  obtain ⟨its, r, ⟨⟨cls, dd, data, sl⟩, ho, hc, n, hd⟩, hs⟩ := tup
  simp only at hc hd
  subst hc hd
  have hle : its.length = xs.length := r.length.symm
  have hn : its ≠ [] := fun e => hne (by
    rw [e] at hle
    exact List.eq_nil_of_length_eq_zero hle.symm)
  have hi : its.toArray.isEmpty = false := by
    cases its with
    | nil => exact absurd rfl hn
    | cons a b => rfl
  rcases (show k = 0 ∨ k = 1 by omega) with rfl | rfl
  · refine wpAny_binaryOp_repeat_ref (T := "tuple") (U := "int") (by decide) ⟨_, ho, rfl⟩ (fun s' => typeIs_int s' _ t) noFill_tuple_mul F.fills_int_mul F.slot_int_rmul repeat_tuple F.slot_int_index.lookup
      (call_meets F.slot_int_rmul (typeIs_int s _ t) F.entry_int_rmul (F.args_int_rmul_2 _ _) (int_rmul_tuple _ t l its.toArray n dd sl)
        ⟨ho, rfl, ⟨_, ho, rfl⟩, call_meets F.slot_tuple_mul ⟨_, ho, rfl⟩ F.entry_tuple_mul (F.args_tuple_mul_2 _ _) (tuple_mul0 l its.toArray n dd sl t hi) ⟨ho, ?_⟩⟩)
    refine ⟨.ref s.heap.objs.size, _, I.laid (t' := s.toks) (o := .tup []) (fun b ob q => Heap.get?_push_of_some _ q) (Nat.le_refl _) ?_, rfl, q (by decide) _ (I.hok.fresh (Nat.le_refl _))⟩
    exact ⟨Nat.zero_le _, [], .nil, IsTup.new _ _⟩
  · exact wpAny_binaryOp_repeat_ref (T := "tuple") (U := "int") (by decide) ⟨_, ho, rfl⟩ (fun s' => typeIs_int s' _ t) noFill_tuple_mul F.fills_int_mul F.slot_int_rmul repeat_tuple F.slot_int_index.lookup
      (call_meets F.slot_int_rmul (typeIs_int s _ t) F.entry_int_rmul (F.args_int_rmul_2 _ _) (int_rmul_tuple _ t l its.toArray n dd sl)
        ⟨ho, rfl, ⟨_, ho, rfl⟩, call_meets F.slot_tuple_mul ⟨_, ho, rfl⟩ F.entry_tuple_mul (F.args_tuple_mul_2 _ _) (tuple_mul1 l its.toArray n dd sl t) ⟨ho, ⟨.ref l, H, I, rfl, q1 rfl⟩⟩⟩)
/-! ### with the written part by name -/
section
variable {X : Cx} {K : PySem.W.Frag} {α : Type} [DecidableEq α] [PySem.W.DatumOrd α]
theorem op_ltOK (h : X.K = K) (hu : X.A.units + 64 < cLine) (hd : PySem.W.Datum.depth α ≤ 60) : OpR X (compareOp .Lt) (rLtO α K) := by
  subst h
  exact op_ltO hu hd
theorem cr_minOK {f : α → Int} (h : X.K = K) (hc : X.calm = true) (hu : X.A.units + 64 < cLine) (hd : PySem.W.Datum.depth α ≤ 60) (h1 : ∀ d e : α, PySem.W.DatumOrd.lt d e = true → f d ≤ f e) (h2 : ∀ d e : α, PySem.W.DatumOrd.lt d e = false → f e ≤ f d) : CallR X (.builtin "min") (rMinO α f K) := by
  subst h
  exact cr_minO hc hu hd h1 h2
theorem repAK (h : X.K = K) : OpR X (binaryOp .Mult) (rRepA K) := by
  subst h
  exact op_repA
theorem slAK (h : X.K = K) : SlR X (rSlA K) := by
  subst h
  exact sl_tupA
theorem neDK (h : X.K = K) (hu : X.A.units + 64 < cLine) : OpR X (compareOp .NotEq) (rNeD K) := by
  subst h
  exact op_neD hu
theorem sortK (h : X.K = K) : CallR X (.builtin "sorted") (rSorted K) := by
  subst h
  exact cr_sorted
end
/-- a pair: a number, then a tuple of numbers -/
theorem pair_lt1 (d e : Int × PySem.W.Tup Int) (h : PySem.W.DatumOrd.lt d e = true) : d.1 ≤ e.1 := by
  have h : (if d.1 = e.1 then PySem.W.DatumOrd.lt d.2 e.2 else decide (d.1 < e.1)) = true := h
  by_cases q : d.1 = e.1
  · omega
  · rw [if_neg q] at h
    have := of_decide_eq_true h
    omega
theorem pair_lt2 (d e : Int × PySem.W.Tup Int) (h : PySem.W.DatumOrd.lt d e = false) : e.1 ≤ d.1 := by
  have h : (if d.1 = e.1 then PySem.W.DatumOrd.lt d.2 e.2 else decide (d.1 < e.1)) = false := h
  by_cases q : d.1 = e.1
  · omega
  · rw [if_neg q] at h
    have := of_decide_eq_false h
    omega
end Fx
/-! ==== FxComp ==== -/
/-! name = {..: .. for ..} on one line, the name a local. -/
namespace Fx
open PySem PySem.Spec PyProof.Rows L2
section
variable {X : Cx}
theorem ps_setDc {i : Nat} {y : Str} {py : Pos} {kx vx tg iter : Expr} {ifs : List Expr} {scope : Scope} {own : List (Str × Nat)} {pos spos : Pos} {wi : TI} {g : TG} {tt : TT} {tk tv : TE} (hc : X.calm = true) (hN : X.N.Nodup) (hy : X.N[i]? = some y) (hyl : X.env.scope.names.lookup y = some .local)
    (hsw : swapsWith (.DictComp kx vx [⟨tg, iter, ifs, 0⟩] scope pos) (some (.Name y py)) spos.line X.env = pure true) (hi : PI X tg iter wi) (ok : BlkOk X.N X.env.scope scope own)
    (hg : ∀ (s : Shared) (H : Hp) (C : Addr) (cl : List (Str × Addr)) (fp : List Addr), PG (X.blk s H scope (compEnvC scope cl C X.env) fp) tg g) (ht : ∀ (s : Shared) (H : Hp) (C : Addr) (cl : List (Str × Addr)) (fp : List Addr), PTs (X.blk s H scope (compEnvC scope cl C X.env) fp) ifs tt)
    (hk : ∀ (s : Shared) (H : Hp) (C : Addr) (cl : List (Str × Addr)) (fp : List Addr), PE (X.blk s H scope (compEnvC scope cl C X.env) fp) kx tk)
    (he : ∀ (s : Shared) (H : Hp) (C : Addr) (cl : List (Str × Addr)) (fp : List Addr), PE (X.blk s H scope (compEnvC scope cl C X.env) fp) vx tv) (hs : ∀ x, foldedSetIterable iter X.env x = pure x := by intro _; rfl) :
    PS X (.Assign [.Name y py] (.DictComp kx vx [⟨tg, iter, ifs, 0⟩] scope pos) spos) (tAsg (tDc wi g tt tk tv (own.map (·.2))) (gName i)) := by
  refine ⟨fun pins s σ H D I h => ?_⟩
  rw [exec_Assign_Name_used _ _ _ _ hsw]
  refine wpAny_bind (wpAny_standAt (wpAny_bind ?_))
  show wpAny _ X.A (do let _ ← comprehension (.DictComp kx vx [⟨tg, iter, ifs, 0⟩] scope pos) scope X.env (firstIterPos [⟨tg, iter, ifs, 0⟩] pos) (newDict) false (eval iter X.env) (some (assign (.Name y py) X.env))) _ _ s
  have h : tDc wi g tt tk tv (own.map (·.2)) σ H (fun x H1 => gName i x σ H1 D.nx) := h
  refine wpAny_bind (thn (dc_core (Qf := fun _ s' => SP X pins D .next s') hc hN I hi ok hg ht hk he hs h fun L C s' m H' I' q hn f => ?_) fun _ s' hq => wpAny_pure (wpAny_pure hq))
  show wpAny _ _ (assign (.Name y py) X.env (.ref L)) _ _ _
  refine wpAny_assign_Name (store_ok2 (v := V.ref L) I' hN hy (.inl hyl) rfl (fun s2 I2 ⟨a, sb, ha⟩ => ?_) (.inr hyl))
  obtain ⟨f0, f1, f2, f3, f4, f5⟩ := f
  have haC : C ≠ a := by
    rcases ha with z | z
    · rw [z]; exact f1
    · exact fun e => f4 y a z e.symm
  refine ⟨m, hn.sameBut sb haC, fun h3 sb3 => ?_⟩
  exact ⟨_, H', I2.turned (t' := s2.toks) (fun b o hb e => (sb3.2 b hb).trans e) f0 f1 f3 f4 f5, q⟩
theorem sw_trueD {kx vx : Expr} {gs : List Comprehension} {scope : Scope} {pos py : Pos} {y : Str} {l : Nat} {env : Env} (hk : env.scope.kind = .function) (hy : env.scope.names.lookup y = some .local) (hl : (py.line == pos.line) = true)
    (ha : (scope.names.any fun (n, k) => n == y && (k == .local || k == .cell)) = false) : swapsWith (.DictComp kx vx gs scope pos) (some (.Name y py)) l env = pure true := by
  have ky : env.kindOf y = some .local := hy
  have hb : env.blockKind = .function := by unfold Env.blockKind; rw [hk]; rfl
  unfold swapsWith
  simp only [hb, ky, ha, Expr.pos, hl]
  rfl
end
end Fx
/-! ==== B64a ==== -/
namespace K62
open PySem PySem.Spec PyProof.Rows L2 Fx Od
section
variable {P : Program} {w : World} {K : PySem.W.Frag} {mg : Str → Option Value} {base : Heap} {C : Addr} {Z : List (Addr × Str)}
/-! ### rows: is_short_list, need_row_of (a lambda handed to first_wrong), need_row, need_both, led_from, verdict_of -/
def spShortList (K : PySem.W.Frag) (Z : List (Addr × Str)) : Sp := fun vs H Q _ => ∃ a xs, vs = [.ref a] ∧ SqS K H a xs ∧ xs.length ≤ 300 ∧ ∀ H', Ex Z H H' → Q (.bl true) H'
theorem sc_is_short_list : FnScope ["thing"] ["thing"] (defScope s_is_short_list) := ⟨rfl, rfl, rfl, by decide +kernel, rfl, by decide +kernel, by decide +kernel⟩
theorem is_short_list_ok (T : Txt K mg C) (D : Df K mg "is_short_list" s_is_short_list []) (c_is_list : C8.Cal P w K mg base 1 "is_list" (spList K Z) []) : C8.Cal P w K mg base 2 "is_short_list" (spShortList K Z) [] := by
  refine D.cal (k := 1) sc_is_short_list (by intro kV doc pm an cdv ct us h; match us, h with | [_], _ => rfl) (by rintro _ _ _ _ ⟨_, _, rfl, _⟩; rfl) ?_
  rintro f cdv A outer s H _ Q E hr ⟨a, xs, rfl, hs, hl, hq⟩
  refine ⟨_, (pss_one (ps_ret (pe_and (C8.pe_c c_is_list hr (by decide) (by rfl) (pa_cons (pv 0) pa_nil)) (pe_one (pe_cmpR op_le (pe_callB (lenK (K := K) rfl) (by rfl) T.len bt_len (pa_cons (pv 0) pa_nil)) (C8.pe_gc (by rfl) T.c_MOST_EVENTS) (nomark _)))))), ?_⟩
  refine ⟨_, rfl, _, _, rfl, hs, fun H1 x1 => ⟨true, rfl, _, rfl, _, _, rfl, x1.sqS hs, _, _, rfl, rfl, ?_⟩⟩
  show Q (.bl (decide ((xs.length : Int) ≤ 300))) H1
  rw [decide_eq_true (by omega)]
  exact hq _ x1
/-- the name that the lambda's code bears -/
def lamR : Str := (envOfC "need_row_of" (defScope s_need_row_of) 0 0 .none).qual ++ "<lambda>"
/-- a row: whole numbers below k -/
def natV (row : List Nat) : List V := row.map fun c => V.int (c : Nat)
theorem natV_len (row : List Nat) : (natV row).length = row.length := by simp [natV]
theorem natV_get {row : List Nat} {i : Nat} {v : V} (h : (natV row)[i]? = some v) : ∃ c, row[i]? = some c ∧ v = .int (c : Nat) := by
  unfold natV at h
  rw [List.getElem?_map] at h
  cases e : row[i]? with
  | none =>
    rw [e] at h
    cases h
  | some c =>
    rw [e] at h
    exact ⟨c, rfl, (Option.some.inj h).symm⟩
theorem natV_at {row : List Nat} {i c : Nat} (h : row[i]? = some c) : (natV row)[i]? = some (.int (c : Nat)) := by
  unfold natV
  rw [List.getElem?_map, h]
  rfl
def RwAt (K : PySem.W.Frag) (H : Hp) (b : Addr) (k : Nat) (row : List Nat) : Prop := SqS K H b (natV row) ∧ row.length ≤ 300 ∧ ∀ c ∈ row, c < k
theorem RwAt.ex {H H' : Hp} {b : Addr} {k : Nat} {row : List Nat} (x : Ex Z H H') (h : RwAt K H b k row) : RwAt K H' b k row := ⟨x.sqS h.1, h.2⟩
def spNeedRowOf (K : PySem.W.Frag) (Z : List (Addr × Str)) : Sp := fun vs H Q _ => ∃ b k row, vs = [.int (k : Nat), .ref b] ∧ RwAt K H b k row ∧ k ≤ 4 ∧ LamX.Tabs Z H ∧ ∀ H', Ex Z H H' → Q .non H'
theorem sc_need_row_of : FnScope ["kinds", "row", "index"] ["kinds", "row"] (defScope s_need_row_of) := ⟨rfl, rfl, rfl, by decide +kernel, rfl, by decide +kernel, by decide +kernel⟩
/-- what first_wrong makes of a lambda that fits numbers -/
theorem first_row (T : Txt K mg C) {X : Cx} (hK : X.K = K) (hm : X.mg = mg) {g : Addr} {cdg : Value} {q : Str} :
    GivesTwo X ["several", "fits", "index", "item"] "first_wrong" (defScope s_first_wrong) g cdg (defBody s_first_wrong) "fits" 1 q
      (fun tl v H Q => ∃ (a : Addr) (row : List Nat), v = .ref a ∧ SqS K H a (natV row) ∧ (∀ (c : Nat) (H1 : Hp) (Q1 : VK), c ∈ row → Ex Z H H1 → (∀ H2, Ex Z H H2 → Q1 (.bl true) H2) → tl (.int (c : Nat)) H1 Q1) ∧ ∀ H', Ex Z H H' → Q .non H') := by
  subst hK hm
  rintro f c' s H v Q tl hcall hc ⟨a, row, rfl, hs, hl, hq⟩
  refine ⟨_, (pss_cons (ps_for PassesOwn.never rfl (pi_enumW (by rfl) T.enumerate (pa_cons (pv 0) pa_nil)) (pg_tup rfl (pgs_cons (pg_name (i := 2) sc_first_wrong.nd rfl (by first | exact Or.inl rfl | exact Or.inr rfl)) (pgs_cons (pg_name (i := 3) sc_first_wrong.nd rfl (by first | exact Or.inl rfl | exact Or.inr rfl)) pgs_nil)))
      (pss_one (ps_if (pt_not (pt_val (hcall _ _ _ _ (pv 3) (by rfl)))) (pss_one (ps_ret (pv 2))) pss_nil)))
      (pss_one (ps_ret pe_non))), ?_⟩
  refine ⟨_, rfl, _, _, rfl, hs, fun J G wk hG => ?_⟩
  rw [natV_len] at wk
  refine for_it wk (fun i σ H' => ∃ u v, σ = [some (.ref a), some (.ref f), u, v] ∧ Ex Z H H') ⟨_, _, rfl, Exb.refl _⟩ (fun i σ H' _ ⟨u, v, _, x⟩ => hG Z [] H' (by simp) x) (fun i x σ H1 H2 hi ⟨u, v, hσ, x1⟩ hy => ?_) fun σ H' ⟨u, v, _, x⟩ => hq _ x
  subst hσ
  obtain ⟨t, _, y, rfl, hn, rfl, h1, h2⟩ := hy
  obtain rfl := Option.some.inj h1
  obtain ⟨c, hcr, rfl⟩ := natV_get h2
  have x2 := x1.trans (Exb.new (o := .tup [.int (i : Nat), .int (c : Nat)]) hn)
  refine ⟨_, _, rfl, SqT.of upd_same, rfl, _, _, rfl, _, _, rfl, rfl, ?_⟩
  refine ⟨rfl, _, rfl, x2.1 _ _ (by simp) hc (fun ps z => nomatch z), hl c _ _ (List.mem_of_getElem? hcr) x2 fun H3 x3 => ?_⟩
  exact ⟨true, rfl, _, _, rfl, x3⟩
theorem need_row_of_ok {c Pt : Addr} (T : Txt K mg C) (D : DfC K mg "need_row_of" s_need_row_of c) (D1 : Df K mg "first_wrong" s_first_wrong []) (TB : LamX.TabB base mg c Pt) (hZ : (Pt, lamR) ∈ Z) (hZ2 : ∀ p ∈ Z, p.1 = Pt → p.2 = lamR) (c_is_short_list : C8.Cal P w K mg base 2 "is_short_list" (spShortList K Z) []) (c_is_between : C8.Cal P w K mg base 2 "is_between" spBetween []) : C8.Cal P w K mg base 5 "need_row_of" (spNeedRowOf K Z) [] := by
  obtain ⟨f, fd, F, hcode, hmg⟩ := D.ex
  obtain ⟨g, fdg, Fg, hmg1⟩ := D1.ex
  obtain ⟨ocg, odg, dVg, kVg, docg, pmg, ang, cdvg, ctg, oslg, rfl, lkg, hcdg, hDg, _⟩ := Fg.ex
  have bb := Fg.bindsN (ps := ["several", "fits"]) (by intro kV doc pm an cdv ct us h; match us, h with | [_, _], _ => rfl)
  refine ⟨f, fd, ["kinds", "row"], [], ?_, hmg, F.kp, F.bindsN (by intro kV doc pm an cdv ct us h; match us, h with | [_, _], _ => rfl), .nil⟩
  have F2 := F
  obtain ⟨oc, od, dV, kV, doc, pm, an, cdv, ct, osl, rfl, lk, hcd, _, _⟩ := F2.ex
  obtain rfl : cdv = .ref c := hcode
  refine fn_of (k := 4) lk hcd sc_need_row_of (by rintro _ _ _ _ ⟨_, _, _, rfl, _⟩; rfl) ?_
  rintro A outer s H _ Q E hr ⟨b, k, row, rfl, hR, k4, hT, hq⟩
  refine ⟨_, PSs.nox (pss_cons (ps_if (pt_not (pt_val (C8.pe_c c_is_short_list hr (by decide) (by rfl) (pa_cons (pv 1) pa_nil)))) (pss_one ps_never) pss_nil)
    (pss_cons (ps_set (i := 2) sc_need_row_of.nd rfl (by first | exact Or.inl rfl | exact Or.inr rfl) (pe_two (k := 2) (T := Z) (g := g) (c := c) (P := Pt) (i := 1) (a := "fits") (b := "several") (x := "item") (pv 1) (by rfl) hmg1 Fg.kp lkg hcdg bb sc_first_wrong rfl (.inl rfl) (first_row (Z := Z) T rfl rfl) TB rfl hZ hZ2 (hr.mono (by decide)) (oneP_by (sc := defScope s_need_row_of) (by decide +kernel)) (show ("item" : Str) ∉ (["kinds", "row", "index"] : List Str) by decide +kernel) rfl (by intros; rfl)
        (fun A outer s H f c' hr2 => C8.pe_c c_is_between hr2 (by decide) (by rfl) (pa_cons (pv 3) (pa_cons pe_int (pa_cons (pe_op op_sub (pv 0) pe_int) pa_nil))))
        rfl rfl rfl (by rfl)))
    (pss_one (ps_if (pt_cmpR op_notN (pv 2) pe_non (nomark _)) (pss_one ps_never) pss_nil)))), ?_⟩
  obtain ⟨hs, hl, hlt⟩ := hR
  refine ⟨_, rfl, _, _, rfl, hs, by rw [natV_len]; exact hl, fun H1 x1 => ⟨true, rfl, ?_⟩⟩
  refine ⟨_, rfl, x1.2 hT, fun H3 e3 t3 => ?_⟩
  have x3 : Ex Z H1 H3 := ⟨fun b o _ e t => e3 b o e t, fun _ => t3⟩
  have x13 := x1.trans x3
  refine ⟨_, row, rfl, x13.sqS hs, fun d H4 Q4 hd x4 q4 => ?_, fun H4 x4 => ?_⟩
  · have := hlt d hd
    exact ⟨_, rfl, _, rfl, _, _, rfl, rfl, _, _, _, rfl, by omega, by omega, q4 _ x4⟩
  · exact ⟨_, rfl, rfl, false, rfl, hq _ (x13.trans x4)⟩
def spNeedRow (K : PySem.W.Frag) (Z : List (Addr × Str)) (C : Addr) : Sp := fun vs H Q _ => ∃ a b W row, vs = [.ref a, .ref b] ∧ WatchAt K C H a W ∧ W.Ok ∧ RwAt K H b W.k row ∧ LamX.Tabs Z H ∧ ∀ H', Ex Z H H' → Q .non H'
theorem sc_need_row : FnScope ["watch", "row"] ["watch", "row"] (defScope s_need_row) := ⟨rfl, rfl, rfl, by decide +kernel, rfl, by decide +kernel, by decide +kernel⟩
theorem need_row_ok (T : Txt K mg C) (D : Df K mg "need_row" s_need_row []) (p_kinds : Pg P w K mg base 1 C "kinds" (spKinds K C)) (c_need_row_of : C8.Cal P w K mg base 5 "need_row_of" (spNeedRowOf K Z) []) : C8.Cal P w K mg base 6 "need_row" (spNeedRow K Z C) [] := by
  refine D.cal (k := 5) sc_need_row (by intro kV doc pm an cdv ct us h; match us, h with | [_, _], _ => rfl) (by rintro _ _ _ _ ⟨_, _, _, _, rfl, _⟩; rfl) ?_
  rintro f cdv A outer s H _ Q E hr ⟨a, b, W, row, rfl, hW, ok, hR, hT, hq⟩
  obtain ⟨dx, _, _, _, e1, _⟩ := id hW
  refine ⟨_, (pss_one (ps_expr (C8.pe_c c_need_row_of hr (by decide) (by rfl) (pa_cons (pe_pg p_kinds T.cl (pv 0) hr (by decide) rfl) (pa_cons (pv 1) pa_nil))))), ?_⟩
  exact ⟨_, rfl, a, dx, _, rfl, e1, a, W, rfl, hW, ok, _, rfl, b, W.k, row, rfl, hR, ok.k4, hT, hq⟩
theorem sc_need_both : FnScope ["watch", "row"] ["watch", "row"] (defScope s_need_both) := ⟨rfl, rfl, rfl, by decide +kernel, rfl, by decide +kernel, by decide +kernel⟩
theorem need_both_ok (D : Df K mg "need_both" s_need_both []) (c_need_watch : C8.Cal P w K mg base 1 "need_watch" (spNeedWatch C) [.non]) (c_need_row : C8.Cal P w K mg base 6 "need_row" (spNeedRow K Z C) []) : C8.Cal P w K mg base 7 "need_both" (spNeedRow K Z C) [] := by
  refine D.cal (k := 6) sc_need_both (by intro kV doc pm an cdv ct us h; match us, h with | [_, _], _ => rfl) (by rintro _ _ _ _ ⟨_, _, _, _, rfl, _⟩; rfl) ?_
  rintro f cdv A outer s H _ Q E hr ⟨a, b, W, row, rfl, hW, ok, hR, hT, hq⟩
  obtain ⟨dx, _, _, _, e1, _⟩ := id hW
  refine ⟨_, (pss_cons (ps_expr (C8.pe_c c_need_watch hr (by decide) (by rfl) (pa_cons (pv 0) pa_nil)))
      (pss_one (ps_expr (C8.pe_c c_need_row hr (by decide) (by rfl) (pa_cons (pv 0) (pa_cons (pv 1) pa_nil)))))), ?_⟩
  exact ⟨_, rfl, a, dx, _, rfl, e1, _, rfl, _, rfl, a, b, W, row, rfl, hW, ok, hR, hT, hq⟩
def spLed (K : PySem.W.Frag) (Z : List (Addr × Str)) (C : Addr) : Sp := fun vs H Q _ => ∃ a b W p row, vs = [.ref a, .int (p : Nat), .ref b] ∧ WatchAt K C H a W ∧ W.Ok ∧ p < W.n ∧ SqS K H b (natV row) ∧ (∀ c ∈ row, c < W.k) ∧ ∀ H', Ex Z H H' → Q (.int (led W p row : Nat)) H'
theorem led_take {W : Wt} {p : Nat} {row : List Nat} {i c : Nat} (h : row[i]? = some c) : led W p (row.take (i + 1)) = W.mv (led W p (row.take i)) c := foldl_take _ _ _ h
theorem sc_led_from : FnScope ["watch", "place", "row", "kind"] ["watch", "place", "row"] (defScope s_led_from) := ⟨rfl, rfl, rfl, by decide +kernel, rfl, by decide +kernel, by decide +kernel⟩
theorem led_from_ok (T : Txt K mg C) (D : Df K mg "led_from" s_led_from []) (p_moves : Pg P w K mg base 1 C "moves" (spMoves K C)) : C8.Cal P w K mg base 3 "led_from" (spLed K Z C) [] := by
  refine D.cal (k := 2) sc_led_from (by intro kV doc pm an cdv ct us h; match us, h with | [_, _, _], _ => rfl) (by rintro _ _ _ _ ⟨_, _, _, _, _, rfl, _⟩; rfl) ?_
  rintro f cdv A outer s H _ Q E hr ⟨a, b, W, p, row, rfl, hW, ok, hp, hs, hlt, hq⟩
  refine ⟨_, (pss_cons (ps_for PassesOwn.never rfl (pi_seqK (K := K) rfl (pv 2)) (pg_name (i := 3) sc_led_from.nd rfl (by first | exact Or.inl rfl | exact Or.inr rfl))
      (pss_one (ps_set (i := 1) sc_led_from.nd rfl (by first | exact Or.inl rfl | exact Or.inr rfl) (pe_ix (ixtK (K := K) rfl) (pe_ix (ixtK (K := K) rfl) (pe_pg p_moves T.cl (pv 0) hr (by decide) rfl) (pv 1) (fun _ _ => rfl)) (pv 3) (fun _ _ => rfl)))))
      (pss_one (ps_ret (pv 1)))), ?_⟩
  refine ⟨_, rfl, _, _, rfl, hs, fun J G wk hG => ?_⟩
  rw [natV_len] at wk
  refine for_it wk (fun i σ H' => ∃ u, σ = [some (.ref a), some (.int (led W p (row.take i) : Nat)), some (.ref b), u] ∧ Ex Z H H') ⟨_, rfl, Exb.refl _⟩ (fun i σ H' _ ⟨u, _, x⟩ => hG Z [] H' (by simp) x) (fun i x σ H1 H2 hi ⟨u, hσ, x1⟩ hy => ?_) fun σ H' ⟨u, hσ, x⟩ => ?_
  · subst hσ
    obtain ⟨rfl, hx⟩ := hy
    obtain ⟨c, hc, rfl⟩ := natV_get hx
    have hck := hlt c (List.mem_of_getElem? hc)
    have hW1 := hW.ex x1
    obtain ⟨dx, _, _, _, e1, _⟩ := id hW1
    have hpl : led W p (row.take i) < W.n := led_lt ok (fun d hd => hlt d (List.mem_of_mem_take hd)) hp
    refine ⟨_, rfl, a, dx, _, rfl, e1, a, W, rfl, hW1, fun m rs h2 h3 h4 => ?_⟩
    obtain ⟨r, hr0⟩ : ∃ r, rs[led W p (row.take i)]? = some r := ⟨rs[led W p (row.take i)]'(by omega), List.getElem?_eq_getElem (by omega)⟩
    refine ⟨_, rfl, ixT h2 (v := .ref r) (by rw [List.getElem?_map, hr0]; rfl) ?_⟩
    refine ⟨_, rfl, ixT (h4 _ _ hr0) (lineV_at hck) ?_⟩
    refine ⟨some (.int (c : Nat)), ?_, x1⟩
    rw [led_take hc]
    rfl
  · subst hσ
    rw [List.take_of_length_le (Nat.le_refl _)]
    exact ⟨_, rfl, hq _ x⟩
def spVerdict (K : PySem.W.Frag) (Z : List (Addr × Str)) (C : Addr) : Sp := fun vs H Q _ => ∃ a b W row, vs = [.ref a, .ref b] ∧ WatchAt K C H a W ∧ W.Ok ∧ RwAt K H b W.k row ∧ LamX.Tabs Z H ∧ ∀ H', Ex Z H H' → Q (.int (W.wd (led W 0 row) : Nat)) H'
theorem sc_verdict_of : FnScope ["watch", "row"] ["watch", "row"] (defScope s_verdict_of) := ⟨rfl, rfl, rfl, by decide +kernel, rfl, by decide +kernel, by decide +kernel⟩
theorem verdict_of_ok (T : Txt K mg C) (D : Df K mg "verdict_of" s_verdict_of []) (p_words : Pg P w K mg base 1 C "words" (spWords K C)) (c_need_both : C8.Cal P w K mg base 7 "need_both" (spNeedRow K Z C) []) (c_led_from : C8.Cal P w K mg base 3 "led_from" (spLed K Z C) []) : C8.Cal P w K mg base 8 "verdict_of" (spVerdict K Z C) [] := by
  refine D.cal (k := 7) sc_verdict_of (by intro kV doc pm an cdv ct us h; match us, h with | [_, _], _ => rfl) (by rintro _ _ _ _ ⟨_, _, _, _, rfl, _⟩; rfl) ?_
  rintro f cdv A outer s H _ Q E hr ⟨a, b, W, row, rfl, hW, ok, hR, hT, hq⟩
  refine ⟨_, (pss_cons (ps_expr (C8.pe_c c_need_both hr (by decide) (by rfl) (pa_cons (pv 0) (pa_cons (pv 1) pa_nil))))
      (pss_one (ps_ret (pe_ix (ixtK (K := K) rfl) (pe_pg p_words T.cl (pv 0) hr (by decide) rfl) (C8.pe_c c_led_from hr (by decide) (by rfl) (pa_cons (pv 0) (pa_cons pe_int (pa_cons (pv 1) pa_nil)))) (fun _ _ => rfl))))), ?_⟩
  refine ⟨_, rfl, _, rfl, a, b, W, row, rfl, hW, ok, hR, hT, fun H1 x1 => ?_⟩
  have hW1 := hW.ex x1
  obtain ⟨dx, _, _, _, e1, _⟩ := id hW1
  refine ⟨_, rfl, a, dx, _, rfl, e1, a, W, rfl, hW1, fun m hm => ?_⟩
  refine ⟨_, rfl, _, rfl, a, b, W, 0, row, rfl, hW1, ok, ok.n1, x1.sqS hR.1, hR.2.2, fun H2 x2 => ?_⟩
  exact ixT (x2.sqT hm) (lineV_at (led_lt ok hR.2.2 ok.n1)) (hq _ (x1.trans x2))
end
end K62
/-! ==== B64b ==== -/
namespace K62
open PySem PySem.Spec PyProof.Rows L2 Fx Od
section
variable {P : Program} {w : World} {K : PySem.W.Frag} {mg : Str → Option Value} {base : Heap} {C : Addr} {Z : List (Addr × Str)}
/-! ### shown_at, modes, sets of places, sure -/
theorem shownAt_len (row ps : List Nat) : (shownAt row ps).length = row.length := by simp [shownAt]
theorem insA_len : ∀ (ks l : List Nat), (insA l ks).length ≤ l.length + ks.length
  | [], l => Nat.le_refl _
  | k :: r, l => by
    have h := insA_len r (ins1 l k)
    have h2 : (ins1 l k).length ≤ l.length + 1 := by
      unfold ins1
      split <;> simp
    show (insA (ins1 l k) r).length ≤ _
    simp only [List.length_cons]
    omega
theorem insA_snoc (l ks : List Nat) (k : Nat) : insA l (ks ++ [k]) = ins1 (insA l ks) k := by simp [insA]
theorem insA_take {l ks : List Nat} {i k : Nat} (h : ks[i]? = some k) : insA l (ks.take (i + 1)) = ins1 (insA l (ks.take i)) k := foldl_take _ _ _ h
theorem encN_val (k : Nat) (l : List Nat) : (valV (encN l) (Sum.inl (k : Int))).isSome = decide (k ∈ l) := by
  rw [← valV_any, encN_any]
/-- {x: None for x in ..}: the turn of such a comprehension -/
theorem set_turn {H1 H H2 : Hp} {D : Addr} {acc : List (Key × V)} {ks : List Nat} {i k : Nat} (x1 : Ex Z H1 H) (hD : H1 D = none) (hD2 : H D = some (.dK acc)) (hk : ks[i]? = some k) (hi : ks.length ≤ 1000) (hp : acc = encN (insA [] (ks.take i))) (x : Ex Z H H2) :
    ∃ kvs k', V.int (k : Nat) = kV k' ∧ H2 D = some (.dK kvs) ∧ kvs.length < sizeLine ∧ DcP Z [] H1 D (fun i acc _ => acc = encN (insA [] (ks.take i))) (i + 1) (upd H2 D (.dK (putK kvs k' .non))) := by
  have hl := insA_len (ks.take i) []
  have hl2 : (ks.take i).length ≤ 1000 := Nat.le_trans (List.length_take_le' _ _) hi
  refine DcP.put (k := Sum.inl (k : Int)) x1 hD hD2 (by simp) ?_ x ?_
  · rw [hp, encN_len]
    simp only [List.length_nil] at hl
    omega
  · show putK acc _ _ = _
    rw [hp, encN_put, insA_take hk]
def spShownAt (K : PySem.W.Frag) (Z : List (Addr × Str)) : Sp := fun vs H Q _ => ∃ a b row ps, vs = [.ref a, .ref b] ∧ SqS K H a (natV row) ∧ SqS K H b (natV ps) ∧ row.length ≤ 300 ∧ ps.length ≤ 300 ∧ ∀ p H', Ex Z H H' → H' p = some (.lst (rowV (shownAt row ps))) → Q (.ref p) H'
theorem sc_shown_at : FnScope ["row", "places", "chosen", "place", "kind"] ["row", "places"] (defScope s_shown_at) := ⟨rfl, rfl, rfl, by decide +kernel, rfl, by decide +kernel, by decide +kernel⟩
theorem shown_at_ok (T : Txt K mg C) (D : Df K mg "shown_at" s_shown_at []) : C8.Cal P w K mg base 1 "shown_at" (spShownAt K Z) [] := by
  refine D.cal (k := 0) sc_shown_at (by intro kV doc pm an cdv ct us h; match us, h with | [_, _], _ => rfl) (by rintro _ _ _ _ ⟨_, _, _, _, rfl, _⟩; rfl) ?_
  rintro f cdv A outer s H _ Q E hr ⟨a, b, row, ps, rfl, hs, hps, hl, hlp, hq⟩
  have hu := hu_of hr
  refine ⟨_, (pss_cons (ps_set (i := 2) sc_shown_at.nd rfl (by first | exact Or.inl rfl | exact Or.inr rfl) (pe_dc (own := [("place", 3)]) rfl sc_shown_at.nd (pi_seqK (K := K) rfl (pv 1)) (blkOk_by (own := [("place", 3)]) (N := ["row", "places", "chosen", "place", "kind"]) (sc := defScope s_shown_at) (by decide +kernel)) (fun _ _ _ _ _ => (pg_name (i := 3) sc_shown_at.nd rfl (by first | exact Or.inl rfl | exact Or.inr rfl))) (fun _ _ _ _ _ => pts_nil) (fun _ _ _ _ _ => (pv 3)) (fun _ _ _ _ _ => pe_non)))
      (pss_one (ps_ret (pe_lc (own := [("place", 3), ("kind", 4)]) rfl sc_shown_at.nd (pi_enumW (by rfl) T.enumerate (pa_cons (pv 0) pa_nil)) (blkOk_by (own := [("place", 3), ("kind", 4)]) (N := ["row", "places", "chosen", "place", "kind"]) (sc := defScope s_shown_at) (by decide +kernel)) (fun _ _ _ _ _ => (pg_tupK (K := K) (n := 2) rfl rfl (pgs_cons (pg_name (i := 3) sc_shown_at.nd rfl (by first | exact Or.inl rfl | exact Or.inr rfl)) (pgs_cons (pg_name (i := 4) sc_shown_at.nd rfl (by first | exact Or.inl rfl | exact Or.inr rfl)) pgs_nil)))) (fun _ _ _ _ _ => pts_nil) (fun _ _ _ _ _ => (pe_ifExp (pt_cmp (pc_din hu (pv 3) (pv 2))) (pv 4) pe_non)))))), ?_⟩
  refine ⟨_, rfl, _, _, rfl, hps, fun J G wk hG D hD => ?_⟩
  rw [natV_len] at wk
  refine dcE (B := []) (Z := Z) wk hD (hG Z [] · (by simp)) (fun i acc _ => acc = encN (insA [] (ps.take i))) rfl (fun i acc x H2 H3 hi x2 ha hp hy => ?_) fun acc H2 x2 ha hp => ?_
  · obtain ⟨rfl, hx⟩ := hy
    obtain ⟨c, hc, rfl⟩ := natV_get hx
    exact ⟨rfl, _, rfl, set_turn x2 hD ha hc (by omega) hp (Exb.refl _)⟩
  rw [List.take_of_length_le (Nat.le_refl _)] at hp
  subst hp
  refine ⟨_, rfl, _, _, rfl, x2.sqS hs, fun J G wk hG L hL => ?_⟩
  rw [natV_len] at wk
  refine lcE (B := []) (Z := Z) wk hL (hG Z [] · (by simp)) (by omega) (fun i acc _ => acc = (rowV (shownAt row ps)).take i) rfl (fun i acc x H3 H4 hi x3 ha3 hla hp hy => ?_) fun acc H3 x3 ha3 hp => ?_
  · obtain ⟨t, _, y, rfl, nt, rfl, h1, h2⟩ := hy
    obtain rfl := Option.some.inj h1
    obtain ⟨c, hc, rfl⟩ := natV_get h2
    have d3 := x3.dk ha
    have d4 : upd H3 t (.tup [.int (i : Nat), .int (c : Nat)]) D = some (.dK (encN (insA [] ps))) := (Ex.new nt (Z := Z)).dk d3
    have hmem : (i ∈ insA [] ps) ↔ i ∈ ps := by rw [mem_insA]; simp
    have fin : ∀ v, v = itemV (if i ∈ ps then some (row.getD i 0) else none) → ∃ acc_1, upd H3 t (.tup [.int (i : Nat), .int (c : Nat)]) L = some (.lst acc_1) ∧ acc_1.length < sizeLine ∧ LcP Z [] H2 L (fun i acc _ => acc = (rowV (shownAt row ps)).take i) (i + 1) (upd (upd H3 t (.tup [.int (i : Nat), .int (c : Nat)])) L (.lst (acc_1 ++ [v]))) := fun v hv => by
      refine LcP.put x3 hL ha3 (by simp) hla (by omega) (Exb.new nt) ?_
      have e : (rowV (shownAt row ps))[i]? = some v := by
        rw [hv]
        unfold rowV shownAt
        rw [List.getElem?_map, List.getElem?_map, List.getElem?_range hi]
        rfl
      rw [hp, List.take_add_one, e]
      rfl
    refine ⟨_, _, rfl, SqT.of upd_same, rfl, _, _, rfl, _, _, rfl, rfl, rfl, ?_⟩
    refine ⟨_, rfl, _, rfl, D, _, rfl, DGet.k (k := Sum.inl (i : Int)) d4, _, congrArg V.bl (encN_val i _), ?_⟩
    by_cases hm : i ∈ ps
    · rw [decide_eq_true (hmem.mpr hm)]
      refine ⟨_, rfl, fin _ ?_⟩
      rw [if_pos hm, List.getD_eq_getElem?_getD, hc]
      rfl
    · rw [decide_eq_false (fun z => hm (hmem.mp z))]
      refine fin _ ?_
      rw [if_neg hm]
      rfl
  · rw [List.take_of_length_le (by rw [rowV_len, shownAt_len]; exact Nat.le_refl _)] at hp
    subst hp
    exact hq L _ (x2.trans x3) ha3
theorem kitB_str_str : kitB "str" "str" = some true := by decide +kernel
def spMode (Z : List (Addr × Str)) : Sp := fun vs H Q _ => vs = [.str "counted"] ∧ ∀ H', Ex Z H H' → Q (.bl true) H'
theorem sc_mode_right : FnScope ["thing"] ["thing"] (defScope s_mode_right) := ⟨rfl, rfl, rfl, by decide +kernel, rfl, by decide +kernel, by decide +kernel⟩
theorem mode_right_ok (T : Txt K mg C) (D : Df K mg "mode_right" s_mode_right []) : C8.Cal P w K mg base 1 "mode_right" (spMode Z) [] := by
  refine D.cal (k := 0) sc_mode_right (by intro kV doc pm an cdv ct us h; match us, h with | [_], _ => rfl) (by rintro _ _ _ _ ⟨rfl, _⟩; rfl) ?_
  rintro f cdv A outer s H _ Q E hr ⟨rfl, hq⟩
  refine ⟨_, (pss_one (ps_ret (pe_and (pe_callB call_isi (by rfl) T.isinstance bt_isinstance (pa_cons (pv 0) (pa_cons (pe_bltn (by rfl) T.str bt_str (show RelV (.ty "str") _ from rfl)) pa_nil))) (pe_one (pe_cmpR op_in_seq (pv 0) (pe_tup (pa_cons (C8.pe_gc (by rfl) T.c_COUNTED) (pa_cons (C8.pe_gc (by rfl) T.c_LOST) pa_nil))) (by rfl)))))), ?_⟩
  refine ⟨_, rfl, _, _, _, _, _, rfl, .ty _, .base (.str _), kit_ty kitB_str_str, true, rfl, ?_⟩
  refine ⟨_, rfl, by show 2 ≤ sizeLine; decide, fun t nt => ⟨t, _, rfl, .inr (SqT.of upd_same), rfl, rfl, ?_⟩⟩
  exact hq _ (Ex.new nt)
def spNeedMode (Z : List (Addr × Str)) : Sp := fun vs H Q _ => vs = [.str "counted"] ∧ ∀ H', Ex Z H H' → Q .non H'
theorem sc_need_mode : FnScope ["mode"] ["mode"] (defScope s_need_mode) := ⟨rfl, rfl, rfl, by decide +kernel, rfl, by decide +kernel, by decide +kernel⟩
theorem need_mode_ok (D : Df K mg "need_mode" s_need_mode []) (c_mode_right : C8.Cal P w K mg base 1 "mode_right" (spMode Z) []) : C8.Cal P w K mg base 2 "need_mode" (spNeedMode Z) [] := by
  refine D.cal (k := 1) sc_need_mode (by intro kV doc pm an cdv ct us h; match us, h with | [_], _ => rfl) (by rintro _ _ _ _ ⟨rfl, _⟩; rfl) ?_
  rintro f cdv A outer s H _ Q E hr ⟨rfl, hq⟩
  refine ⟨_, (pss_one (ps_if (pt_not (pt_val (C8.pe_c c_mode_right hr (by decide) (by rfl) (pa_cons (pv 0) pa_nil)))) (pss_one ps_never) pss_nil)), ?_⟩
  exact ⟨_, rfl, rfl, fun H1 x1 => ⟨true, rfl, hq _ x1⟩⟩
/-! sets -/
/-- a set of places, ascending -/
def StAt (K : PySem.W.Frag) (H : Hp) (p : Addr) (W : Wt) (S : List Nat) : Prop := SqT K H p (natV S) ∧ (∀ q ∈ S, q < W.n) ∧ S.Nodup
theorem StAt.ex {H H' : Hp} {p : Addr} {W : Wt} {S : List Nat} (x : Ex Z H H') (h : StAt K H p W S) : StAt K H' p W S := ⟨x.sqT h.1, h.2⟩
theorem st_len {W : Wt} {S : List Nat} (ok : W.Ok) (h : (∀ q ∈ S, q < W.n) ∧ S.Nodup) : S.length ≤ 6 := Nat.le_trans (nodup_len W.n S h.2 h.1) ok.n6
theorem encN_keys (l : List Nat) : (encN l).map (·.1) = (l.map fun (x : Nat) => (x : Int)).map Sum.inl := by
  unfold encN
  rw [List.map_map, List.map_map]
  rfl
theorem sorted_set {n : Nat} {l : List Nat} {q : Nat → Bool} {ks : List Int} (nd : l.Nodup) (hm : ∀ x, x ∈ l ↔ x < n ∧ q x = true) (hp : ks.Perm (l.map fun (x : Nat) => (x : Int))) (hs : ks.Pairwise (· ≤ ·)) : ks = ((List.range n).filter q).map fun (x : Nat) => (x : Int) := by
  have f1 : ((List.range n).filter q).Pairwise (· < ·) := List.Pairwise.filter _ List.pairwise_lt_range
  have p1 : l.Perm ((List.range n).filter q) := by
    refine (List.perm_ext_iff_of_nodup nd (f1.imp fun h => Nat.ne_of_lt h)).mpr fun x => ?_
    rw [hm, List.mem_filter, List.mem_range]
  refine (hp.trans (p1.map _)).eq_of_pairwise (fun a b _ _ h1 h2 => Int.le_antisymm h1 h2) hs ?_
  exact List.Pairwise.map _ (fun a b h => by omega) f1
theorem natV_map (l : List Nat) : (l.map fun (x : Nat) => (x : Int)).map V.int = natV l := by
  unfold natV
  rw [List.map_map]
  rfl
theorem stepS_nd (W : Wt) (S : List Nat) (i : Option Nat) : (stepS W S i).Nodup := (List.Pairwise.filter _ List.pairwise_lt_range).imp fun h => Nat.ne_of_lt h
/-- tuple(sorted(d)) -/
theorem tsorted {H : Hp} {d : Addr} {l : List Nat} {W : Wt} {q : Nat → Bool} {Q : VK} (ok : W.Ok) (hd : H d = some (.dK (encN l))) (nd : l.Nodup) (hm : ∀ x, x ∈ l ↔ x < W.n ∧ q x = true)
    (hq : ∀ p H', Ex Z H H' → H' p = some (.tup (natV ((List.range W.n).filter q))) → Q (.ref p) H') :
    ∃ (a : Addr) (kvs : List (Key × V)) (ks : List Int), [V.ref d] = [.ref a] ∧ Rd H a (.dK kvs) ∧ kvs.map (·.1) = ks.map Sum.inl ∧ ks.length < 64 ∧
      ∀ (ys : List Int) p, ys.Perm ks → ys.Pairwise (· ≤ ·) → H p = none → (fun v H1 => rTupQ K [v] H1 Q) (.ref p) (upd H p (.lst (ys.map V.int))) := by
  refine ⟨d, encN l, l.map fun (x : Nat) => (x : Int), rfl, .inl hd, encN_keys l, ?_, fun ys p hp hs np => ?_⟩
  · rw [List.length_map]
    have := nodup_len W.n l nd fun x hx => ((hm x).mp hx).1
    have := ok.n6
    omega
  · have e := sorted_set nd hm hp hs
    subst e
    rw [natV_map]
    have x1 : Ex Z H (upd H p (.lst (natV ((List.range W.n).filter q)))) := Ex.new np
    refine ⟨p, _, rfl, .inl ⟨SqL.of upd_same, fun t nt => ?_⟩⟩
    have x2 : Ex Z (upd H p (.lst (natV ((List.range W.n).filter q)))) (upd (upd H p (.lst (natV ((List.range W.n).filter q)))) t (.tup (natV ((List.range W.n).filter q)))) := Ex.new nt
    exact hq t _ (x1.trans x2) upd_same
def spKnown (K : PySem.W.Frag) (Z : List (Addr × Str)) (C : Addr) : Sp := fun vs H Q _ => ∃ a b W S c, vs = [.ref a, .ref b, .int (c : Nat)] ∧ WatchAt K C H a W ∧ W.Ok ∧ StAt K H b W S ∧ c < W.k ∧ ∀ p H', Ex Z H H' → H' p = some (.tup (natV (stepS W S (some c)))) → Q (.ref p) H'
theorem sc_known_by : FnScope ["watch", "places", "kind", "place"] ["watch", "places", "kind"] (defScope s_known_by) := ⟨rfl, rfl, rfl, by decide +kernel, rfl, by decide +kernel, by decide +kernel⟩
theorem known_by_ok (T : Txt K mg C) (D : Df K mg "known_by" s_known_by []) (p_moves : Pg P w K mg base 1 C "moves" (spMoves K C)) : C8.Cal P w K mg base 3 "known_by" (spKnown K Z C) [] := by
  refine D.cal (k := 2) sc_known_by (by intro kV doc pm an cdv ct us h; match us, h with | [_, _, _], _ => rfl) (by rintro _ _ _ _ ⟨_, _, _, _, _, rfl, _⟩; rfl) ?_
  rintro f cdv A outer s H _ Q E hr ⟨a, b, W, S, c, rfl, hW, ok, hS, hc, hq⟩
  have hS6 := st_len ok hS.2
  refine ⟨_, (pss_one (ps_ret (pe_callTy (tupK (K := K) rfl) (by rfl) T.tuple bt_tuple (pa_cons (pe_callB (cr_sortedDI rfl) (by rfl) T.sorted bt_sorted (pa_cons (pe_dc (own := [("place", 3)]) rfl sc_known_by.nd (pi_seqK (K := K) rfl (pv 1)) (blkOk_by (own := [("place", 3)]) (N := ["watch", "places", "kind", "place"]) (sc := defScope s_known_by) (by decide +kernel)) (fun _ _ _ _ _ => (pg_name (i := 3) sc_known_by.nd rfl (by first | exact Or.inl rfl | exact Or.inr rfl))) (fun _ _ _ _ _ => pts_nil) (fun _ _ _ _ _ => (pe_ix (ixtK (K := K) rfl) (pe_ix (ixtK (K := K) rfl) (pe_pg p_moves T.cl (pv 0) hr (by decide) rfl) (pv 3) (fun _ _ => rfl)) (pv 2) (fun _ _ => rfl))) (fun _ _ _ _ _ => pe_non)) pa_nil)) pa_nil)))), ?_⟩
  refine ⟨_, rfl, _, _, rfl, .inr hS.1, fun J G wk hG D hD => ?_⟩
  rw [natV_len] at wk
  refine dcE (B := []) (Z := Z) wk hD (hG Z [] · (by simp)) (fun i acc _ => acc = encN (insA [] ((S.map fun p => W.mv p c).take i))) rfl (fun i acc x H2 H3 hi x2 ha hp hy => ?_) fun acc H2 x2 ha hp => ?_
  · obtain ⟨rfl, hx⟩ := hy
    obtain ⟨p, hpS, rfl⟩ := natV_get hx
    have hpn := hS.2.1 p (List.mem_of_getElem? hpS)
    have hW2 := hW.ex x2
    obtain ⟨dx, _, _, _, e1, _⟩ := id hW2
    refine ⟨rfl, _, rfl, a, dx, _, rfl, e1, a, W, rfl, hW2, fun m rs h2 h3 h4 => ?_⟩
    obtain ⟨r, hr0⟩ : ∃ r, rs[p]? = some r := ⟨rs[p]'(by omega), List.getElem?_eq_getElem (by omega)⟩
    refine ⟨_, rfl, ixT h2 (v := .ref r) (by rw [List.getElem?_map, hr0]; rfl) ?_⟩
    refine ⟨_, rfl, ixT (h4 _ _ hr0) (lineV_at hc) ?_⟩
    exact set_turn x2 hD ha (by rw [List.getElem?_map, hpS]; rfl) (by rw [List.length_map]; omega) hp (Exb.refl _)
  · rw [List.take_of_length_le (by rw [List.length_map]; exact Nat.le_refl _)] at hp
    subst hp
    refine tsorted (K := K) (Z := Z) (q := fun x => S.any fun p => goalsB W (some c) p x) ok ha (insA_nodup List.nodup_nil) (fun x => ?_) fun p H3 x3 h3 => hq p H3 (x2.trans x3) h3
    have := mem_stepS (W := W) (S := S) (item := some c) (q := x)
    rw [show (x < W.n ∧ (S.any fun p => goalsB W (some c) p x) = true) ↔ x ∈ stepS W S (some c) from by rw [stepS, List.mem_filter, List.mem_range], this, mem_insA, List.mem_map]
    constructor
    · rintro (h | ⟨p, hp, rfl⟩)
      · cases h
      · exact ⟨ok.mv p (hS.2.1 p hp) c hc, p, hp, c, List.mem_singleton.mpr rfl, rfl⟩
    · rintro ⟨_, p, hp, d, hd, rfl⟩
      rw [List.mem_singleton.mp hd]
      exact .inr ⟨p, hp, rfl⟩
def spNext (K : PySem.W.Frag) (Z : List (Addr × Str)) (C : Addr) : Sp := fun vs H Q _ => ∃ a b W S, vs = [.ref a, .ref b] ∧ WatchAt K C H a W ∧ W.Ok ∧ StAt K H b W S ∧ ∀ p H', Ex Z H H' → H' p = some (.tup (natV (stepS W S none))) → Q (.ref p) H'
theorem sc_next_by : FnScope ["watch", "places", "found", "place", "later"] ["watch", "places"] (defScope s_next_by) := ⟨rfl, rfl, rfl, by decide +kernel, rfl, by decide +kernel, by decide +kernel⟩
theorem next_by_ok (T : Txt K mg C) (D : Df K mg "next_by" s_next_by []) (p_moves : Pg P w K mg base 1 C "moves" (spMoves K C)) : C8.Cal P w K mg base 3 "next_by" (spNext K Z C) [] := by
  refine D.cal (k := 2) sc_next_by (by intro kV doc pm an cdv ct us h; match us, h with | [_, _], _ => rfl) (by rintro _ _ _ _ ⟨_, _, _, _, rfl, _⟩; rfl) ?_
  rintro f cdv A outer s H _ Q E hr ⟨a, b, W, S, rfl, hW, ok, hS, hq⟩
  have hS6 := st_len ok hS.2
  have k4 := ok.k4
  have n6 := ok.n6
  refine ⟨_, (pss_cons (ps_set (i := 2) sc_next_by.nd rfl (by first | exact Or.inl rfl | exact Or.inr rfl) pe_dnewK)
      (pss_cons (ps_for PassesOwn.never rfl (pi_seqK (K := K) rfl (pv 1)) (pg_name (i := 3) sc_next_by.nd rfl (by first | exact Or.inl rfl | exact Or.inr rfl))
      (pss_one (ps_expr (pe_bm PySem.F.plainAttrs_dict PySem.F.slot_dict_update PySem.F.type_dict_update mt_update (pv 2) (pa_cons (pe_dc (own := [("later", 4)]) rfl sc_next_by.nd (pi_seqK (K := K) rfl (pe_ix (ixtK (K := K) rfl) (pe_pg p_moves T.cl (pv 0) hr (by decide) rfl) (pv 3) (fun _ _ => rfl))) (blkOk_by (own := [("later", 4)]) (N := ["watch", "places", "found", "place", "later"]) (sc := defScope s_next_by) (by decide +kernel)) (fun _ _ _ _ _ => (pg_name (i := 4) sc_next_by.nd rfl (by first | exact Or.inl rfl | exact Or.inr rfl))) (fun _ _ _ _ _ => pts_nil) (fun _ _ _ _ _ => (pv 4)) (fun _ _ _ _ _ => pe_non)) pa_nil)))))
      (pss_one (ps_ret (pe_callTy (tupK (K := K) rfl) (by rfl) T.tuple bt_tuple (pa_cons (pe_callB (cr_sortedDI rfl) (by rfl) T.sorted bt_sorted (pa_cons (pv 2) pa_nil)) pa_nil)))))), ?_⟩
  refine fun d nd => ?_
  have x1 : Ex Z H (upd H d (.dK [])) := Ex.new nd
  refine ⟨_, rfl, _, _, rfl, .inr (x1.sqT hS.1), fun J G wk hG => ?_⟩
  rw [natV_len] at wk
  have hG' : ∀ H', Exb Z [] H H' → G H' := fun H' x => hG [] [d] H' (fun z u q => by rw [List.mem_singleton.mp z, upd_same] at q; rw [← Option.some.inj q]; trivial) x.shift
  let F : Nat → List Nat := fun p => insA [] ((List.range W.k).map fun c => W.mv p c)
  refine for_it wk (fun i σ H' => ∃ u v, σ = [some (.ref a), some (.ref b), some (.ref d), u, v] ∧ Ex Z H H' ∧ H' d = some (.dK (encN ((S.take i).foldl (fun l p => insA l (F p)) [])))) ⟨_, _, rfl, x1, by rw [List.take_zero]; exact upd_same⟩ (fun i σ H' _ ⟨u, v, _, x, _⟩ => hG' H' x)
    (fun i x σ H2 H3 hi ⟨u, v, hσ, x2, hd2⟩ hy => ?_) fun σ H2 ⟨u, v, hσ, x2, hd2⟩ => ?_
  · subst hσ
    obtain ⟨rfl, hx⟩ := hy
    obtain ⟨p, hpS, rfl⟩ := natV_get hx
    have hpn := hS.2.1 p (List.mem_of_getElem? hpS)
    have hW2 := hW.ex x2
    obtain ⟨dx, _, _, _, e1, _⟩ := id hW2
    refine ⟨_, rfl, .inr (.inr (.inl ⟨rfl, .inl ⟨_, hd2⟩⟩)), ?_⟩
    refine ⟨_, rfl, a, dx, _, rfl, e1, a, W, rfl, hW2, fun m rs h2 h3 h4 => ?_⟩
    obtain ⟨r, hr0⟩ : ∃ r, rs[p]? = some r := ⟨rs[p]'(by omega), List.getElem?_eq_getElem (by omega)⟩
    refine ⟨_, rfl, ixT h2 (v := .ref r) (by rw [List.getElem?_map, hr0]; rfl) ?_⟩
    refine ⟨r, _, rfl, .inr (h4 _ _ hr0), fun J2 G2 wk2 hG2 e hE => ?_⟩
    rw [lineV_len] at wk2
    refine dcE (B := []) (Z := Z) wk2 hE (hG2 Z [] · (by simp)) (fun i acc _ => acc = encN (insA [] (((List.range W.k).map fun c => W.mv p c).take i))) rfl (fun j acc x H4 H5 hj x4 ha hp hy => ?_) fun acc H4 x4 ha hp => ?_
    · obtain ⟨rfl, hx⟩ := hy
      obtain ⟨hc, rfl⟩ := lineV_get hx
      exact ⟨rfl, _, rfl, set_turn x4 hE ha (by rw [List.getElem?_map, List.getElem?_range hc]; rfl) (by rw [List.length_map, List.length_range]; omega) hp (Exb.refl _)⟩
    · rw [List.take_of_length_le (by rw [List.length_map, List.length_range]; exact Nat.le_refl _)] at hp
      subst hp
      have hd4 := x4.dk hd2
      have hne : d ≠ e := fun z => by
        rw [z] at hd2
        rw [hd2] at hE
        cases hE
      refine ⟨d, e, _, _, rfl, rfl, hne, hd4, .inl ha, ?_, ?_⟩
      · rw [encN_len, encN_len]
        have h1 := insA_len ((List.range W.k).map fun c => W.mv p c) []
        simp only [List.length_nil, List.length_map, List.length_range] at h1
        have h2 : ((S.take i).foldl (fun l p => insA l (F p)) []).length ≤ 6 := Nat.le_trans (nodup_len W.n _ (foldA_nodup _ List.nodup_nil) fun x hx => by
          rcases (mem_foldA _).mp hx with h | ⟨q, hq, h⟩
          · cases h
          · rcases mem_insA.mp h with h | h
            · cases h
            · obtain ⟨c, hc, rfl⟩ := List.mem_map.mp h
              exact ok.mv q (hS.2.1 q (List.mem_of_mem_take hq)) c (List.mem_range.mp hc)) n6
        exact Nat.le_trans (Nat.add_le_add h2 h1) (by rw [sizeLine_eq]; omega)
      · refine ⟨_, _, rfl, (x2.trans x4).mut (.inr nd) (Mb.of hd4 trivial), ?_⟩
        rw [encN_merge, foldl_take _ _ _ hpS]
        exact upd_same
  · subst hσ
    rw [List.take_of_length_le (Nat.le_refl _)] at hd2
    refine ⟨_, rfl, tsorted (K := K) (Z := Z) (q := fun x => S.any fun p => goalsB W none p x) ok hd2 (foldA_nodup _ List.nodup_nil) (fun x => ?_) fun p H3 x3 h3 => hq p H3 (x2.trans x3) h3⟩
    have := mem_stepS (W := W) (S := S) (item := none) (q := x)
    rw [show (x < W.n ∧ (S.any fun p => goalsB W none p x) = true) ↔ x ∈ stepS W S none from by rw [stepS, List.mem_filter, List.mem_range], this, mem_foldA]
    constructor
    · rintro (h | ⟨p, hp, h⟩)
      · cases h
      · rcases mem_insA.mp h with h | h
        · cases h
        · obtain ⟨c, hc, rfl⟩ := List.mem_map.mp h
          exact ⟨ok.mv p (hS.2.1 p hp) c (List.mem_range.mp hc), p, hp, c, hc, rfl⟩
    · rintro ⟨_, p, hp, c, hc, rfl⟩
      exact .inr ⟨p, hp, mem_insA.mpr (.inr (List.mem_map.mpr ⟨c, hc, rfl⟩))⟩
def spUnknown (K : PySem.W.Frag) (Z : List (Addr × Str)) (C : Addr) : Sp := fun vs H Q _ => ∃ a b W S, vs = [.ref a, .ref b, .str "counted"] ∧ WatchAt K C H a W ∧ W.Ok ∧ StAt K H b W S ∧ ∀ p H', Ex Z H H' → H' p = some (.tup (natV (stepS W S none))) → Q (.ref p) H'
/-- a def that is never called -/
def spNo : Sp := fun _ _ _ _ => False
theorem sc_unknown_by : FnScope ["watch", "places", "mode"] ["watch", "places", "mode"] (defScope s_unknown_by) := ⟨rfl, rfl, rfl, by decide +kernel, rfl, by decide +kernel, by decide +kernel⟩
theorem unknown_by_ok (T : Txt K mg C) (D : Df K mg "unknown_by" s_unknown_by []) (c_next_by : C8.Cal P w K mg base 3 "next_by" (spNext K Z C) []) (c_reached_by : C8.Cal P w K mg base 3 "reached_by" spNo []) : C8.Cal P w K mg base 4 "unknown_by" (spUnknown K Z C) [] := by
  refine D.cal (k := 3) sc_unknown_by (by intro kV doc pm an cdv ct us h; match us, h with | [_, _, _], _ => rfl) (by rintro _ _ _ _ ⟨_, _, _, _, rfl, _⟩; rfl) ?_
  rintro f cdv A outer s H _ Q E hr ⟨a, b, W, S, rfl, hW, ok, hS, hq⟩
  refine ⟨_, (pss_one (ps_ret (pe_ifExp (pt_cmpR op_eq (pv 2) (C8.pe_gc (by rfl) T.c_COUNTED) (nomark _)) (C8.pe_c c_next_by hr (by decide) (by rfl) (pa_cons (pv 0) (pa_cons (pv 1) pa_nil))) (C8.pe_c c_reached_by hr (by decide) (by rfl) (pa_cons (pv 0) (pa_cons (pv 1) pa_nil)))))), ?_⟩
  exact ⟨_, rfl, rfl, true, rfl, _, rfl, _, rfl, a, b, W, S, rfl, hW, ok, hS, hq⟩
def spBehind (K : PySem.W.Frag) (Z : List (Addr × Str)) (C : Addr) : Sp := fun vs H Q _ => ∃ a b W S item, vs = [.ref a, .ref b, itemV item, .str "counted"] ∧ WatchAt K C H a W ∧ W.Ok ∧ StAt K H b W S ∧ (∀ c, item = some c → c < W.k) ∧ ∀ p H', Ex Z H H' → H' p = some (.tup (natV (stepS W S item))) → Q (.ref p) H'
theorem sc_behind_by : FnScope ["watch", "places", "item", "mode"] ["watch", "places", "item", "mode"] (defScope s_behind_by) := ⟨rfl, rfl, rfl, by decide +kernel, rfl, by decide +kernel, by decide +kernel⟩
theorem behind_by_ok (D : Df K mg "behind_by" s_behind_by []) (c_unknown_by : C8.Cal P w K mg base 4 "unknown_by" (spUnknown K Z C) []) (c_known_by : C8.Cal P w K mg base 3 "known_by" (spKnown K Z C) []) : C8.Cal P w K mg base 5 "behind_by" (spBehind K Z C) [] := by
  refine D.cal (k := 4) sc_behind_by (by intro kV doc pm an cdv ct us h; match us, h with | [_, _, _, _], _ => rfl) (by rintro _ _ _ _ ⟨_, _, _, _, _, rfl, _⟩; rfl) ?_
  rintro f cdv A outer s H _ Q E hr ⟨a, b, W, S, item, rfl, hW, ok, hS, hi, hq⟩
  refine ⟨_, (pss_one (ps_ret (pe_ifExp (pt_cmpR op_isN (pv 2) pe_non (nomark _)) (C8.pe_c c_unknown_by hr (by decide) (by rfl) (pa_cons (pv 0) (pa_cons (pv 1) (pa_cons (pv 3) pa_nil)))) (C8.pe_c c_known_by hr (by decide) (by rfl) (pa_cons (pv 0) (pa_cons (pv 1) (pa_cons (pv 2) pa_nil))))))), ?_⟩
  cases item with
  | none => exact ⟨_, rfl, rfl, true, rfl, _, rfl, _, rfl, _, rfl, a, b, W, S, rfl, hW, ok, hS, hq⟩
  | some c => exact ⟨_, rfl, rfl, false, rfl, _, rfl, _, rfl, _, rfl, a, b, W, S, c, rfl, hW, ok, hS, hi c rfl, hq⟩
def spLedBy (K : PySem.W.Frag) (Z : List (Addr × Str)) (C : Addr) : Sp := fun vs H Q _ => ∃ a b W r, vs = [.ref a, .ref b, .str "counted"] ∧ WatchAt K C H a W ∧ W.Ok ∧ RowAt K H b W r ∧ ∀ p H', Ex Z H H' → StAt K H' p W (ledS W r) → Q (.ref p) H'
theorem ledS_take {W : Wt} {r : Od.Row} {i : Nat} {c : Option Nat} (h : r[i]? = some c) : ledS W (r.take (i + 1)) = stepS W (ledS W (r.take i)) c := foldl_take _ _ _ h
theorem ledS_ok {W : Wt} (ok : W.Ok) (r : Od.Row) : (∀ q ∈ ledS W r, q < W.n) ∧ (ledS W r).Nodup := by
  have : ∀ (r : Od.Row) (S : List Nat), (∀ q ∈ S, q < W.n) ∧ S.Nodup → (∀ q ∈ r.foldl (stepS W) S, q < W.n) ∧ (r.foldl (stepS W) S).Nodup := by
    intro r
    induction r with
    | nil => exact fun S h => h
    | cons i r ih => exact fun S h => ih _ ⟨stepS_lt, stepS_nd W S i⟩
  exact this r [0] ⟨fun q h => by rw [List.mem_singleton.mp h]; exact ok.n1, by simp⟩
theorem sc_led_by : FnScope ["watch", "shown", "mode", "places", "item"] ["watch", "shown", "mode"] (defScope s_led_by) := ⟨rfl, rfl, rfl, by decide +kernel, rfl, by decide +kernel, by decide +kernel⟩
theorem led_by_ok (T : Txt K mg C) (D : Df K mg "led_by" s_led_by []) (c_behind_by : C8.Cal P w K mg base 5 "behind_by" (spBehind K Z C) []) : C8.Cal P w K mg base 6 "led_by" (spLedBy K Z C) [] := by
  refine D.cal (k := 5) sc_led_by (by intro kV doc pm an cdv ct us h; match us, h with | [_, _, _], _ => rfl) (by rintro _ _ _ _ ⟨_, _, _, _, rfl, _⟩; rfl) ?_
  rintro f cdv A outer s H _ Q E hr ⟨a, b, W, r, rfl, hW, ok, hR, hq⟩
  refine ⟨_, (pss_cons (ps_set (i := 3) sc_led_by.nd rfl (by first | exact Or.inl rfl | exact Or.inr rfl) (C8.pe_gc (by rfl) T.c_BEGIN))
      (pss_cons (ps_for PassesOwn.never rfl (pi_seqK (K := K) rfl (pv 1)) (pg_name (i := 4) sc_led_by.nd rfl (by first | exact Or.inl rfl | exact Or.inr rfl))
      (pss_one (ps_set (i := 3) sc_led_by.nd rfl (by first | exact Or.inl rfl | exact Or.inr rfl) (C8.pe_c c_behind_by hr (by decide) (by rfl) (pa_cons (pv 0) (pa_cons (pv 3) (pa_cons (pv 4) (pa_cons (pv 2) pa_nil))))))))
      (pss_one (ps_ret (pv 3))))), ?_⟩
  refine ⟨_, rfl, _, _, rfl, hR.1, fun J G wk hG => ?_⟩
  rw [rowV_len] at wk
  refine for_it wk (fun i σ H' => ∃ p u, σ = [some (.ref a), some (.ref b), some (.str "counted"), some (.ref p), u] ∧ Ex Z H H' ∧ StAt K H' p W (ledS W (r.take i))) ⟨_, _, rfl, Exb.refl _, T.begin_ _, ledS_ok ok (r.take 0)⟩ (fun i σ H' _ ⟨_, _, _, x, _⟩ => hG Z [] H' (by simp) x)
    (fun i x σ H1 H2 hi ⟨p, u, hσ, x1, hp⟩ hy => ?_) fun σ H' ⟨p, u, hσ, x, hp⟩ => ?_
  · subst hσ
    obtain ⟨rfl, hx⟩ := hy
    obtain ⟨c, hc, rfl⟩ := rowV_get hx
    refine ⟨_, rfl, _, rfl, _, rfl, _, rfl, a, p, W, _, c, rfl, hW.ex x1, ok, hp, fun d e => hR.2.2 d (by rw [← e]; exact List.mem_of_getElem? hc), fun q H3 x3 h3 => ?_⟩
    refine ⟨q, _, rfl, x1.trans x3, ?_, ?_⟩
    · rw [ledS_take hc]
      exact SqT.of h3
    · exact ledS_ok ok _
  · subst hσ
    rw [List.take_of_length_le (Nat.le_refl _)] at hp
    exact ⟨_, rfl, hq p _ x hp⟩
/-- the verdict of a set, None without one -/
def WdV (W : Wt) (S : List Nat) (v : V) : Prop := (OneW W S ∧ ∃ x : Nat, v = .int (x : Nat)) ∨ (¬ OneW W S ∧ v = .non)
def spWordOf (K : PySem.W.Frag) (Z : List (Addr × Str)) (C : Addr) : Sp := fun vs H Q _ => ∃ a b W S, vs = [.ref a, .ref b] ∧ WatchAt K C H a W ∧ W.Ok ∧ StAt K H b W S ∧ ∀ v H', Ex Z H H' → WdV W S v → Q v H'
theorem sc_word_of : FnScope ["watch", "places", "words", "place"] ["watch", "places"] (defScope s_word_of) := ⟨rfl, rfl, rfl, by decide +kernel, rfl, by decide +kernel, by decide +kernel⟩
theorem word_of_ok (T : Txt K mg C) (D : Df K mg "word_of" s_word_of []) (p_words : Pg P w K mg base 1 C "words" (spWords K C)) : C8.Cal P w K mg base 3 "word_of" (spWordOf K Z C) [] := by
  refine D.cal (k := 2) sc_word_of (by intro kV doc pm an cdv ct us h; match us, h with | [_, _], _ => rfl) (by rintro _ _ _ _ ⟨_, _, _, _, rfl, _⟩; rfl) ?_
  rintro f cdv A outer s H _ Q E hr ⟨a, b, W, S, rfl, hW, ok, hS, hq⟩
  have hS6 := st_len ok hS.2
  refine ⟨_, (pss_cons (ps_setDc (i := 2) (own := [("place", 3)]) rfl sc_word_of.nd rfl rfl (sw_trueD rfl rfl rfl (by decide +kernel)) (pi_seqK (K := K) rfl (pv 1)) (blkOk_by (own := [("place", 3)]) (N := ["watch", "places", "words", "place"]) (sc := defScope s_word_of) (by decide +kernel)) (fun _ _ _ _ _ => (pg_name (i := 3) sc_word_of.nd rfl (by first | exact Or.inl rfl | exact Or.inr rfl))) (fun _ _ _ _ _ => pts_nil) (fun _ _ _ _ _ => (pe_ix (ixtK (K := K) rfl) (pe_pg p_words T.cl (pv 0) hr (by decide) rfl) (pv 3) (fun _ _ => rfl))) (fun _ _ _ _ _ => pe_non))
      (pss_one (ps_ret (pe_ifExp (pt_cmpR op_eq (pe_callB call_lenD (by rfl) T.len bt_len (pa_cons (pv 2) pa_nil)) pe_int (nomark _)) (pe_ix (ixlK (K := K) rfl) (pe_callTy (call_listD rfl) (by rfl) T.list bt_list (pa_cons (pv 2) pa_nil)) pe_int (fun _ _ => rfl)) pe_non)))), ?_⟩
  refine ⟨_, rfl, _, _, rfl, .inr hS.1, fun J G wk hG D hD => ?_⟩
  rw [natV_len] at wk
  refine dcE (B := []) (Z := Z) wk hD (hG Z [] · (by simp)) (fun i acc _ => acc = encN (insA [] ((S.map W.wd).take i))) rfl (fun i acc x H2 H3 hi x2 ha hp hy => ?_) fun acc H2 x2 ha hp => ?_
  · obtain ⟨rfl, hx⟩ := hy
    obtain ⟨p, hpS, rfl⟩ := natV_get hx
    have hpn := hS.2.1 p (List.mem_of_getElem? hpS)
    have hW2 := hW.ex x2
    obtain ⟨dx, _, _, _, e1, _⟩ := id hW2
    refine ⟨rfl, _, rfl, a, dx, _, rfl, e1, a, W, rfl, hW2, fun m hm => ?_⟩
    refine ⟨_, rfl, ixT hm (lineV_at hpn) ?_⟩
    exact set_turn x2 hD ha (by rw [List.getElem?_map, hpS]; rfl) (by rw [List.length_map]; omega) hp (Exb.refl _)
  · rw [List.take_of_length_le (by rw [List.length_map]; exact Nat.le_refl _)] at hp
    subst hp
    by_cases h1 : OneW W S
    · have h1' : (insA [] (S.map W.wd)).length = 1 := h1
      refine ⟨_, rfl, D, _, rfl, ha, rfl, true, eqT (by rw [encN_len, h1']; rfl), ?_⟩
      obtain ⟨x, hx⟩ : ∃ x, insA [] (S.map W.wd) = [x] := List.length_eq_one_iff.mp h1'
      refine ⟨_, rfl, D, _, rfl, .inl ha, fun l nl => ?_⟩
      refine ixL (j := 0) (SqL.of upd_same) (v := .int (x : Nat)) (by rw [hx]; rfl) ?_
      exact hq _ _ (x2.trans (Ex.new nl)) (.inl ⟨h1, x, rfl⟩)
    · refine ⟨_, rfl, D, _, rfl, ha, rfl, false, eqF (fun z => h1 ?_), ?_⟩
      · have := V.int.inj z
        rw [encN_len] at this
        show (insA [] (S.map W.wd)).length = 1
        omega
      · exact hq _ _ x2 (.inr ⟨h1, rfl⟩)
def spCanLead (K : PySem.W.Frag) (Z : List (Addr × Str)) (C : Addr) : Sp := spLedBy K Z C
theorem sc_can_lead : FnScope ["watch", "shown", "mode"] ["watch", "shown", "mode"] (defScope s_can_lead) := ⟨rfl, rfl, rfl, by decide +kernel, rfl, by decide +kernel, by decide +kernel⟩
theorem can_lead_ok (D : Df K mg "can_lead" s_can_lead []) (c_need_watch : C8.Cal P w K mg base 1 "need_watch" (spNeedWatch C) [.non]) (c_need_shown : C8.Cal P w K mg base 3 "need_shown" (spNeedShown K Z C) []) (c_need_mode : C8.Cal P w K mg base 2 "need_mode" (spNeedMode Z) []) (c_led_by : C8.Cal P w K mg base 6 "led_by" (spLedBy K Z C) []) : C8.Cal P w K mg base 7 "can_lead" (spLedBy K Z C) [] := by
  refine D.cal (k := 6) sc_can_lead (by intro kV doc pm an cdv ct us h; match us, h with | [_, _, _], _ => rfl) (by rintro _ _ _ _ ⟨_, _, _, _, rfl, _⟩; rfl) ?_
  rintro f cdv A outer s H _ Q E hr ⟨a, b, W, r, rfl, hW, ok, hR, hq⟩
  obtain ⟨dx, _, _, _, e1, _⟩ := id hW
  refine ⟨_, (pss_cons (ps_expr (C8.pe_c c_need_watch hr (by decide) (by rfl) (pa_cons (pv 0) pa_nil)))
      (pss_cons (ps_expr (C8.pe_c c_need_shown hr (by decide) (by rfl) (pa_cons (pv 0) (pa_cons (pv 1) pa_nil))))
      (pss_cons (ps_expr (C8.pe_c c_need_mode hr (by decide) (by rfl) (pa_cons (pv 2) pa_nil)))
      (pss_one (ps_ret (C8.pe_c c_led_by hr (by decide) (by rfl) (pa_cons (pv 0) (pa_cons (pv 1) (pa_cons (pv 2) pa_nil))))))))), ?_⟩
  refine ⟨_, rfl, a, dx, _, rfl, e1, _, rfl, _, rfl, a, b, W, r, rfl, hW, ok, hR.1, hR.2.1, hR.2.2, fun H1 x1 => ?_⟩
  refine ⟨_, rfl, rfl, fun H2 x2 => ?_⟩
  have x12 := x1.trans x2
  exact ⟨_, rfl, _, rfl, _, rfl, a, b, W, r, rfl, hW.ex x12, ok, hR.ex x12, fun p H3 x3 h3 => hq p H3 (x12.trans x3) h3⟩
def spSure (K : PySem.W.Frag) (Z : List (Addr × Str)) (C : Addr) : Sp := fun vs H Q _ => ∃ a b W r, vs = [.ref a, .ref b, .str "counted"] ∧ WatchAt K C H a W ∧ W.Ok ∧ RowAt K H b W r ∧ ∀ v H', Ex Z H H' → WdV W (ledS W r) v → Q v H'
theorem sc_sure : FnScope ["watch", "shown", "mode"] ["watch", "shown", "mode"] (defScope s_sure) := ⟨rfl, rfl, rfl, by decide +kernel, rfl, by decide +kernel, by decide +kernel⟩
theorem sure_ok (D : Df K mg "sure" s_sure []) (c_word_of : C8.Cal P w K mg base 3 "word_of" (spWordOf K Z C) []) (c_can_lead : C8.Cal P w K mg base 7 "can_lead" (spLedBy K Z C) []) : C8.Cal P w K mg base 8 "sure" (spSure K Z C) [] := by
  refine D.cal (k := 7) sc_sure (by intro kV doc pm an cdv ct us h; match us, h with | [_, _, _], _ => rfl) (by rintro _ _ _ _ ⟨_, _, _, _, rfl, _⟩; rfl) ?_
  rintro f cdv A outer s H _ Q E hr ⟨a, b, W, r, rfl, hW, ok, hR, hq⟩
  refine ⟨_, (pss_one (ps_ret (C8.pe_c c_word_of hr (by decide) (by rfl) (pa_cons (pv 0) (pa_cons (C8.pe_c c_can_lead hr (by decide) (by rfl) (pa_cons (pv 0) (pa_cons (pv 1) (pa_cons (pv 2) pa_nil)))) pa_nil))))), ?_⟩
  exact ⟨_, rfl, _, rfl, _, rfl, _, rfl, a, b, W, r, rfl, hW, ok, hR, fun p H1 x1 h1 => ⟨a, p, W, _, rfl, hW.ex x1, ok, h1, fun v H2 x2 hv => hq v H2 (x1.trans x2) hv⟩⟩
end
end K62
/-! ==== B64c ==== -/
namespace K62
open PySem PySem.Spec PyProof.Rows L2 Fx Od
section
variable {P : Program} {w : World} {K : PySem.W.Frag} {mg : Str → Option Value} {base : Heap} {C : Addr} {Z : List (Addr × Str)}
/-! ### need_share, sets_of_size, is_likely, chance_reason -/
/-- a def of which nothing is asked -/
theorem _root_.Fx.Df.no {x : Str} {st : Stmt} {N ps : List Str} (D : Df K mg x st []) (k : Nat) (S : FnScope N ps (defScope st))
    (hb : ∀ (kV doc pm : Value) (an : Option Addr) (cdv ct : Value) (us : List Value), us.length = ps.length → bindArgs (PySem.W.fnOf x x (defArgs st) (defBody st) (defScope st) .none kV doc pm an cdv ct) ⟨us, []⟩ = pure (ps.zip us))   : C8.Cal P w K mg base (k + 1) x spNo [] := by
  refine D.cal (k := k) S hb (by rintro _ _ _ _ ⟨⟩) ?_
  rintro f cdv A outer s H _ Q E hr ⟨⟩
theorem sc_reached_by : FnScope ["watch", "places", "found", "line", "place"] ["watch", "places"] (defScope s_reached_by) := ⟨rfl, rfl, rfl, by decide +kernel, rfl, by decide +kernel, by decide +kernel⟩
theorem reached_by_ok (D : Df K mg "reached_by" s_reached_by []) : C8.Cal P w K mg base 3 "reached_by" spNo [] := D.no 2 sc_reached_by (by intro kV doc pm an cdv ct us h; match us, h with | [_, _], _ => rfl) 
def spShare (Z : List (Addr × Str)) : Sp := fun vs H Q _ => ∃ a f, vs = [.ref a] ∧ FracAt H a f ∧ 1 ≤ f.2 ∧ f.2 ≤ 1000000 ∧ f.1 ≤ f.2 ∧ Q .non H
theorem sc_need_share : FnScope ["share"] ["share"] (defScope s_need_share) := ⟨rfl, rfl, rfl, by decide +kernel, rfl, by decide +kernel, by decide +kernel⟩
theorem need_share_ok (T : Txt K mg C) (D : Df K mg "need_share" s_need_share []) (c_is_between : C8.Cal P w K mg base 2 "is_between" spBetween []) : C8.Cal P w K mg base 3 "need_share" (spShare Z) [] := by
  refine D.cal (k := 2) sc_need_share (by intro kV doc pm an cdv ct us h; match us, h with | [_], _ => rfl) (by rintro _ _ _ _ ⟨_, _, rfl, _⟩; rfl) ?_
  rintro fa cdv A outer s H _ Q E hr ⟨a, f, rfl, hf, h1, h2, h3, hq⟩
  have hf : H a = some (.tup [.int (f.1 : Nat), .int (f.2 : Nat)]) := hf
  refine ⟨_, (pss_cons (ps_if (PW.pt (pw_or (pt_not (pt_val (pe_callB call_isi (by rfl) T.isinstance bt_isinstance (pa_cons (pv 0) (pa_cons (pe_bltn (by rfl) T.tuple bt_tuple (show RelV (.ty "tuple") _ from rfl)) pa_nil))))) (pw_or1 (pt_cmpR op_ne (pe_callB (lenK (K := K) rfl) (by rfl) T.len bt_len (pa_cons (pv 0) pa_nil)) pe_int (nomark _))))) (pss_one ps_never) pss_nil)
      (pss_one (ps_if (PW.pt (pw_or (pt_not (pt_val (C8.pe_c c_is_between hr (by decide) (by rfl) (pa_cons (pe_ix (ixtK (K := K) rfl) (pv 0) pe_int (fun _ _ => rfl)) (pa_cons pe_int (pa_cons (C8.pe_gc (by rfl) T.c_MOST_BOTTOM) pa_nil)))))) (pw_or1 (pt_not (pt_val (C8.pe_c c_is_between hr (by decide) (by rfl) (pa_cons (pe_ix (ixtK (K := K) rfl) (pv 0) pe_int (fun _ _ => rfl)) (pa_cons pe_int (pa_cons (pe_ix (ixtK (K := K) rfl) (pv 0) pe_int (fun _ _ => rfl)) pa_nil))))))))) (pss_one ps_never) pss_nil))), ?_⟩
  refine ⟨_, rfl, _, _, _, _, _, rfl, .ty _, .base (.tup hf), kit_ty kitB_tuple_tuple, true, rfl, ?_⟩
  refine ⟨_, rfl, _, _, rfl, .inr (SqT.of hf), rfl, false, rfl, ?_⟩
  refine ⟨_, rfl, ixT (j := 1) (SqT.of hf) (v := .int (f.2 : Nat)) rfl ?_⟩
  refine ⟨_, _, _, rfl, by omega, by omega, true, rfl, ?_⟩
  refine ⟨_, rfl, ?_⟩
  refine ⟨_, _, _, _, rfl, rfl, SqT.of hf, atI_nat (j := 0) (v := .int (f.1 : Nat)) rfl, ?_⟩
  refine ⟨_, rfl, ?_⟩
  refine ixT (j := 1) (SqT.of hf) (v := .int (f.2 : Nat)) rfl ?_
  exact ⟨_, _, _, rfl, by omega, by omega, true, rfl, hq⟩
/-- a list of tuples -/
def LtAt (H : Hp) (p : Addr) (L : List (List Nat)) : Prop := ∃ rs : List Addr, H p = some (.lst (rs.map V.ref)) ∧ rs.length = L.length ∧ ∀ (i : Nat) (r : Addr) (ps : List Nat), rs[i]? = some r → L[i]? = some ps → H r = some (.tup (natV ps))
theorem LtAt.ex {H H' : Hp} {p : Addr} {L : List (List Nat)} (x : Ex Z H H') (h : LtAt H p L) : LtAt H' p L := by
  obtain ⟨rs, h1, h2, h3⟩ := h
  exact ⟨rs, x.lst h1, h2, fun i r ps e1 e2 => x.tup (h3 i r ps e1 e2)⟩
def spSets (Z : List (Addr × Str)) (b : Nat) : Sp := fun vs H Q _ => ∃ a xs m, vs = [.ref a, .int (m : Nat)] ∧ H a = some (.lst (natV xs)) ∧ m ≤ b ∧ xs.length ≤ 14 ∧ ∀ p H', Ex Z H H' → LtAt H' p (setsOf xs m) → Q (.ref p) H'
theorem natV_drop (xs : List Nat) (i : Nat) : (natV xs).drop i = natV (xs.drop i) := by simp [natV]
theorem sc_sets_of_size : FnScope ["several", "many", "found", "spot", "item", "rest"] ["several", "many"] (defScope s_sets_of_size) := ⟨rfl, rfl, rfl, by decide +kernel, rfl, by decide +kernel, by decide +kernel⟩
theorem sets_step (T : Txt K mg C) (D : Df K mg "sets_of_size" s_sets_of_size []) (b k : Nat) {sp : Sp} (c_sets_of_size : C8.Cal P w K mg base (k + 1) "sets_of_size" sp []) (hsp : ∀ b', b = b' + 1 → sp = spSets Z b') : C8.Cal P w K mg base (k + 2) "sets_of_size" (spSets Z b) [] := by
  refine D.cal (k := k + 1) sc_sets_of_size (by intro kV doc pm an cdv ct us h; match us, h with | [_, _], _ => rfl) (by rintro _ _ _ _ ⟨_, _, _, rfl, _⟩; rfl) ?_
  rintro f cdv A outer s H _ Q E hr ⟨a, xs, m, rfl, hs, hm, hl, hq⟩
  refine ⟨_, (pss_cons (ps_if (pt_cmpR op_eq (pv 1) pe_int (nomark _)) (pss_one (ps_ret (pe_lst (pa_cons (pe_tup pa_nil) pa_nil)))) pss_nil)
      (pss_cons (ps_set (i := 2) sc_sets_of_size.nd rfl (by first | exact Or.inl rfl | exact Or.inr rfl) (pe_lst pa_nil))
      (pss_cons (ps_for PassesOwn.never rfl (pi_enumW (by rfl) T.enumerate (pa_cons (pv 0) pa_nil)) (pg_tupK (K := K) (n := 2) rfl rfl (pgs_cons (pg_name (i := 3) sc_sets_of_size.nd rfl (by first | exact Or.inl rfl | exact Or.inr rfl)) (pgs_cons (pg_name (i := 4) sc_sets_of_size.nd rfl (by first | exact Or.inl rfl | exact Or.inr rfl)) pgs_nil)))
      (pss_one (ps_expr (pe_bm PySem.F.plainAttrs_list PySem.F.slot_list_extend PySem.F.type_list_extend mt_extend (pv 2) (pa_cons (pe_lc (own := [("rest", 5)]) rfl sc_sets_of_size.nd (pi_seqK (K := K) rfl (C8.pe_c c_sets_of_size hr (Nat.le_refl _) (by rfl) (pa_cons (pe_slice sl_list (pv 0) (po_some (pe_op op_add (pv 3) pe_int)) po_none) (pa_cons (pe_op op_sub (pv 1) pe_int) pa_nil)))) (blkOk_by (own := [("rest", 5)]) (N := ["several", "many", "found", "spot", "item", "rest"]) (sc := defScope s_sets_of_size) (by decide +kernel)) (fun _ _ _ _ _ => (pg_name (i := 5) sc_sets_of_size.nd rfl (by first | exact Or.inl rfl | exact Or.inr rfl))) (fun _ _ _ _ _ => pts_nil) (fun _ _ _ _ _ => (pe_tup (pa_cons (pv 4) (paStarK (K := K) rfl (pv 5) pa_nil))))) pa_nil)))))
      (pss_one (ps_ret (pv 2)))))), ?_⟩
  cases m with
  | zero =>
    refine ⟨_, rfl, rfl, true, rfl, ?_⟩
    refine ⟨by show 0 ≤ sizeLine; decide, fun t nt => ⟨by show 1 ≤ sizeLine; decide, fun l nl => ?_⟩⟩
    have x1 : Ex Z H (upd H t (.tup [])) := Ex.new nt
    have x2 : Ex Z (upd H t (.tup [])) (upd (upd H t (.tup [])) l (.lst [.ref t])) := Ex.new nl
    refine hq l _ (x1.trans x2) ⟨[t], upd_same, rfl, fun i r ps e1 e2 => ?_⟩
    have e2 : ([[]] : List (List Nat))[i]? = some ps := e2
    cases i with
    | succ i => simp at e1
    | zero =>
      simp only [List.getElem?_cons_zero, Option.some.injEq] at e1 e2
      subst e1 e2
      exact x2.tup upd_same
  | succ m =>
    obtain ⟨b', rfl⟩ : ∃ b', b = b' + 1 := ⟨b - 1, by omega⟩
    have e := hsp b' rfl
    subst e
    refine ⟨_, rfl, rfl, false, eqF (by intro z; have := V.int.inj z; omega), ?_⟩
    refine ⟨by show 0 ≤ sizeLine; decide, fun d nd => ?_⟩
    have x1 : Ex Z H (upd H d (.lst [])) := Ex.new nd
    refine ⟨_, rfl, _, _, rfl, .inl (SqL.of (x1.lst hs)), fun J G wk hG => ?_⟩
    rw [natV_len] at wk
    have hne : a ≠ d := ne_of_none hs nd
    have hG' : ∀ H', Ex Z H H' → G H' := fun H' x => hG [] [d] H' (fun z => absurd (List.mem_singleton.mp z) hne) x.shift
    refine for_it wk (fun i σ H' => ∃ u v w, σ = [some (.ref a), some (.int ((m + 1 : Nat) : Int)), some (.ref d), u, v, w] ∧ Ex Z H H' ∧ LtAt H' d (setsTo xs m i)) ⟨_, _, _, rfl, x1, [], upd_same, by simp [setsTo], fun i r ps e1 _ => by simp at e1⟩ (fun i σ H' _ ⟨_, _, _, _, x, _⟩ => hG' H' x)
      (fun i x σ H2 H3 hi ⟨u, v, w, hσ, x2, hd2⟩ hy => ?_) fun σ H2 ⟨u, v, w, hσ, x2, hd2⟩ => ?_
    · subst hσ
      obtain ⟨t, _, y, rfl, nt, rfl, h1, h2⟩ := hy
      obtain rfl := Option.some.inj h1
      obtain ⟨c, hc, rfl⟩ := natV_get h2
      refine ⟨_, _, rfl, SqT.of upd_same, rfl, _, _, rfl, _, _, rfl, rfl, ?_⟩
      have x3 : Ex Z H (upd H2 t (.tup [.int (i : Nat), .int (c : Nat)])) := x2.trans (Ex.new nt)
      have hd3 : LtAt (upd H2 t (.tup [.int (i : Nat), .int (c : Nat)])) d (setsTo xs m i) := hd2.ex (Ex.new (Z := Z) nt)
      generalize upd H2 t (.tup [.int (i : Nat), .int (c : Nat)]) = H3 at x3 hd3
      obtain ⟨rs, r1, r2, r3⟩ := hd3
      refine ⟨_, rfl, .inl ⟨rfl, _, SqL.of r1⟩, ?_⟩
      refine ⟨_, rfl, _, rfl, _, _, rfl, rfl, _, rfl, a, _, rfl, SqL.of (x3.lst hs), fun q nq => ?_⟩
      have ec : cutV (natV xs) (some ((i : Int) + 1)) none = natV (xs.drop (i + 1)) := by
        unfold cutV
        rw [HT.sIx_none, show (some ((i : Int) + 1)) = some (((i + 1 : Nat) : Int)) from rfl, HT.sIx_nat, natV_len, Nat.min_eq_left (by omega), natV_drop, List.take_of_length_le (by rw [natV_len, List.length_drop]; exact Nat.le_refl _)]
      rw [ec]
      have x4 : Ex Z H3 (upd H3 q (.lst (natV (xs.drop (i + 1))))) := Ex.new nq
      refine ⟨_, rfl, _, _, rfl, rfl, ?_⟩
      refine ⟨q, xs.drop (i + 1), m, by show [V.ref q, V.int (((m + 1 : Nat) : Int) - 1)] = _; rw [show (((m + 1 : Nat) : Int) - 1) = ((m : Nat) : Int) by omega], upd_same, by omega, by rw [List.length_drop]; omega, fun l H5 x5 hL => ?_⟩
      obtain ⟨ls, l1, l2, l3⟩ := hL
      have hlen := setsOf_len m (xs.drop (i + 1))
      have hpow : 2 ^ (xs.drop (i + 1)).length ≤ 2 ^ 14 := Nat.pow_le_pow_right (by decide) (by rw [List.length_drop]; omega)
      refine ⟨l, _, rfl, .inl (SqL.of l1), fun J2 G2 wk2 hG2 e hE => ?_⟩
      rw [List.length_map] at wk2
      have x45 := x4.trans x5
      refine lcE (B := []) (Z := Z) wk2 hE (hG2 Z [] · (by simp)) (by omega) (fun j acc H' => ∃ es : List Addr, acc = es.map V.ref ∧ es.length = j ∧ ∀ (j' : Nat) (r : Addr) (ps : List Nat), es[j']? = some r → (setsOf (xs.drop (i + 1)) m)[j']? = some ps → H' r = some (.tup (natV (c :: ps)))) ⟨[], rfl, rfl, fun j' r ps e1 _ => by simp at e1⟩
        (fun j acc x H6 H7 hj x6 ha hla hp hy => ?_) fun acc H6 x6 ha hp => ?_
      · obtain ⟨rfl, hx⟩ := hy
        obtain ⟨es, rfl, hes, hpe⟩ := hp
        rw [List.getElem?_map, List.getElem?_eq_getElem hj] at hx
        obtain rfl := Option.some.inj hx
        have hj2 : j < (setsOf (xs.drop (i + 1)) m).length := by omega
        have ht := x6.tup (l3 j _ _ (List.getElem?_eq_getElem hj) (List.getElem?_eq_getElem hj2))
        refine ⟨rfl, _, rfl, _, rfl, _, _, rfl, .inl (SqT.of ht), ?_, fun p np => ?_⟩
        · have h3 : ((setsOf (xs.drop (i + 1)) m)[j]).length ≤ xs.length := by
            have := mem_setsOf.mp (List.getElem_mem hj2)
            have h5 := this.1.length_le
            rw [List.length_drop] at h5
            omega
          show ([V.int (c : Nat)] ++ (natV _ ++ [])).length ≤ sizeLine
          rw [List.append_nil, List.length_append, natV_len, sizeLine_eq]
          simp only [List.length_cons, List.length_nil]
          omega
        · refine LcP.put x6 hE ha (by simp) hla (by omega) (Exb.new np) ?_
          refine ⟨es ++ [p], by rw [List.map_append]; rfl, by simp [hes], fun j' r ps e1 e2 => ?_⟩
          have npe : p ≠ e := fun z => by
            rw [z, ha] at np
            cases np
          rcases Nat.lt_or_ge j' es.length with hlt | hge
          · rw [List.getElem?_append_left hlt] at e1
            have := hpe j' r ps e1 e2
            have h1 : r ≠ e := fun z => by
              rw [z, ha] at this
              cases this
            rw [upd_ne h1, upd_ne (ne_of_none this np)]
            exact this
          · rw [List.getElem?_append_right hge] at e1
            have h0 : j' - es.length = 0 := by
              rcases Nat.eq_zero_or_pos (j' - es.length) with z | z
              · exact z
              · rw [List.getElem?_eq_none (by simp; omega)] at e1
                cases e1
            rw [h0] at e1
            have e1 : p = r := Option.some.inj e1
            subst e1
            have ej : j' = j := by omega
            subst ej
            rw [List.getElem?_eq_getElem hj2] at e2
            obtain rfl := Option.some.inj e2
            rw [upd_ne npe, upd_same]
            show some (HO.tup ([V.int (c : Nat)] ++ (natV _ ++ []))) = _
            rw [List.append_nil]
            rfl
      · obtain ⟨es, rfl, hes, hpe⟩ := hp
        have x36 := x45.trans x6
        have r6 := x36.lst r1
        have hlt := setsTo_len xs m i (by omega)
        have hpow2 : 2 ^ xs.length ≤ 2 ^ 14 := Nat.pow_le_pow_right (by decide) hl
        have hsz : (rs.map V.ref).length + (es.map V.ref).length ≤ sizeLine := by
          rw [List.length_map, List.length_map, sizeLine_eq, hes]
          have : (2 : Nat) ^ 14 = 16384 := by decide
          omega
        refine ⟨d, e, _, _, rfl, rfl, r6, ha, hsz, ?_⟩
        refine ⟨_, _, _, rfl, (x3.trans x36).mut (.inr nd) (Mb.of r6 trivial), rs ++ es, ?_, ?_, fun j r ps e1 e2 => ?_⟩
        · rw [upd_same, List.map_append]
        · rw [setsTo_succ, List.length_append, List.length_append, List.length_map]
          omega
        · rw [setsTo_succ] at e2
          have nl : ∀ {q : Addr} {ys : List V}, H6 q = some (.tup ys) → upd H6 d (.lst (rs.map V.ref ++ es.map V.ref)) q = some (.tup ys) := fun {q ys} h => by
            rw [upd_ne (fun z => by rw [z, r6] at h; cases h)]
            exact h
          rcases Nat.lt_or_ge j rs.length with hlt | hge
          · rw [List.getElem?_append_left hlt] at e1
            rw [List.getElem?_append_left (by omega)] at e2
            exact nl (x36.tup (r3 j r ps e1 e2))
          · rw [List.getElem?_append_right hge] at e1
            rw [List.getElem?_append_right (by omega), ← r2, List.getElem?_map] at e2
            obtain ⟨ps', h1, h2⟩ := Option.map_eq_some_iff.mp e2
            subst h2
            have hcx : xs.getD i 0 = c := by rw [List.getD_eq_getElem?_getD, hc]; rfl
            rw [hcx]
            exact nl (hpe _ r ps' e1 h1)
    · subst hσ
      exact ⟨_, rfl, hq d H2 x2 hd2⟩
theorem sets_of_size_ok (T : Txt K mg C) (D : Df K mg "sets_of_size" s_sets_of_size []) : ∀ b, C8.Cal P w K mg base (b + 2) "sets_of_size" (spSets Z b) []
  | 0 => sets_step T D 0 0 (D.no 0 sc_sets_of_size (by intro kV doc pm an cdv ct us h; match us, h with | [_, _], _ => rfl) ) fun b' e => by omega
  | b + 1 => sets_step T D (b + 1) (b + 1) (sets_of_size_ok T D b) fun b' e => by rw [show b' = b by omega]
end
end K62
/-! ==== B64d ==== -/
namespace K62
open PySem PySem.Spec PyProof.Rows L2 Fx Od
section
variable {P : Program} {w : World} {K : PySem.W.Frag} {mg : Str → Option Value} {base : Heap} {C : Addr} {Z : List (Addr × Str)}
/-! ### is_likely, chance_reason -/
instance (W : Wt) (ws : Nat → Nat) (row : List Nat) (sh : Nat × Nat) (s : Od.Row) : Decidable (Lk W ws row sh s) := Nat.decLe _ _
def spLikely (K : PySem.W.Frag) (Z : List (Addr × Str)) (C : Addr) : Sp := fun vs H Q _ => ∃ a r pl b sh W row ps ws f, vs = [.ref a, .ref r, .ref pl, .ref b, .ref sh] ∧ WatchAt K C H a W ∧ W.Ok ∧ RwAt K H r W.k row ∧ (∃ m, ps ∈ setsOf (List.range row.length) m) ∧ H pl = some (.tup (natV ps)) ∧ WsAt K H b W.k ws ∧ FracAt H sh f ∧ f.2 ≤ 1000000 ∧ f.1 ≤ f.2 ∧
  ∀ H', Ex Z H H' → Q (.bl (decide (Lk W ws row f (shownAt row ps)))) H'
theorem sc_is_likely : FnScope ["watch", "row", "places", "weights", "share", "words", "whole"] ["watch", "row", "places", "weights", "share"] (defScope s_is_likely) := ⟨rfl, rfl, rfl, by decide +kernel, rfl, by decide +kernel, by decide +kernel⟩
theorem is_likely_ok (T : Txt K mg C) (D : Df K mg "is_likely" s_is_likely []) (p_words : Pg P w K mg base 1 C "words" (spWords K C)) (c_words_by : C8.Cal P w K mg base 5 "words_by" (spWordsBy K Z C) []) (c_shown_at : C8.Cal P w K mg base 1 "shown_at" (spShownAt K Z) []) (c_led_from : C8.Cal P w K mg base 3 "led_from" (spLed K Z C) []) : C8.Cal P w K mg base 6 "is_likely" (spLikely K Z C) [] := by
  refine D.cal (k := 5) sc_is_likely (by intro kV doc pm an cdv ct us h; match us, h with | [_, _, _, _, _], _ => rfl) (by rintro _ _ _ _ ⟨_, _, _, _, _, _, _, _, _, _, rfl, _⟩; rfl) ?_
  rintro fa cdv A outer s H _ Q E hr ⟨a, r, pl, b, sh, W, row, ps, ws, f, rfl, hW, ok, hR, ⟨m, hps⟩, hpl, hw, hf, hf2, hf1, hq⟩
  have hu := hu_of hr
  have hh := sets_hide hps
  have hpl300 : ps.length ≤ 300 := by
    have := hh.le
    have h2 := (mem_setsOf.mp hps).2
    have := hR.2.1
    omega
  have hf : H sh = some (.tup [.int (f.1 : Nat), .int (f.2 : Nat)]) := hf
  have hs := hh.ok hR.2.2
  have hl4 : W.wd (led W 0 row) < 4 := Nat.lt_succ_of_le (ok.wd _ (led_lt ok hR.2.2 ok.n1))
  have hpos := M_led_pos ok (fun c h => (hw.2 c h).1) hR.2.2 hh
  refine ⟨_, (pss_cons (ps_asg (C8.pe_c c_words_by hr (by decide) (by rfl) (pa_cons (pv 0) (pa_cons (C8.pe_c c_shown_at hr (by decide) (by rfl) (pa_cons (pv 1) (pa_cons (pv 2) pa_nil))) (pa_cons (pv 3) pa_nil)))) (pg_tupK (K := K) (n := 2) rfl rfl (pgs_cons (pg_name (i := 5) sc_is_likely.nd rfl (by first | exact Or.inl rfl | exact Or.inr rfl)) (pgs_cons (pg_name (i := 6) sc_is_likely.nd rfl (by first | exact Or.inl rfl | exact Or.inr rfl)) pgs_nil))))
      (pss_one (ps_ret (pe_cmpR op_ge (pe_op op_mul (pe_dget hu (pv 5) (pe_ix (ixtK (K := K) rfl) (pe_pg p_words T.cl (pv 0) hr (by decide) rfl) (C8.pe_c c_led_from hr (by decide) (by rfl) (pa_cons (pv 0) (pa_cons pe_int (pa_cons (pv 1) pa_nil)))) (fun _ _ => rfl)) (fun _ _ => rfl)) (pe_ix (ixtK (K := K) rfl) (pv 4) pe_int (fun _ _ => rfl))) (pe_op op_mul (pe_ix (ixtK (K := K) rfl) (pv 4) pe_int (fun _ _ => rfl)) (pv 6)) (nomark _))))), ?_⟩
  refine ⟨_, rfl, _, rfl, _, rfl, r, pl, row, ps, rfl, hR.1, .inr (SqT.of hpl), hR.2.1, hpl300, fun q H1 x1 h1 => ?_⟩
  refine ⟨_, rfl, a, q, b, W, shownAt row ps, ws, rfl, hW.ex x1, ok, ⟨.inl (SqL.of h1), by rw [shownAt_len]; exact hR.2.1, hs⟩, hw.ex x1, fun p wd H2 x2 hp hd => ?_⟩
  refine ⟨_, _, rfl, SqT.of hp, rfl, _, _, rfl, _, _, rfl, rfl, ?_⟩
  have x12 := x1.trans x2
  have hW2 := hW.ex x12
  obtain ⟨dx, _, _, _, e1, _⟩ := id hW2
  refine ⟨_, rfl, _, rfl, a, dx, _, rfl, e1, a, W, rfl, hW2, fun m hm => ?_⟩
  refine ⟨_, rfl, _, rfl, a, r, W, 0, row, rfl, hW2, ok, ok.n1, x12.sqS hR.1, hR.2.2, fun H3 x3 => ?_⟩
  refine ixT (x3.sqT hm) (lineV_at (led_lt ok hR.2.2 ok.n1)) ?_
  have hg : valV (kvD (tabK (M W ws (shownAt row ps)))) (Sum.inl (W.wd (led W 0 row) : Int)) = some (V.int (M W ws (shownAt row ps) (W.wd (led W 0 row)) : Nat)) := by
    rw [kvD_get, get_tabK hl4 (by omega)]
    rfl
  refine ⟨wd, _, rfl, by rw [← hg]; exact DGet.k (k := Sum.inl (W.wd (led W 0 row) : Int)) (x3.dk hd), ?_⟩
  have x123 := x12.trans x3
  have hf3 := x123.tup hf
  refine ⟨_, rfl, ?_⟩
  refine ⟨_, _, _, _, rfl, rfl, SqT.of hf3, atI_nat (j := 1) (v := .int (f.2 : Nat)) rfl, ?_⟩
  refine ⟨_, _, rfl, rfl, .inr ⟨by omega, by omega⟩, ?_⟩
  refine ⟨_, rfl, ?_⟩
  refine ⟨_, _, _, _, rfl, rfl, SqT.of hf3, atI_nat (j := 0) (v := .int (f.1 : Nat)) rfl, ?_⟩
  refine ⟨_, rfl, _, _, rfl, rfl, .inl ⟨by omega, by omega⟩, _, _, rfl, rfl, ?_⟩
  have e : (decide ((((f.1 : Nat) : Int) * ((whole ws W.k (shownAt row ps) : Nat) : Int)) ≤ (((M W ws (shownAt row ps) (W.wd (led W 0 row)) : Nat) : Int) * ((f.2 : Nat) : Int)))) = decide (Lk W ws row f (shownAt row ps)) := by
    rw [← Int.natCast_mul, ← Int.natCast_mul]
    unfold Lk
    exact decide_eq_decide.mpr Int.ofNat_le
  show Q (.bl (decide _)) _
  have hq3 := hq _ x123
  rw [← e] at hq3
  exact hq3
def spChance (K : PySem.W.Frag) (Z : List (Addr × Str)) (C : Addr) : Sp := fun vs H Q _ => ∃ a r b sh W row ws f, vs = [.ref a, .ref r, .ref b, .ref sh] ∧ WatchAt K C H a W ∧ W.Ok ∧ RwAt K H r W.k row ∧ row.length ≤ 5 ∧ WsAt K H b W.k ws ∧ FracAt H sh f ∧ 1 ≤ f.2 ∧ f.2 ≤ 1000000 ∧ f.1 ≤ f.2 ∧ LamX.Tabs Z H ∧
  ∀ p H' ps, Ex Z H H' → H' p = some (.tup (natV ps)) → Size W ws row f ps.length → Q (.ref p) H'
theorem sc_chance_reason : FnScope ["watch", "row", "weights", "share", "many", "places"] ["watch", "row", "weights", "share"] (defScope s_chance_reason) := ⟨rfl, rfl, rfl, by decide +kernel, rfl, by decide +kernel, by decide +kernel⟩
theorem chance_reason_ok (T : Txt K mg C) (D : Df K mg "chance_reason" s_chance_reason []) (c_need_watch : C8.Cal P w K mg base 1 "need_watch" (spNeedWatch C) [.non]) (c_need_row : C8.Cal P w K mg base 6 "need_row" (spNeedRow K Z C) []) (c_need_weights : C8.Cal P w K mg base 3 "need_weights" (spNeedWeights K Z C) []) (c_need_share : C8.Cal P w K mg base 3 "need_share" (spShare Z) []) (c_sets_of_size : C8.Cal P w K mg base 7 "sets_of_size" (spSets Z 5) []) (c_is_likely : C8.Cal P w K mg base 6 "is_likely" (spLikely K Z C) []) : C8.Cal P w K mg base 8 "chance_reason" (spChance K Z C) [] := by
  refine D.cal (k := 7) sc_chance_reason (by intro kV doc pm an cdv ct us h; match us, h with | [_, _, _, _], _ => rfl) (by rintro _ _ _ _ ⟨_, _, _, _, _, _, _, _, rfl, _⟩; rfl) ?_
  rintro fa cdv A outer s H _ Q E hr ⟨a, r, b, sh, W, row, ws, f, rfl, hW, ok, hR, h5, hw, hf, hf0, hf2, hf1, hT, hq⟩
  obtain ⟨dx, _, _, _, e1, _⟩ := id hW
  refine ⟨_, (pss_cons (ps_expr (C8.pe_c c_need_watch hr (by decide) (by rfl) (pa_cons (pv 0) pa_nil)))
      (pss_cons (ps_expr (C8.pe_c c_need_row hr (by decide) (by rfl) (pa_cons (pv 0) (pa_cons (pv 1) pa_nil))))
      (pss_cons (ps_expr (C8.pe_c c_need_weights hr (by decide) (by rfl) (pa_cons (pv 0) (pa_cons (pv 2) pa_nil))))
      (pss_cons (ps_expr (C8.pe_c c_need_share hr (by decide) (by rfl) (pa_cons (pv 3) pa_nil)))
      (pss_cons (ps_if (pt_cmpR op_gt (pe_callB (lenK (K := K) rfl) (by rfl) T.len bt_len (pa_cons (pv 1) pa_nil)) (C8.pe_gc (by rfl) T.c_MOST_TRIED) (nomark _)) (pss_one ps_never) pss_nil)
      (pss_cons (ps_set (i := 4) sc_chance_reason.nd rfl (by first | exact Or.inl rfl | exact Or.inr rfl) pe_int)
      (pss_one (ps_while PassesOwn.never (pt_val pe_bl) (pss_cons (ps_for PassesOwn.never rfl (pi_seqK (K := K) rfl (C8.pe_c c_sets_of_size hr (by decide) (by rfl) (pa_cons (pe_listRg rfl (by rfl) T.list (prg_1 (by rfl) T.range (pe_callB (lenK (K := K) rfl) (by rfl) T.len bt_len (pa_cons (pv 1) pa_nil)))) (pa_cons (pv 4) pa_nil)))) (pg_name (i := 5) sc_chance_reason.nd rfl (by first | exact Or.inl rfl | exact Or.inr rfl))
      (pss_one (ps_if (pt_val (C8.pe_c c_is_likely hr (by decide) (by rfl) (pa_cons (pv 0) (pa_cons (pv 1) (pa_cons (pv 5) (pa_cons (pv 2) (pa_cons (pv 3) pa_nil))))))) (pss_one (ps_ret (pv 5))) pss_nil)))
      (pss_one (ps_aug (i := 4) sc_chance_reason.nd rfl (by first | exact Or.inl rfl | exact Or.inr rfl) pe_int ip_add))))))))))), ?_⟩
  refine ⟨_, rfl, a, dx, _, rfl, e1, ?_⟩
  refine ⟨_, rfl, _, rfl, a, r, W, row, rfl, hW, ok, hR, hT, fun H1 x1 => ?_⟩
  refine ⟨_, rfl, _, rfl, a, b, W, ws, rfl, hW.ex x1, ok, x1.sqS hw.1, hw.2, fun H2 x2 => ?_⟩
  have x12 := x1.trans x2
  refine ⟨_, rfl, sh, f, rfl, hf.ex x12, hf0, hf2, hf1, ?_⟩
  refine ⟨_, rfl, _, _, rfl, x12.sqS hR.1, _, _, rfl, rfl, false, blF (by rw [natV_len]; omega), ?_⟩
  refine while_by (fun σ H' => ∃ m u, σ = [some (.ref a), some (.ref r), some (.ref b), some (.ref sh), some (.int (m : Nat)), u] ∧ Ex Z H H' ∧ m ≤ row.length ∧ ∀ m' s, m' < m → Hide row s m' → ¬ Lk W ws row f s) (fun σ _ => match σ with | [_, _, _, _, some (.int m), _] => 6 - m.toNat | _ => 0) ⟨0, _, rfl, x12, Nat.zero_le _, fun m' s h => absurd h (Nat.not_lt_zero _)⟩ ?_ ?_
  · rintro σ H3 ⟨m, u, rfl, x3, hm, hnot⟩
    refine ⟨true, rfl, ?_⟩
    have hR3 := hR.ex x3
    refine ⟨_, rfl, _, _, rfl, hR3.1, ?_⟩
    have hln : (natV row).length = row.length := natV_len row
    refine ⟨_, rfl, RgOk.of_le (by omega) (by omega) (by omega) (by omega), fun l nl => ?_⟩
    have el : rgV 0 ((natV row).length : Nat) = natV (List.range row.length) := by
      unfold rgV natV
      rw [show ((((row.map fun c => V.int ((c : Nat) : Int)).length : Nat) : Int) - 0).toNat = row.length by simp]
      simp
    have x4 : Ex Z H3 (upd H3 l (.lst (rgV 0 ((natV row).length : Nat)))) := Ex.new nl
    refine ⟨_, rfl, l, List.range row.length, m, rfl, by rw [upd_same, el], by omega, by rw [List.length_range]; omega, fun p H5 x5 hL => ?_⟩
    obtain ⟨rs, r1, r2, r3⟩ := hL
    refine ⟨p, _, rfl, .inl (SqL.of r1), fun J G wk hG => ?_⟩
    rw [List.length_map] at wk
    have x35 := x3.trans (x4.trans x5)
    refine for_it wk (fun i σ H' => ∃ u, σ = [some (.ref a), some (.ref r), some (.ref b), some (.ref sh), some (.int (m : Nat)), u] ∧ Ex Z H5 H' ∧ ∀ ps ∈ (setsOf (List.range row.length) m).take i, ¬ Lk W ws row f (shownAt row ps)) ⟨_, rfl, Exb.refl _, fun ps h => by simp at h⟩ (fun i σ H' _ ⟨_, _, x, _⟩ => hG Z [] H' (by simp) x)
      (fun i x σ H6 H7 hi ⟨u, hσ, x6, hno⟩ hy => ?_) fun σ H6 ⟨u, hσ, x6, hno⟩ => ?_
    · subst hσ
      obtain ⟨rfl, hx⟩ := hy
      rw [List.getElem?_map, List.getElem?_eq_getElem hi] at hx
      obtain rfl := Option.some.inj hx
      have hi2 : i < (setsOf (List.range row.length) m).length := by omega
      have hps := x6.tup (r3 i _ _ (List.getElem?_eq_getElem hi) (List.getElem?_eq_getElem hi2))
      have x36 := x35.trans x6
      have hmem := List.getElem_mem hi2
      refine ⟨_, rfl, _, rfl, _, rfl, _, rfl, _, rfl, a, r, _, b, sh, W, row, (setsOf (List.range row.length) m)[i], ws, f, rfl, hW.ex x36, ok, hR.ex x36, ⟨m, hmem⟩, hps, hw.ex x36, hf.ex x36, hf2, hf1, fun H7 x7 => ?_⟩
      by_cases hlk : Lk W ws row f (shownAt row (setsOf (List.range row.length) m)[i])
      · refine ⟨true, blT hlk, ?_⟩
        have hlen := (mem_setsOf.mp hmem).2
        refine ⟨_, rfl, hq _ _ _ (x36.trans x7) (x7.tup hps) ?_⟩
        rw [hlen]
        exact ⟨⟨_, sets_hide hmem, hlk⟩, hnot⟩
      · refine ⟨false, blF hlk, _, rfl, x6.trans x7, fun ps h => ?_⟩
        rw [List.take_add_one, List.getElem?_eq_getElem hi2] at h
        rcases List.mem_append.mp h with h | h
        · exact hno ps h
        · have h : ps ∈ [(setsOf (List.range row.length) m)[i]] := h
          rw [List.mem_singleton.mp h]
          exact hlk
    · subst hσ
      rw [r2, List.take_of_length_le (Nat.le_refl _)] at hno
      have hnm : ∀ s, Hide row s m → ¬ Lk W ws row f s := fun s h => by
        obtain ⟨ps, h1, rfl⟩ := hide_sets h
        exact hno ps h1
      have hlt : m < row.length := by
        rcases Nat.lt_or_ge m row.length with z | z
        · exact z
        · have e : m = row.length := by omega
          subst e
          exact absurd (Lk.all ok (fun c h => (hw.2 c h).1) hR.2.2 hf1) (hnm _ (Hide.all row))
      refine ⟨_, rfl, _, _, rfl, rfl, ⟨m + 1, _, rfl, x35.trans x6, hlt, fun m' s h hh => ?_⟩, ?_⟩
      · rcases Nat.lt_or_ge m' m with z | z
        · exact hnot m' s z hh
        · rw [show m' = m by omega] at hh
          exact hnm s hh
      · show 6 - (((m : Nat) : Int) + 1).toNat < 6 - ((m : Nat) : Int).toNat
        omega
  · rintro σ H Q Q' h ⟨k, hk, q⟩
    exact ⟨k, hk, h _ _ q⟩
end
end K62
/-! ==== B64e ==== -/
namespace K62
open PySem PySem.Spec PyProof.Rows L2 Fx Od
section
variable {P : Program} {w : World} {K : PySem.W.Frag} {mg : Str → Option Value} {base : Heap} {C : Addr} {Z : List (Addr × Str)}
/-! ### need_case, need_prices, offered -/
def spNeedCase (K : PySem.W.Frag) (Z : List (Addr × Str)) (C : Addr) : Sp := fun vs H Q _ => ∃ a b W row, vs = [.ref a, .ref b, .str "counted"] ∧ WatchAt K C H a W ∧ W.Ok ∧ RwAt K H b W.k row ∧ LamX.Tabs Z H ∧ ∀ H', Ex Z H H' → Q .non H'
theorem sc_need_case : FnScope ["watch", "row", "mode"] ["watch", "row", "mode"] (defScope s_need_case) := ⟨rfl, rfl, rfl, by decide +kernel, rfl, by decide +kernel, by decide +kernel⟩
theorem need_case_ok (D : Df K mg "need_case" s_need_case []) (c_need_watch : C8.Cal P w K mg base 1 "need_watch" (spNeedWatch C) [.non]) (c_need_row : C8.Cal P w K mg base 6 "need_row" (spNeedRow K Z C) []) (c_need_mode : C8.Cal P w K mg base 2 "need_mode" (spNeedMode Z) []) : C8.Cal P w K mg base 7 "need_case" (spNeedCase K Z C) [] := by
  refine D.cal (k := 6) sc_need_case (by intro kV doc pm an cdv ct us h; match us, h with | [_, _, _], _ => rfl) (by rintro _ _ _ _ ⟨_, _, _, _, rfl, _⟩; rfl) ?_
  rintro f cdv A outer s H _ Q E hr ⟨a, b, W, row, rfl, hW, ok, hR, hT, hq⟩
  obtain ⟨dx, _, _, _, e1, _⟩ := id hW
  refine ⟨_, (pss_cons (ps_expr (C8.pe_c c_need_watch hr (by decide) (by rfl) (pa_cons (pv 0) pa_nil)))
      (pss_cons (ps_expr (C8.pe_c c_need_row hr (by decide) (by rfl) (pa_cons (pv 0) (pa_cons (pv 1) pa_nil))))
      (pss_one (ps_expr (C8.pe_c c_need_mode hr (by decide) (by rfl) (pa_cons (pv 2) pa_nil)))))), ?_⟩
  exact ⟨_, rfl, a, dx, _, rfl, e1, _, rfl, _, rfl, a, b, W, row, rfl, hW, ok, hR, hT, fun H1 x1 => ⟨_, rfl, rfl, fun H2 x2 => hq _ (x1.trans x2)⟩⟩
theorem sc_need_prices : FnScope ["watch", "prices", "index", "price"] ["watch", "prices"] (defScope s_need_prices) := ⟨rfl, rfl, rfl, by decide +kernel, rfl, by decide +kernel, by decide +kernel⟩
theorem need_prices_ok (T : Txt K mg C) (D : Df K mg "need_prices" s_need_prices []) (p_kinds : Pg P w K mg base 1 C "kinds" (spKinds K C)) (c_is_list : C8.Cal P w K mg base 1 "is_list" (spList K Z) []) (c_is_between : C8.Cal P w K mg base 2 "is_between" spBetween []) : C8.Cal P w K mg base 3 "need_prices" (spNeedWeights K Z C) [] := by
  refine D.cal (k := 2) sc_need_prices (by intro kV doc pm an cdv ct us h; match us, h with | [_, _], _ => rfl) (by rintro _ _ _ _ ⟨_, _, _, _, rfl, _⟩; rfl) ?_
  rintro f cdv A outer s H _ Q E hr ⟨a, b, W, ws, rfl, hW, ok, hs, hws, hq⟩
  have k4 := ok.k4
  have hdx := hW
  obtain ⟨dx, m, wd, rs, e1, _⟩ := hdx
  refine ⟨_, (pss_cons (ps_if (PW.pt (pw_or (pt_not (pt_val (C8.pe_c c_is_list hr (by decide) (by rfl) (pa_cons (pv 1) pa_nil)))) (pw_or1 (pt_cmpR op_ne (pe_callB (lenK (K := K) rfl) (by rfl) T.len bt_len (pa_cons (pv 1) pa_nil)) (pe_pg p_kinds T.cl (pv 0) hr (by decide) rfl) (nomark _))))) (pss_one ps_never) pss_nil)
      (pss_one (ps_for PassesOwn.never rfl (pi_enumW (by rfl) T.enumerate (pa_cons (pv 1) pa_nil)) (pg_tupK (K := K) (n := 2) rfl rfl (pgs_cons (pg_name (i := 2) sc_need_prices.nd rfl (by first | exact Or.inl rfl | exact Or.inr rfl)) (pgs_cons (pg_name (i := 3) sc_need_prices.nd rfl (by first | exact Or.inl rfl | exact Or.inr rfl)) pgs_nil)))
      (pss_one (ps_if (pt_not (pt_val (C8.pe_c c_is_between hr (by decide) (by rfl) (pa_cons (pv 3) (pa_cons pe_int (pa_cons (C8.pe_gc (by rfl) T.c_MOST_PRICE_cheapest) pa_nil)))))) (pss_one ps_never) pss_nil))))), ?_⟩
  refine ⟨_, rfl, _, _, rfl, hs, fun H1 x1 => ⟨true, rfl, _, rfl, _, _, rfl, x1.sqS hs, _, rfl, _, _, _, rfl, x1.ins e1, _, W, rfl, hW.ex x1, ok, rfl, false, neF (by rw [lineV_len]), ?_⟩⟩
  refine ⟨_, rfl, _, _, rfl, x1.sqS hs, fun J G wk hG => ?_⟩
  rw [lineV_len] at wk
  refine for_it wk (fun i σ H' => ∃ u v, σ = [some (.ref a), some (.ref b), u, v] ∧ Ex Z H1 H') ⟨_, _, rfl, Exb.refl _⟩ (fun i σ H' _ ⟨u, v, _, x⟩ => hG Z [] H' (by simp) x) (fun i x σ H2 H3 hi ⟨u, v, hσ, x2⟩ hy => ?_) fun σ H' ⟨u, v, _, x⟩ => hq _ (x1.trans x)
  subst hσ
  obtain ⟨t, _, _, rfl, hn, rfl, h1, h2⟩ := hy
  obtain rfl := Option.some.inj h1
  obtain ⟨hc, rfl⟩ := lineV_get h2
  have := hws i hc
  refine ⟨_, _, rfl, SqT.of upd_same, rfl, _, _, rfl, _, _, rfl, rfl, ?_⟩
  have x3 := x2.trans (Exb.new hn (o := .tup [.int (i : Nat), .int (ws i : Nat)]))
  exact ⟨_, rfl, _, _, _, rfl, by omega, by omega, true, rfl, _, _, rfl, x3⟩
/-- a set as a key -/
def kS (S : List Nat) : List Key := S.map fun (x : Nat) => (Sum.inl (x : Int) : Key)
theorem kS_V (S : List Nat) : (kS S).map kV = natV S := by
  unfold kS natV
  rw [List.map_map]
  rfl
theorem kS_inj {S R : List Nat} (h : kS S = kS R) : S = R := by
  have e := congrArg (List.map fun k : Key => match k with | .inl i => i.toNat | .inr _ => 0) h
  unfold kS at e
  rw [List.map_map, List.map_map] at e
  simpa [Function.comp_def] using e
/-- a price and places -/
def PrAt (K : PySem.W.Frag) (H : Hp) (r : Addr) (c : Nat) : Prop := ∃ t ns, SqT K H r [.int (c : Nat), .ref t] ∧ SqT K H t (natV ns) ∧ ns.length ≤ c
theorem PrAt.ex {H H' : Hp} {r : Addr} {c : Nat} (x : Ex Z H H') (h : PrAt K H r c) : PrAt K H' r c := by
  obtain ⟨t, ns, h1, h2, h3⟩ := h
  exact ⟨t, ns, x.sqT h1, x.sqT h2, h3⟩
theorem PrAt.exb {H H' : Hp} {B : List Addr} {r : Addr} {c : Nat} (x : Exb Z B H H') (hB : ∀ b ∈ B, ∀ u, H b = some u → Mi u) (h : PrAt K H r c) : PrAt K H' r c := by
  obtain ⟨t, ns, h1, h2, h3⟩ := h
  exact ⟨t, ns, x.sqTm (fun hb => hB _ hb) h1, x.sqTm (fun hb => hB _ hb) h2, h3⟩
theorem PrAt.put {H : Hp} {p r : Addr} {o u : HO} {c : Nat} (h : PrAt K H r c) (e : H p = some u) (m : Md u) : PrAt K (upd H p o) r c := by
  obtain ⟨t, ns, h1, h2, h3⟩ := h
  exact ⟨t, ns, SqT.put' h1 e m, SqT.put' h2 e m, h3⟩
/-- the entries of a dict of sets -/
def DtP (K : PySem.W.Frag) (H : Hp) (p : List Key × V) (e : List Nat × Nat) : Prop := p.1 = kS e.1 ∧ ∃ r, p.2 = .ref r ∧ PrAt K H r e.2
def DtAt (K : PySem.W.Frag) (H : Hp) (kvs : List (List Key × V)) (D : SpD) : Prop := Paired (DtP K H) kvs D
theorem DtAt.imp {H H' : Hp} {kvs : List (List Key × V)} {D : SpD} (h : DtAt K H kvs D) (f : ∀ r c, PrAt K H r c → PrAt K H' r c) : DtAt K H' kvs D := Paired.mapP h fun p e ⟨h1, r, h2, h3⟩ => ⟨h1, r, h2, f r _ h3⟩
theorem DtAt.ex {H H' : Hp} {kvs : List (List Key × V)} {D : SpD} (x : Ex Z H H') (h : DtAt K H kvs D) : DtAt K H' kvs D := h.imp fun _ _ q => q.ex x
/-- what the dict holds at a set -/
theorem DtAt.val {H : Hp} {kvs : List (List Key × V)} {D : SpD} (h : DtAt K H kvs D) (S : List Nat) : (S ∉ D.map (·.1) ∧ valV kvs (kS S) = none) ∨ ∃ r c, (S, c) ∈ D ∧ valV kvs (kS S) = some (.ref r) ∧ PrAt K H r c := by
  unfold DtAt at h
  induction h with
  | nil => exact .inl ⟨by simp, rfl⟩
  | @cons p e ps es hh t ih =>
    obtain ⟨h1, r, h2, h3⟩ := hh
    by_cases q : e.1 = S
    · refine .inr ⟨r, e.2, by rw [← q]; exact List.mem_cons_self, ?_, h3⟩
      rw [valV_pos (by rw [h1, q]), h2]
    · have nk : ¬ p.1 = kS S := fun z => q (kS_inj (h1.symm.trans z))
      rw [valV_neg nk]
      rcases ih with ⟨i1, i2⟩ | ⟨r', c, i1, i2, i3⟩
      · refine .inl ⟨?_, i2⟩
        simp only [List.map_cons, List.mem_cons, not_or]
        exact ⟨fun z => q z.symm, i1⟩
      · exact .inr ⟨r', c, List.mem_cons_of_mem _ i1, i2, i3⟩
theorem Paired.mem_right {α β : Type} {F : α → β → Prop} {l : List α} {m : List β} (h : Paired F l m) {b : β} (hb : b ∈ m) : ∃ a ∈ l, F a b := by
  induction h with
  | nil => cases hb
  | cons r t ih =>
    rcases List.mem_cons.mp hb with rfl | hb
    · exact ⟨_, List.mem_cons_self, r⟩
    · obtain ⟨a, h1, h2⟩ := ih hb
      exact ⟨a, List.mem_cons_of_mem _ h1, h2⟩
/-- kept as it was -/
theorem offer_keepD {D : SpD} {S : List Nat} {c : Nat} (hm : S ∈ D.map (·.1)) (h : ∀ e ∈ D, e.1 = S → e.2 ≤ c) : offer D S c = D := by
  unfold offer
  rw [if_pos hm]
  conv => rhs; rw [← List.map_id D]
  apply List.map_congr_left
  intro e he
  show (if e.1 = S ∧ c < e.2 then (S, c) else e) = e
  rw [if_neg]
  rintro ⟨z1, z2⟩
  have := h e he z1
  omega
/-- stored anew -/
theorem DtAt.put {H : Hp} {kvs : List (List Key × V)} {D : SpD} {S : List Nat} {c : Nat} {r : Addr} (h : DtAt K H kvs D) (hr : PrAt K H r c) (hc : ∀ e ∈ D, e.1 = S → c ≤ e.2) : DtAt K H (putK kvs (kS S) (.ref r)) (offer D S c) := by
  have hany : (kvs.any fun kv => decide (kv.1 = kS S)) = decide (S ∈ D.map (·.1)) := by
    rw [valV_any]
    rcases h.val S with ⟨h1, h2⟩ | ⟨r', c', h1, h2, _⟩
    · rw [h2, decide_eq_false h1]
      rfl
    · rw [h2, decide_eq_true (List.mem_map.mpr ⟨_, h1, rfl⟩)]
      rfl
  unfold putK offer
  rw [hany]
  by_cases hm : S ∈ D.map (·.1)
  · rw [if_pos hm, if_pos (decide_eq_true hm)]
    unfold DtAt at h ⊢
    clear hany hm
    induction h with
    | nil => exact .nil
    | @cons p e ps es hh t ih =>
      rw [List.map_cons, List.map_cons]
      refine .cons ?_ (ih fun e he => hc e (List.mem_cons_of_mem _ he))
      obtain ⟨h1, r', h2, h3⟩ := hh
      by_cases q : e.1 = S
      · rw [if_pos (by rw [h1, q])]
        have hce := hc e List.mem_cons_self q
        by_cases z : c < e.2
        · rw [if_pos ⟨q, z⟩]
          exact ⟨by rw [h1, q], r, rfl, hr⟩
        · rw [if_neg fun y => z y.2]
          have : c = e.2 := by omega
          exact ⟨h1, r, rfl, by rw [← this]; exact hr⟩
      · rw [if_neg (fun z => q (kS_inj (h1.symm.trans z))), if_neg fun y => q y.1]
        exact ⟨h1, r', h2, h3⟩
  · rw [if_neg hm, if_neg (by rw [decide_eq_false hm]; decide)]
    exact Paired.snoc h ⟨rfl, r, rfl, hr⟩
theorem nat_dp (H : Hp) (ns : List Nat) : DpAll K H (natV ns) ((ns.map fun (x : Nat) => ((x : Nat) : Int)).map PySem.W.Datum.toD) := by
  induction ns with
  | nil => exact .nil
  | cons a r ih => exact .cons (.int _) ih
theorem pr_dp {H : Hp} {r t : Addr} {c : Nat} {ns : List Nat} (h1 : SqT K H r [.int (c : Nat), .ref t]) (h2 : SqT K H t (natV ns)) : Dp K H (.ref r) (PySem.W.Datum.toD (((c : Nat) : Int), (⟨ns.map fun (x : Nat) => ((x : Nat) : Int)⟩ : PySem.W.Tup Int))) :=
  .tup h1 (.cons (.int _) (.cons (.tup h2 (nat_dp H ns)) .nil))
def spOffered (K : PySem.W.Frag) (Z : List (Addr × Str)) : Sp := fun vs H Q _ => ∃ d k pl D kvs S c ns, vs = [.ref d, .ref k, .int (c : Nat), .ref pl] ∧ H d = some (.dT kvs) ∧ DtAt K H kvs D ∧ (D.map (·.1)).Nodup ∧ D.length ≤ 1000 ∧ H k = some (.tup (natV S)) ∧ SqT K H pl (natV ns) ∧ ns.length ≤ c ∧
  ∀ H' kvs', Exb Z [d] H H' → H' d = some (.dT kvs') → DtAt K H' kvs' (offer D S c) → Q .non H'
theorem sc_offered : FnScope ["found", "key", "price", "places"] ["found", "key", "price", "places"] (defScope s_offered) := ⟨rfl, rfl, rfl, by decide +kernel, rfl, by decide +kernel, by decide +kernel⟩
theorem offered_ok (D0 : Df K mg "offered" s_offered []) : C8.Cal P w K mg base 1 "offered" (spOffered K Z) [] := by
  refine D0.cal (k := 0) sc_offered (by intro kV doc pm an cdv ct us h; match us, h with | [_, _, _, _], _ => rfl) (by rintro _ _ _ _ ⟨_, _, _, _, _, _, _, _, rfl, _⟩; rfl) ?_
  rintro f cdv A outer s H _ Q E hr ⟨d, k, pl, D, kvs, S, c, ns, rfl, hd, hD, nd, hlen, hk, hpl, hns, hq⟩
  have hu := hu_of hr
  have hu64 := hr.units
  refine ⟨_, (pss_one (ps_if (PW.pt (pw_or (pt_cmp (pc_dnotin hu (pv 1) (pv 0))) (pw_or1 (pt_cmpR (op_ltOK (α := Int × PySem.W.Tup Int) (K := K) rfl hu64 (by decide)) (pe_tup (pa_cons (pv 2) (pa_cons (pv 3) pa_nil))) (pe_dgetK (P := P) (w := w) (K := K) rfl rfl rfl hu (pv 0) (pv 1) (fun _ _ => rfl)) (nomark _))))) (pss_one (ps_dput hu (pv 0) (pv 1) (pe_tup (pa_cons (pv 2) (pa_cons (pv 3) pa_nil))) rfl)) pss_nil)), ?_⟩
  have hkey : ∀ {H' : Hp}, H' k = some (.tup (natV S)) → H' k = some (.tup ((kS S).map kV)) := fun h => by rw [kS_V]; exact h
  have hl : kvs.length = D.length := Paired.length hD
  have fin : ∀ H1, Ex Z H H1 → ∀ p, H1 p = none → (∀ e ∈ D, e.1 = S → c ≤ e.2) → ∃ a H4, V.ref d = .ref a ∧ DPut (upd H1 p (.tup [.int (c : Nat), .ref pl])) a (.ref k) (.ref p) H4 ∧ Q .non H4 := fun H1 x1 p np hc => by
    have x2 : Ex Z H (upd H1 p (.tup [.int (c : Nat), .ref pl])) := x1.trans (Ex.new np)
    have hp2 : upd H1 p (.tup [.int (c : Nat), .ref pl]) p = some (.tup [.int (c : Nat), .ref pl]) := upd_same
    generalize upd H1 p (.tup [.int (c : Nat), .ref pl]) = H2 at x2 hp2
    have hd2 : H2 d = some (.dT kvs) := x2.1 d _ (by simp) hd fun ps z => nomatch z
    refine ⟨d, _, rfl, DPut.t hd2 (hkey (x2.tup hk)) (by rw [hl, sizeLine_eq]; omega), ?_⟩
    refine hq _ _ ((x2.any (B := [d])).mut (.inl (by simp)) (Mb.of hd2 trivial)) upd_same ?_
    have hD2 : DtAt K H2 (putK kvs (kS S) (.ref p)) (offer D S c) := (hD.ex x2).put ⟨pl, ns, SqT.of hp2, x2.sqT hpl, hns⟩ hc
    exact hD2.imp fun r c h => h.put hd2 trivial
  rcases hD.val S with ⟨h1, h2⟩ | ⟨r, c0, h1, h2, t, ms, h3, h4, h5⟩
  · refine ⟨_, rfl, _, rfl, d, _, rfl, DGet.t hd (hkey hk), true, by rw [h2]; rfl, ?_⟩
    refine ⟨_, rfl, _, rfl, by show 2 ≤ sizeLine; decide, fun p np => ⟨_, rfl, _, rfl, fin H (Exb.refl H) p np fun e he z => absurd (List.mem_map.mpr ⟨e, he, z⟩) h1⟩⟩
  · have huniq : ∀ e ∈ D, e.1 = S → e.2 = c0 := fun e he z => by
      have h6 := List.mem_iff_getElem.mp he
      have h7 := List.mem_iff_getElem.mp h1
      obtain ⟨i, hi, e1⟩ := h6
      obtain ⟨j, hj, e2⟩ := h7
      have : i = j := (List.getElem_inj (h₀ := by rw [List.length_map]; exact hi) (h₁ := by rw [List.length_map]; exact hj) nd).mp (by rw [List.getElem_map, List.getElem_map, e1, e2]; exact z)
      subst this
      rw [← e1, e2]
    refine ⟨_, rfl, _, rfl, d, _, rfl, DGet.t hd (hkey hk), false, by rw [h2]; rfl, ?_⟩
    refine ⟨_, rfl, _, rfl, by show 2 ≤ sizeLine; decide, fun p np => ?_⟩
    have x1 : Ex Z H (upd H p (.tup [.int (c : Nat), .ref pl])) := Ex.new np
    have hd1 : upd H p (.tup [.int (c : Nat), .ref pl]) d = some (.dT kvs) := x1.1 d _ (by simp) hd fun ps z => nomatch z
    refine ⟨_, rfl, _, rfl, d, k, kvs, kS S, .ref r, rfl, rfl, .inl hd1, SqT.of (hkey (x1.tup hk)), h2, ?_⟩
    refine ⟨(((c : Nat) : Int), ⟨ns.map fun (x : Nat) => ((x : Nat) : Int)⟩), (((c0 : Nat) : Int), ⟨ms.map fun (x : Nat) => ((x : Nat) : Int)⟩), pr_dp (SqT.of upd_same) (x1.sqT hpl), pr_dp (x1.sqT h3) (x1.sqT h4), _, rfl, ?_⟩
    cases hlt : PySem.W.DatumOrd.lt ((((c : Nat) : Int), ⟨ns.map fun (x : Nat) => ((x : Nat) : Int)⟩) : Int × PySem.W.Tup Int) (((c0 : Nat) : Int), ⟨ms.map fun (x : Nat) => ((x : Nat) : Int)⟩) with
    | true =>
      have h6 : ((c : Nat) : Int) ≤ ((c0 : Nat) : Int) := pair_lt1 _ _ hlt
      refine ⟨_, rfl, _, rfl, by show 2 ≤ sizeLine; decide, fun p2 np2 => ⟨_, rfl, _, rfl, fin _ x1 p2 np2 fun e he z => ?_⟩⟩
      have := huniq e he z
      omega
    | false =>
      have h6 : ((c0 : Nat) : Int) ≤ ((c : Nat) : Int) := pair_lt2 _ _ hlt
      refine hq _ _ x1.any hd1 ?_
      rw [offer_keepD (List.mem_map.mpr ⟨_, h1, rfl⟩) fun e he z => by have := huniq e he z; omega]
      exact hD.ex x1
end
end K62
/-! ==== B64f ==== -/
namespace K62
open PySem PySem.Spec PyProof.Rows L2 Fx Od
section
variable {P : Program} {w : World} {K : PySem.W.Frag} {mg : Str → Option Value} {base : Heap} {C : Addr} {Z : List (Addr × Str)}
/-! ### paid_on, cheapest_by, cheapest_reason -/
theorem FrT.exb {H H' : Hp} {B : List Addr} {d : Addr} {o : Obj} {kvs : List (List Key × V)} (x : Exb Z B H H') (hd : d ∉ B) (hB : ∀ b ∈ B, ∀ u, H b = some u → Mi u) (h : FrT P w K H d o kvs) : FrT P w K H' d o kvs := by
  rcases h with h | ⟨l, u, h, h1, h2, h3, h4⟩
  · exact .inl (x.frzb hd h)
  · exact .inr ⟨l, u, x.frzb hd h, h1, h2, h3, fun e he => x.sqTm (fun hb => hB _ hb) (h4 e he)⟩
theorem RdT.ex {H H' : Hp} {d : Addr} {kvs : List (List Key × V)} (x : Ex Z H H') (h : RdT P w K H d kvs) : RdT P w K H' d kvs := by
  rcases h with h | ⟨o, h⟩
  · exact .inl (x.1 d _ (by simp) h fun ps z => nomatch z)
  · exact .inr ⟨o, FrT.exb x (by simp) (fun b hb => absurd hb (by simp)) h⟩
/-- a dict of sets with the least price of each -/
structure SpOk (W : Wt) (D : SpD) : Prop where
  st : ∀ e ∈ D, (∀ q ∈ e.1, q < W.n) ∧ e.1.Nodup
  nd : (D.map (·.1)).Nodup
  len : D.length ≤ 200
  pr : ∀ e ∈ D, e.2 ≤ 200
def FdT (P : Program) (w : World) (K : PySem.W.Frag) (H : Hp) (d : Addr) (D : SpD) : Prop := ∃ kvs, RdT P w K H d kvs ∧ DtAt K H kvs D
def spPaid (P : Program) (w : World) (K : PySem.W.Frag) (Z : List (Addr × Str)) (C : Addr) : Sp := fun vs H Q _ => ∃ a fd ev W D place kind, vs = [.ref a, .ref fd, .str "counted", .ref ev, .int 1] ∧ WatchAt K C H a W ∧ W.Ok ∧ FdT P w K H fd D ∧ SpOk W D ∧ SqT K H ev [.int (place : Nat), .int (kind : Nat)] ∧ kind < W.k ∧
  ∀ p H' kvs, Ex Z H H' → H' p = some (.dT kvs) → DtAt K H' kvs (paidOn W D kind) → Q (.ref p) H'
theorem DtAt.exb {H H' : Hp} {B : List Addr} {kvs : List (List Key × V)} {D : SpD} (x : Exb Z B H H') (hB : ∀ b ∈ B, ∀ u, H b = some u → Mi u) (h : DtAt K H kvs D) : DtAt K H' kvs D := h.imp fun _ _ q => q.exb x hB
theorem DtAt.get {H : Hp} {kvs : List (List Key × V)} {D : SpD} (h : DtAt K H kvs D) {i : Nat} {k : List Key} {v : V} (e : kvs[i]? = some (k, v)) : ∃ S c r, D[i]? = some (S, c) ∧ k = kS S ∧ v = .ref r ∧ PrAt K H r c := by
  obtain ⟨b, hb, h1, r, h2, h3⟩ := paired_get h e
  exact ⟨b.1, b.2, r, hb, h1, h2, h3⟩
theorem sc_paid_on : FnScope ["watch", "found", "mode", "event", "price", "behind", "here", "paid", "places"] ["watch", "found", "mode", "event", "price"] (defScope s_paid_on) := ⟨rfl, rfl, rfl, by decide +kernel, rfl, by decide +kernel, by decide +kernel⟩
theorem paid_on_ok (T : Txt K mg C) (D0 : Df K mg "paid_on" s_paid_on []) (c_known_by : C8.Cal P w K mg base 3 "known_by" (spKnown K Z C) []) (c_unknown_by : C8.Cal P w K mg base 4 "unknown_by" (spUnknown K Z C) []) (c_offered : C8.Cal P w K mg base 1 "offered" (spOffered K Z) []) : C8.Cal P w K mg base 5 "paid_on" (spPaid P w K Z C) [] := by
  refine D0.cal (k := 4) sc_paid_on (by intro kV doc pm an cdv ct us h; match us, h with | [_, _, _, _, _], _ => rfl) (by rintro _ _ _ _ ⟨_, _, _, _, _, _, _, rfl, _⟩; rfl) ?_
  rintro f cdv A outer s H _ Q E hr ⟨a, fd, ev, W, D, place, kind, rfl, hW, ok, ⟨kvs, hfd, hD⟩, ok2, hev, hkind, hq⟩
  have hu := hu_of hr
  refine ⟨_, (pss_cons (ps_set (i := 5) sc_paid_on.nd rfl (by first | exact Or.inl rfl | exact Or.inr rfl) pe_dnewT)
      (pss_cons (ps_lockF (ps_for PassesOwn.never rfl (pi_itemsTK (P := P) (w := w) (K := K) rfl rfl rfl (pv 1)) (pg_tupK (K := K) (n := 2) rfl rfl (pgs_cons (pg_name (i := 6) sc_paid_on.nd rfl (by first | exact Or.inl rfl | exact Or.inr rfl)) (pgs_cons (pg_tupK (K := K) (n := 2) rfl rfl (pgs_cons (pg_name (i := 7) sc_paid_on.nd rfl (by first | exact Or.inl rfl | exact Or.inr rfl)) (pgs_cons (pg_name (i := 8) sc_paid_on.nd rfl (by first | exact Or.inl rfl | exact Or.inr rfl)) pgs_nil))) pgs_nil)))
      (pss_cons (ps_expr (C8.pe_c c_offered hr (by decide) (by rfl) (pa_cons (pv 5) (pa_cons (C8.pe_c c_known_by hr (by decide) (by rfl) (pa_cons (pv 0) (pa_cons (pv 6) (pa_cons (pe_ix (ixtK (K := K) rfl) (pv 3) pe_int (fun _ _ => rfl)) pa_nil)))) (pa_cons (pe_op op_add (pv 7) (pv 4)) (pa_cons (pe_tup (paStarK (K := K) rfl (pv 8) (pa_cons (pe_ix (ixtK (K := K) rfl) (pv 3) pe_int (fun _ _ => rfl)) pa_nil))) pa_nil))))))
      (pss_one (ps_expr (C8.pe_c c_offered hr (by decide) (by rfl) (pa_cons (pv 5) (pa_cons (C8.pe_c c_unknown_by hr (by decide) (by rfl) (pa_cons (pv 0) (pa_cons (pv 6) (pa_cons (pv 2) pa_nil)))) (pa_cons (pv 7) (pa_cons (pv 8) pa_nil))))))))))
      (pss_one (ps_ret (pv 5))))), ?_⟩
  refine fun d nd => ?_
  have x1 : Ex Z H (upd H d (.dT [])) := Ex.new nd
  rcases hfd with hA | ⟨o, hB⟩
  · have ef : upd H d (.dT []) fd = some (.dT kvs) := x1.1 fd _ (by simp) hA fun ps z => nomatch z
    refine .inl ⟨fd, _, ef, trivial, fun o => ?_⟩
    have nfd : fd ≠ d := ne_of_none hA nd
    have hW1 : WatchAt K C (upd (upd H d (.dT [])) fd (.frz o (.dT kvs))) a W := WatchAt.put (hW.ex x1) (Ml.of ef trivial)
    have hev1 : SqT K (upd (upd H d (.dT [])) fd (.frz o (.dT kvs))) ev [.int (place : Nat), .int (kind : Nat)] := SqT.put' (x1.sqT hev) ef trivial
    have hD1 : DtAt K (upd (upd H d (.dT [])) fd (.frz o (.dT kvs))) kvs D := (hD.ex x1).imp fun r c h => h.put ef trivial
    have d1 : upd (upd H d (.dT [])) fd (.frz o (.dT kvs)) d = some (.dT []) := by
      rw [upd_ne nfd.symm]
      exact upd_same
    have hfr : FrT P w K (upd (upd H d (.dT [])) fd (.frz o (.dT kvs))) fd o kvs := .inl upd_same
    generalize eH1 : upd (upd H d (.dT [])) fd (.frz o (.dT kvs)) = H1 at hW1 hev1 hD1 d1 hfr
    have dB : ∀ b ∈ [d], ∀ u, H1 b = some u → Mi u := fun b hb u e => Mi.of d1 trivial u (by rw [← List.mem_singleton.mp hb]; exact e)
    have dBl : ∀ b ∈ [d], ∀ u, H1 b = some u → Ml u := fun b hb u e => Ml.of d1 trivial u (by rw [← List.mem_singleton.mp hb]; exact e)
    refine ⟨_, rfl, fd, o, kvs, rfl, hfr, ?_⟩
    have hend : ∀ H2 kvs', Exb Z [d] H1 H2 → H2 d = some (.dT kvs') → DtAt K H2 kvs' (paidOn W D kind) → H2 fd = some (.frz o (.dT kvs)) ∧ Q (.ref d) (upd H2 fd (.dT kvs)) := fun H2 kvs' x2 hd2 hD2 => by
      have ff := x2.frzb (fun z => nfd (List.mem_singleton.mp z)) (show H1 fd = some (.frz o (.dT kvs)) by rw [← eH1]; exact upd_same)
      refine ⟨ff, hq d _ kvs' (Exb.unb x1 nd (Exb.locked trivial ef (by rw [eH1]; exact x2) ff)) ?_ ?_⟩
      · rw [upd_ne nfd.symm]
        exact hd2
      · refine hD2.imp fun r c h => ?_
        obtain ⟨t, ns, h1, h2, h3⟩ := h
        have un : ∀ {z : Addr} {ys : List V}, SqT K H2 z ys → SqT K (upd H2 fd (.dT kvs)) z ys := fun {z ys} g => by
          rcases g with (g | ⟨u, g⟩) | g
          · exact .inl (.inl (by rw [upd_ne (ne_of g ff (fun y => nomatch y))]; exact g))
          · refine .inl (.inr ⟨u, ?_⟩)
            rw [upd_ne (fun y => by rw [y, ff] at g; cases g)]
            exact g
          · exact .inr g
        exact ⟨t, ns, un h1, un h2, h3⟩
    refine for_it (n := kvs.length) walk_itemsTT (fun i σ H' => ∃ u6 u7 u8 kvs', σ = [some (.ref a), some (.ref fd), some (.str "counted"), some (.ref ev), some (.int 1), some (.ref d), u6, u7, u8] ∧ Exb Z [d] H1 H' ∧ H' d = some (.dT kvs') ∧ DtAt K H' kvs' ((D.take i).foldl (paid1 W kind) []))
      ⟨_, _, _, [], rfl, Exb.refl _, d1, .nil⟩ (fun i σ H' _ ⟨_, _, _, _, _, x, _⟩ => FrT.exb x (fun z => nfd (List.mem_singleton.mp z)) dB hfr) (fun i x σ H2 H3 hlt ⟨u6, u7, u8, kvs', hσ, x2, hd2, hD2⟩ hy => ?_) fun σ H2 ⟨u6, u7, u8, kvs', hσ, x2, hd2, hD2⟩ => ?_
    · subst hσ
      obtain ⟨t, k, v, q, hkv, hq0, rfl, nt, rfl⟩ := hy
      obtain ⟨S, c, r, hDi, rfl, rfl, hpr⟩ := (hD1.exb x2 dB).get hkv
      have hmem := List.mem_of_getElem? hDi
      rw [kS_V] at hq0
      have x3 : Ex Z H2 (upd H2 t (.tup [.ref q, .ref r])) := Ex.new nt
      have x13 : Exb Z [d] H1 (upd H2 t (.tup [.ref q, .ref r])) := x2.trans x3.any
      have hd3 := x3.1 d _ (by simp) hd2 fun ps z => nomatch z
      have hD3 := hD2.ex x3
      obtain ⟨pt, ns, p1, p2, p3⟩ := hpr.ex x3
      have hq3 := x3.sqT hq0
      have hst := ok2.st _ hmem
      have hpc := ok2.pr _ hmem
      have ht3 : upd H2 t (.tup [.ref q, .ref r]) t = some (.tup [.ref q, .ref r]) := upd_same
      generalize upd H2 t (.tup [.ref q, .ref r]) = H3 at x3 x13 hd3 hD3 p1 p2 hq3 ht3
      refine ⟨_, _, rfl, SqT.of ht3, rfl, _, _, rfl, _, _, rfl, _, _, rfl, p1, rfl, _, _, rfl, _, _, rfl, rfl, rfl, ?_⟩
      have hW3 := hW1.exb x13 dBl
      have hev3 := x13.sqTm (fun hb => dB _ hb) hev1
      refine ⟨_, rfl, _, rfl, _, rfl, _, rfl, ixT (j := 1) hev3 (v := .int (kind : Nat)) rfl ?_⟩
      refine ⟨a, q, W, S, kind, rfl, hW3, ok, ⟨hq3, hst⟩, hkind, fun p4 H4 x4 h4 => ?_⟩
      refine ⟨_, rfl, _, rfl, _, _, rfl, rfl, ?_⟩
      refine ⟨_, rfl, pt, _, rfl, .inl (x4.sqT p2), _, rfl, ?_⟩
      refine ⟨_, _, _, _, rfl, rfl, x4.sqT hev3, atI_nat (j := 0) (v := .int (place : Nat)) rfl, ?_⟩
      refine ⟨?_, fun p5 np5 => ?_⟩
      · show (natV ns ++ [V.int (place : Nat)]).length ≤ sizeLine
        rw [List.length_append, natV_len, sizeLine_eq]
        simp only [List.length_cons, List.length_nil]
        omega
      have x5 : Ex Z H4 (upd H4 p5 (.tup (natV ns ++ [V.int (place : Nat)]))) := Ex.new np5
      have h5 : upd H4 p5 (.tup (natV ns ++ [V.int (place : Nat)])) p5 = some (.tup (natV (ns ++ [place]))) := by
        rw [upd_same]
        unfold natV
        rw [List.map_append]
        rfl
      have x34 := x4.trans x5
      have x15 : Exb Z [d] H1 (upd H4 p5 (.tup (natV ns ++ [V.int (place : Nat)]))) := x13.trans x34.any
      have hd5 := x34.1 d _ (by simp) hd3 fun ps z => nomatch z
      have hD5 := hD3.ex x34
      have p5' := x34.sqT p2
      have h4' := x5.tup h4
      have hq5 := x34.sqT hq3
      have p15 := x34.sqT p1
      generalize upd H4 p5 (.tup (natV ns ++ [V.int (place : Nat)])) = H5 at x15 hd5 hD5 p5' h4' h5 hq5 p15
      have ndc : (((D.take i).foldl (paid1 W kind) []).map (·.1)).Nodup := paid_fold_nd kind _ [] (by simp)
      have hlc : ((D.take i).foldl (paid1 W kind) []).length ≤ 400 := by
        have h1 := paid_fold_len (W := W) kind (D.take i) []
        have h2 := List.length_take_le' i D
        have h3 := ok2.len
        simp only [List.length_nil] at h1
        omega
      refine ⟨d, p4, p5, _, kvs', stepS W S (some kind), c + 1, ns ++ [place], rfl, hd5, hD5, ndc, by omega, h4', SqT.of h5, by simp; omega, fun H6 kvs6 x6 hd6 hD6 => ?_⟩
      have x16 := x15.trans x6
      have hdB : ∀ b ∈ [d], ∀ u, H5 b = some u → Mi u := fun b hb u e => Mi.of hd5 trivial u (by rw [← List.mem_singleton.mp hb]; exact e)
      have hW6 := hW1.exb x16 dBl
      have hq6 := x6.sqTm (fun hb => hdB _ hb) hq5
      have p6 := x6.sqTm (fun hb => hdB _ hb) p5'
      refine ⟨_, rfl, _, rfl, _, rfl, _, rfl, a, q, W, S, rfl, hW6, ok, ⟨hq6, hst⟩, fun p7 H7 x7 h7 => ?_⟩
      have hl1 := offer_len ((D.take i).foldl (paid1 W kind) []) (stepS W S (some kind)) (c + 1)
      refine ⟨_, rfl, _, rfl, d, p7, pt, _, kvs6, stepS W S none, c, ns, rfl, x7.1 d _ (by simp) hd6 (fun ps z => nomatch z), hD6.ex x7, offer_nd ndc, by omega, h7, x7.sqT p6, p3, fun H8 kvs8 x8 hd8 hD8 => ?_⟩
      refine ⟨_, _, _, kvs8, rfl, (x16.trans x7.any).trans x8, hd8, ?_⟩
      rw [foldl_take _ _ _ hDi]
      exact hD8
    · subst hσ
      rw [show kvs.length = D.length from Paired.length hD1, List.take_of_length_le (Nat.le_refl _)] at hD2
      have hD2 : DtAt K H2 kvs' (paidOn W D kind) := hD2
      obtain ⟨g1, g2⟩ := hend H2 kvs' x2 hd2 hD2
      exact ⟨g1, _, rfl, g2⟩
  · refine .inr ?_
    have nfd : fd ≠ d := fun z => by
      rcases hB with h | ⟨_, _, h, _⟩
      · rw [z, nd] at h
        cases h
      · rw [z, nd] at h
        cases h
    have hW1 : WatchAt K C (upd H d (.dT [])) a W := hW.ex x1
    have hev1 : SqT K (upd H d (.dT [])) ev [.int (place : Nat), .int (kind : Nat)] := x1.sqT hev
    have hD1 : DtAt K (upd H d (.dT [])) kvs D := hD.ex x1
    have d1 : upd H d (.dT []) d = some (.dT []) := upd_same
    have hfr : FrT P w K (upd H d (.dT [])) fd o kvs := FrT.exb x1 (by simp) (fun b hb => absurd hb (by simp)) hB
    generalize eH1 : upd H d (.dT []) = H1 at x1 hW1 hev1 hD1 d1 hfr
    have dB : ∀ b ∈ [d], ∀ u, H1 b = some u → Mi u := fun b hb u e => Mi.of d1 trivial u (by rw [← List.mem_singleton.mp hb]; exact e)
    have dBl : ∀ b ∈ [d], ∀ u, H1 b = some u → Ml u := fun b hb u e => Ml.of d1 trivial u (by rw [← List.mem_singleton.mp hb]; exact e)
    refine ⟨_, rfl, fd, o, kvs, rfl, hfr, ?_⟩
    refine for_it (n := kvs.length) walk_itemsTT (fun i σ H' => ∃ u6 u7 u8 kvs', σ = [some (.ref a), some (.ref fd), some (.str "counted"), some (.ref ev), some (.int 1), some (.ref d), u6, u7, u8] ∧ Exb Z [d] H1 H' ∧ H' d = some (.dT kvs') ∧ DtAt K H' kvs' ((D.take i).foldl (paid1 W kind) []))
      ⟨_, _, _, [], rfl, Exb.refl _, d1, .nil⟩ (fun i σ H' _ ⟨_, _, _, _, _, x, _⟩ => FrT.exb x (fun z => nfd (List.mem_singleton.mp z)) dB hfr) (fun i x σ H2 H3 hlt ⟨u6, u7, u8, kvs', hσ, x2, hd2, hD2⟩ hy => ?_) fun σ H2 ⟨u6, u7, u8, kvs', hσ, x2, hd2, hD2⟩ => ?_
    · subst hσ
      obtain ⟨t, k, v, q, hkv, hq0, rfl, nt, rfl⟩ := hy
      obtain ⟨S, c, r, hDi, rfl, rfl, hpr⟩ := (hD1.exb x2 dB).get hkv
      have hmem := List.mem_of_getElem? hDi
      rw [kS_V] at hq0
      have x3 : Ex Z H2 (upd H2 t (.tup [.ref q, .ref r])) := Ex.new nt
      have x13 : Exb Z [d] H1 (upd H2 t (.tup [.ref q, .ref r])) := x2.trans x3.any
      have hd3 := x3.1 d _ (by simp) hd2 fun ps z => nomatch z
      have hD3 := hD2.ex x3
      obtain ⟨pt, ns, p1, p2, p3⟩ := hpr.ex x3
      have hq3 := x3.sqT hq0
      have hst := ok2.st _ hmem
      have hpc := ok2.pr _ hmem
      have ht3 : upd H2 t (.tup [.ref q, .ref r]) t = some (.tup [.ref q, .ref r]) := upd_same
      generalize upd H2 t (.tup [.ref q, .ref r]) = H3 at x3 x13 hd3 hD3 p1 p2 hq3 ht3
      refine ⟨_, _, rfl, SqT.of ht3, rfl, _, _, rfl, _, _, rfl, _, _, rfl, p1, rfl, _, _, rfl, _, _, rfl, rfl, rfl, ?_⟩
      have hW3 := hW1.exb x13 dBl
      have hev3 := x13.sqTm (fun hb => dB _ hb) hev1
      refine ⟨_, rfl, _, rfl, _, rfl, _, rfl, ixT (j := 1) hev3 (v := .int (kind : Nat)) rfl ?_⟩
      refine ⟨a, q, W, S, kind, rfl, hW3, ok, ⟨hq3, hst⟩, hkind, fun p4 H4 x4 h4 => ?_⟩
      refine ⟨_, rfl, _, rfl, _, _, rfl, rfl, ?_⟩
      refine ⟨_, rfl, pt, _, rfl, .inl (x4.sqT p2), _, rfl, ?_⟩
      refine ⟨_, _, _, _, rfl, rfl, x4.sqT hev3, atI_nat (j := 0) (v := .int (place : Nat)) rfl, ?_⟩
      refine ⟨?_, fun p5 np5 => ?_⟩
      · show (natV ns ++ [V.int (place : Nat)]).length ≤ sizeLine
        rw [List.length_append, natV_len, sizeLine_eq]
        simp only [List.length_cons, List.length_nil]
        omega
      have x5 : Ex Z H4 (upd H4 p5 (.tup (natV ns ++ [V.int (place : Nat)]))) := Ex.new np5
      have h5 : upd H4 p5 (.tup (natV ns ++ [V.int (place : Nat)])) p5 = some (.tup (natV (ns ++ [place]))) := by
        rw [upd_same]
        unfold natV
        rw [List.map_append]
        rfl
      have x34 := x4.trans x5
      have x15 : Exb Z [d] H1 (upd H4 p5 (.tup (natV ns ++ [V.int (place : Nat)]))) := x13.trans x34.any
      have hd5 := x34.1 d _ (by simp) hd3 fun ps z => nomatch z
      have hD5 := hD3.ex x34
      have p5' := x34.sqT p2
      have h4' := x5.tup h4
      have hq5 := x34.sqT hq3
      have p15 := x34.sqT p1
      generalize upd H4 p5 (.tup (natV ns ++ [V.int (place : Nat)])) = H5 at x15 hd5 hD5 p5' h4' h5 hq5 p15
      have ndc : (((D.take i).foldl (paid1 W kind) []).map (·.1)).Nodup := paid_fold_nd kind _ [] (by simp)
      have hlc : ((D.take i).foldl (paid1 W kind) []).length ≤ 400 := by
        have h1 := paid_fold_len (W := W) kind (D.take i) []
        have h2 := List.length_take_le' i D
        have h3 := ok2.len
        simp only [List.length_nil] at h1
        omega
      refine ⟨d, p4, p5, _, kvs', stepS W S (some kind), c + 1, ns ++ [place], rfl, hd5, hD5, ndc, by omega, h4', SqT.of h5, by simp; omega, fun H6 kvs6 x6 hd6 hD6 => ?_⟩
      have x16 := x15.trans x6
      have hdB : ∀ b ∈ [d], ∀ u, H5 b = some u → Mi u := fun b hb u e => Mi.of hd5 trivial u (by rw [← List.mem_singleton.mp hb]; exact e)
      have hW6 := hW1.exb x16 dBl
      have hq6 := x6.sqTm (fun hb => hdB _ hb) hq5
      have p6 := x6.sqTm (fun hb => hdB _ hb) p5'
      refine ⟨_, rfl, _, rfl, _, rfl, _, rfl, a, q, W, S, rfl, hW6, ok, ⟨hq6, hst⟩, fun p7 H7 x7 h7 => ?_⟩
      have hl1 := offer_len ((D.take i).foldl (paid1 W kind) []) (stepS W S (some kind)) (c + 1)
      refine ⟨_, rfl, _, rfl, d, p7, pt, _, kvs6, stepS W S none, c, ns, rfl, x7.1 d _ (by simp) hd6 (fun ps z => nomatch z), hD6.ex x7, offer_nd ndc, by omega, h7, x7.sqT p6, p3, fun H8 kvs8 x8 hd8 hD8 => ?_⟩
      refine ⟨_, _, _, kvs8, rfl, (x16.trans x7.any).trans x8, hd8, ?_⟩
      rw [foldl_take _ _ _ hDi]
      exact hD8
    · subst hσ
      rw [show kvs.length = D.length from Paired.length hD1, List.take_of_length_le (Nat.le_refl _)] at hD2
      have hD2 : DtAt K H2 kvs' (paidOn W D kind) := hD2
      exact ⟨_, rfl, hq d H2 kvs' (Exb.unb x1 nd x2) hd2 hD2⟩
end
end K62
/-! ==== B64g ==== -/
namespace K62
open PySem PySem.Spec PyProof.Rows L2 Fx Od
section
variable {P : Program} {w : World} {K : PySem.W.Frag} {mg : Str → Option Value} {base : Heap} {C : Addr} {Z : List (Addr × Str)}
/-! ### cheapest_by, cheapest_reason -/
theorem FdT.ex {H H' : Hp} {d : Addr} {D : SpD} (x : Ex Z H H') (h : FdT P w K H d D) : FdT P w K H' d D := by
  obtain ⟨kvs, h1, h2⟩ := h
  exact ⟨kvs, RdT.ex x h1, h2.ex x⟩
theorem spOk_of {W : Wt} (ok : W.Ok) {row : List Nat} (h : row.length ≤ 5) : SpOk W (paidD W row) := by
  have due := due_all (W := W) row
  refine ⟨fun e he => ?_, due.nd, ?_, fun e he => ?_⟩
  · obtain ⟨s, _, h2⟩ := due.sound e he
    rw [← h2]
    exact ledS_ok ok s
  · have h1 := paidD_len (W := W) row
    have h2 : 2 ^ row.length ≤ 2 ^ 5 := Nat.pow_le_pow_right (by decide) h
    exact Nat.le_trans h1 (Nat.le_trans h2 (by decide))
  · obtain ⟨s, h1, _⟩ := due.sound e he
    have := h1.le
    omega
theorem all_one {W : Wt} (ok : W.Ok) {row : List Nat} (hr : ∀ c ∈ row, c < W.k) : ∃ e ∈ paidD W row, OneW W e.1 := by
  obtain ⟨c, _, h⟩ := (due_all (W := W) row).compl _ _ (Hide.all row)
  refine ⟨_, h, ?_⟩
  exact (Lk_one (ws := fun _ => 1) ok (fun _ _ => Nat.one_pos) hr (Hide.all row)).mp (Lk.all ok (fun _ _ => Nat.one_pos) hr (Nat.le_refl 1))
theorem prs_dp {H : Hp} : ∀ {rs : List (Addr × Nat)}, (∀ e ∈ rs, PrAt K H e.1 e.2) → ∃ ds : List (Int × PySem.W.Tup Int), DpAll K H (rs.map fun e => V.ref e.1) (ds.map PySem.W.Datum.toD) ∧ ds.map (·.1) = rs.map fun e => ((e.2 : Nat) : Int)
  | [], _ => ⟨[], .nil, rfl⟩
  | e :: r, h => by
    obtain ⟨ds, h1, h2⟩ := prs_dp (rs := r) fun x hx => h x (List.mem_cons_of_mem _ hx)
    obtain ⟨t, ns, p1, p2, _⟩ := h e List.mem_cons_self
    exact ⟨(((e.2 : Nat) : Int), ⟨ns.map fun (x : Nat) => ((x : Nat) : Int)⟩) :: ds, .cons (pr_dp p1 p2) h1, by rw [List.map_cons, List.map_cons, h2]⟩
/-- min of the prices -/
theorem min_run {H : Hp} {l : Addr} {rs : List (Addr × Nat)} {W : Wt} {row : List Nat} {Q : VK} (ok : W.Ok) (hr : ∀ c ∈ row, c < W.k) (hl : H l = some (.lst (rs.map fun e => V.ref e.1))) (h1 : ∀ e ∈ rs, PrAt K H e.1 e.2 ∧ ∃ S, (S, e.2) ∈ paidD W row ∧ OneW W S)
    (h2 : ∀ e ∈ paidD W row, OneW W e.1 → ∃ r, (r, e.2) ∈ rs) (hq : ∀ r m, PrAt K H r m → Cheap W row m → Q (.ref r) H) : rMinO (Int × PySem.W.Tup Int) (fun p => p.1) K [.ref l] H Q := by
  obtain ⟨ds, d1, d2⟩ := prs_dp (K := K) (H := H) fun e he => (h1 e he).1
  refine ⟨l, _, ds, rfl, SqL.of hl, d1, fun z => ?_, fun i v d e1 e2 hmin => ?_⟩
  · obtain ⟨e, he, ho⟩ := all_one ok hr
    obtain ⟨r, hr2⟩ := h2 e he ho
    have : rs = [] := List.map_eq_nil_iff.mp z
    rw [this] at hr2
    cases hr2
  · rw [List.getElem?_map] at e1
    obtain ⟨e, he, rfl⟩ := Option.map_eq_some_iff.mp e1
    have hmem := List.mem_of_getElem? he
    have hd : d.1 = ((e.2 : Nat) : Int) := by
      have h3 : (ds.map (·.1))[i]? = some d.1 := by rw [List.getElem?_map, e2]; rfl
      rw [d2, List.getElem?_map, he] at h3
      exact (Option.some.inj h3).symm
    obtain ⟨hp, S, hS, ho⟩ := h1 e hmem
    refine hq e.1 e.2 hp ((due_all row).cheap ⟨(S, e.2), hS, ho, rfl⟩ fun e' he' ho' => ?_)
    obtain ⟨r', hr'⟩ := h2 e' he' ho'
    have h5 : ((e'.2 : Nat) : Int) ∈ ds.map (·.1) := by
      rw [d2]
      exact List.mem_map.mpr ⟨_, hr', rfl⟩
    obtain ⟨d', hd', hd2⟩ := List.mem_map.mp h5
    have h6 := hmin d' hd'
    have h6 : d.1 ≤ d'.1 := h6
    rw [hd] at h6
    have h7 : d'.1 = ((e'.2 : Nat) : Int) := hd2
    omega
theorem PrAt.unl {H : Hp} {r fd : Addr} {c : Nat} {o : Obj} {kvs : List (List Key × V)} {u : HO} (h : PrAt K H r c) (ff : H fd = some (.frz o (.dT kvs))) : PrAt K (upd H fd u) r c := by
  obtain ⟨t, ns, h1, h2, h3⟩ := h
  have un : ∀ {z : Addr} {ys : List V}, SqT K H z ys → SqT K (upd H fd u) z ys := fun {z ys} g => by
    rcases g with (g | ⟨v, g⟩) | g
    · exact .inl (.inl (by rw [upd_ne (ne_of g ff (fun y => nomatch y))]; exact g))
    · refine .inl (.inr ⟨v, ?_⟩)
      rw [upd_ne (fun y => by rw [y, ff] at g; cases g)]
      exact g
    · exact .inr g
  exact ⟨t, ns, un h1, un h2, h3⟩
def spCheap (K : PySem.W.Frag) (Z : List (Addr × Str)) (C : Addr) : Sp := fun vs H Q _ => ∃ a r pr W row, vs = [.ref a, .ref r, .str "counted", .ref pr] ∧ WatchAt K C H a W ∧ W.Ok ∧ RwAt K H r W.k row ∧ row.length ≤ 5 ∧ SqS K H pr (lineV W.k fun _ => 1) ∧ LamX.Tabs Z H ∧
  ∀ p H' m, Ex Z H H' → PrAt K H' p m → Cheap W row m → Q (.ref p) H'
theorem sc_cheapest_by : FnScope ["watch", "row", "mode", "prices", "found", "place", "kind", "here"] ["watch", "row", "mode", "prices"] (defScope s_cheapest_by) := ⟨rfl, rfl, rfl, by decide +kernel, rfl, by decide +kernel, by decide +kernel⟩
theorem cheapest_by_ok (T : Txt K mg C) (D0 : Df K mg "cheapest_by" s_cheapest_by []) (c_paid_on : C8.Cal P w K mg base 5 "paid_on" (spPaid P w K Z C) []) (c_word_of : C8.Cal P w K mg base 3 "word_of" (spWordOf K Z C) []) : C8.Cal P w K mg base 6 "cheapest_by" (spCheap K Z C) [] := by
  refine D0.cal (k := 5) sc_cheapest_by (by intro kV doc pm an cdv ct us h; match us, h with | [_, _, _, _], _ => rfl) (by rintro _ _ _ _ ⟨_, _, _, _, _, rfl, _⟩; rfl) ?_
  rintro f cdv A outer s H _ Q E hr ⟨a, ra, pr, W, row, rfl, hW, ok, hR, h5, hpr, hT, hq⟩
  have hu := hu_of hr
  have hu64 := hr.units
  refine ⟨_, (pss_cons (ps_set (i := 4) sc_cheapest_by.nd rfl (by first | exact Or.inl rfl | exact Or.inr rfl) (pe_disp1K (P := P) (w := w) (K := K) rfl rfl rfl hu (C8.pe_gc (by rfl) T.c_BEGIN) (pe_tup (pa_cons pe_int (pa_cons (pe_tup pa_nil) pa_nil)))))
      (pss_cons (ps_for PassesOwn.never rfl (pi_enumW (by rfl) T.enumerate (pa_cons (pv 1) pa_nil)) (pg_tupK (K := K) (n := 2) rfl rfl (pgs_cons (pg_name (i := 5) sc_cheapest_by.nd rfl (by first | exact Or.inl rfl | exact Or.inr rfl)) (pgs_cons (pg_name (i := 6) sc_cheapest_by.nd rfl (by first | exact Or.inl rfl | exact Or.inr rfl)) pgs_nil)))
      (pss_one (ps_set (i := 4) sc_cheapest_by.nd rfl (by first | exact Or.inl rfl | exact Or.inr rfl) (C8.pe_c c_paid_on hr (by decide) (by rfl) (pa_cons (pv 0) (pa_cons (pv 4) (pa_cons (pv 2) (pa_cons (pe_tup (pa_cons (pv 5) (pa_cons (pv 6) pa_nil))) (pa_cons (pe_ix (ixsK (K := K) rfl) (pv 3) (pv 6) (fun _ _ => rfl)) pa_nil)))))))))
      (pss_one (ps_ret (pe_callB (cr_minOK (α := Int × PySem.W.Tup Int) (f := fun p => p.1) (K := K) rfl rfl hu64 (by decide) pair_lt1 pair_lt2) (by rfl) T.min bt_min (pa_cons (pe_lockF (pe_lc (own := [("here", 7)]) rfl sc_cheapest_by.nd (pi_keysTK (P := P) (w := w) (K := K) rfl rfl rfl (pv 4)) (blkOk_by (own := [("here", 7)]) (N := ["watch", "row", "mode", "prices", "found", "place", "kind", "here"]) (sc := defScope s_cheapest_by) (by decide +kernel)) (fun _ _ _ _ _ => (pg_name (i := 7) sc_cheapest_by.nd rfl (by first | exact Or.inl rfl | exact Or.inr rfl))) (fun _ _ _ _ _ => pts_one (pt_cmpR op_notN (C8.pe_c c_word_of hr (by decide) (by rfl) (pa_cons (pv 0) (pa_cons (pv 7) pa_nil))) pe_non (nomark _))) (fun _ _ _ _ _ => (pe_dgetK (P := P) (w := w) (K := K) rfl rfl rfl hu (pv 4) (pv 7) (fun _ _ => rfl))))) pa_nil)))))), ?_⟩
  refine fun d nd => ⟨by show 0 ≤ sizeLine; decide, fun t1 nt1 => ⟨by show 2 ≤ sizeLine; decide, fun t2 nt2 => ?_⟩⟩
  have x1 : Ex Z H (upd H d (.dT [])) := Ex.new nd
  have x2 : Ex Z (upd H d (.dT [])) (upd (upd H d (.dT [])) t1 (.tup [])) := Ex.new nt1
  have x3 : Ex Z (upd (upd H d (.dT [])) t1 (.tup [])) (upd (upd (upd H d (.dT [])) t1 (.tup [])) t2 (.tup [.int 0, .ref t1])) := Ex.new nt2
  have d3 : upd (upd (upd H d (.dT [])) t1 (.tup [])) t2 (.tup [.int 0, .ref t1]) d = some (.dT []) := (x2.trans x3).1 d _ (by simp) upd_same fun ps z => nomatch z
  have t13 : upd (upd (upd H d (.dT [])) t1 (.tup [])) t2 (.tup [.int 0, .ref t1]) t1 = some (.tup []) := x3.tup upd_same
  have t23 : upd (upd (upd H d (.dT [])) t1 (.tup [])) t2 (.tup [.int 0, .ref t1]) t2 = some (.tup [.int 0, .ref t1]) := upd_same
  have x13 := (x1.trans x2).trans x3
  generalize upd (upd (upd H d (.dT [])) t1 (.tup [])) t2 (.tup [.int 0, .ref t1]) = H3 at x13 d3 t13 t23
  refine ⟨He.ga K "BEGIN", kS [0], rfl, T.begin_ _, d3, fun ob hob => ?_⟩
  have x4 : Ex Z H (upd H3 d (.frz ob (.own 0))) := x13.mut (.inr nd) (Mb.of d3 trivial)
  have fd4 : FdT P w K (upd H3 d (.frz ob (.own 0))) d (paidD W (row.take 0)) := by
    refine ⟨_, .inr ⟨ob, hob⟩, ?_⟩
    rw [List.take_zero]
    refine .cons ⟨rfl, t2, rfl, t1, [], SqT.of ?_, SqT.of ?_, Nat.zero_le _⟩ .nil
    · rw [upd_ne (ne_of t23 d3 (fun z => nomatch z))]
      exact t23
    · rw [upd_ne (ne_of t13 d3 (fun z => nomatch z))]
      exact t13
  generalize upd H3 d (.frz ob (.own 0)) = H4 at x4 fd4
  refine ⟨_, rfl, _, _, rfl, x4.sqS hR.1, fun J G wk hG => ?_⟩
  rw [natV_len] at wk
  refine for_it wk (fun i σ H' => ∃ fd u v z, σ = [some (.ref a), some (.ref ra), some (.str "counted"), some (.ref pr), some (.ref fd), u, v, z] ∧ Ex Z H H' ∧ Ex Z H4 H' ∧ FdT P w K H' fd (paidD W (row.take i))) ⟨d, _, _, _, rfl, x4, Exb.refl _, fd4⟩ (fun i σ H' _ ⟨_, _, _, _, _, _, x, _⟩ => hG Z [] H' (by simp) x)
    (fun i x σ H5 H6 hi ⟨fd, u, v, z, hσ, x5, y5, hfd⟩ hy => ?_) fun σ H5 ⟨fd, u, v, z, hσ, x5, y5, hfd⟩ => ?_
  · subst hσ
    obtain ⟨t, _, y, rfl, nt, rfl, h1, h2⟩ := hy
    obtain rfl := Option.some.inj h1
    obtain ⟨c, hc, rfl⟩ := natV_get h2
    have hck := hR.2.2 c (List.mem_of_getElem? hc)
    refine ⟨_, _, rfl, SqT.of upd_same, rfl, _, _, rfl, _, _, rfl, rfl, ?_⟩
    have x6 : Ex Z H5 (upd H5 t (.tup [.int (i : Nat), .int (c : Nat)])) := Ex.new nt
    generalize upd H5 t (.tup [.int (i : Nat), .int (c : Nat)]) = H6 at x6
    refine ⟨_, rfl, _, rfl, _, rfl, _, rfl, _, rfl, by show 2 ≤ sizeLine; decide, fun e ne => ?_⟩
    have x7 : Ex Z H6 (upd H6 e (.tup [.int (i : Nat), .int (c : Nat)])) := Ex.new ne
    have x57 := x5.trans (x6.trans x7)
    refine ⟨_, rfl, _, rfl, ixS (x57.sqS hpr) (lineV_at hck) ?_⟩
    refine ⟨a, fd, e, W, paidD W (row.take i), i, c, rfl, hW.ex x57, ok, hfd.ex (x6.trans x7), spOk_of ok (by have := List.length_take_le' i row; omega), SqT.of upd_same, hck, fun p H8 kvs x8 h8 hD8 => ?_⟩
    refine ⟨p, _, _, _, rfl, x57.trans x8, y5.trans ((x6.trans x7).trans x8), kvs, .inl h8, ?_⟩
    have e9 : paidD W (row.take (i + 1)) = paidOn W (paidD W (row.take i)) c := foldl_take _ _ _ hc
    rw [e9]
    exact hD8
  · subst hσ
    rw [List.take_of_length_le (Nat.le_refl _)] at hfd
    obtain ⟨kvs, hrd, hD⟩ := hfd
    have ok2 := spOk_of ok (W := W) h5
    have hlk : kvs.length ≤ 200 := by
      rw [show kvs.length = (paidD W row).length from Paired.length hD]
      exact ok2.len
    rcases hrd with hA | ⟨o, hB⟩
    · refine .inl ⟨fd, _, hA, trivial, fun o => ?_⟩
      have hW1 : WatchAt K C (upd H5 fd (.frz o (.dT kvs))) a W := WatchAt.put (hW.ex x5) (Ml.of hA trivial)
      have hD1 : DtAt K (upd H5 fd (.frz o (.dT kvs))) kvs (paidD W row) := hD.imp fun r c h => h.put hA trivial
      have hfr : FrT P w K (upd H5 fd (.frz o (.dT kvs))) fd o kvs := .inl upd_same
      refine ⟨_, rfl, fd, o, kvs, rfl, hfr, fun L hL => ?_⟩
      refine lcE (B := []) (Z := Z) (n := kvs.length) walk_keysTT hL (fun H' x => FrT.exb x (by simp) (fun b hb => absurd hb (by simp)) hfr) (by omega) (fun i acc H' => ∃ rs : List (Addr × Nat), acc = rs.map (fun e => V.ref e.1) ∧ (∀ e ∈ rs, PrAt K H' e.1 e.2 ∧ ∃ S, (S, e.2) ∈ paidD W row ∧ OneW W S) ∧ ∀ e ∈ (paidD W row).take i, OneW W e.1 → ∃ r, (r, e.2) ∈ rs) ⟨[], rfl, (fun e he => by cases he), fun e he => by simp at he⟩
        (fun i acc x H4 H5 hi x4 hacc hla hpi hy => ?_) fun acc H4 x4 hacc hpi => ?_
      · obtain ⟨rfl, k, v, q, hkv, rfl, hq0⟩ := hy
        obtain ⟨rs, rfl, r1, r2⟩ := hpi
        have hD4 := hD1.ex x4
        obtain ⟨S, c, r, hDi, rfl, rfl, hpr⟩ := hD4.get hkv
        have hmem := List.mem_of_getElem? hDi
        rw [kS_V] at hq0
        have hst := ok2.st _ hmem
        refine ⟨rfl, _, rfl, _, rfl, a, q, W, S, rfl, hW1.ex x4, ok, ⟨hq0, hst⟩, fun vw H6 x6 hv => ?_⟩
        have x46 := x4.trans x6
        rcases hv with ⟨ho, xw, rfl⟩ | ⟨ho, rfl⟩
        · refine ⟨rfl, true, rfl, ?_⟩
          have hfr6 := FrT.exb x46 (by simp) (fun b hb => absurd hb (by simp)) hfr
          rcases hD1.val S with ⟨z, _⟩ | ⟨r', c', hm', hval, hpr'⟩
          · exact absurd (List.mem_map.mpr ⟨_, hmem, rfl⟩) z
          have ecc : c' = c := by
            obtain ⟨j, hj, e2⟩ := List.mem_iff_getElem.mp hm'
            obtain ⟨j0, hj0, e0⟩ := List.mem_iff_getElem.mp hmem
            have : j0 = j := (List.getElem_inj (h₀ := by rw [List.length_map]; exact hj0) (h₁ := by rw [List.length_map]; exact hj) ok2.nd).mp (by rw [List.getElem_map, List.getElem_map, e0, e2])
            subst this
            rw [e0] at e2
            exact (Prod.mk.inj e2).2.symm
          subst ecc
          refine ⟨_, rfl, _, rfl, fd, q, kvs, kS S, .ref r', rfl, rfl, .inr ⟨o, hfr6⟩, by rw [kS_V]; exact x6.sqT hq0, hval, ?_⟩
          refine LcP.put x4 hL hacc (by simp) hla (by omega) x6 ⟨rs ++ [(r', c')], by rw [List.map_append]; rfl, fun e he => ?_, fun e he ho2 => ?_⟩
          · have hx : ∀ r c, PrAt K H6 r c → PrAt K (upd H6 L (.lst (rs.map (fun e => V.ref e.1) ++ [.ref r']))) r c := fun r c h => h.put (x6.lst hacc) trivial
            rcases List.mem_append.mp he with he | he
            · exact ⟨hx _ _ ((r1 e he).1.ex x6), (r1 e he).2⟩
            · rw [List.mem_singleton.mp he]
              exact ⟨hx _ _ (hpr'.ex x46), S, hmem, ho⟩
          · rw [List.take_add_one, hDi] at he
            rcases List.mem_append.mp he with he | he
            · obtain ⟨r0, h0⟩ := r2 e he ho2
              exact ⟨r0, List.mem_append.mpr (.inl h0)⟩
            · have he : e ∈ [(S, c')] := he
              rw [List.mem_singleton.mp he]
              exact ⟨r', List.mem_append.mpr (.inr List.mem_cons_self)⟩
        · refine ⟨rfl, false, rfl, x46, _, x6.lst hacc, by omega, rs, rfl, fun e he => ⟨(r1 e he).1.ex x6, (r1 e he).2⟩, fun e he ho2 => ?_⟩
          rw [List.take_add_one, hDi] at he
          rcases List.mem_append.mp he with he | he
          · exact r2 e he ho2
          · have he : e ∈ [(S, c)] := he
            rw [List.mem_singleton.mp he] at ho2
            exact absurd ho2 ho
      · obtain ⟨rs, rfl, r1, r2⟩ := hpi
        rw [show kvs.length = (paidD W row).length from Paired.length hD1, List.take_of_length_le (Nat.le_refl _)] at r2
        have ff := x4.frz (show (upd H5 fd (.frz o (.dT kvs))) fd = some (.frz o (.dT kvs)) from upd_same)
        have xf : Ex Z H (upd H4 fd (.dT kvs)) := x5.trans (Exb.locked trivial hA x4 ff)
        refine ⟨ff, min_run (row := row) (rs := rs) ok hR.2.2 ?_ (fun e he => ⟨(r1 e he).1.unl ff, (r1 e he).2⟩) r2 fun r m hp hc => hq r _ m xf hp hc⟩
        rw [upd_ne (ne_of hacc ff (fun z => nomatch z))]
        exact hacc
    · refine .inr ?_
      have hW1 : WatchAt K C H5 a W := hW.ex x5
      have hD1 := hD
      have hfr := hB
      refine ⟨_, rfl, fd, o, kvs, rfl, hfr, fun L hL => ?_⟩
      refine lcE (B := []) (Z := Z) (n := kvs.length) walk_keysTT hL (fun H' x => FrT.exb x (by simp) (fun b hb => absurd hb (by simp)) hfr) (by omega) (fun i acc H' => ∃ rs : List (Addr × Nat), acc = rs.map (fun e => V.ref e.1) ∧ (∀ e ∈ rs, PrAt K H' e.1 e.2 ∧ ∃ S, (S, e.2) ∈ paidD W row ∧ OneW W S) ∧ ∀ e ∈ (paidD W row).take i, OneW W e.1 → ∃ r, (r, e.2) ∈ rs) ⟨[], rfl, (fun e he => by cases he), fun e he => by simp at he⟩
        (fun i acc x H4 H5 hi x4 hacc hla hpi hy => ?_) fun acc H4 x4 hacc hpi => ?_
      · obtain ⟨rfl, k, v, q, hkv, rfl, hq0⟩ := hy
        obtain ⟨rs, rfl, r1, r2⟩ := hpi
        have hD4 := hD1.ex x4
        obtain ⟨S, c, r, hDi, rfl, rfl, hpr⟩ := hD4.get hkv
        have hmem := List.mem_of_getElem? hDi
        rw [kS_V] at hq0
        have hst := ok2.st _ hmem
        refine ⟨rfl, _, rfl, _, rfl, a, q, W, S, rfl, hW1.ex x4, ok, ⟨hq0, hst⟩, fun vw H6 x6 hv => ?_⟩
        have x46 := x4.trans x6
        rcases hv with ⟨ho, xw, rfl⟩ | ⟨ho, rfl⟩
        · refine ⟨rfl, true, rfl, ?_⟩
          have hfr6 := FrT.exb x46 (by simp) (fun b hb => absurd hb (by simp)) hfr
          rcases hD1.val S with ⟨z, _⟩ | ⟨r', c', hm', hval, hpr'⟩
          · exact absurd (List.mem_map.mpr ⟨_, hmem, rfl⟩) z
          have ecc : c' = c := by
            obtain ⟨j, hj, e2⟩ := List.mem_iff_getElem.mp hm'
            obtain ⟨j0, hj0, e0⟩ := List.mem_iff_getElem.mp hmem
            have : j0 = j := (List.getElem_inj (h₀ := by rw [List.length_map]; exact hj0) (h₁ := by rw [List.length_map]; exact hj) ok2.nd).mp (by rw [List.getElem_map, List.getElem_map, e0, e2])
            subst this
            rw [e0] at e2
            exact (Prod.mk.inj e2).2.symm
          subst ecc
          refine ⟨_, rfl, _, rfl, fd, q, kvs, kS S, .ref r', rfl, rfl, .inr ⟨o, hfr6⟩, by rw [kS_V]; exact x6.sqT hq0, hval, ?_⟩
          refine LcP.put x4 hL hacc (by simp) hla (by omega) x6 ⟨rs ++ [(r', c')], by rw [List.map_append]; rfl, fun e he => ?_, fun e he ho2 => ?_⟩
          · have hx : ∀ r c, PrAt K H6 r c → PrAt K (upd H6 L (.lst (rs.map (fun e => V.ref e.1) ++ [.ref r']))) r c := fun r c h => h.put (x6.lst hacc) trivial
            rcases List.mem_append.mp he with he | he
            · exact ⟨hx _ _ ((r1 e he).1.ex x6), (r1 e he).2⟩
            · rw [List.mem_singleton.mp he]
              exact ⟨hx _ _ (hpr'.ex x46), S, hmem, ho⟩
          · rw [List.take_add_one, hDi] at he
            rcases List.mem_append.mp he with he | he
            · obtain ⟨r0, h0⟩ := r2 e he ho2
              exact ⟨r0, List.mem_append.mpr (.inl h0)⟩
            · have he : e ∈ [(S, c')] := he
              rw [List.mem_singleton.mp he]
              exact ⟨r', List.mem_append.mpr (.inr List.mem_cons_self)⟩
        · refine ⟨rfl, false, rfl, x46, _, x6.lst hacc, by omega, rs, rfl, fun e he => ⟨(r1 e he).1.ex x6, (r1 e he).2⟩, fun e he ho2 => ?_⟩
          rw [List.take_add_one, hDi] at he
          rcases List.mem_append.mp he with he | he
          · exact r2 e he ho2
          · have he : e ∈ [(S, c)] := he
            rw [List.mem_singleton.mp he] at ho2
            exact absurd ho2 ho
      · obtain ⟨rs, rfl, r1, r2⟩ := hpi
        rw [show kvs.length = (paidD W row).length from Paired.length hD1, List.take_of_length_le (Nat.le_refl _)] at r2
        exact min_run (row := row) (rs := rs) ok hR.2.2 hacc r1 r2 fun r m hp hc => hq r _ m (x5.trans x4) hp hc
theorem sc_cheapest_reason : FnScope ["watch", "row", "mode", "prices"] ["watch", "row", "mode", "prices"] (defScope s_cheapest_reason) := ⟨rfl, rfl, rfl, by decide +kernel, rfl, by decide +kernel, by decide +kernel⟩
theorem cheapest_reason_ok (D : Df K mg "cheapest_reason" s_cheapest_reason []) (c_need_case : C8.Cal P w K mg base 7 "need_case" (spNeedCase K Z C) []) (c_need_prices : C8.Cal P w K mg base 3 "need_prices" (spNeedWeights K Z C) []) (c_cheapest_by : C8.Cal P w K mg base 6 "cheapest_by" (spCheap K Z C) []) : C8.Cal P w K mg base 8 "cheapest_reason" (spCheap K Z C) [] := by
  refine D.cal (k := 7) sc_cheapest_reason (by intro kV doc pm an cdv ct us h; match us, h with | [_, _, _, _], _ => rfl) (by rintro _ _ _ _ ⟨_, _, _, _, _, rfl, _⟩; rfl) ?_
  rintro f cdv A outer s H _ Q E hr ⟨a, ra, pr, W, row, rfl, hW, ok, hR, h5, hpr, hT, hq⟩
  refine ⟨_, (pss_cons (ps_expr (C8.pe_c c_need_case hr (by decide) (by rfl) (pa_cons (pv 0) (pa_cons (pv 1) (pa_cons (pv 2) pa_nil)))))
      (pss_cons (ps_expr (C8.pe_c c_need_prices hr (by decide) (by rfl) (pa_cons (pv 0) (pa_cons (pv 3) pa_nil))))
      (pss_one (ps_ret (C8.pe_c c_cheapest_by hr (by decide) (by rfl) (pa_cons (pv 0) (pa_cons (pv 1) (pa_cons (pv 2) (pa_cons (pv 3) pa_nil))))))))), ?_⟩
  refine ⟨_, rfl, _, rfl, _, rfl, a, ra, W, row, rfl, hW, ok, hR, hT, fun H1 x1 => ?_⟩
  refine ⟨_, rfl, _, rfl, a, pr, W, fun _ => 1, rfl, hW.ex x1, ok, x1.sqS hpr, fun c _ => ⟨Nat.le_refl 1, show 1 ≤ 1000000 by decide⟩, fun H2 x2 => ?_⟩
  have x12 := x1.trans x2
  exact ⟨_, rfl, _, rfl, _, rfl, _, rfl, a, ra, pr, W, row, rfl, hW.ex x12, ok, hR.ex x12, h5, x12.sqS hpr, x12.2 hT, fun p H3 m x3 h3 hc => hq p H3 m (x12.trans x3) h3 hc⟩
end
end K62
/-! ==== B62o ==== -/
namespace K62
open PySem PySem.Spec PyProof.Rows L2 Fx Od
section
variable {P : Program} {w : World} {K : PySem.W.Frag} {mg : Str → Option Value} {base : Heap} {C : Addr} {Z : List (Addr × Str)}
/-! ### the tape -/
def tpD (al : Addr) (r : Int) (cl : Addr) (t : Int) : List (Key × V) := [(Sum.inr "large", .ref al), (Sum.inr "rest", .int r), (Sum.inr "cells", .ref cl), (Sum.inr "turn", .int t)]
theorem tpD_large (al : Addr) (r : Int) (cl : Addr) (t : Int) : valV (tpD al r cl t) (Sum.inr "large") = some (.ref al) := by rfl
theorem tpD_rest (al : Addr) (r : Int) (cl : Addr) (t : Int) : valV (tpD al r cl t) (Sum.inr "rest") = some (.int r) := by rfl
theorem tpD_cells (al : Addr) (r : Int) (cl : Addr) (t : Int) : valV (tpD al r cl t) (Sum.inr "cells") = some (.ref cl) := by rfl
theorem tpD_turn (al : Addr) (r : Int) (cl : Addr) (t : Int) : valV (tpD al r cl t) (Sum.inr "turn") = some (.int t) := by rfl
theorem put_rest (al : Addr) (r : Int) (cl : Addr) (t x : Int) : putK (tpD al r cl t) (Sum.inr "rest") (.int x) = tpD al x cl t := by rfl
theorem put_turn (al : Addr) (r : Int) (cl : Addr) (t x : Int) : putK (tpD al r cl t) (Sum.inr "turn") (.int x) = tpD al r cl x := by rfl
def TapeAt (H : Hp) (tp al cl : Addr) : Prop := ∃ (r t : Int) (large cells : List Int), H tp = some (.dK (tpD al r cl t)) ∧ H al = some (.lst (large.map V.int)) ∧ H cl = some (.lst (cells.map V.int)) ∧ cl ≠ al
theorem TapeAt.ex {H H' : Hp} {tp al cl : Addr} (x : Ex Z H H') (h : TapeAt H tp al cl) : TapeAt H' tp al cl := by
  obtain ⟨r, t, large, cells, h1, h2, h3, h4⟩ := h
  exact ⟨r, t, large, cells, x.dk h1, x.lst h2, x.lst h3, h4⟩
theorem TapeAt.put {H : Hp} {tp al cl D : Addr} {o : HO} (h : TapeAt H tp al cl) (n1 : D ≠ tp) (n2 : D ≠ al) (n3 : D ≠ cl) : TapeAt (upd H D o) tp al cl := by
  obtain ⟨r, t, large, cells, h1, h2, h3, h4⟩ := h
  exact ⟨r, t, large, cells, by rw [upd_ne n1.symm]; exact h1, by rw [upd_ne n2.symm]; exact h2, by rw [upd_ne n3.symm]; exact h3, h4⟩
theorem TapeAt.new {H : Hp} {tp al cl D : Addr} (h : TapeAt H tp al cl) (hD : H D = none) : D ≠ tp ∧ D ≠ al ∧ D ≠ cl := by
  obtain ⟨r, t, large, cells, h1, h2, h3, h4⟩ := h
  exact ⟨fun z => (by rw [z, h1] at hD; cases hD), fun z => (by rw [z, h2] at hD; cases hD), fun z => (by rw [z, h3] at hD; cases hD)⟩
theorem dget_at {H : Hp} {d : Addr} {kvs : List (Key × V)} {x : Str} {v : V} (h : H d = some (.dK kvs)) (e : valV kvs (Sum.inr x) = some v) : DGet H d (.str x) (some v) := by
  rw [← e]
  exact DGet.k (k := Sum.inr x) h
theorem dput_at {H : Hp} {d : Addr} {kvs kvs' : List (Key × V)} {x : Str} {v : V} (h : H d = some (.dK kvs)) (hl : kvs.length < sizeLine) (e : putK kvs (Sum.inr x) v = kvs') : DPut H d (.str x) v (upd H d (.dK kvs')) := by
  rw [← e]
  exact DPut.k (k := Sum.inr x) h hl
def spBlend (Z : List (Addr × Str)) : Sp := fun vs H Q _ => ∃ tp al cl, vs = [.ref tp] ∧ TapeAt H tp al cl ∧ ∀ (x : Int) H', Exb Z [tp] H H' → TapeAt H' tp al cl → Q (.int x) H'
theorem sc_law_blend : FnScope ["tape", "turn", "found", "great", "blended", "grain"] ["tape"] (defScope s_law_blend) := ⟨rfl, rfl, rfl, by decide +kernel, rfl, by decide +kernel, by decide +kernel⟩
theorem blend_ok (T : Txt K mg C) (D : Df K mg "_law_blend" s_law_blend []) : C8.Cal P w K mg base 1 "_law_blend" (spBlend Z) [] := by
  refine D.cal (k := 0) sc_law_blend (by intro kV doc pm an cdv ct us h; match us, h with | [_], _ => rfl) (by rintro _ _ _ _ ⟨_, _, _, rfl, _⟩; rfl) ?_
  rintro f cdv A outer s H _ Q E hr ⟨tp, al, cl, rfl, ⟨r, t, large, cells, h1, h2, h3, h4⟩, hq⟩
  have hu := hu_of hr
  refine ⟨_, (pss_cons (ps_dput hu (pv 0) pe_str (pe_op op_add (pe_dget hu (pv 0) pe_str (fun _ _ => rfl)) pe_int) rfl)
      (pss_cons (ps_par rfl sc_law_blend.nd (i := 1) (j := 2) rfl rfl (by decide) rfl rfl (pa_cons (pe_callTy call_int1 (by rfl) T.int bt_int (pa_cons (pe_dget hu (pv 0) pe_str (fun _ _ => rfl)) pa_nil)) (pa_cons pe_int pa_nil)) (by rfl))
      (pss_cons (ps_for PassesOwn.never rfl (pi_seqK (K := K) rfl (pe_lst (pa_cons pe_int (pa_cons pe_int (pa_cons pe_int pa_nil))))) (pg_name (i := 3) sc_law_blend.nd rfl (by first | exact Or.inl rfl | exact Or.inr rfl))
      (pss_cons (ps_set (i := 4) sc_law_blend.nd rfl (by first | exact Or.inl rfl | exact Or.inr rfl) (pe_op op_mod (pe_op op_add (pe_op op_mul (pv 1) pe_int) (pe_op op_fdivW (pv 3) pe_int)) (pv 3)))
      (pss_cons (ps_for PassesOwn.never rfl (pi_seqK (K := K) rfl (pe_dget hu (pv 0) pe_str (fun _ _ => rfl))) (pg_name (i := 5) sc_law_blend.nd rfl (by first | exact Or.inl rfl | exact Or.inr rfl))
      (pss_one (ps_set (i := 4) sc_law_blend.nd rfl (by first | exact Or.inl rfl | exact Or.inr rfl) (pe_op op_mod (pe_op op_add (pe_op op_mul (pv 4) pe_int) (pe_callTy call_int1 (by rfl) T.int bt_int (pa_cons (pv 5) pa_nil))) (pv 3)))))
      (pss_one (ps_set (i := 2) sc_law_blend.nd rfl (by first | exact Or.inl rfl | exact Or.inr rfl) (pe_op op_add (pe_op op_mul (pv 2) pe_int) (pe_op op_mod (pe_op op_pow (pv 4) pe_int) (pv 3))))))))
      (pss_one (ps_ret (pv 2)))))), ?_⟩
  refine ⟨_, rfl, tp, _, rfl, dget_at h1 (tpD_turn ..), _, _, rfl, rfl, _, rfl, tp, _, rfl, dput_at h1 (by show 4 < sizeLine; decide) (put_turn ..), ?_⟩
  have x1 : Exb Z [tp] H (upd H tp (.dK (tpD al r cl (t + 1)))) := (Exb.refl _).mut (.inl (by simp)) (Mb.of h1 trivial)
  have ntl : tp ≠ al := fun z => by rw [z, h2] at h1; cases h1
  have ntc : tp ≠ cl := fun z => by rw [z, h3] at h1; cases h1
  have g1 : upd H tp (.dK (tpD al r cl (t + 1))) tp = some (.dK (tpD al r cl (t + 1))) := upd_same
  have g2 : upd H tp (.dK (tpD al r cl (t + 1))) al = some (.lst (large.map V.int)) := by rw [upd_ne ntl.symm]; exact h2
  have g3 : upd H tp (.dK (tpD al r cl (t + 1))) cl = some (.lst (cells.map V.int)) := by rw [upd_ne ntc.symm]; exact h3
  generalize upd H tp (.dK (tpD al r cl (t + 1))) = H1 at x1 g1 g2 g3
  refine ⟨_, rfl, tp, _, rfl, dget_at g1 (tpD_turn ..), .inl ⟨_, rfl, _, _, rfl, ?_⟩⟩
  refine ⟨by show 3 ≤ sizeLine; decide, fun gl ngl => ⟨gl, _, rfl, .inl (SqL.of upd_same), fun J G wk hG => ?_⟩⟩
  have x2 : Ex Z H1 (upd H1 gl (.lst [.int 2147483629, .int 2147483587, .int 2147483579])) := Ex.new ngl
  generalize upd H1 gl (.lst [.int 2147483629, .int 2147483587, .int 2147483579]) = H2 at x2 hG
  refine for_it wk (fun i σ H' => ∃ u3 u4 u5 x, σ = [some (.ref tp), some (.int (t + 1)), some (.int x), u3, u4, u5] ∧ Ex Z H2 H') ⟨_, _, _, 0, rfl, Exb.refl _⟩ (fun i σ H' _ ⟨_, _, _, _, _, x⟩ => hG Z [] H' (by simp) x) (fun i v σ H3 H4 hi ⟨u3, u4, u5, x, hσ, x3⟩ hy => ?_) fun σ H3 ⟨u3, u4, u5, x, hσ, x3⟩ => ?_
  · subst hσ
    obtain ⟨rfl, hx⟩ := hy
    obtain ⟨g, rfl, g0, g31⟩ : ∃ g : Int, v = .int g ∧ 0 < g ∧ g < 2147483648 := by
      have hi3 : i < 3 := hi
      match i, hi3, hx with
      | 0, _, hx => exact ⟨_, (Option.some.inj hx).symm, by decide, by decide⟩
      | 1, _, hx => exact ⟨_, (Option.some.inj hx).symm, by decide, by decide⟩
      | 2, _, hx => exact ⟨_, (Option.some.inj hx).symm, by decide, by decide⟩
    refine ⟨_, rfl, _, _, rfl, rfl, .inr ⟨by decide, by decide⟩, _, rfl, _, _, rfl, rfl, ⟨by decide, by decide⟩, _, _, rfl, rfl, _, rfl, _, _, rfl, rfl, g0, ?_⟩
    have b0 := Int.emod_nonneg ((t + 1) * 69621 + g / 7) (Int.ne_of_gt g0)
    have b1 := Int.emod_lt_of_pos ((t + 1) * 69621 + g / 7) g0
    have x23 := x2.trans x3
    refine ⟨_, rfl, tp, _, rfl, dget_at (x23.dk g1) (tpD_cells ..), cl, _, rfl, .inl (SqL.of (x23.lst g3)), fun J2 G2 wk2 hG2 => ?_⟩
    refine for_it wk2 (fun j σ H' => ∃ u5 bl, σ = [some (.ref tp), some (.int (t + 1)), some (.int x), some (.int g), some (.int bl), u5] ∧ 0 ≤ bl ∧ bl < g ∧ H' = H4) ⟨_, _, rfl, b0, b1, rfl⟩ (fun j σ H' _ ⟨_, _, _, _, _, e⟩ => by rw [e]; exact hG2 Z [] H4 (by simp) (Exb.refl _)) (fun j v σ H5 H6 hj ⟨u5, bl, hσ, c0, c1, e5⟩ hy => ?_) fun σ H5 ⟨u5, bl, hσ, c0, c1, e5⟩ => ?_
    · subst hσ e5
      obtain ⟨rfl, hx⟩ := hy
      obtain ⟨c, rfl⟩ : ∃ c : Int, v = .int c := by
        rw [List.getElem?_map] at hx
        cases q : cells[j]? with
        | none =>
          rw [q] at hx
          cases hx
        | some c =>
          rw [q] at hx
          exact ⟨c, (Option.some.inj hx).symm⟩
      refine ⟨_, rfl, _, _, rfl, rfl, .inr ⟨by decide, by decide⟩, _, rfl, .inl ⟨_, rfl, _, _, rfl, rfl, _, rfl, _, _, rfl, rfl, g0, _, _, rfl, ?_, ?_, rfl⟩⟩
      · exact Int.emod_nonneg _ (Int.ne_of_gt g0)
      · exact Int.emod_lt_of_pos _ g0
    · subst hσ e5
      refine ⟨_, rfl, _, _, rfl, rfl, .inr ⟨by decide, by decide⟩, _, rfl, _, _, rfl, rfl, ⟨by decide, by decide, by omega⟩, _, rfl, _, _, rfl, rfl, g0, _, _, rfl, rfl, _, _, _, _, rfl, x3⟩
  · subst hσ
    have x23 := x2.trans x3
    exact ⟨_, rfl, hq x H3 (x1.trans x23.any) ⟨r, t + 1, large, cells, x23.dk g1, x23.lst g2, x23.lst g3, h4⟩⟩
end
end K62
/-! ==== B62p ==== -/
namespace K62
open PySem PySem.Spec PyProof.Rows L2 Fx Od
section
variable {P : Program} {w : World} {K : PySem.W.Frag} {mg : Str → Option Value} {base : Heap} {C : Addr} {Z : List (Addr × Str)}
theorem ints_dp {H : Hp} : ∀ l : List Int, DpAll K H (l.map V.int) (l.map PyData.int)
  | [] => .nil
  | i :: r => .cons (.int i) (ints_dp r)
theorem ints_lay : ∀ l : List Int, PyData.canLayAll0 (l.map PyData.int) = true
  | [] => rfl
  | i :: r => by
    show (true && PyData.canLayAll0 (r.map PyData.int)) = true
    rw [ints_lay r]
    rfl
theorem ints_deep : ∀ l : List Int, PyData.depthAll (l.map PyData.int) = 0
  | [] => rfl
  | i :: r => by
    show max 0 (PyData.depthAll (r.map PyData.int)) = 0
    rw [ints_deep r]
    rfl
theorem ints_shaped (l : List Int) : SeqAt.shaped (.list (l.map PyData.int)) = true := by
  show (PyData.canLayAll0 (l.map PyData.int) && decide (PyData.depthAll (l.map PyData.int) + 1 ≤ 64)) = true
  rw [ints_lay, ints_deep]
  rfl
def spDraw (Z : List (Addr × Str)) : Sp := fun vs H Q _ => ∃ tp al cl size, vs = [.ref tp, .int (size : Nat)] ∧ TapeAt H tp al cl ∧ 0 < size ∧ size < 2 ^ 64 ∧ ∀ (n : Nat) H', n < size → Exb Z [tp, al] H H' → TapeAt H' tp al cl → Q (.int (n : Nat)) H'
theorem sc_law_draw : FnScope ["tape", "size", "found"] ["tape", "size"] (defScope s_law_draw) := ⟨rfl, rfl, rfl, by decide +kernel, rfl, by decide +kernel, by decide +kernel⟩
theorem draw_ok (T : Txt K mg C) (D : Df K mg "_law_draw" s_law_draw []) (c_law_blend : C8.Cal P w K mg base 1 "_law_blend" (spBlend Z) []) : C8.Cal P w K mg base 2 "_law_draw" (spDraw Z) [] := by
  refine D.cal (k := 1) sc_law_draw (by intro kV doc pm an cdv ct us h; match us, h with | [_, _], _ => rfl) (by rintro _ _ _ _ ⟨_, _, _, _, rfl, _⟩; rfl) ?_
  rintro f cdv A outer s H _ Q E hr ⟨tp, al, cl, size, rfl, hT, s0, s64, hq⟩
  have hu := hu_of hr
  have hu64 := hr.units
  refine ⟨_, (pss_cons (ps_if (pt_cmpR op_eq (pe_dget hu (pv 0) pe_str (fun _ _ => rfl)) pe_int (nomark _)) (pss_one (ps_dput hu (pv 0) pe_str (pe_ifExp (pt_cmpR (op_neD hu64) (pe_dget hu (pv 0) pe_str (fun _ _ => rfl)) (pe_lst pa_nil) (nomark _)) (pe_bm PySem.F.plainAttrs_list PySem.F.slot_list_pop PySem.F.type_list_pop mt_popAt (pe_dget hu (pv 0) pe_str (fun _ _ => rfl)) (pa_cons pe_int pa_nil)) (C8.pe_c c_law_blend hr (by decide) (by rfl) (pa_cons (pv 0) pa_nil))) rfl)) pss_nil)
      (pss_cons (ps_set (i := 2) sc_law_draw.nd rfl (by first | exact Or.inl rfl | exact Or.inr rfl) (pe_op op_mod (pe_callTy call_int1 (by rfl) T.int bt_int (pa_cons (pe_dget hu (pv 0) pe_str (fun _ _ => rfl)) pa_nil)) (pv 1)))
      (pss_cons (ps_dput hu (pv 0) pe_str (pe_op op_fdivW (pe_callTy call_int1 (by rfl) T.int bt_int (pa_cons (pe_dget hu (pv 0) pe_str (fun _ _ => rfl)) pa_nil)) (pv 1)) rfl)
      (pss_one (ps_ret (pv 2)))))), ?_⟩
  have fin : ∀ H1, Exb Z [tp, al] H H1 → TapeAt H1 tp al cl → (tSeq (tAsg (tOp (rI (fun _ j => 0 < j) fun i j => V.int (i % j)) (tCB (fun xs H Q => (∃ i, xs = [V.int i] ∧ Q (.int i) H) ∨ ∃ k, xs = [V.bl k] ∧ Q (.int (if k = true then 1 else 0)) H) (tCons (tDGet (tVar 0) (tC (.str "rest"))) tNil)) (tVar 1)) (gName 2))
      (tSeq (sDPut (tVar 0) (tC (.str "rest")) (tOp (rI CDivW fun i j => V.int (i / j)) (tCB (fun xs H Q => (∃ i, xs = [V.int i] ∧ Q (.int i) H) ∨ ∃ k, xs = [V.bl k] ∧ Q (.int (if k = true then 1 else 0)) H) (tCons (tDGet (tVar 0) (tC (.str "rest"))) tNil)) (tVar 1))) (tRet (tVar 2)))) { nx := fun _ H' => Q .non H', rt := Q } (start ["tape", "size", "found"] [.ref tp, .int (size : Nat)]) H1 := by
    rintro H1 x1 ⟨r, t, large, cells, h1, h2, h3, h4⟩
    have ntl : tp ≠ al := fun z => by rw [z, h2] at h1; cases h1
    have ntc : tp ≠ cl := fun z => by rw [z, h3] at h1; cases h1
    have sz : (0 : Int) < (size : Int) := by omega
    refine ⟨_, rfl, tp, _, rfl, dget_at h1 (tpD_rest ..), .inl ⟨_, rfl, _, rfl, _, _, rfl, rfl, sz, ?_⟩⟩
    refine ⟨_, rfl, tp, _, rfl, dget_at h1 (tpD_rest ..), .inl ⟨_, rfl, _, rfl, _, _, rfl, rfl, wide_div (b := 64) sz (by rw [Int.natAbs_natCast]; exact s64) (by decide) (by decide), _, rfl, tp, _, rfl, dput_at h1 (by show 4 < sizeLine; decide) (put_rest ..), ?_⟩⟩
    have m0 := Int.emod_nonneg r (Int.ne_of_gt sz)
    have m1 := Int.emod_lt_of_pos r sz
    obtain ⟨n, hn⟩ := Int.eq_ofNat_of_zero_le m0
    have hn2 : n < size := by omega
    have g := hq n (upd H1 tp (.dK (tpD al (r / (size : Int)) cl t))) hn2 (x1.mut (.inl (by simp)) (Mb.of h1 trivial)) ⟨_, t, large, cells, upd_same, by rw [upd_ne ntl.symm]; exact h2, by rw [upd_ne ntc.symm]; exact h3, h4⟩
    refine ⟨_, rfl, ?_⟩
    rw [← hn] at g
    exact g
  obtain ⟨r, t, large, cells, h1, h2, h3, h4⟩ := id hT
  have ntl : tp ≠ al := fun z => by rw [z, h2] at h1; cases h1
  have ntc : tp ≠ cl := fun z => by rw [z, h3] at h1; cases h1
  by_cases hr0 : r = 0
  · refine ⟨_, rfl, tp, _, rfl, dget_at h1 (tpD_rest ..), rfl, true, eqT (by rw [hr0]), ?_⟩
    refine ⟨_, rfl, tp, _, rfl, dget_at h1 (tpD_large ..), by show 0 ≤ sizeLine; decide, fun e ne => ?_⟩
    have x1 : Ex Z H (upd H e (.lst [])) := Ex.new ne
    have he1 : upd H e (.lst []) e = some (.lst []) := upd_same
    generalize upd H e (.lst []) = H1 at x1 he1
    have hT1 := hT.ex x1
    cases hl : large with
    | nil =>
      rw [hl] at h2
      refine ⟨_, _, .lst (SqL.of (x1.lst h2)) (ints_dp []), .lst (SqL.of he1) .nil, rfl, rfl, false, rfl, ?_⟩
      refine ⟨_, rfl, tp, al, cl, rfl, hT1, fun x H2 x2 hT2 => ?_⟩
      obtain ⟨r2, t2, large2, cells2, g1, g2, g3, g4⟩ := hT2
      have n1 : tp ≠ al := ntl
      have n2 : tp ≠ cl := fun z => by rw [z, g3] at g1; cases g1
      refine ⟨_, rfl, tp, _, rfl, dput_at g1 (by show 4 < sizeLine; decide) (put_rest ..), ?_⟩
      have x12 : Exb Z [tp, al] H H2 := x1.any.trans ⟨fun b o n h t => x2.1 b o (fun z => n (by rw [List.mem_singleton.mp z]; simp)) h t, x2.2⟩
      exact fin _ (x12.mut (.inl (by simp)) (Mb.of g1 trivial)) ⟨_, t2, large2, cells2, upd_same, by rw [upd_ne n1.symm]; exact g2, by rw [upd_ne n2.symm]; exact g3, g4⟩
    | cons i r' =>
      rw [hl] at h2
      refine ⟨_, _, .lst (SqL.of (x1.lst h2)) (ints_dp (i :: r')), .lst (SqL.of he1) .nil, ints_shaped (i :: r'), rfl, true, rfl, ?_⟩
      have k1 := x1.dk h1
      have k2 := x1.lst h2
      have k3 := x1.lst h3
      refine ⟨_, rfl, tp, _, rfl, dget_at k1 (tpD_large ..), .inl ⟨rfl, _, SqL.of k2⟩, al, _, 0, 0, .int i, rfl, rfl, k2, by decide, by decide, ?_, rfl, ?_⟩
      · show seqIndex? 0 (List.length (V.int i :: r'.map V.int)) = some 0
        unfold seqIndex?
        simp
      have j1 : upd H1 al (.lst (r'.map V.int)) tp = some (.dK (tpD al r cl t)) := by rw [upd_ne ntl]; exact k1
      have j3 : upd H1 al (.lst (r'.map V.int)) cl = some (.lst (cells.map V.int)) := by rw [upd_ne h4]; exact k3
      refine ⟨_, rfl, tp, _, rfl, dput_at j1 (by show 4 < sizeLine; decide) (put_rest ..), ?_⟩
      refine fin _ ((x1.any.mut (.inl (by simp)) (Mb.of k2 trivial)).mut (.inl (by simp)) (Mb.of j1 trivial)) ⟨_, t, r', cells, upd_same, ?_, ?_, h4⟩
      · rw [upd_ne ntl.symm]
        exact upd_same
      · rw [upd_ne ntc.symm]
        exact j3
  · refine ⟨_, rfl, tp, _, rfl, dget_at h1 (tpD_rest ..), rfl, false, eqF (fun z => hr0 (V.int.inj z)), ?_⟩
    exact fin H (Exb.refl _) hT
end
end K62
/-! ==== B62q ==== -/
namespace K62
open PySem PySem.Spec PyProof.Rows L2 Fx Od
section
variable {P : Program} {w : World} {K : PySem.W.Frag} {mg : Str → Option Value} {base : Heap} {C : Addr} {Z : List (Addr × Str)}
/-- what a draw changes -/
abbrev ExD (Z : List (Addr × Str)) (tp al : Addr) (H H' : Hp) : Prop := Exb Z [tp, al] H H'
def spPick (Z : List (Addr × Str)) : Sp := fun vs H Q _ => ∃ tp al cl l xs, vs = [.ref tp, .ref l] ∧ TapeAt H tp al cl ∧ H l = some (.lst xs) ∧ l ≠ tp ∧ l ≠ al ∧ 0 < xs.length ∧ xs.length < 2 ^ 64 ∧ ∀ v H', v ∈ xs → ExD Z tp al H H' → TapeAt H' tp al cl → Q v H'
theorem sc_law_pick : FnScope ["tape", "several"] ["tape", "several"] (defScope s_law_pick) := ⟨rfl, rfl, rfl, by decide +kernel, rfl, by decide +kernel, by decide +kernel⟩
theorem pick_ok (T : Txt K mg C) (D : Df K mg "_law_pick" s_law_pick []) (c_law_draw : C8.Cal P w K mg base 2 "_law_draw" (spDraw Z) []) : C8.Cal P w K mg base 3 "_law_pick" (spPick Z) [] := by
  refine D.cal (k := 2) sc_law_pick (by intro kV doc pm an cdv ct us h; match us, h with | [_, _], _ => rfl) (by rintro _ _ _ _ ⟨_, _, _, _, _, rfl, _⟩; rfl) ?_
  rintro f cdv A outer s H _ Q E hr ⟨tp, al, cl, l, xs, rfl, hT, hl, n1, n2, l0, l64, hq⟩
  refine ⟨_, (pss_one (ps_ret (pe_ix (ixlK (K := K) rfl) (pv 1) (C8.pe_c c_law_draw hr (by decide) (by rfl) (pa_cons (pv 0) (pa_cons (pe_callB (lenK (K := K) rfl) (by rfl) T.len bt_len (pa_cons (pv 1) pa_nil)) pa_nil))) (fun _ _ => rfl)))), ?_⟩
  refine ⟨_, rfl, _, rfl, _, rfl, l, _, rfl, .inl (SqL.of hl), tp, al, cl, xs.length, rfl, hT, l0, l64, fun n H1 hn x1 hT1 => ?_⟩
  have hl1 := x1.lstb (by simp [n1, n2]) hl
  exact ⟨l, xs, _, xs[n], rfl, rfl, SqL.of hl1, atI_nat (List.getElem?_eq_getElem hn), hq _ _ (List.getElem_mem hn) x1 hT1⟩
/-- a raw watch: (moves, words) -/
def RawAt (K : PySem.W.Frag) (H : Hp) (p : Addr) (W : Wt) : Prop := ∃ (m wd : Addr) (rs : List Addr), SqT K H p [.ref m, .ref wd] ∧ SqT K H m (rs.map V.ref) ∧ rs.length = W.n ∧ (∀ p r, rs[p]? = some r → SqT K H r (lineV W.k (W.mv p))) ∧ SqT K H wd (lineV W.n W.wd)
theorem SqT.exb {H H' : Hp} {B : List Addr} {a : Addr} {xs : List V} (x : Exb Z B H H') (hB : ∀ b ∈ B, ∀ u, H b = some u → Ml u) (h : SqT K H a xs) : SqT K H' a xs := by
  by_cases hb : a ∈ B
  · rcases h with (h | ⟨o, h⟩) | h
    · exact ((hB a hb _ h : Ml (.tup xs)) : False).elim
    · exact ((hB a hb _ h : Ml (.frz o (.tup xs))) : False).elim
    · exact .inr h
  · exact x.sqTb hb h
theorem RawAt.exb {H H' : Hp} {B : List Addr} {p : Addr} {W : Wt} (x : Exb Z B H H') (hB : ∀ b ∈ B, ∀ u, H b = some u → Ml u) (h : RawAt K H p W) : RawAt K H' p W := by
  obtain ⟨m, wd, rs, h1, h2, h3, h4, h5⟩ := h
  exact ⟨m, wd, rs, SqT.exb x hB h1, SqT.exb x hB h2, h3, fun p r e => SqT.exb x hB (h4 p r e), SqT.exb x hB h5⟩
theorem TapeAt.ml {H : Hp} {tp al cl : Addr} (h : TapeAt H tp al cl) : ∀ b ∈ [tp, al], ∀ u, H b = some u → Ml u := fun b hb u e => by
  obtain ⟨r, t, large, cells, h1, h2, h3, h4⟩ := h
  rcases List.mem_cons.mp hb with z | z
  · exact Ml.of h1 trivial u (by rw [← z]; exact e)
  · exact Ml.of h2 trivial u (by rw [← List.mem_singleton.mp z]; exact e)
theorem lineV_snoc (i : Nat) (g : Nat → Nat) (n : Nat) : lineV i g ++ [.int (n : Nat)] = lineV (i + 1) (fun c => if c = i then n else g c) := by
  unfold lineV
  rw [List.range_succ, List.map_append]
  congr 1
  · apply List.map_congr_left
    intro c hc
    have := List.mem_range.mp hc
    show V.int (g c : Nat) = V.int ((if c = i then n else g c : Nat) : Int)
    rw [if_neg (by omega)]
  · show [V.int (n : Nat)] = [V.int ((if i = i then n else g i : Nat) : Int)]
    rw [if_pos rfl]
/-- within a comprehension of draws: a line of numbers below b -/
def PiL (tp al cl : Addr) (b : Nat) : Nat → List V → Hp → Prop := fun i acc H => TapeAt H tp al cl ∧ ∃ g : Nat → Nat, acc = lineV i g ∧ ∀ c < i, g c < b
theorem PiL.step {tp al cl D : Addr} {b i n : Nat} {acc : List V} {H H' : Hp} (h : PiL tp al cl b i acc H) (hT : TapeAt H' tp al cl) (nD : D ≠ tp ∧ D ≠ al ∧ D ≠ cl) (hn : n < b) : PiL tp al cl b (i + 1) (acc ++ [.int (n : Nat)]) (upd H' D (.lst (acc ++ [.int (n : Nat)]))) := by
  obtain ⟨_, g, rfl, hg⟩ := h
  refine ⟨hT.put nD.1 nD.2.1 nD.2.2, _, lineV_snoc i g n, fun c hc => ?_⟩
  show (if c = i then n else g c) < b
  by_cases e : c = i
  · rw [if_pos e]
    exact hn
  · rw [if_neg e]
    exact hg c (by omega)
def spLawWatch (K : PySem.W.Frag) (Z : List (Addr × Str)) : Sp := fun vs H Q _ => ∃ tp al cl pl k wd, vs = [.ref tp, .int (pl : Nat), .int (k : Nat), .int (wd : Nat)] ∧ TapeAt H tp al cl ∧ 0 < pl ∧ pl ≤ 6 ∧ 0 < k ∧ k ≤ 4 ∧ 0 < wd ∧ wd ≤ 4 ∧
  ∀ p W H', W.Ok → W.k = k → W.n ≤ pl → RawAt K H' p W → ExD Z tp al H H' → TapeAt H' tp al cl → Q (.ref p) H'
def scWatchPlace : Scope := { kind := .function, names := [(".0", .local), ("place", .local), ("tuple", .globalImplicit), ("range", .globalImplicit), ("kinds", .cell), ("many", .cell), ("tape", .cell)], isGenerator := false, isCoroutine := false }
theorem sc_law_watch : FnScope ["tape", "places", "kinds", "words", "many", "moves", "place", "kind"] ["tape", "places", "kinds", "words"] (defScope s_law_watch) := ⟨rfl, rfl, rfl, by decide +kernel, rfl, by decide +kernel, by decide +kernel⟩
theorem lwatch_ok (T : Txt K mg C) (D : Df K mg "_law_watch" s_law_watch []) (c_law_draw : C8.Cal P w K mg base 2 "_law_draw" (spDraw Z) []) : C8.Cal P w K mg base 3 "_law_watch" (spLawWatch K Z) [] := by
  refine D.cal (k := 2) sc_law_watch (by intro kV doc pm an cdv ct us h; match us, h with | [_, _, _, _], _ => rfl) (by rintro _ _ _ _ ⟨_, _, _, _, _, _, rfl, _⟩; rfl) ?_
  rintro f cdv A outer s H _ Q E hr ⟨tp, al, cl, pl, k, wd, rfl, hT, p0, p6, k0, k4, w0, w4, hq⟩
  refine ⟨_, (pss_cons (ps_set (i := 4) sc_law_watch.nd rfl (by first | exact Or.inl rfl | exact Or.inr rfl) (pe_op op_add pe_int (C8.pe_c c_law_draw hr (by decide) (by rfl) (pa_cons (pv 0) (pa_cons (pv 1) pa_nil)))))
      (pss_cons (ps_set (i := 5) sc_law_watch.nd rfl (by first | exact Or.inl rfl | exact Or.inr rfl) (pe_callTy (tupK (K := K) rfl) (by rfl) T.tuple bt_tuple (pa_cons (pe_lc (own := [("place", 6)]) rfl sc_law_watch.nd (pi_range1 (by rfl) T.range (pa_cons (pv 4) pa_nil)) (blkOk_by (own := [("place", 6)]) (N := ["tape", "places", "kinds", "words", "many", "moves", "place", "kind"]) (sc := defScope s_law_watch) (by decide +kernel)) (fun _ _ _ _ _ => (pg_name (i := 6) sc_law_watch.nd rfl (by first | exact Or.inl rfl | exact Or.inr rfl))) (fun _ _ _ _ _ => pts_nil) (fun _ _ _ _ _ => (pe_callTy (tupK (K := K) rfl) (by rfl) T.tuple bt_tuple (pa_cons (pe_lc (own := [("kind", 7)]) rfl sc_law_watch.nd (pi_range1 (by rfl) T.range (pa_cons (pv 2) pa_nil)) (blkOk_by (own := [("kind", 7)]) (N := ["tape", "places", "kinds", "words", "many", "moves", "place", "kind"]) (sc := scWatchPlace) (by decide +kernel)) (fun _ _ _ _ _ => (pg_name (i := 7) sc_law_watch.nd rfl (by first | exact Or.inl rfl | exact Or.inr rfl))) (fun _ _ _ _ _ => pts_nil) (fun _ _ _ _ _ => (C8.pe_c c_law_draw hr (by decide) (by rfl) (pa_cons (pv 0) (pa_cons (pv 4) pa_nil))))) pa_nil)))) pa_nil)))
      (pss_one (ps_ret (pe_tup (pa_cons (pv 5) (pa_cons (pe_callTy (tupK (K := K) rfl) (by rfl) T.tuple bt_tuple (pa_cons (pe_lc (own := [("place", 6)]) rfl sc_law_watch.nd (pi_range1 (by rfl) T.range (pa_cons (pv 4) pa_nil)) (blkOk_by (own := [("place", 6)]) (N := ["tape", "places", "kinds", "words", "many", "moves", "place", "kind"]) (sc := defScope s_law_watch) (by decide +kernel)) (fun _ _ _ _ _ => (pg_name (i := 6) sc_law_watch.nd rfl (by first | exact Or.inl rfl | exact Or.inr rfl))) (fun _ _ _ _ _ => pts_nil) (fun _ _ _ _ _ => (C8.pe_c c_law_draw hr (by decide) (by rfl) (pa_cons (pv 0) (pa_cons (pv 3) pa_nil))))) pa_nil)) pa_nil))))))), ?_⟩
  refine ⟨_, rfl, _, rfl, tp, al, cl, pl, rfl, hT, p0, by omega, fun m H1 hm x1 hT1 => ?_⟩
  refine ⟨_, _, rfl, rfl, ?_⟩
  have n1 : 1 ≤ 1 + m := by omega
  have e1 : (1 : Int) + (m : Int) = ((1 + m : Nat) : Int) := by omega
  have n6 : 1 + m ≤ pl := by omega
  generalize 1 + m = n at n1 e1 n6
  show gName 4 (V.int ((1 : Int) + (m : Int))) _ H1 _
  rw [e1]
  refine ⟨_, rfl, (n : Nat), rfl, by omega, by omega, fun D1 hD1 => ?_⟩
  have nD1 := hT1.new hD1
  have ml1 := hT1.ml
  refine lcE (B := [tp, al]) (Z := Z) (walk_range (lo := 0) (n := n)) hD1 (fun _ _ => trivial) (by omega) (fun i acc H => TapeAt H tp al cl ∧ ∃ (mv : Nat → Nat → Nat) (ts : List Addr), acc = ts.map V.ref ∧ ts.length = i ∧ (∀ j t, ts[j]? = some t → SqT K H t (lineV k (mv j))) ∧ ∀ j < i, ∀ c < k, mv j c < n) ⟨hT1.put nD1.1 nD1.2.1 nD1.2.2, fun _ _ => 0, [], rfl, rfl, fun j t e => by simp at e, fun j hj => by omega⟩ (fun i acc x H2 H3 hi x2 ha hla hp hy => ?_) fun acc H2 x2 ha hp => ?_
  · obtain ⟨rfl, rfl⟩ := hy
    obtain ⟨hT2, mv, ts, rfl, hts, hrow, hmv⟩ := hp
    refine ⟨rfl, _, rfl, (k : Nat), rfl, by omega, by omega, fun D2 hD2 => ?_⟩
    have nD2 := hT2.new hD2
    have ml2 := hT2.ml
    refine lcE (B := [tp, al]) (Z := Z) (walk_range (lo := 0) (n := k)) hD2 (fun _ _ => trivial) (by omega) (PiL tp al cl n) ⟨hT2.put nD2.1 nD2.2.1 nD2.2.2, fun _ => 0, rfl, fun c hc => by omega⟩ (fun j acc2 x H4 H5 hj x4 ha4 hla4 hp4 hy => ?_) fun acc2 H4 x4 ha4 hp4 => ?_
    · obtain ⟨rfl, rfl⟩ := hy
      refine ⟨rfl, _, rfl, _, rfl, tp, al, cl, n, rfl, hp4.1, by omega, by omega, fun v H6 hv x6 hT6 => ?_⟩
      exact LcP.put x4 hD2 ha4 (by simp [nD2.1, nD2.2.1]) hla4 (by omega) x6 (hp4.step hT6 nD2 hv)
    · obtain ⟨hT4, g, rfl, hg⟩ := hp4
      refine ⟨D2, _, rfl, .inl ⟨SqL.of ha4, fun t nt => ?_⟩⟩
      have x5 : Ex Z H4 (upd H4 t (.tup (lineV k g))) := Ex.new nt
      have x45 := x4.trans x5.any
      have hD5 := x45.lstb (by simp [nD1.1, nD1.2.1]) ha
      have hT5 := hT4.ex x5
      have ht5 : SqT K (upd H4 t (.tup (lineV k g))) t (lineV k g) := SqT.of upd_same
      generalize upd H4 t (.tup (lineV k g)) = H5 at x5 x45 hD5 hT5 ht5
      refine LcP.put x2 hD1 ha (by simp [nD1.1, nD1.2.1]) hla (by omega) x45 ⟨hT5.put nD1.1 nD1.2.1 nD1.2.2, fun j => if j = i then g else mv j, ts ++ [t], by simp, by simp [hts], fun j u e => SqT.put' ?_ hD5 trivial, fun j hj c hc => ?_⟩
      · show SqT K H5 u (lineV k (if j = i then g else mv j))
        by_cases hj : j < ts.length
        · rw [List.getElem?_append_left hj] at e
          rw [if_neg (by omega)]
          exact SqT.exb x45 ml2 (hrow j u e)
        · rw [List.getElem?_append_right (by omega)] at e
          have j0 : j = i := by
            have := (List.getElem?_eq_some_iff.mp e).1
            simp at this
            omega
          rw [j0, hts, Nat.sub_self] at e
          rw [if_pos j0, ← Option.some.inj e]
          exact ht5
      · show (if j = i then g else mv j) c < n
        by_cases hji : j = i
        · rw [if_pos hji]
          exact hg c hc
        · rw [if_neg hji]
          exact hmv j (by omega) c hc
  · obtain ⟨hT2, mv, ts, rfl, hts, hrow, hmv⟩ := hp
    refine ⟨D1, _, rfl, .inl ⟨SqL.of ha, fun mt nt => ?_⟩⟩
    have x3 : Ex Z H2 (upd H2 mt (.tup (ts.map V.ref))) := Ex.new nt
    have hT3 := hT2.ex x3
    have hm3 : SqT K (upd H2 mt (.tup (ts.map V.ref))) mt (ts.map V.ref) := SqT.of upd_same
    have hrow3 : ∀ j t, ts[j]? = some t → SqT K (upd H2 mt (.tup (ts.map V.ref))) t (lineV k (mv j)) := fun j t e => x3.sqT (hrow j t e)
    generalize upd H2 mt (.tup (ts.map V.ref)) = H3 at x3 hT3 hm3 hrow3
    refine ⟨_, rfl, _, rfl, (n : Nat), rfl, by omega, by omega, fun D2 hD2 => ?_⟩
    have nD2 := hT3.new hD2
    have ml3 := hT3.ml
    refine lcE (B := [tp, al]) (Z := Z) (walk_range (lo := 0) (n := n)) hD2 (fun _ _ => trivial) (by omega) (PiL tp al cl wd) ⟨hT3.put nD2.1 nD2.2.1 nD2.2.2, fun _ => 0, rfl, fun c hc => by omega⟩ (fun j acc2 x H4 H5 hj x4 ha4 hla4 hp4 hy => ?_) fun acc2 H4 x4 ha4 hp4 => ?_
    · obtain ⟨rfl, rfl⟩ := hy
      refine ⟨rfl, _, rfl, _, rfl, tp, al, cl, wd, rfl, hp4.1, by omega, by omega, fun v H6 hv x6 hT6 => ?_⟩
      exact LcP.put x4 hD2 ha4 (by simp [nD2.1, nD2.2.1]) hla4 (by omega) x6 (hp4.step hT6 nD2 hv)
    · obtain ⟨hT4, g, rfl, hg⟩ := hp4
      refine ⟨D2, _, rfl, .inl ⟨SqL.of ha4, fun t nt => ?_⟩⟩
      have x5 : Ex Z H4 (upd H4 t (.tup (lineV n g))) := Ex.new nt
      have ht5 : SqT K (upd H4 t (.tup (lineV n g))) t (lineV n g) := SqT.of upd_same
      generalize upd H4 t (.tup (lineV n g)) = H5 at x5 ht5
      refine ⟨by show 2 ≤ sizeLine; decide, fun p np => ?_⟩
      have x6 : Ex Z H5 (upd H5 p (.tup [.ref mt, .ref t])) := Ex.new np
      have hp6 : SqT K (upd H5 p (.tup [.ref mt, .ref t])) p [.ref mt, .ref t] := SqT.of upd_same
      generalize upd H5 p (.tup [.ref mt, .ref t]) = H6 at x6 hp6
      have x36 := (x4.trans x5.any).trans x6.any
      exact hq p ⟨n, k, mv, g⟩ H6 ⟨n1, by show n ≤ 6; omega, k0, k4, hmv, fun q hq => by have := hg q hq; show g q ≤ 3; omega⟩ rfl n6
        ⟨mt, t, ts, hp6, SqT.exb x36 ml3 hm3, hts, fun j u e => SqT.exb x36 ml3 (hrow3 j u e), x6.sqT ht5⟩ (((x1.trans x2).trans x3.any).trans x36) ((hT4.ex x5).ex x6)
end
end K62
/-! ==== M62f ==== -/
namespace Od
/-! ### begun at another place -/
def nm (place : Nat) : Nat → Nat := fun p => if p = place then 0 else if p = 0 then place else p
theorem nm_nm (place p : Nat) : nm place (nm place p) = p := by
  unfold nm
  by_cases h1 : p = place
  · rw [if_pos h1]
    by_cases h2 : (0 : Nat) = place
    · rw [if_pos h2]
      omega
    · rw [if_neg h2, if_pos rfl]
      omega
  · rw [if_neg h1]
    by_cases h2 : p = 0
    · rw [if_pos h2, if_pos rfl]
      omega
    · rw [if_neg h2, if_neg h1, if_neg h2]
theorem nm_lt {place n p : Nat} (hp : p < n) (hpl : place < n) : nm place p < n := by
  unfold nm
  split
  · omega
  · split <;> omega
theorem nm_zero (place : Nat) : nm place 0 = place := by
  unfold nm
  split
  · omega
  · rw [if_pos rfl]
def beg (W : Wt) (place : Nat) : Wt := ⟨W.n, W.k, fun p c => nm place (W.mv (nm place p) c), fun p => W.wd (nm place p)⟩
theorem beg_ok {W : Wt} (ok : W.Ok) {place : Nat} (h : place < W.n) : (beg W place).Ok := ⟨ok.n1, ok.n6, ok.k1, ok.k4, fun p hp c hc => nm_lt (ok.mv _ (nm_lt hp h) c hc) h, fun p hp => ok.wd _ (nm_lt hp h)⟩
theorem B_beg (W : Wt) (ws : Nat → Nat) (place : Nat) : ∀ (s : Row) (g : Nat → Nat) (q : Nat), B (beg W place) ws s (fun p => g (nm place p)) q = B W ws s g (nm place q)
  | [], g, q => rfl
  | i :: r, g, q => by
    show A (beg W place) ws i (B (beg W place) ws r fun p => g (nm place p)) q = A W ws i (B W ws r g) (nm place q)
    rw [show (B (beg W place) ws r fun p => g (nm place p)) = fun p => B W ws r g (nm place p) from funext fun p => B_beg W ws place r g p]
    unfold A
    congr 1
    apply List.map_congr_left
    intro c _
    show wOf ws i c * B W ws r g (nm place (nm place (W.mv (nm place q) c))) = _
    rw [nm_nm]
theorem M_beg (W : Wt) (ws : Nat → Nat) (place : Nat) (s : Row) (v : Nat) : M (beg W place) ws s v = B W ws s (ind W v) place := by
  unfold M
  have := B_beg W ws place s (ind W v) 0
  rw [nm_zero] at this
  exact this
/-- the sum, place by place -/
def Nn (W : Wt) (ws : Nat → Nat) (s : Row) (d : Dc) (v : Nat) : Nat := T d (fun p => M (beg W p) ws s v)
theorem Nn_all (W : Wt) (ws : Nat → Nat) (r s : Row) (v : Nat) : Nn W ws s (numbers W ws r) v = M W ws (r ++ s) v := by
  unfold Nn
  rw [show (fun p => M (beg W p) ws s v) = B W ws s (ind W v) from funext fun p => M_beg W ws p s v, numbers_T]
  unfold M
  rw [B_app]
theorem unk_app (r s : Row) : unk (r ++ s) = unk r + unk s := by
  unfold unk
  rw [List.filter_append, List.length_append]
theorem whole_app (ws : Nat → Nat) (k : Nat) (r s : Row) : whole ws k (r ++ s) = whole ws k r * whole ws k s := by
  unfold whole
  rw [unk_app, Nat.pow_add]
/-- a table of fractions of one whole -/
def tabN (N : Nat → Nat) (w : Nat) (v : Nat) : Option (Nat × Nat) := if N v = 0 then none else some (frac (N v) w)
theorem tabN_all (W : Wt) (ws : Nat → Nat) (r s : Row) : tabN (Nn W ws s (numbers W ws r)) (whole ws W.k r * whole ws W.k s) = otab W ws (r ++ s) := by
  funext v
  unfold tabN otab
  rw [Nn_all, whole_app]
theorem frac_pos1 {a b : Nat} (ha : 0 < a) : 0 < (frac a b).1 := Nat.div_pos (Nat.le_of_dvd ha (Nat.gcd_dvd_left a b)) (Nat.gcd_pos_of_pos_left _ ha)
/-- one part by itself, and beside what is there -/
theorem sum_one {f m w1 w2 : Nat} (h1 : 0 < w1) (h2 : 0 < w2) : frac (sumF [(f * (frac m w2).1, w1 * (frac m w2).2)]).1 (sumF [(f * (frac m w2).1, w1 * (frac m w2).2)]).2 = frac (f * m) (w1 * w2) := by
  have c := frac_cross (a := m) (b := w2)
  have p2 := frac_pos (a := m) h2
  show frac (0 * (w1 * (frac m w2).2) + f * (frac m w2).1 * 1) (1 * (w1 * (frac m w2).2)) = _
  rw [Nat.zero_mul, Nat.zero_add, Nat.mul_one, Nat.one_mul]
  refine frac_eq (Nat.mul_pos h1 p2) (Nat.mul_pos h1 h2) ?_
  rw [show f * (frac m w2).1 * (w1 * w2) = f * w1 * ((frac m w2).1 * w2) by simp [Nat.mul_comm, Nat.mul_left_comm, Nat.mul_assoc], c]
  simp [Nat.mul_comm, Nat.mul_left_comm, Nat.mul_assoc]
theorem sum_two {f m n w1 w2 : Nat} (h1 : 0 < w1) (h2 : 0 < w2) : frac (sumF [(f * (frac m w2).1, w1 * (frac m w2).2), frac n (w1 * w2)]).1 (sumF [(f * (frac m w2).1, w1 * (frac m w2).2), frac n (w1 * w2)]).2 = frac (n + f * m) (w1 * w2) := by
  have c := frac_cross (a := m) (b := w2)
  have p2 := frac_pos (a := m) h2
  have w0 := Nat.mul_pos h1 h2
  have cn := frac_cross (a := n) (b := w1 * w2)
  have pn := frac_pos (a := n) w0
  generalize hx : (frac m w2).1 = x at *
  generalize hy : (frac m w2).2 = y at *
  generalize hu : (frac n (w1 * w2)).1 = u at *
  generalize hv : (frac n (w1 * w2)).2 = z at *
  have e1 : (sumF [(f * x, w1 * y), frac n (w1 * w2)]).1 = f * x * z + u * (w1 * y) := by
    show (0 * (w1 * y) + f * x * 1) * (frac n (w1 * w2)).2 + (frac n (w1 * w2)).1 * (1 * (w1 * y)) = _
    rw [hu, hv, Nat.zero_mul, Nat.zero_add, Nat.mul_one, Nat.one_mul]
  have e2 : (sumF [(f * x, w1 * y), frac n (w1 * w2)]).2 = w1 * y * z := by
    show 1 * (w1 * y) * (frac n (w1 * w2)).2 = _
    rw [hv, Nat.one_mul]
  rw [e1, e2]
  refine frac_eq (Nat.mul_pos (Nat.mul_pos h1 p2) pn) w0 ?_
  rw [Nat.add_mul, Nat.add_mul]
  have a1 : f * x * z * (w1 * w2) = f * m * (w1 * y * z) := by
    rw [show f * x * z * (w1 * w2) = f * z * w1 * (x * w2) by simp [Nat.mul_comm, Nat.mul_left_comm, Nat.mul_assoc], c]
    simp [Nat.mul_comm, Nat.mul_left_comm, Nat.mul_assoc]
  have a2 : u * (w1 * y) * (w1 * w2) = n * (w1 * y * z) := by
    rw [show u * (w1 * y) * (w1 * w2) = w1 * y * (u * (w1 * w2)) by simp [Nat.mul_comm, Nat.mul_left_comm, Nat.mul_assoc], cn]
    simp [Nat.mul_comm, Nat.mul_left_comm, Nat.mul_assoc]
  rw [a1, a2, Nat.add_comm]
/-! ### a kind once more -/
def wide (W : Wt) : Wt := ⟨W.n, W.k + 1, fun p c => if c = W.k then W.mv p 0 else W.mv p c, W.wd⟩
def parted (k : Nat) (ws : Nat → Nat) (x : Nat) : Nat → Nat := fun c => if c = k then x else ws c
def joined (ws : Nat → Nat) (x : Nat) : Nat → Nat := fun c => if c = 0 then ws 0 + x else ws c
theorem wide_ok {W : Wt} (ok : W.Ok) (h : W.k ≤ 3) : (wide W).Ok := ⟨ok.n1, ok.n6, by show 1 ≤ W.k + 1; omega, by show W.k + 1 ≤ 4; omega, fun p hp c hc => by
  show (if c = W.k then W.mv p 0 else W.mv p c) < W.n
  have hc : c < W.k + 1 := hc
  split
  · exact ok.mv p hp 0 ok.k1
  · exact ok.mv p hp c (by omega), ok.wd⟩
theorem sum_joined (f : Nat → Nat) (ws : Nat → Nat) (x : Nat) {k : Nat} (k1 : 1 ≤ k) : sumTo (fun c => joined ws x c * f c) k = sumTo (fun c => ws c * f c) k + x * f 0 := by
  induction k with
  | zero => omega
  | succ k ih =>
    rw [sumTo_succ, sumTo_succ]
    rcases Nat.eq_zero_or_pos k with z | z
    · subst z
      show 0 + (ws 0 + x) * f 0 = 0 + ws 0 * f 0 + x * f 0
      rw [Nat.add_mul]
      omega
    · rw [ih z]
      have : joined ws x k = ws k := if_neg (by omega)
      rw [this]
      omega
theorem wide_alike {W : Wt} (ok : W.Ok) (ws : Nat → Nat) (x : Nat) : Alike (wide W) W (parted W.k ws x) (joined ws x) := by
  have key : ∀ f g : Nat → Nat, (∀ c < W.k, f c = g c) → f W.k = g 0 → sumTo (fun c => parted W.k ws x c * f c) (W.k + 1) = sumTo (fun c => joined ws x c * g c) W.k := fun f g h1 h2 => by
    rw [sumTo_succ, sum_joined g ws x ok.k1]
    have e1 : parted W.k ws x W.k = x := if_pos rfl
    rw [e1, h2]
    congr 1
    refine sumTo_congr fun c hc => ?_
    have : parted W.k ws x c = ws c := if_neg (by omega)
    rw [this, h1 c hc]
  refine ⟨rfl, fun p _ => rfl, fun p hp c hc => ok.mv p hp c hc, fun g h p hp gh => ?_, ?_⟩
  · show sumTo (fun c => parted W.k ws x c * g ((wide W).mv p c)) (W.k + 1) = sumTo (fun c => joined ws x c * h (W.mv p c)) W.k
    refine key _ _ (fun c hc => ?_) ?_
    · show g (if c = W.k then W.mv p 0 else W.mv p c) = _
      rw [if_neg (by omega)]
      exact gh _ (ok.mv p hp c hc)
    · show g (if W.k = W.k then W.mv p 0 else W.mv p W.k) = _
      rw [if_pos rfl]
      exact gh _ (ok.mv p hp 0 ok.k1)
  · have := key (fun _ => 1) (fun _ => 1) (fun _ _ => rfl) rfl
    simp only [Nat.mul_one] at this
    exact this
theorem wide_rows {W : Wt} : ∀ {s : Row}, Row.Ok W.k s → RowsAlike (wide W) W s s
  | [], _ => trivial
  | none :: s, h => wide_rows (s := s) fun c hc => h c (List.mem_cons_of_mem _ hc)
  | some c :: s, h => by
    have hc := h c List.mem_cons_self
    refine ⟨fun p hp => ?_, hc, wide_rows (s := s) fun c hc => h c (List.mem_cons_of_mem _ hc)⟩
    show (if c = W.k then W.mv p 0 else W.mv p c) = _
    rw [if_neg (by omega)]
/-- kind 0 named anew -/
def named (k : Nat) (s : Row) : Row := s.map fun i => if i = some 0 then some k else i
theorem named_rows {W : Wt} (k1 : 1 ≤ W.k) : ∀ {s : Row}, Row.Ok W.k s → RowsAlike (wide W) W (named W.k s) s
  | [], _ => trivial
  | none :: s, h => named_rows k1 (s := s) fun c hc => h c (List.mem_cons_of_mem _ hc)
  | some c :: s, h => by
    have hc := h c List.mem_cons_self
    have ih := named_rows k1 (s := s) fun c hc => h c (List.mem_cons_of_mem _ hc)
    by_cases e : c = 0
    · subst e
      refine ⟨fun p hp => ?_, hc, ih⟩
      show (if W.k = W.k then W.mv p 0 else W.mv p W.k) = _
      rw [if_pos rfl]
    · have e2 : (if (some c : Option Nat) = some 0 then some W.k else some c) = some c := if_neg fun z => e (Option.some.inj z)
      show RowsAlike.Paired2 (wide W) W ((if (some c : Option Nat) = some 0 then some W.k else some c) :: named W.k s) (some c :: s)
      rw [e2]
      refine ⟨fun p hp => ?_, hc, ih⟩
      show (if c = W.k then W.mv p 0 else W.mv p c) = _
      rw [if_neg (by omega)]
theorem named_ok {k : Nat} {s : Row} (h : Row.Ok k s) : Row.Ok (k + 1) (named k s) := fun c hc => by
  obtain ⟨i, hi, e⟩ := List.mem_map.mp hc
  by_cases z : i = some 0
  · rw [if_pos z] at e
    rw [← Option.some.inj e]
    omega
  · rw [if_neg z] at e
    have := h c (by rw [← e]; exact hi)
    omega
theorem wide_sure {W : Wt} (ok : W.Ok) (t p : Nat) (hp : p < W.n) : sureB (wide W) t p = sureB W t p := by
  unfold sureB
  rw [LW_alike (V := wide W) (W := W) rfl (fun _ _ => rfl) rfl ok.k1 (fun p _ c hc => if_neg (show ¬ c = W.k by omega)) (fun p _ => if_pos rfl) ok.mv t p hp]
end Od
namespace Od
theorem T_take (d : Dc) (g : Nat → Nat) (i : Nat) : T (d.take i) g ≤ T d g := by
  have := T_app (d.take i) (d.drop i) g
  rw [List.take_append_drop] at this
  omega
theorem M_beg_le {W : Wt} (ok : W.Ok) {ws : Nat → Nat} {place : Nat} (h : place < W.n) (s : Row) (v : Nat) : M (beg W place) ws s v ≤ whole ws W.k s := M_le (beg_ok ok h) s v
theorem Nn_le {W : Wt} (ok : W.Ok) {ws : Nat → Nat} {d : Dc} (g : Good W.n d) (s : Row) (v i : Nat) : Nn W ws s (d.take i) v ≤ T d (fun _ => 1) * whole ws W.k s := by
  unfold Nn
  refine Nat.le_trans (T_take d _ i) ?_
  have : T d (fun p => M (beg W p) ws s v) ≤ T d (fun _ => whole ws W.k s * 1) := by
    have go : ∀ d : Dc, (∀ e ∈ d, e.1 < W.n) → T d (fun p => M (beg W p) ws s v) ≤ T d (fun _ => whole ws W.k s * 1) := by
      intro d
      induction d with
      | nil => intro _; exact Nat.le_refl _
      | cons e r ih =>
        intro h
        rw [T_cons, T_cons]
        have h1 := ih fun x hx => h x (List.mem_cons_of_mem _ hx)
        have h2 := Nat.mul_le_mul_left e.2 (M_beg_le ok (ws := ws) (h e List.mem_cons_self) s v)
        have h3 : e.2 * (whole ws W.k s * 1) = e.2 * whole ws W.k s := by rw [Nat.mul_one]
        omega
    exact go d g.lt
  rw [T_mul] at this
  rw [Nat.mul_comm]
  exact this
theorem Nn_take {W : Wt} {ws : Nat → Nat} {d : Dc} (s : Row) (v : Nat) {i : Nat} {e : Nat × Nat} (h : d[i]? = some e) : Nn W ws s (d.take (i + 1)) v = Nn W ws s (d.take i) v + e.2 * M (beg W e.1) ws s v := by
  unfold Nn
  rw [List.take_add_one, h, T_app]
  show _ + T [e] _ = _
  rw [T_cons, T_nil, Nat.add_zero]
/-- small weights, short rows -/
theorem whole_lt42 {W : Wt} (k3 : W.k ≤ 3) {ws : Nat → Nat} (h : ∀ c < W.k, ws c ≤ 30) {s : Row} (hs : s.length ≤ 6) : whole ws W.k s ≤ 2 ^ 42 := by
  have h1 : sumTo ws W.k ≤ 2 ^ 7 := by
    have a := sumTo_le (k := W.k) h
    have b : W.k * 30 ≤ 3 * 30 := Nat.mul_le_mul_right _ k3
    have : (2 : Nat) ^ 7 = 128 := by decide
    omega
  have h2 : unk s ≤ 6 := Nat.le_trans (unk_le s) hs
  unfold whole
  refine Nat.le_trans (Nat.pow_le_pow_left h1 _) ?_
  rw [← Nat.pow_mul]
  exact Nat.pow_le_pow_right (by decide) (by omega)
end Od
namespace Od
theorem T_zero : ∀ d : Dc, T d (fun _ => 0) = 0
  | [] => rfl
  | e :: r => by rw [T_cons, T_zero r, Nat.mul_zero]
theorem M_big {W : Wt} (ok : W.Ok) {ws : Nat → Nat} (hw : ∀ c < W.k, 0 < ws c) {s : Row} (hs : Row.Ok W.k s) {v : Nat} (hv : 4 ≤ v) : M W ws s v = 0 := by
  have h : T (numbers W ws s) (ind W v) = T (numbers W ws s) (fun _ => 0) := T_le_of fun e he => by
    have := ok.wd _ ((numbers_good ok hw hs).lt e he)
    unfold ind
    rw [if_neg (by omega)]
  rw [numbers_T, T_zero] at h
  exact h
theorem Nn_big {W : Wt} (ok : W.Ok) {ws : Nat → Nat} (hw : ∀ c < W.k, 0 < ws c) {s : Row} (hs : Row.Ok W.k s) {d : Dc} (g : ∀ e ∈ d, e.1 < W.n) {v : Nat} (hv : 4 ≤ v) : Nn W ws s d v = 0 := by
  unfold Nn
  rw [T_le_of (h := fun _ => 0) fun e he => M_big (beg_ok ok (g e he)) hw hs hv, T_zero]
end Od
/-! ==== B62r ==== -/
namespace K62
open PySem PySem.Spec PyProof.Rows L2 Fx Od
section
variable {P : Program} {w : World} {K : PySem.W.Frag} {mg : Str → Option Value} {base : Heap} {C : Addr} {Z : List (Addr × Str)}
theorem mk_ex {H : Hp} {x dx : Addr} (nx : H x = none) (nd : H dx = none) (ne : dx ≠ x) : Ex Z H (upd (upd H dx (.own x)) x (.ins C dx [])) :=
  (Ex.new nd).trans (Ex.new (by rw [upd_ne ne.symm]; exact nx))
/-- rows that are lists, each its own -/
def PiR (D : Addr) (k : Nat) (mv : Nat → Nat → Nat) : Nat → List V → Hp → Prop := fun i acc H => ∃ ts : List Addr, acc = ts.map V.ref ∧ ts.length = i ∧ ∀ j t, ts[j]? = some t → H t = some (.lst (lineV k (mv j))) ∧ t ≠ D
theorem PiR.step {D t : Addr} {k i : Nat} {mv : Nat → Nat → Nat} {acc : List V} {H H' : Hp} (h : PiR D k mv i acc H) (x : Ex Z H H') (ht : H' t = some (.lst (lineV k (mv i)))) (n : t ≠ D) : PiR D k mv (i + 1) (acc ++ [.ref t]) (upd H' D (.lst (acc ++ [.ref t]))) := by
  obtain ⟨ts, rfl, hl, hr⟩ := h
  refine ⟨ts ++ [t], by simp, by simp [hl], fun j u e => ?_⟩
  by_cases hj : j < ts.length
  · rw [List.getElem?_append_left hj] at e
    have := hr j u e
    exact ⟨by rw [upd_ne this.2]; exact x.lst this.1, this.2⟩
  · rw [List.getElem?_append_right (by omega)] at e
    have j0 : j = i := by
      have := (List.getElem?_eq_some_iff.mp e).1
      simp at this
      omega
    rw [j0, hl, Nat.sub_self] at e
    rw [j0, ← Option.some.inj e]
    exact ⟨by rw [upd_ne n]; exact ht, n⟩
def spMade (K : PySem.W.Frag) (Z : List (Addr × Str)) (C : Addr) : Sp := fun vs H Q _ => ∃ p W, vs = [.ref p] ∧ RawAt K H p W ∧ W.Ok ∧ LamX.Tabs Z H ∧ ∀ x H', Ex Z H H' → WatchAt K C H' x W → Q (.ref x) H'
theorem sc_law_made : FnScope ["watch", "goals"] ["watch"] (defScope s_law_made) := ⟨rfl, rfl, rfl, by decide +kernel, rfl, by decide +kernel, by decide +kernel⟩
theorem made_ok (T : Txt K mg C) (D : Df K mg "_law_made" s_law_made []) (c_Watch : C8.Mak P w K mg base 7 "Watch" C (spWatch K Z C) []) : C8.Cal P w K mg base 9 "_law_made" (spMade K Z C) [] := by
  refine D.cal (k := 8) sc_law_made (by intro kV doc pm an cdv ct us h; match us, h with | [_], _ => rfl) (by rintro _ _ _ _ ⟨_, _, rfl, _⟩; rfl) ?_
  rintro f cdv A outer s H _ Q E hr ⟨p, W, rfl, ⟨m, wd, rs, hp, hm, hn, hrow, hwd⟩, ok, hT, hq⟩
  have n6 := ok.n6
  refine ⟨_, (pss_one (ps_ret (C8.pe_mk c_Watch hr (by decide) (by rfl) (pa_cons (pe_lc (own := [("goals", 1)]) rfl sc_law_made.nd (pi_seqK (K := K) rfl (pe_ix (ixtK (K := K) rfl) (pv 0) pe_int (fun _ _ => rfl))) (blkOk_by (own := [("goals", 1)]) (N := ["watch", "goals"]) (sc := defScope s_law_made) (by decide +kernel)) (fun _ _ _ _ _ => (pg_name (i := 1) sc_law_made.nd rfl (by first | exact Or.inl rfl | exact Or.inr rfl))) (fun _ _ _ _ _ => pts_nil) (fun _ _ _ _ _ => (pe_callTy (lstK (K := K) rfl) (by rfl) T.list bt_list (pa_cons (pv 1) pa_nil)))) (pa_cons (pe_callTy (lstK (K := K) rfl) (by rfl) T.list bt_list (pa_cons (pe_ix (ixtK (K := K) rfl) (pv 0) pe_int (fun _ _ => rfl)) pa_nil)) pa_nil))))), ?_⟩
  refine ⟨_, rfl, _, _, ((0 : Nat) : Int), .ref m, rfl, rfl, hp, atI_nat rfl, m, _, rfl, .inr hm, fun J G wk hG D hD => ?_⟩
  rw [List.length_map, hn] at wk
  refine lcE (B := []) (Z := Z) wk hD (hG Z [] · (by simp)) (by omega) (PiR D W.k W.mv) ⟨[], rfl, rfl, fun j t e => by simp at e⟩ (fun i acc x H3 H4 hi x3 ha hla hpi hy => ?_) fun acc H3 x3 ha hpi => ?_
  · obtain ⟨rfl, hx⟩ := hy
    rw [List.getElem?_map, List.getElem?_eq_getElem (by omega)] at hx
    obtain rfl := Option.some.inj hx
    refine ⟨rfl, _, rfl, _, _, rfl, .inr (x3.sqT (hrow i _ (List.getElem?_eq_getElem (by omega)))), fun l nl => ?_⟩
    have x4 : Ex Z H4 (upd H4 l (.lst (lineV W.k (W.mv i)))) := Ex.new nl
    exact LcP.put x3 hD ha (by simp) hla (by omega) x4 (hpi.step x4 upd_same (fun z => by rw [z, ha] at nl; cases nl))
  · obtain ⟨ts, rfl, hts, hti⟩ := hpi
    refine ⟨_, rfl, _, _, ((1 : Nat) : Int), .ref wd, rfl, rfl, x3.sqT hp, atI_nat rfl, wd, _, rfl, .inr (x3.sqT hwd), fun b nb => ?_⟩
    have x4 : Ex Z H3 (upd H3 b (.lst (lineV W.n W.wd))) := Ex.new nb
    have hb4 : upd H3 b (.lst (lineV W.n W.wd)) b = some (.lst (lineV W.n W.wd)) := upd_same
    generalize upd H3 b (.lst (lineV W.n W.wd)) = H4 at x4 hb4
    refine fun x dx nx nd ne => ?_
    have x5 : Ex Z H4 (upd (upd H4 dx (.own x)) x (.ins C dx [])) := mk_ex nx nd ne
    refine ⟨x, D, b, dx, W, rfl, upd_same, ⟨ts, .inl (SqL.of ((x4.trans x5).lst ha)), by omega, fun j t e => .inl (SqL.of ((x4.trans x5).lst (hti j t e).1))⟩, .inl (SqL.of (x5.lst hb4)), ok, ((x3.trans x4).trans x5).2 hT, fun H' xb hW => ⟨rfl, hq x H' ((x3.trans x4).trans (Exb.unb x5 nx xb)) hW⟩⟩
/-! ### begun at a place -/
theorem ixN_nat {n j : Nat} (h : j < n) : ixN n (j : Int) = some j := by
  unfold ixN
  rw [if_pos (by omega), if_pos (by omega)]
  simp
theorem lineV_succ (i : Nat) (f : Nat → Nat) : lineV i f ++ [.int (f i : Nat)] = lineV (i + 1) f := by
  unfold lineV
  rw [List.range_succ, List.map_append]
  rfl
end
end K62
/-! ==== B62t ==== -/
namespace K62
open PySem PySem.Spec PyProof.Rows L2 Fx Od
section
variable {P : Program} {w : World} {K : PySem.W.Frag} {mg : Str → Option Value} {base : Heap} {C : Addr} {Z : List (Addr × Str)}
/-! ### weights, the tape's begin -/
def spLawWeights (Z : List (Addr × Str)) : Sp := fun vs H Q _ => ∃ tp al cl k, vs = [.ref tp, .int (k : Nat)] ∧ TapeAt H tp al cl ∧ k ≤ 4 ∧
  ∀ l ws H', (∀ c < k, 1 ≤ ws c ∧ ws c ≤ 30) → H' l = some (.lst (lineV k ws)) → l ≠ tp ∧ l ≠ al ∧ l ≠ cl → ExD Z tp al H H' → TapeAt H' tp al cl → Q (.ref l) H'
theorem sc_law_weights : FnScope ["tape", "kinds", "kind"] ["tape", "kinds"] (defScope s_law_weights) := ⟨rfl, rfl, rfl, by decide +kernel, rfl, by decide +kernel, by decide +kernel⟩
theorem lweights_ok (T : Txt K mg C) (D : Df K mg "_law_weights" s_law_weights []) (c_law_draw : C8.Cal P w K mg base 2 "_law_draw" (spDraw Z) []) (c_law_pick : C8.Cal P w K mg base 3 "_law_pick" (spPick Z) []) : C8.Cal P w K mg base 4 "_law_weights" (spLawWeights Z) [] := by
  refine D.cal (k := 3) sc_law_weights (by intro kV doc pm an cdv ct us h; match us, h with | [_, _], _ => rfl) (by rintro _ _ _ _ ⟨_, _, _, _, rfl, _⟩; rfl) ?_
  rintro f cdv A outer s H _ Q E hr ⟨tp, al, cl, k, rfl, hT, k4, hq⟩
  refine ⟨_, (pss_one (ps_ret (pe_lc (own := [("kind", 2)]) rfl sc_law_weights.nd (pi_range1 (by rfl) T.range (pa_cons (pv 1) pa_nil)) (blkOk_by (own := [("kind", 2)]) (N := ["tape", "kinds", "kind"]) (sc := defScope s_law_weights) (by decide +kernel)) (fun _ _ _ _ _ => (pg_name (i := 2) sc_law_weights.nd rfl (by first | exact Or.inl rfl | exact Or.inr rfl))) (fun _ _ _ _ _ => pts_nil) (fun _ _ _ _ _ => (C8.pe_c c_law_pick hr (by decide) (by rfl) (pa_cons (pv 0) (pa_cons (pe_lst (pa_cons pe_int (pa_cons pe_int (pa_cons pe_int (pa_cons pe_int (pa_cons pe_int (pa_cons (pe_op op_add pe_int (C8.pe_c c_law_draw hr (by decide) (by rfl) (pa_cons (pv 0) (pa_cons pe_int pa_nil)))) pa_nil))))))) pa_nil))))))), ?_⟩
  refine ⟨_, rfl, (k : Nat), rfl, by omega, by omega, fun D hD => ?_⟩
  have nD := hT.new hD
  refine lcE (B := [tp, al]) (Z := Z) (walk_range (lo := 0) (n := k)) hD (fun _ _ => trivial) (by omega) (fun i acc H => TapeAt H tp al cl ∧ ∃ g : Nat → Nat, acc = lineV i g ∧ ∀ c < i, 1 ≤ g c ∧ g c ≤ 30) ⟨hT.put nD.1 nD.2.1 nD.2.2, fun _ => 0, rfl, fun c hc => by omega⟩ (fun j acc2 x H4 H5 hj x4 ha4 hla4 hp4 hy => ?_) fun acc2 H4 x4 ha4 hp4 => ?_
  · obtain ⟨rfl, rfl⟩ := hy
    obtain ⟨hT4, g, rfl, hg⟩ := hp4
    refine ⟨rfl, _, rfl, _, rfl, tp, al, cl, 30, rfl, hT4, by omega, by omega, fun v H6 hv x6 hT6 => ?_⟩
    refine ⟨_, _, rfl, rfl, by show 6 ≤ sizeLine; decide, fun l nl => ?_⟩
    have x7 : Ex Z H6 (upd H6 l (.lst [.int 1, .int 1, .int 2, .int 3, .int 5, .int ((1 : Int) + (v : Int))])) := Ex.new nl
    have nl7 := hT6.new nl
    have nlD : l ≠ D := fun z => by
      have := x6.lstb (by simp [nD.1, nD.2.1]) ha4
      rw [← z, nl] at this
      cases this
    refine ⟨tp, al, cl, l, _, rfl, hT6.ex x7, upd_same, nl7.1, nl7.2.1, by show 0 < 6; decide, by show 6 < 2 ^ 64; decide, fun y H8 hy8 x8 hT8 => ?_⟩
    have x48 := (x6.trans x7.any).trans x8
    obtain ⟨m, rfl, hm⟩ : ∃ m : Nat, y = .int (m : Nat) ∧ (1 ≤ m ∧ m ≤ 30) := by
      simp only [List.mem_cons, List.not_mem_nil, or_false] at hy8
      rcases hy8 with rfl | rfl | rfl | rfl | rfl | rfl
      · exact ⟨1, rfl, by omega⟩
      · exact ⟨1, rfl, by omega⟩
      · exact ⟨2, rfl, by omega⟩
      · exact ⟨3, rfl, by omega⟩
      · exact ⟨5, rfl, by omega⟩
      · exact ⟨1 + v, congrArg V.int (by omega), by omega⟩
    refine LcP.put x4 hD ha4 (by simp [nD.1, nD.2.1]) hla4 (by omega) x48 ⟨hT8.put nD.1 nD.2.1 nD.2.2, _, lineV_snoc j g m, fun c hc => ?_⟩
    show 1 ≤ (if c = j then m else g c) ∧ (if c = j then m else g c) ≤ 30
    by_cases e : c = j
    · rw [if_pos e]
      exact hm
    · rw [if_neg e]
      exact hg c (by omega)
  · obtain ⟨hT4, g, rfl, hg⟩ := hp4
    exact hq D g H4 hg ha4 nD x4 hT4
def spLawBegun (K : PySem.W.Frag) (Z : List (Addr × Str)) : Sp := fun vs H Q _ => ∃ (a : Addr) (ns : List Int), vs = [.ref a] ∧ SqL K H a (ns.map V.int) ∧ ns.length ≤ 1000 ∧ ∀ tp al cl H', Ex Z H H' → TapeAt H' tp al cl → Q (.ref tp) H'
theorem sc_law_begun : FnScope ["script", "large", "grain"] ["script"] (defScope s_law_begun) := ⟨rfl, rfl, rfl, by decide +kernel, rfl, by decide +kernel, by decide +kernel⟩
theorem begun_ok (T : Txt K mg C) (D : Df K mg "_law_begun" s_law_begun []) : C8.Cal P w K mg base 1 "_law_begun" (spLawBegun K Z) [] := by
  refine D.cal (k := 0) sc_law_begun (by intro kV doc pm an cdv ct us h; match us, h with | [_], _ => rfl) (by rintro _ _ _ _ ⟨_, _, rfl, _⟩; rfl) ?_
  rintro f cdv A outer s H _ Q E hr ⟨a, ns, rfl, hs, hl, hq⟩
  refine ⟨_, (pss_cons (ps_setLc (i := 1) (own := [("grain", 2)]) rfl sc_law_begun.nd rfl rfl (sw_true rfl rfl rfl (by decide +kernel)) (pi_seqK (K := K) rfl (pv 0)) (blkOk_by (own := [("grain", 2)]) (N := ["script", "large", "grain"]) (sc := defScope s_law_begun) (by decide +kernel)) (fun _ _ _ _ _ => (pg_name (i := 2) sc_law_begun.nd rfl (by first | exact Or.inl rfl | exact Or.inr rfl))) (fun _ _ _ _ _ => pts_one (pt_cmpR op_ge (pe_callB call_abs (by rfl) T.abs bt_abs (pa_cons (pv 2) pa_nil)) (pe_op op_pow pe_int pe_int) (nomark _))) (fun _ _ _ _ _ => (pe_op op_sub (pe_callB call_abs (by rfl) T.abs bt_abs (pa_cons (pv 2) pa_nil)) (pe_op op_pow pe_int pe_int))))
      (pss_one (ps_ret (pe_disp (pps_cons pe_str (pv 1) (pps_cons pe_str pe_int (pps_cons pe_str (pe_lc (own := [("grain", 2)]) rfl sc_law_begun.nd (pi_seqK (K := K) rfl (pv 0)) (blkOk_by (own := [("grain", 2)]) (N := ["script", "large", "grain"]) (sc := defScope s_law_begun) (by decide +kernel)) (fun _ _ _ _ _ => (pg_name (i := 2) sc_law_begun.nd rfl (by first | exact Or.inl rfl | exact Or.inr rfl))) (fun _ _ _ _ _ => pts_nil) (fun _ _ _ _ _ => (pe_callB call_abs (by rfl) T.abs bt_abs (pa_cons (pv 2) pa_nil)))) (pps_cons pe_str pe_int pps_nil)))) (by rfl) (by rfl) (fun z => by cases z) (by decide))))), ?_⟩
  have geti : ∀ {i : Nat} {x : V}, (ns.map V.int)[i]? = some x → ∃ n, x = .int n := fun {i x} h => by
    rw [List.getElem?_map] at h
    cases q : ns[i]? with
    | none => rw [q] at h; cases h
    | some n => rw [q] at h; exact ⟨n, (Option.some.inj h).symm⟩
  refine ⟨_, rfl, a, _, rfl, .inl hs, fun J G wk hG D hD => ?_⟩
  rw [List.length_map] at wk
  refine lcE (B := []) (Z := Z) wk hD (hG Z [] · (by simp)) (by omega) (fun i acc _ => ∃ l : List Int, acc = l.map V.int) ⟨[], rfl⟩ (fun i acc x H3 H4 hi x3 ha hla hpi hy => ?_) fun acc H3 x3 ha hpi => ?_
  · obtain ⟨rfl, hx⟩ := hy
    obtain ⟨n, rfl⟩ := geti hx
    obtain ⟨l, rfl⟩ := hpi
    have cp : CPow 10 18 := ⟨by decide, by decide, by decide⟩
    by_cases hge : ((10 : Int) ^ (18 : Int).toNat) ≤ (if n < 0 then -n else n)
    · refine ⟨rfl, _, rfl, _, rfl, _, _, rfl, rfl, cp, _, _, rfl, rfl, true, blT hge, ?_⟩
      refine ⟨_, rfl, _, rfl, _, _, rfl, rfl, cp, _, _, rfl, rfl, ?_⟩
      exact LcP.put x3 hD ha (by simp) hla (by omega) (Exb.refl _) ⟨l ++ [(if n < 0 then -n else n) - (10 : Int) ^ (18 : Int).toNat], by simp⟩
    · refine ⟨rfl, _, rfl, _, rfl, _, _, rfl, rfl, cp, _, _, rfl, rfl, false, blF hge, x3, _, ha, by omega, l, rfl⟩
  · obtain ⟨large, rfl⟩ := hpi
    refine fun p np => ?_
    have x4 : Ex Z H3 (upd H3 p (.dK [])) := Ex.new np
    have hp4 : upd H3 p (.dK []) p = some (.dK []) := upd_same
    have ha4 := x4.lst ha
    have nDp : D ≠ p := fun z => by rw [z, np] at ha; cases ha
    generalize upd H3 p (.dK []) = H4 at x4 hp4 ha4
    have x04 := x3.trans x4
    refine ⟨_, rfl, _, rfl, a, _, rfl, .inl (x04.sqL hs), fun J G wk hG D2 hD2 => ?_⟩
    rw [List.length_map] at wk
    refine lcE (B := []) (Z := Z) wk hD2 (hG Z [] · (by simp)) (by omega) (fun i acc _ => ∃ l : List Int, acc = l.map V.int) ⟨[], rfl⟩ (fun i acc x H5 H6 hi x5 ha5 hla5 hp5 hy => ?_) fun acc H5 x5 ha5 hp5 => ?_
    · obtain ⟨rfl, hx⟩ := hy
      obtain ⟨n, rfl⟩ := geti hx
      obtain ⟨l, rfl⟩ := hp5
      refine ⟨rfl, _, rfl, _, rfl, ?_⟩
      exact LcP.put x5 hD2 ha5 (by simp) hla5 (by omega) (Exb.refl _) ⟨l ++ [if n < 0 then -n else n], by simp⟩
    · obtain ⟨cells, rfl⟩ := hp5
      have hp5' := x5.dk hp4
      have nDD : D2 ≠ D := fun z => by rw [z, ha4] at hD2; cases hD2
      have nDp2 : D2 ≠ p := fun z => by rw [z, hp4] at hD2; cases hD2
      refine ⟨hp5', [(Sum.inr "large", .ref D), (Sum.inr "rest", .int 0), (Sum.inr "cells", .ref D2), (Sum.inr "turn", .int 0)], rfl, by show 4 ≤ 15; decide, ?_⟩
      have x6 : Ex Z H (upd H5 p (.dK (mergeK [] [(Sum.inr "large", .ref D), (Sum.inr "rest", .int 0), (Sum.inr "cells", .ref D2), (Sum.inr "turn", .int 0)]))) := x3.trans ((x4.trans x5).mut (.inr np) (Mb.of hp5' trivial))
      refine hq p D D2 _ x6 ⟨0, 0, large, cells, ?_, ?_, ?_, nDD⟩
      · rw [upd_same]
        rfl
      · rw [upd_ne nDp]
        exact x5.lst ha4
      · rw [upd_ne nDp2]
        exact ha5
end
end K62
/-! ==== B62u ==== -/
namespace K62
open PySem PySem.Spec PyProof.Rows L2 Fx Od
section
variable {P : Program} {w : World} {K : PySem.W.Frag} {mg : Str → Option Value} {base : Heap} {C : Addr} {Z : List (Addr × Str)}
def spCommon : Sp := fun vs H Q _ => ∃ a b : Nat, vs = [.int (a : Nat), .int (b : Nat)] ∧ a * b < 2 ^ 15000 ∧ Q (.int (Nat.gcd a b : Nat)) H
theorem sc_law_common : FnScope ["one", "other", "lap"] ["one", "other"] (defScope s_law_common) := ⟨rfl, rfl, rfl, by decide +kernel, rfl, by decide +kernel, by decide +kernel⟩
theorem common_ok (T : Txt K mg C) (D : Df K mg "_law_common" s_law_common []) : C8.Cal P w K mg base 1 "_law_common" spCommon [] := by
  refine D.cal (k := 0) sc_law_common (by intro kV doc pm an cdv ct us h; match us, h with | [_, _], _ => rfl) (by rintro _ _ _ _ ⟨_, _, rfl, _⟩; rfl) ?_
  rintro f cdv A outer s H _ Q E hr ⟨a, b, rfl, hab, hq⟩
  refine ⟨_, (pss_cons (ps_for PassesOwn.never rfl (pi_range1 (by rfl) T.range (pa_cons pe_int pa_nil)) (pg_name (i := 2) sc_law_common.nd rfl (by first | exact Or.inl rfl | exact Or.inr rfl))
      (pss_cons (ps_if (pt_cmpR op_eq (pv 1) pe_int (nomark _)) (pss_one (ps_ret (pv 0))) pss_nil)
      (pss_one (ps_par rfl sc_law_common.nd (i := 0) (j := 1) rfl rfl (by decide) rfl rfl (pa_cons (pv 1) (pa_cons (pe_op op_mod (pe_callTy call_int1 (by rfl) T.int bt_int (pa_cons (pv 0) pa_nil)) (pv 1)) pa_nil)) (by rfl)))))
      (pss_one (ps_ret (pv 0)))), ?_⟩
  refine ⟨20000, rfl, by decide, by decide, for_range (lo := 0) (n := 20000) (fun i σ H' => H' = H ∧ ∃ (x y : Nat) (u : Option V), σ = [some (.int (x : Nat)), some (.int (y : Nat)), u] ∧ Nat.gcd x y = Nat.gcd a b ∧ ((i = 0 ∧ x = a ∧ y = b) ∨ (0 < i ∧ y < x ∧ x * y * 2 ^ (i - 1) ≤ a * b))) ⟨rfl, a, b, _, rfl, rfl, .inl ⟨rfl, rfl, rfl⟩⟩ (fun i σ H' hi ⟨hH, x, y, u, hσ, hg, hinv⟩ => ?_) fun σ H' ⟨hH, x, y, u, hσ, hg, hinv⟩ => ?_⟩
  · subst hH hσ
    by_cases hy : y = 0
    · subst hy
      refine ⟨_, rfl, rfl, true, rfl, _, rfl, ?_⟩
      rw [Nat.gcd_zero_right] at hg
      rw [← hg] at hq
      exact hq
    · have y0 : 0 < y := Nat.pos_of_ne_zero hy
      refine ⟨_, rfl, rfl, false, eqF (fun z => hy (by have := V.int.inj z; omega)), ?_⟩
      refine ⟨_, rfl, _, rfl, .inl ⟨_, rfl, _, rfl, _, _, rfl, rfl, by omega, _, _, rfl, rfl, y, x % y, _, rfl, ?_, .inr ⟨by omega, Nat.mod_lt x y0, ?_⟩⟩⟩
      · rw [← hg, Nat.gcd_comm x y, Nat.gcd_rec y x, Nat.gcd_comm]
      · rcases hinv with ⟨h0, h1, h2⟩ | ⟨h0, h1, h2⟩
        · rw [h0, h1, h2]
          show b * (a % b) * 1 ≤ a * b
          rw [Nat.mul_one, Nat.mul_comm a b]
          exact Nat.mul_le_mul_left b (Nat.mod_le a b)
        · obtain ⟨j, rfl⟩ : ∃ j, i = j + 1 := ⟨i - 1, by omega⟩
          refine Nat.le_trans ?_ h2
          show y * (x % y) * 2 ^ (j + 1) ≤ x * y * 2 ^ j
          rw [Nat.pow_succ, Nat.mul_comm (2 ^ j) 2, ← Nat.mul_assoc]
          exact Nat.mul_le_mul_right _ (lap_half h1 y0)
  · subst hH hσ
    have y0 : y = 0 := by
      rcases hinv with ⟨h0, _⟩ | ⟨_, h1, h2⟩
      · cases h0
      · rcases Nat.eq_zero_or_pos y with z | z
        · exact z
        · exfalso
          have h3 : 1 * 2 ^ (20000 - 1) ≤ x * y * 2 ^ (20000 - 1) := Nat.mul_le_mul_right _ (Nat.mul_pos (by omega) z)
          have h4 : (2 : Nat) ^ 15000 ≤ 2 ^ (20000 - 1) := Nat.pow_le_pow_right (by decide) (by decide)
          rw [Nat.one_mul] at h3
          exact absurd (Nat.lt_of_le_of_lt (Nat.le_trans h3 h2) hab) (Nat.not_lt.mpr h4)
    subst y0
    rw [Nat.gcd_zero_right] at hg
    rw [← hg] at hq
    exact ⟨_, rfl, hq⟩
def spLawFraction (Z : List (Addr × Str)) : Sp := fun vs H Q _ => ∃ a b : Nat, vs = [.int (a : Nat), .int (b : Nat)] ∧ 0 < b ∧ b < 2 ^ 9000 ∧ a * b < 2 ^ 15000 ∧ ∀ p H', Ex Z H H' → FracAt H' p (frac a b) → Q (.ref p) H'
theorem sc_law_fraction : FnScope ["top", "bottom", "common"] ["top", "bottom"] (defScope s_law_fraction) := ⟨rfl, rfl, rfl, by decide +kernel, rfl, by decide +kernel, by decide +kernel⟩
theorem lfraction_ok (D : Df K mg "_law_fraction" s_law_fraction []) (c_law_common : C8.Cal P w K mg base 1 "_law_common" spCommon []) : C8.Cal P w K mg base 2 "_law_fraction" (spLawFraction Z) [] := by
  refine D.cal (k := 1) sc_law_fraction (by intro kV doc pm an cdv ct us h; match us, h with | [_, _], _ => rfl) (by rintro _ _ _ _ ⟨_, _, rfl, _⟩; rfl) ?_
  rintro f cdv A outer s H _ Q E hr ⟨a, b, rfl, hb, hb2, hab, hq⟩
  refine ⟨_, (pss_cons (ps_set (i := 2) sc_law_fraction.nd rfl (by first | exact Or.inl rfl | exact Or.inr rfl) (C8.pe_c c_law_common hr (by decide) (by rfl) (pa_cons (pv 0) (pa_cons (pv 1) pa_nil))))
      (pss_one (ps_ret (pe_tup (pa_cons (pe_op op_fdivW (pv 0) (pv 2)) (pa_cons (pe_op op_fdivW (pv 1) (pv 2)) pa_nil)))))), ?_⟩
  have g0 : 0 < Nat.gcd a b := Nat.gcd_pos_of_pos_right _ hb
  have g1 : Nat.gcd a b ≤ b := Nat.le_of_dvd hb (Nat.gcd_dvd_right a b)
  have wd : CDivW (a : Int) ((Nat.gcd a b : Nat) : Int) := wide_div (b := 9000) (by omega) (by rw [Int.natAbs_natCast]; exact Nat.lt_of_le_of_lt g1 hb2) (by decide) (by decide)
  have wd2 : CDivW (b : Int) ((Nat.gcd a b : Nat) : Int) := wd
  refine ⟨_, rfl, _, rfl, a, b, rfl, hab, _, rfl, _, rfl, _, _, rfl, rfl, wd, _, rfl, _, rfl, _, _, rfl, rfl, wd2, by show 2 ≤ sizeLine; decide, fun p np => hq p _ (Ex.new np) upd_same⟩
end
end K62
/-! ==== M64c ==== -/
/-! All rows in sequence; sums over the rows so far; what a lap asks. -/
namespace Od
def snocs (k : Nat) (r : List Nat) : List (List Nat) := (List.range k).map fun c => r ++ [c]
theorem allRows_snoc (k : Nat) : ∀ n, allRows k (n + 1) = (allRows k n).flatMap (snocs k)
  | 0 => by
    show (List.range k).flatMap (fun c => [[c]]) = [[]].flatMap (snocs k)
    simp [snocs, List.flatMap_singleton']
    induction (List.range k) with
    | nil => rfl
    | cons a r ih => simp [ih]
  | n + 1 => by
    show (List.range k).flatMap (fun c => (allRows k (n + 1)).map fun r => c :: r) = ((List.range k).flatMap fun c => (allRows k n).map fun r => c :: r).flatMap (snocs k)
    rw [List.flatMap_assoc, allRows_snoc k n]
    congr 1
    funext c
    rw [List.map_flatMap, List.flatMap_map]
    congr 1
    funext r
    unfold snocs
    rw [List.map_map]
    apply List.map_congr_left
    intro d _
    rfl
theorem allRows_length (k : Nat) : ∀ n, (allRows k n).length = k ^ n
  | 0 => rfl
  | n + 1 => by
    show ((List.range k).flatMap fun c => (allRows k n).map fun r => c :: r).length = _
    rw [List.length_flatMap]
    simp only [List.length_map, allRows_length k n]
    rw [Nat.pow_succ]
    rw [show (List.map (fun _ => k ^ n) (List.range k)) = List.replicate k (k ^ n) from by
      rw [List.map_const']
      simp]
    simp [Nat.mul_comm]
/-- the rows that the first i rows make -/
def later (k : Nat) (rows : List (List Nat)) (i : Nat) : List (List Nat) := (rows.take i).flatMap (snocs k)
theorem later_succ {k : Nat} {rows : List (List Nat)} {i : Nat} {r : List Nat} (h : rows[i]? = some r) : later k rows (i + 1) = later k rows i ++ snocs k r := by
  unfold later
  rw [List.take_add_one, h, List.flatMap_append]
  simp
theorem later_all (k n : Nat) : later k (allRows k n) (allRows k n).length = allRows k (n + 1) := by
  unfold later
  rw [List.take_of_length_le (Nat.le_refl _), allRows_snoc]
theorem later_len (k : Nat) (rows : List (List Nat)) (i : Nat) : (later k rows i).length ≤ k * rows.length := by
  unfold later
  have : ∀ l : List (List Nat), (l.flatMap (snocs k)).length = k * l.length := by
    intro l
    induction l with
    | nil => rfl
    | cons a r ih =>
      rw [List.flatMap_cons, List.length_append, ih, List.length_cons, Nat.mul_succ]
      simp [snocs]
      omega
  rw [this]
  exact Nat.mul_le_mul_left _ (List.length_take_le' _ _)
/-! the products of weights -/
theorem part_snoc (ws : Nat → Nat) (c : Nat) : ∀ r : List Nat, part ws (r ++ [c]) = part ws r * ws c
  | [] => by simp [part]
  | a :: r => by
    show ws a * part ws (r ++ [c]) = ws a * part ws r * ws c
    rw [part_snoc ws c r, Nat.mul_assoc]
theorem part_take {ws : Nat → Nat} {r : List Nat} {i c : Nat} (h : r[i]? = some c) : part ws (r.take (i + 1)) = part ws (r.take i) * ws c := by
  rw [List.take_add_one, h]
  exact part_snoc ws c _
theorem part_le {ws : Nat → Nat} {k b : Nat} (hw : ∀ c < k, ws c ≤ b) : ∀ {r : List Nat}, (∀ c ∈ r, c < k) → part ws r ≤ b ^ r.length
  | [], _ => Nat.le_refl _
  | a :: r, h => by
    rw [List.length_cons, Nat.pow_succ, Nat.mul_comm]
    exact Nat.mul_le_mul (hw a (h a List.mem_cons_self)) (part_le hw fun c hc => h c (List.mem_cons_of_mem _ hc))
/-! sums over the rows so far -/
def SumP (ws : Nat → Nat) (f : List Nat → Nat) (l : List (List Nat)) : Nat := (l.map fun r => part ws r * f r).sum
theorem SumP_take {ws : Nat → Nat} {f : List Nat → Nat} {l : List (List Nat)} {i : Nat} {r : List Nat} (h : l[i]? = some r) : SumP ws f (l.take (i + 1)) = SumP ws f (l.take i) + part ws r * f r := by
  unfold SumP
  rw [List.take_add_one, h, List.map_append, List.sum_append]
  simp
/-- the fewest places of a likely reason -/
noncomputable def szF (W : Wt) (ws : Nat → Nat) (sh : Nat × Nat) (row : List Nat) : Nat := open Classical in if h : ∃ m, Size W ws row sh m then h.choose else 0
theorem szF_eq {W : Wt} {ws : Nat → Nat} {sh : Nat × Nat} {row : List Nat} {m : Nat} (h : Size W ws row sh m) : szF W ws sh row = m := by
  unfold szF
  rw [dif_pos ⟨m, h⟩]
  exact (Exists.choose_spec (⟨m, h⟩ : ∃ m, Size W ws row sh m)).uniq h
theorem szF_size {W : Wt} {ws : Nat → Nat} {sh : Nat × Nat} {row : List Nat} (h : ∃ m, Size W ws row sh m) : Size W ws row sh (szF W ws sh row) := by
  obtain ⟨m, h⟩ := h
  rw [szF_eq h]
  exact h
/-- the first size that there is -/
theorem Size.ex {W : Wt} {ws : Nat → Nat} {row : List Nat} {sh : Nat × Nat} (h : ∃ m s, Hide row s m ∧ Lk W ws row sh s) : ∃ m, Size W ws row sh m := by
  obtain ⟨m, h⟩ := h
  have : ∀ n, (∃ m, m ≤ n ∧ ∃ s, Hide row s m ∧ Lk W ws row sh s) → ∃ m, Size W ws row sh m := by
    intro n
    induction n with
    | zero =>
      rintro ⟨m, hm, s, h1, h2⟩
      obtain rfl := Nat.le_zero.mp hm
      exact ⟨0, ⟨s, h1, h2⟩, fun m' s' h => absurd h (Nat.not_lt_zero _)⟩
    | succ n ih =>
      rintro ⟨m, hm, s, h1, h2⟩
      by_cases q : ∃ m', m' ≤ n ∧ ∃ s, Hide row s m' ∧ Lk W ws row sh s
      · exact ih q
      · refine ⟨m, ⟨s, h1, h2⟩, fun m' s' h3 h4 h5 => q ⟨m', by omega, s', h4, h5⟩⟩
  exact this m ⟨m, Nat.le_refl _, h⟩
theorem Size.there {W : Wt} {ws : Nat → Nat} {row : List Nat} {sh : Nat × Nat} (ok : W.Ok) (hw : ∀ c < W.k, 0 < ws c) (hr : ∀ c ∈ row, c < W.k) (h : sh.1 ≤ sh.2) : ∃ m, Size W ws row sh m :=
  Size.ex ⟨_, _, Hide.all row, Lk.all ok hw hr h⟩
theorem szF_le {W : Wt} {ws : Nat → Nat} {sh : Nat × Nat} {row : List Nat} (ok : W.Ok) (hw : ∀ c < W.k, 0 < ws c) (hr : ∀ c ∈ row, c < W.k) (h : sh.1 ≤ sh.2) : szF W ws sh row ≤ row.length := by
  obtain ⟨⟨s, h1, _⟩, _⟩ := szF_size (Size.there ok hw hr h)
  exact h1.le
/-- odds of the unknown row against a share -/
theorem cross_frac {m w s t : Nat} (hw : 0 < w) : s * (frac m w).2 ≤ (frac m w).1 * t ↔ s * w ≤ m * t := by
  have h1 : (frac m w).1 * w = m * (frac m w).2 := frac_cross
  have h2 : 0 < (frac m w).2 := frac_pos hw
  constructor
  · intro h
    refine Nat.le_of_mul_le_mul_right ?_ h2
    calc s * w * (frac m w).2 = s * (frac m w).2 * w := by rw [Nat.mul_right_comm]
      _ ≤ (frac m w).1 * t * w := Nat.mul_le_mul_right _ h
      _ = (frac m w).1 * w * t := by rw [Nat.mul_right_comm]
      _ = m * (frac m w).2 * t := by rw [h1]
      _ = m * t * (frac m w).2 := by rw [Nat.mul_right_comm]
  · intro h
    refine Nat.le_of_mul_le_mul_right ?_ hw
    calc s * (frac m w).2 * w = s * w * (frac m w).2 := by rw [Nat.mul_right_comm]
      _ ≤ m * t * (frac m w).2 := Nat.mul_le_mul_right _ h
      _ = m * (frac m w).2 * t := by rw [Nat.mul_right_comm]
      _ = (frac m w).1 * w * t := by rw [h1]
      _ = (frac m w).1 * t * w := by rw [Nat.mul_right_comm]
theorem beginS_len (row : List Nat) (t : Nat) (h : t ≤ row.length) : (beginS row t).length = row.length := (Hide.begin row t h).len
end Od
/-! ==== B64h ==== -/
namespace K62
open PySem PySem.Spec PyProof.Rows L2 Fx Od
section
variable {P : Program} {w : World} {K : PySem.W.Frag} {mg : Str → Option Value} {base : Heap} {C : Addr} {Z : List (Addr × Str)}
/-! ### _law_filled; pieces of a lap -/
theorem repl_get {n i : Nat} {v : V} (h : (List.replicate n V.non)[i]? = some v) : i < n ∧ v = .non := by
  obtain ⟨h1, h2⟩ := List.getElem?_eq_some_iff.mp h
  rw [List.getElem_replicate] at h2
  rw [List.length_replicate] at h1
  exact ⟨h1, h2.symm⟩
def spFilled (K : PySem.W.Frag) (Z : List (Addr × Str)) : Sp := fun vs H Q _ => ∃ s n k, vs = [.ref s, .int (k : Nat)] ∧ SqT K H s (List.replicate n V.non) ∧ n ≤ 5 ∧ k ≤ 4 ∧ ∀ p H', Ex Z H H' → LtAt H' p (allRows k n) → Q (.ref p) H'
theorem sc_law_filled : FnScope ["shown", "kinds", "found", "item", "later", "row", "kind"] ["shown", "kinds"] (defScope s_law_filled) := ⟨rfl, rfl, rfl, by decide +kernel, rfl, by decide +kernel, by decide +kernel⟩
theorem filled_ok (T : Txt K mg C) (D : Df K mg "_law_filled" s_law_filled []) : C8.Cal P w K mg base 1 "_law_filled" (spFilled K Z) [] := by
  refine D.cal (k := 0) sc_law_filled (by intro kV doc pm an cdv ct us h; match us, h with | [_, _], _ => rfl) (by rintro _ _ _ _ ⟨_, _, _, rfl, _⟩; rfl) ?_
  rintro f cdv A outer s H _ Q E hr ⟨sa, n, k, rfl, hs, hn, hk, hq⟩
  refine ⟨_, (pss_cons (ps_set (i := 2) sc_law_filled.nd rfl (by first | exact Or.inl rfl | exact Or.inr rfl) (pe_lst (pa_cons (pe_tup pa_nil) pa_nil)))
      (pss_cons (ps_for PassesOwn.never rfl (pi_seqK (K := K) rfl (pv 0)) (pg_name (i := 3) sc_law_filled.nd rfl (by first | exact Or.inl rfl | exact Or.inr rfl))
      (pss_cons (ps_set (i := 4) sc_law_filled.nd rfl (by first | exact Or.inl rfl | exact Or.inr rfl) (pe_lst pa_nil))
      (pss_cons (ps_for PassesOwn.never rfl (pi_seqK (K := K) rfl (pv 2)) (pg_name (i := 5) sc_law_filled.nd rfl (by first | exact Or.inl rfl | exact Or.inr rfl))
      (pss_one (ps_set (i := 4) sc_law_filled.nd rfl (by first | exact Or.inl rfl | exact Or.inr rfl) (pe_op op_cat (pv 4) (pe_lc (own := [("kind", 6)]) rfl sc_law_filled.nd (pi_seqK (K := K) rfl (pe_ifExp (pt_cmpR op_isN (pv 3) pe_non (nomark _)) (pe_listRg rfl (by rfl) T.list (prg_1 (by rfl) T.range (pv 1))) (pe_lst (pa_cons (pv 3) pa_nil)))) (blkOk_by (own := [("kind", 6)]) (N := ["shown", "kinds", "found", "item", "later", "row", "kind"]) (sc := defScope s_law_filled) (by decide +kernel)) (fun _ _ _ _ _ => (pg_name (i := 6) sc_law_filled.nd rfl (by first | exact Or.inl rfl | exact Or.inr rfl))) (fun _ _ _ _ _ => pts_nil) (fun _ _ _ _ _ => (pe_op (catAK (K := K) rfl) (pv 5) (pe_tup (pa_cons (pv 6) pa_nil)))))))))
      (pss_one (ps_set (i := 2) sc_law_filled.nd rfl (by first | exact Or.inl rfl | exact Or.inr rfl) (pv 4))))))
      (pss_one (ps_ret (pv 2))))), ?_⟩
  refine ⟨by show 0 ≤ sizeLine; decide, fun t nt => ⟨by show 1 ≤ sizeLine; decide, fun l nl => ?_⟩⟩
  have x1 : Ex Z H (upd H t (.tup [])) := Ex.new nt
  have x2 : Ex Z (upd H t (.tup [])) (upd (upd H t (.tup [])) l (.lst [.ref t])) := Ex.new nl
  have hl0 : LtAt (upd (upd H t (.tup [])) l (.lst [.ref t])) l (allRows k 0) := ⟨[t], upd_same, rfl, fun i r ps e1 e2 => by
    have e2 : ([[]] : List (List Nat))[i]? = some ps := e2
    cases i with
    | succ i => simp at e1
    | zero =>
      simp only [List.getElem?_cons_zero, Option.some.injEq] at e1 e2
      subst e1 e2
      exact x2.tup upd_same⟩
  have x12 := x1.trans x2
  generalize upd (upd H t (.tup [])) l (.lst [.ref t]) = H1 at x12 hl0
  refine ⟨_, rfl, _, _, rfl, .inr (x12.sqT hs), fun J G wk hG => ?_⟩
  rw [List.length_replicate] at wk
  refine for_it wk (fun i σ H' => ∃ p u3 u4 u5 u6, σ = [some (.ref sa), some (.int (k : Nat)), some (.ref p), u3, u4, u5, u6] ∧ Ex Z H1 H' ∧ LtAt H' p (allRows k i)) ⟨l, _, _, _, _, rfl, Exb.refl _, hl0⟩ (fun i σ H' _ ⟨_, _, _, _, _, _, x, _⟩ => hG Z [] H' (by simp) x)
    (fun i x σ H2 H3 hi ⟨p, u3, u4, u5, u6, hσ, x2, hp⟩ hy => ?_) fun σ H2 ⟨p, u3, u4, u5, u6, hσ, x2, hp⟩ => ?_
  · subst hσ
    obtain ⟨rfl, hx⟩ := hy
    obtain ⟨_, rfl⟩ := repl_get hx
    refine ⟨by show 0 ≤ sizeLine; decide, fun e ne => ?_⟩
    have x3 : Ex Z H3 (upd H3 e (.lst [])) := Ex.new ne
    obtain ⟨rs, r1, r2, r3⟩ := hp.ex x3
    have hlen := allRows_length k i
    have hpow : k ^ i ≤ 1024 := Nat.le_trans (Nat.pow_le_pow_left hk i) (Nat.le_trans (Nat.pow_le_pow_right (n := 4) (by decide) (show i ≤ 5 by omega)) (by decide))
    refine ⟨_, rfl, p, _, rfl, .inl (SqL.of r1), fun J2 G2 wk2 hG2 => ?_⟩
    rw [List.length_map] at wk2
    refine for_it wk2 (fun j σ H' => ∃ q u5 u6, σ = [some (.ref sa), some (.int (k : Nat)), some (.ref p), some .non, some (.ref q), u5, u6] ∧ Ex Z (upd H3 e (.lst [])) H' ∧ LtAt H' q (later k (allRows k i) j)) ⟨e, _, _, rfl, Exb.refl _, [], upd_same, rfl, fun i r ps e1 _ => by simp at e1⟩ (fun j σ H' _ ⟨_, _, _, _, x, _⟩ => hG2 Z [] H' (by simp) x)
      (fun j x σ H4 H5 hj ⟨q, u5, u6, hσ, x4, hq4⟩ hy => ?_) fun σ H4 ⟨q, u5, u6, hσ, x4, hq4⟩ => ?_
    · subst hσ
      obtain ⟨rfl, hx⟩ := hy
      rw [List.getElem?_map, List.getElem?_eq_getElem hj] at hx
      obtain rfl := Option.some.inj hx
      have hj2 : j < (allRows k i).length := by omega
      have hrow := x4.tup (r3 j _ _ (List.getElem?_eq_getElem hj) (List.getElem?_eq_getElem hj2))
      have hrl := (mem_allRows.mp (List.getElem_mem hj2)).1
      refine ⟨_, rfl, _, rfl, rfl, true, rfl, ?_⟩
      refine ⟨_, rfl, _, rfl, RgOk.of_le (by omega) (by omega) (by omega) (by omega), fun m nm => ?_⟩
      have er : rgV 0 ((k : Nat) : Int) = natV (List.range k) := by
        unfold rgV natV
        rw [show (((k : Nat) : Int) - 0).toNat = k by omega]
        simp
      have x5 : Ex Z H5 (upd H5 m (.lst (rgV 0 ((k : Nat) : Int)))) := Ex.new nm
      refine ⟨m, natV (List.range k), rfl, .inl (SqL.of (by rw [upd_same, er])), fun J3 G3 wk3 hG3 g hg => ?_⟩
      rw [natV_len, List.length_range] at wk3
      refine lcE (B := []) (Z := Z) wk3 hg (hG3 Z [] · (by simp)) (by omega) (fun c acc H' => ∃ es : List Addr, acc = es.map V.ref ∧ es.length = c ∧ ∀ (c' : Nat) (r : Addr), es[c']? = some r → H' r = some (.tup (natV ((allRows k i)[j] ++ [c'])))) ⟨[], rfl, rfl, fun c' r e1 => by simp at e1⟩
        (fun c acc x H6 H7 hc x6 ha hla hpi hy => ?_) fun acc H6 x6 ha hpi => ?_
      · obtain ⟨rfl, hx⟩ := hy
        obtain ⟨c2, hc2, rfl⟩ := natV_get hx
        rw [List.getElem?_range hc] at hc2
        obtain rfl := Option.some.inj hc2
        obtain ⟨es, rfl, hes, hpe⟩ := hpi
        have hrow6 := (x5.trans x6).tup hrow
        refine ⟨rfl, _, rfl, _, rfl, by show 1 ≤ sizeLine; decide, fun t1 nt1 => ?_⟩
        have x7 : Ex Z H7 (upd H7 t1 (.tup [.int (c : Nat)])) := Ex.new nt1
        have step : ∀ r H8, Ex Z H7 H8 → H8 r = some (.tup (natV ((allRows k i)[j] ++ [c]))) → ∃ acc, H8 g = some (.lst acc) ∧ acc.length < sizeLine ∧ LcP Z [] (upd H5 m (.lst (rgV 0 ((k : Nat) : Int)))) g (fun c acc H' => ∃ es : List Addr, acc = es.map V.ref ∧ es.length = c ∧ ∀ (c' : Nat) (r : Addr), es[c']? = some r → H' r = some (.tup (natV ((allRows k i)[j] ++ [c'])))) (c + 1) (upd H8 g (.lst (acc ++ [.ref r]))) := fun r H8 x8 h8 => by
          refine LcP.put x6 hg ha (by simp) hla (by omega) x8 ⟨es ++ [r], by rw [List.map_append]; rfl, by simp [hes], fun c' r' e1 => ?_⟩
          have nl : ∀ {z : Addr} {ys : List V}, H8 z = some (.tup ys) → upd H8 g (.lst (es.map V.ref ++ [.ref r])) z = some (.tup ys) := fun {z ys} h => by
            rw [upd_ne (fun y => by rw [y, x8.lst ha] at h; cases h)]
            exact h
          rcases Nat.lt_or_ge c' es.length with hlt | hge
          · rw [List.getElem?_append_left hlt] at e1
            exact nl (x8.tup (hpe c' r' e1))
          · rw [List.getElem?_append_right hge] at e1
            have h0 : c' - es.length = 0 := by
              rcases Nat.eq_zero_or_pos (c' - es.length) with z | z
              · exact z
              · rw [List.getElem?_eq_none (by simp; omega)] at e1
                cases e1
            rw [h0] at e1
            have e1 : r = r' := Option.some.inj e1
            subst e1
            rw [show c' = c by omega]
            exact nl h8
        refine ⟨_, t1, _, _, rfl, rfl, SqT.of (x7.tup hrow6), SqT.of upd_same, ?_, fun z => ?_, fun z => ?_, fun _ _ p2 np2 => ?_⟩
        · rw [natV_len, hrl, sizeLine_eq]
          simp only [List.length_cons, List.length_nil]
          omega
        · refine step t1 _ x7 ?_
          have z : (allRows k i)[j] = [] := by
            have := congrArg List.length z
            rw [natV_len] at this
            exact List.length_eq_zero_iff.mp this
          rw [upd_same, z]
          rfl
        · exact fun z2 => absurd z2 (by simp)
        · refine step p2 _ (x7.trans (Ex.new np2)) ?_
          rw [upd_same]
          unfold natV
          rw [List.map_append]
          rfl
      · obtain ⟨es, rfl, hes, hpe⟩ := hpi
        obtain ⟨ls, l1, l2, l3⟩ := hq4.ex (x5.trans x6)
        have hll := later_len k (allRows k i) j
        have hk4 : k * (allRows k i).length ≤ 4 * 1024 := Nat.mul_le_mul hk (by omega)
        refine ⟨q, g, _, _, rfl, rfl, l1, ha, ?_, fun p2 np2 => ?_⟩
        · rw [List.length_map, List.length_map, sizeLine_eq]
          omega
        · have x7 : Ex Z H6 (upd H6 p2 (.lst (ls.map V.ref ++ es.map V.ref))) := Ex.new np2
          refine ⟨p2, _, _, rfl, x4.trans ((x5.trans x6).trans x7), ls ++ es, by rw [upd_same, List.map_append], ?_, fun c r ps e1 e2 => ?_⟩
          · rw [later_succ (List.getElem?_eq_getElem hj2), List.length_append, List.length_append, l2]
            simp [snocs, hes]
          · rw [later_succ (List.getElem?_eq_getElem hj2)] at e2
            rcases Nat.lt_or_ge c ls.length with hlt | hge
            · rw [List.getElem?_append_left hlt] at e1
              rw [List.getElem?_append_left (by omega)] at e2
              exact x7.tup (l3 c r ps e1 e2)
            · rw [List.getElem?_append_right hge] at e1
              rw [List.getElem?_append_right (by omega), ← l2] at e2
              unfold snocs at e2
              rw [List.getElem?_map] at e2
              obtain ⟨c', h1, h2⟩ := Option.map_eq_some_iff.mp e2
              have h3 := List.getElem?_eq_some_iff.mp h1
              obtain ⟨h4, h5⟩ := h3
              rw [List.getElem_range] at h5
              subst h5 h2
              exact x7.tup (hpe _ r e1)
    · subst hσ
      rw [r2, later_all] at hq4
      exact ⟨_, rfl, q, _, _, _, _, rfl, x2.trans (x3.trans x4), hq4⟩
  · subst hσ
    exact ⟨_, rfl, hq p H2 (x12.trans x2) hp⟩
end
end K62
/-! ==== B64i ==== -/
namespace K62
open PySem PySem.Spec PyProof.Rows L2 Fx Od
section
variable {P : Program} {w : World} {K : PySem.W.Frag} {mg : Str → Option Value} {base : Heap} {C : Addr} {Z : List (Addr × Str)}
/-! ### what a lap has at hand -/
structure Lp (K : PySem.W.Frag) (Z : List (Addr × Str)) (C : Addr) (tp al cl hx wl sl rl : Addr) (W : Wt) (ws : Nat → Nat) (n : Nat) (s1 s2 : Nat) (H : Hp) : Prop where
  tape : TapeAt H tp al cl
  tabs : LamX.Tabs Z H
  here : WatchAt K C H hx W
  wt : H wl = some (.lst (lineV W.k ws))
  sh : ∃ a0 a1 a2 a3 : Addr, H sl = some (.lst [.ref a0, .ref a1, .ref a2, .ref a3]) ∧ FracAt H a0 (0, 1) ∧ FracAt H a1 (s1, 9) ∧ FracAt H a2 (s2, 9) ∧ FracAt H a3 (1, 1)
  rows : LtAt H rl (allRows W.k n)
theorem FracAt.ex' {H H' : Hp} {a : Addr} {f : Nat × Nat} (x : Ex Z H H') (h : FracAt H a f) : FracAt H' a f := x.tup h
theorem Lp.ex {tp al cl hx wl sl rl : Addr} {W : Wt} {ws : Nat → Nat} {n s1 s2 : Nat} {H H' : Hp} (x : Ex Z H H') (L : Lp K Z C tp al cl hx wl sl rl W ws n s1 s2 H) : Lp K Z C tp al cl hx wl sl rl W ws n s1 s2 H' := by
  obtain ⟨a0, a1, a2, a3, h, f0, f1, f2, f3⟩ := L.sh
  exact ⟨L.tape.ex x, x.2 L.tabs, L.here.ex x, x.lst L.wt, ⟨a0, a1, a2, a3, x.lst h, f0.ex' x, f1.ex' x, f2.ex' x, f3.ex' x⟩, L.rows.ex x⟩
/-- the four shares -/
def shs (s1 s2 : Nat) : List (Nat × Nat) := [(0, 1), (s1, 9), (s2, 9), (1, 1)]
/-- four numbers -/
def fourV (f : Nat × Nat → Nat) (s1 s2 : Nat) : List V := (shs s1 s2).map fun s => V.int (f s : Nat)
theorem fourV_ints (f : Nat × Nat → Nat) (s1 s2 : Nat) : fourV f s1 s2 = ((shs s1 s2).map fun s => ((f s : Nat) : Int)).map V.int := by
  unfold fourV
  rw [List.map_map]
  rfl
theorem ne_same {H : Hp} {x y : V} {d : PyData} {Q : VK} (hx : Dp K H x d) (hy : Dp K H y d) (hs : SeqAt.shaped d = true) (q : Q (.bl false) H) : rNeD K x y H Q :=
  ⟨d, d, hx, hy, hs, hs, by rw [SeqAt.eqv_refl d (SeqAt.canLay_of_shaped hs)]; exact q⟩
/-- xs != sorted(xs), xs ascending -/
theorem ne_sorted {H : Hp} {l : Addr} {ns : List Int} {Q : VK} (hl : H l = some (.lst (ns.map V.int))) (h64 : ns.length < 64) (asc : ns.Pairwise (· ≤ ·)) (q : ∀ H', Ex Z H H' → Q (.bl false) H') :
    ∃ (a : Addr) (ms : List Int), [V.ref l] = [V.ref a] ∧ SqL K H a (ms.map V.int) ∧ ms.length < 64 ∧ ∀ (ns' : List Int) (p : Addr), ns'.Perm ms → ns'.Pairwise (· ≤ ·) → H p = none → (fun x H1 => rNeD K (.ref l) x H1 Q) (.ref p) (upd H p (.lst (ns'.map V.int))) := by
  refine ⟨l, ns, rfl, SqL.of hl, h64, fun ns' p hp hs np => ?_⟩
  have e : ns' = ns := hp.eq_of_pairwise (fun a b _ _ h1 h2 => Int.le_antisymm h1 h2) hs asc
  subst e
  have x1 : Ex Z H (upd H p (.lst (ns'.map V.int))) := Ex.new np
  exact ne_same (.lst (SqL.of (x1.lst hl)) (ints_dp ns')) (.lst (SqL.of upd_same) (ints_dp ns')) (ints_shaped ns') (q _ x1)
theorem fourV_asc {f : Nat × Nat → Nat} {s1 s2 : Nat} (h0 : f (0, 1) ≤ f (s1, 9)) (h1 : f (s1, 9) ≤ f (s2, 9)) (h2 : f (s2, 9) ≤ f (1, 1)) : ((shs s1 s2).map fun s => ((f s : Nat) : Int)).Pairwise (· ≤ ·) := by
  show ([((f (0, 1) : Nat) : Int), ((f (s1, 9) : Nat) : Int), ((f (s2, 9) : Nat) : Int), ((f (1, 1) : Nat) : Int)] : List Int).Pairwise (· ≤ ·)
  simp only [List.pairwise_cons, List.mem_cons, List.not_mem_nil, or_false, forall_eq_or_imp, forall_eq, false_imp_iff, implies_true, List.Pairwise.nil, and_true]
  omega
/-- odds at a verdict that there is -/
theorem FdAt.get {H : Hp} {p : Addr} {t : Nat → Option (Nat × Nat)} {v : Nat} {f : Nat × Nat} (h : FdAt H p t) (hv : t v = some f) : ∃ a, DGet H p (.int (v : Nat)) (some (.ref a)) ∧ FracAt H a f := by
  obtain ⟨l, h1, h2, h3, h4⟩ := h
  have hm : v ∈ l.map (·.1) := (h3 v).mpr (by rw [hv]; rfl)
  have key : ∀ l : List (Nat × Addr), v ∈ l.map (·.1) → ∃ e ∈ l, e.1 = v ∧ valV (l.map encF) (Sum.inl (v : Int)) = some (.ref e.2) := by
    intro l
    induction l with
    | nil => intro h; cases h
    | cons e r ih =>
      intro h
      by_cases q : e.1 = v
      · refine ⟨e, List.mem_cons_self, q, ?_⟩
        rw [List.map_cons, valV_pos (by show (Sum.inl (e.1 : Int) : Key) = _; rw [q])]
        rfl
      · have h : v ∈ r.map (·.1) := by
          rw [List.map_cons] at h
          exact (List.mem_cons.mp h).resolve_left fun z => q z.symm
        obtain ⟨e', h1, h2, h3⟩ := ih h
        refine ⟨e', List.mem_cons_of_mem _ h1, h2, ?_⟩
        rw [List.map_cons, valV_neg (fun z => q (by have := Sum.inl.inj (show (Sum.inl (e.1 : Int) : Key) = Sum.inl (v : Int) from z); omega))]
        exact h3
  obtain ⟨e, he, e1, e2⟩ := key l hm
  obtain ⟨f', g1, g2⟩ := h4 e he
  rw [e1, hv] at g1
  obtain rfl := Option.some.inj g1
  exact ⟨e.2, by rw [← e2]; exact DGet.k (k := Sum.inl (v : Int)) h1, g2⟩
theorem rep_none (H : Hp) (n : Nat) : (List.replicate n [V.non]).flatten = List.replicate n V.non := by
  induction n with
  | zero => rfl
  | succ n ih => rw [List.replicate_succ, List.flatten_cons, ih]; rfl
theorem row_none (n : Nat) : List.replicate n V.non = rowV (List.replicate n none) := by
  unfold rowV
  rw [List.map_replicate]
  rfl
theorem beginV (row : List Nat) (t : Nat) : natV (row.take t) ++ List.replicate (row.length - t) V.non = rowV (beginS row t) := by
  unfold beginS
  unfold rowV natV
  rw [List.map_append, List.map_map, List.map_replicate]
  rfl
theorem none_rows {H : Hp} {tn : Addr} {n : Nat} {Q : VK} (h : H tn = some (.tup [.non])) (hn : n ≤ 5) (q : ∀ s H', Ex Z H H' → SqT K H' s (List.replicate n V.non) → Q (.ref s) H') : rRepA K (.ref tn) (.int ((n : Nat) : Int)) H Q :=
  ⟨tn, n, [.non], rfl, rfl, SqT.of h, by simp, by omega, by show 1 ≤ 1000; decide, fun e => q _ _ (Exb.refl H) (by rw [e]; exact SqT.of h), fun _ p np => q p _ (Ex.new np) (SqT.of (by rw [upd_same, rep_none H]))⟩
/-- what a draw leaves -/
theorem TapeAt.keepT {H H' : Hp} {tp al cl q : Addr} {xs : List V} (h : TapeAt H tp al cl) (x : ExD Z tp al H H') (e : H q = some (.tup xs)) : H' q = some (.tup xs) := by
  obtain ⟨r, t, large, cells, h1, h2, h3, h4⟩ := h
  refine x.tupb (fun hb => ?_) e
  rcases List.mem_cons.mp hb with z | z
  · rw [z, h1] at e
    cases e
  · rw [List.mem_singleton.mp z, h2] at e
    cases e
theorem TapeAt.keepL {H H' : Hp} {tp al cl q : Addr} {xs : List V} (h : TapeAt H tp al cl) (x : ExD Z tp al H H') (e : H q = some (.lst xs)) (n : q ≠ al) : H' q = some (.lst xs) := by
  obtain ⟨r, t, large, cells, h1, h2, h3, h4⟩ := h
  refine x.lstb (fun hb => ?_) e
  rcases List.mem_cons.mp hb with z | z
  · rw [z, h1] at e
    cases e
  · exact n (List.mem_singleton.mp z)
theorem LtAt.nal {H : Hp} {tp al cl q : Addr} {L : List (List Nat)} (h : TapeAt H tp al cl) (l : LtAt H q L) (hL : 0 < L.length) : q ≠ al := by
  rintro rfl
  obtain ⟨r, t, large, cells, h1, h2, h3, h4⟩ := h
  obtain ⟨rs, r1, r2, _⟩ := l
  rw [h2] at r1
  have e := HO.lst.inj (Option.some.inj r1)
  match rs, large, e with
  | [], _, _ => simp at r2; omega
  | _ :: _, [], e => simp at e
  | a :: _, b :: _, e =>
    rw [List.map_cons, List.map_cons] at e
    injection e with e1 _
    cases e1
theorem LtAt.keep {H H' : Hp} {tp al cl q : Addr} {L : List (List Nat)} (h : TapeAt H tp al cl) (x : ExD Z tp al H H') (l : LtAt H q L) (hL : 0 < L.length) : LtAt H' q L := by
  have n := l.nal h hL
  obtain ⟨rs, r1, r2, r3⟩ := l
  exact ⟨rs, h.keepL x r1 n, r2, fun i r ps e1 e2 => h.keepT x (r3 i r ps e1 e2)⟩
theorem natV_take (row : List Nat) (t : Nat) : (natV row).take t = natV (row.take t) := by simp [natV]
theorem Sr_mulc (k : Nat) (ws : Nat → Nat) (t c : Nat) : Sr k ws t (fun _ => c) = c * Od.sumTo ws k ^ t := by
  rw [← Sr_one k ws t]
  unfold Sr
  rw [← sum_mul_leftL c (fun r => part ws r * 1)]
  congr 1
  apply List.map_congr_left
  intro r _
  rw [Nat.mul_one, Nat.mul_comm]
theorem sz_mono {W : Wt} {ws : Nat → Nat} {row : List Nat} {f g : Nat × Nat} (ok : W.Ok) (hw : ∀ c < W.k, 0 < ws c) (hr : ∀ c ∈ row, c < W.k) (hf : f.1 ≤ f.2) (hg : g.1 ≤ g.2) (hp : 0 < g.2) (h : f.1 * g.2 ≤ g.1 * f.2) : szF W ws f row ≤ szF W ws g row :=
  (szF_size (Size.there ok hw hr hf)).mono hp h (szF_size (Size.there ok hw hr hg))
theorem sum_mono {W : Wt} {ws : Nat → Nat} {n : Nat} {f g : Nat × Nat} (ok : W.Ok) (hw : ∀ c < W.k, 0 < ws c) (hf : f.1 ≤ f.2) (hg : g.1 ≤ g.2) (hp : 0 < g.2) (h : f.1 * g.2 ≤ g.1 * f.2) : SumP ws (szF W ws f) (allRows W.k n) ≤ SumP ws (szF W ws g) (allRows W.k n) :=
  Sr_le (t := n) fun r hr => sz_mono ok hw (mem_allRows.mp hr).2 hf hg hp h
theorem sh_at {H : Hp} {a0 a1 a2 a3 : Addr} {s1 s2 : Nat} (f0 : FracAt H a0 (0, 1)) (f1 : FracAt H a1 (s1, 9)) (f2 : FracAt H a2 (s2, 9)) (f3 : FracAt H a3 (1, 1)) (h1 : s1 ≤ 4) (h2 : s2 ≤ 8) :
    ∀ (i : Nat) (x : V), ([.ref a0, .ref a1, .ref a2, .ref a3] : List V)[i]? = some x → ∃ sh f, x = .ref sh ∧ (shs s1 s2)[i]? = some f ∧ FracAt H sh f ∧ 1 ≤ f.2 ∧ f.2 ≤ 1000000 ∧ f.1 ≤ f.2
  | 0, x, e => ⟨a0, _, (Option.some.inj e).symm, rfl, f0, by decide, by decide, by decide⟩
  | 1, x, e => ⟨a1, _, (Option.some.inj e).symm, rfl, f1, by show 1 ≤ 9; decide, by show 9 ≤ 1000000; decide, by show s1 ≤ 9; omega⟩
  | 2, x, e => ⟨a2, _, (Option.some.inj e).symm, rfl, f2, by show 1 ≤ 9; decide, by show 9 ≤ 1000000; decide, by show s2 ≤ 9; omega⟩
  | 3, x, e => ⟨a3, _, (Option.some.inj e).symm, rfl, f3, by decide, by decide, by decide⟩
  | _ + 4, x, e => by simp at e
theorem take_slice {H : Hp} {r : Addr} {row : List Nat} {t : Nat} {Q : VK} (h : SqT K H r (natV row)) (ht : t ≤ row.length) (q : ∀ s H', Ex Z H H' → SqT K H' s (natV (row.take t)) → Q (.ref s) H') : rSlA K (.ref r) none (some ((t : Nat) : Int)) H Q := by
  have e1 : HT.sIx (natV row).length 0 none = 0 := rfl
  have e2 : HT.sIx (natV row).length (natV row).length (some ((t : Nat) : Int)) = t := by
    rw [HT.sIx_nat, natV_len]
    exact Nat.min_eq_left ht
  refine ⟨r, _, rfl, h, fun z => q r H (Exb.refl H) ?_, fun _ p np => q p _ (Ex.new np) (SqT.of ?_)⟩
  · rw [e2, natV_len] at z
    rw [z.2, List.take_of_length_le (Nat.le_refl _)]
    exact h
  · rw [upd_same]
    unfold cutV
    rw [e1, e2, List.drop_zero, Nat.sub_zero, natV_take]
instance (W : Wt) (S : List Nat) : Decidable (OneW W S) := inferInstanceAs (Decidable (_ = _))
end
end K62
/-! ==== B64x ==== -/
namespace K62
open PySem PySem.Spec PyProof.Rows L2 Fx Od
section
variable {P : Program} {w : World} {K : PySem.W.Frag} {mg : Str → Option Value} {base : Heap} {C : Addr} {Z : List (Addr × Str)}
def spLaw (K : PySem.W.Frag) (Z : List (Addr × Str)) : Sp := fun vs H Q _ => ∃ (a : Addr) (ns : List Int), vs = [.ref a] ∧ SqL K H a (ns.map V.int) ∧ ns.length ≤ 63 ∧ LamX.Tabs Z H ∧ ∀ H', Q (.bl true) H'
theorem sc_law : FnScope ["script", "tape", "lap", "watch", "length", "weights", "here", "whole", "tick", "rows", "means", "cheap", "begun", "shares", "row", "part", "kind", "sizes", "ticks", "least", "top", "bottom", "share", "mean", "size"] ["script"] (defScope s_law) := ⟨rfl, rfl, rfl, by decide +kernel, rfl, by decide +kernel, by decide +kernel⟩
theorem law_ok {fl : Addr} {fdl : FuncData} (T : Txt K mg C) (F : FunD K "law" "law" (defArgs s_law) (defBody s_law) (defScope s_law) [] [] fl fdl) (c_law_begun : C8.Cal P w K mg base 1 "_law_begun" (spLawBegun K Z) []) (c_law_draw : C8.Cal P w K mg base 2 "_law_draw" (spDraw Z) []) (c_law_watch : C8.Cal P w K mg base 3 "_law_watch" (spLawWatch K Z) [])
    (c_law_made : C8.Cal P w K mg base 9 "_law_made" (spMade K Z C) []) (c_law_weights : C8.Cal P w K mg base 4 "_law_weights" (spLawWeights Z) []) (c_law_filled : C8.Cal P w K mg base 1 "_law_filled" (spFilled K Z) []) (c_law_fraction : C8.Cal P w K mg base 2 "_law_fraction" (spLawFraction Z) [])
    (c_chance_reason : C8.Cal P w K mg base 8 "chance_reason" (spChance K Z C) []) (c_sure : C8.Cal P w K mg base 8 "sure" (spSure K Z C) []) (c_cheapest_reason : C8.Cal P w K mg base 8 "cheapest_reason" (spCheap K Z C) []) (c_odds : C8.Cal P w K mg base 7 "odds" (spOdds K Z C) []) (c_verdict_of : C8.Cal P w K mg base 8 "verdict_of" (spVerdict K Z C) [])
    (c_mean_sure : C8.Cal P w K mg base 5 "mean_sure" (spMean K Z C) []) : FnOk P w K mg base C8.CX0 10 fl fdl ["script"] (spLaw K Z) := by
  refine F.ok sc_law (by rintro _ _ _ _ ⟨_, _, rfl, _⟩; rfl) (k := 9) fun cdv A outer s H vs Q E hr h => ?_
  obtain ⟨a, ns, rfl, hS, hl, hZ, hq⟩ := h
  have hu := hu_of hr
  have hu64 := hr.units
  refine ⟨_, PSs.nox (pss_cons (ps_set (i := 1) sc_law.nd rfl (by first | exact Or.inl rfl | exact Or.inr rfl) (C8.pe_c c_law_begun hr (by decide) (by rfl) (pa_cons (pv 0) pa_nil)))
      (pss_cons (ps_for PassesOwn.never rfl (pi_range1 (by rfl) T.range (pa_cons (pe_op op_add pe_int (pe_callB (call_min2 rfl) (by rfl) T.min bt_min (pa_cons (pe_callB (lenK (K := K) rfl) (by rfl) T.len bt_len (pa_cons (pv 0) pa_nil)) (pa_cons pe_int pa_nil)))) pa_nil)) (pg_name (i := 2) sc_law.nd rfl (by first | exact Or.inl rfl | exact Or.inr rfl))
      (pss_cons (ps_asg (pe_tup (pa_cons (C8.pe_c c_law_watch hr (by decide) (by rfl) (pa_cons (pv 1) (pa_cons pe_int (pa_cons pe_int (pa_cons pe_int pa_nil))))) (pa_cons (C8.pe_c c_law_draw hr (by decide) (by rfl) (pa_cons (pv 1) (pa_cons pe_int pa_nil))) (pa_cons (C8.pe_c c_law_weights hr (by decide) (by rfl) (pa_cons (pv 1) (pa_cons pe_int pa_nil))) pa_nil)))) (pg_tupK (K := K) (n := 3) rfl rfl (pgs_cons (pg_name (i := 3) sc_law.nd rfl (by first | exact Or.inl rfl | exact Or.inr rfl)) (pgs_cons (pg_name (i := 4) sc_law.nd rfl (by first | exact Or.inl rfl | exact Or.inr rfl)) (pgs_cons (pg_name (i := 5) sc_law.nd rfl (by first | exact Or.inl rfl | exact Or.inr rfl)) pgs_nil)))))
      (pss_cons (ps_asg (pe_tup (pa_cons (C8.pe_c c_law_made hr (by decide) (by rfl) (pa_cons (pv 3) pa_nil)) (pa_cons pe_int pa_nil))) (pg_tupK (K := K) (n := 2) rfl rfl (pgs_cons (pg_name (i := 6) sc_law.nd rfl (by first | exact Or.inl rfl | exact Or.inr rfl)) (pgs_cons (pg_name (i := 7) sc_law.nd rfl (by first | exact Or.inl rfl | exact Or.inr rfl)) pgs_nil))))
      (pss_cons (ps_for PassesOwn.never rfl (pi_range1 (by rfl) T.range (pa_cons (pv 4) pa_nil)) (pg_name (i := 8) sc_law.nd rfl (by first | exact Or.inl rfl | exact Or.inr rfl))
      (pss_one (ps_set (i := 7) sc_law.nd rfl (by first | exact Or.inl rfl | exact Or.inr rfl) (pe_op op_mul (pv 7) (pe_callB (sumK (K := K) rfl rfl) (by rfl) T.sum bt_sum (pa_cons (pv 5) pa_nil))))))
      (pss_cons (ps_set (i := 9) sc_law.nd rfl (by first | exact Or.inl rfl | exact Or.inr rfl) (C8.pe_c c_law_filled hr (by decide) (by rfl) (pa_cons (pe_op (repAK (K := K) rfl) (pe_tup (pa_cons pe_non pa_nil)) (pv 4)) (pa_cons pe_int pa_nil))))
      (pss_cons (ps_par3 rfl sc_law.nd (i := 10) (j := 11) (l := 12) rfl rfl rfl (by decide) (by decide) (by decide) rfl rfl rfl (pa_cons (pe_op op_rep (pe_lst (pa_cons pe_int pa_nil)) pe_int) (pa_cons pe_int (pa_cons pe_int pa_nil))) (by rfl))
      (pss_cons (ps_set (i := 13) sc_law.nd rfl (by first | exact Or.inl rfl | exact Or.inr rfl) (pe_lst (pa_cons (pe_tup (pa_cons pe_int (pa_cons pe_int pa_nil))) (pa_cons (pe_tup (pa_cons (pe_op op_add pe_int (C8.pe_c c_law_draw hr (by decide) (by rfl) (pa_cons (pv 1) (pa_cons pe_int pa_nil)))) (pa_cons pe_int pa_nil))) (pa_cons (pe_tup (pa_cons (pe_op op_add pe_int (C8.pe_c c_law_draw hr (by decide) (by rfl) (pa_cons (pv 1) (pa_cons pe_int pa_nil)))) (pa_cons pe_int pa_nil))) (pa_cons (pe_tup (pa_cons pe_int (pa_cons pe_int pa_nil))) pa_nil))))))
      (pss_cons (ps_for PassesOwn.never rfl (pi_seqK (K := K) rfl (pv 9)) (pg_name (i := 14) sc_law.nd rfl (by first | exact Or.inl rfl | exact Or.inr rfl))
      (pss_cons (ps_set (i := 15) sc_law.nd rfl (by first | exact Or.inl rfl | exact Or.inr rfl) pe_int)
      (pss_cons (ps_for PassesOwn.never rfl (pi_seqK (K := K) rfl (pv 14)) (pg_name (i := 16) sc_law.nd rfl (by first | exact Or.inl rfl | exact Or.inr rfl))
      (pss_one (ps_set (i := 15) sc_law.nd rfl (by first | exact Or.inl rfl | exact Or.inr rfl) (pe_op op_mul (pv 15) (pe_ix (ixlK (K := K) rfl) (pv 5) (pv 16) (fun _ _ => rfl))))))
      (pss_cons (ps_setLc (i := 17) (own := [("share", 22)]) rfl sc_law.nd rfl rfl (sw_true rfl rfl rfl (by decide +kernel)) (pi_seqK (K := K) rfl (pv 13)) (blkOk_by (own := [("share", 22)]) (N := ["script", "tape", "lap", "watch", "length", "weights", "here", "whole", "tick", "rows", "means", "cheap", "begun", "shares", "row", "part", "kind", "sizes", "ticks", "least", "top", "bottom", "share", "mean", "size"]) (sc := defScope s_law) (by decide +kernel)) (fun _ _ _ _ _ => (pg_name (i := 22) sc_law.nd rfl (by first | exact Or.inl rfl | exact Or.inr rfl))) (fun _ _ _ _ _ => pts_nil) (fun _ _ _ _ _ => (pe_callB (lenK (K := K) rfl) (by rfl) T.len bt_len (pa_cons (C8.pe_c c_chance_reason hr (by decide) (by rfl) (pa_cons (pv 6) (pa_cons (pv 14) (pa_cons (pv 5) (pa_cons (pv 22) pa_nil))))) pa_nil))))
      (pss_cons (ps_set (i := 18) sc_law.nd rfl (by first | exact Or.inl rfl | exact Or.inr rfl) (pe_ix (ixlK (K := K) rfl) (pe_lc (own := [("tick", 8)]) rfl sc_law.nd (pi_range1 (by rfl) T.range (pa_cons (pe_op op_add (pv 4) pe_int) pa_nil)) (blkOk_by (own := [("tick", 8)]) (N := ["script", "tape", "lap", "watch", "length", "weights", "here", "whole", "tick", "rows", "means", "cheap", "begun", "shares", "row", "part", "kind", "sizes", "ticks", "least", "top", "bottom", "share", "mean", "size"]) (sc := defScope s_law) (by decide +kernel)) (fun _ _ _ _ _ => (pg_name (i := 8) sc_law.nd rfl (by first | exact Or.inl rfl | exact Or.inr rfl))) (fun _ _ _ _ _ => pts_one (pt_cmpR op_notN (C8.pe_c c_sure hr (by decide) (by rfl) (pa_cons (pv 6) (pa_cons (pe_op op_cat (pe_callTy (lstK (K := K) rfl) (by rfl) T.list bt_list (pa_cons (pe_slice (slAK (K := K) rfl) (pv 14) po_none (po_some (pv 8))) pa_nil)) (pe_op op_rep (pe_lst (pa_cons pe_non pa_nil)) (pe_op op_sub (pv 4) (pv 8)))) (pa_cons pe_str pa_nil)))) pe_non (nomark _))) (fun _ _ _ _ _ => (pv 8))) pe_int (fun _ _ => rfl)))
      (pss_cons (ps_set (i := 19) sc_law.nd rfl (by first | exact Or.inl rfl | exact Or.inr rfl) (pe_ix (ixtK (K := K) rfl) (C8.pe_c c_cheapest_reason hr (by decide) (by rfl) (pa_cons (pv 6) (pa_cons (pv 14) (pa_cons pe_str (pa_cons (pe_lst (pa_cons pe_int (pa_cons pe_int pa_nil))) pa_nil))))) pe_int (fun _ _ => rfl)))
      (pss_cons (ps_if (PW.pt (pw_or (pt_cmpR (neDK (K := K) rfl hu64) (pv 17) (pe_callB (sortK (K := K) rfl) (by rfl) T.sorted bt_sorted (pa_cons (pv 17) pa_nil)) (nomark _)) (pw_or (pt_cmpR op_ne (pe_ix (ixlK (K := K) rfl) (pv 17) pe_int (fun _ _ => rfl)) (pv 19) (nomark _)) (pw_or (pt_cmpR op_gt (pv 19) (pv 18) (nomark _)) (pw_or1 (pt_cmpR op_ne (pe_ix (ixlK (K := K) rfl) (pv 17) pe_int (fun _ _ => rfl)) pe_int (nomark _))))))) (pss_one (ps_ret pe_bl)) pss_nil)
      (pss_cons (ps_asg (pe_dget hu (C8.pe_c c_odds hr (by decide) (by rfl) (pa_cons (pv 6) (pa_cons (pe_op op_rep (pe_lst (pa_cons pe_non pa_nil)) (pv 4)) (pa_cons (pv 5) pa_nil)))) (C8.pe_c c_verdict_of hr (by decide) (by rfl) (pa_cons (pv 6) (pa_cons (pv 14) pa_nil))) (fun _ _ => rfl)) (pg_tupK (K := K) (n := 2) rfl rfl (pgs_cons (pg_name (i := 20) sc_law.nd rfl (by first | exact Or.inl rfl | exact Or.inr rfl)) (pgs_cons (pg_name (i := 21) sc_law.nd rfl (by first | exact Or.inl rfl | exact Or.inr rfl)) pgs_nil))))
      (pss_cons (ps_if (pt_cmpR op_ne (pe_cmpR op_eq (pe_ix (ixlK (K := K) rfl) (pv 17) pe_int (fun _ _ => rfl)) pe_int (nomark _)) (pe_cmpR op_ge (pe_op op_mul (pv 20) pe_int) (pe_op op_mul (pe_ix (ixtK (K := K) rfl) (pe_ix (ixlK (K := K) rfl) (pv 13) pe_int (fun _ _ => rfl)) pe_int (fun _ _ => rfl)) (pv 21)) (nomark _)) (nomark _)) (pss_one (ps_ret pe_bl)) pss_nil)
      (pss_cons (ps_setLc (i := 10) (own := [("mean", 23), ("size", 24)]) rfl sc_law.nd rfl rfl (sw_true rfl rfl rfl (by decide +kernel)) (pi_zip (by rfl) T.zip (pa_cons (pv 10) (pa_cons (pv 17) pa_nil))) (blkOk_by (own := [("mean", 23), ("size", 24)]) (N := ["script", "tape", "lap", "watch", "length", "weights", "here", "whole", "tick", "rows", "means", "cheap", "begun", "shares", "row", "part", "kind", "sizes", "ticks", "least", "top", "bottom", "share", "mean", "size"]) (sc := defScope s_law) (by decide +kernel)) (fun _ _ _ _ _ => (pg_tupK (K := K) (n := 2) rfl rfl (pgs_cons (pg_name (i := 23) sc_law.nd rfl (by first | exact Or.inl rfl | exact Or.inr rfl)) (pgs_cons (pg_name (i := 24) sc_law.nd rfl (by first | exact Or.inl rfl | exact Or.inr rfl)) pgs_nil)))) (fun _ _ _ _ _ => pts_nil) (fun _ _ _ _ _ => (pe_op op_add (pv 23) (pe_op op_mul (pv 15) (pv 24)))))
      (pss_one (ps_par rfl sc_law.nd (i := 11) (j := 12) rfl rfl (by decide) rfl rfl (pa_cons (pe_op op_add (pv 11) (pe_op op_mul (pv 15) (pv 19))) (pa_cons (pe_op op_add (pv 12) (pe_op op_mul (pv 15) (pv 18))) pa_nil)) (by rfl)))))))))))))
      (pss_one (ps_if (PW.pt (pw_or (pt_cmpR op_ne (pe_ix (ixlK (K := K) rfl) (pv 10) pe_int (fun _ _ => rfl)) (pv 11) (nomark _)) (pw_or (pt_cmpR (neDK (K := K) rfl hu64) (pv 10) (pe_callB (sortK (K := K) rfl) (by rfl) T.sorted bt_sorted (pa_cons (pv 10) pa_nil)) (nomark _)) (pw_or1 (pt_cmpR (neDK (K := K) rfl hu64) (C8.pe_c c_mean_sure hr (by decide) (by rfl) (pa_cons (pv 6) (pa_cons (pv 5) (pa_cons (pv 4) pa_nil)))) (C8.pe_c c_law_fraction hr (by decide) (by rfl) (pa_cons (pv 12) (pa_cons (pv 7) pa_nil))) (nomark _)))))) (pss_one (ps_ret pe_bl)) pss_nil))))))))))
      (pss_one (ps_ret pe_bl)))), ?_⟩
  refine ⟨_, rfl, a, ns, rfl, hS, by omega, fun tp al cl H1 x1 hT1 => ?_⟩
  refine ⟨_, rfl, a, _, rfl, .inl (x1.sqL hS), _, _, rfl, _, _, rfl, rfl, ?_⟩
  have hZ1 := x1.2 hZ
  have jb : (-(2 ^ 62) : Int) ≤ 2 + (if (4 : Int) < (((ns.map V.int).length : Nat) : Int) then 4 else (((ns.map V.int).length : Nat) : Int)) ∧ 2 + (if (4 : Int) < (((ns.map V.int).length : Nat) : Int) then 4 else (((ns.map V.int).length : Nat) : Int)) < 2 ^ 62 := by
    split <;> omega
  refine ⟨_, rfl, jb.1, jb.2, for_range (lo := 0) (fun i σ H' => ∃ u2 u3 u4 u5 u6 u7 u8 u9 u10 u11 u12 u13 u14 u15 u16 u17 u18 u19 u20 u21 u22 u23 u24, σ = [some (.ref a), some (.ref tp), u2, u3, u4, u5, u6, u7, u8, u9, u10, u11, u12, u13, u14, u15, u16, u17, u18, u19, u20, u21, u22, u23, u24] ∧ TapeAt H' tp al cl ∧ LamX.Tabs Z H') ⟨_, _, _, _, _, _, _, _, _, _, _, _, _, _, _, _, _, _, _, _, _, _, _, rfl, hT1, hZ1⟩ (fun i0 σ H2 hi0 ⟨u2, u3, u4, u5, u6, u7, u8, u9, u10, u11, u12, u13, u14, u15, u16, u17, u18, u19, u20, u21, u22, u23, u24, hσ, hT2, hZ2⟩ => ?_) fun σ H2 ⟨u2, u3, u4, u5, u6, u7, u8, u9, u10, u11, u12, u13, u14, u15, u16, u17, u18, u19, u20, u21, u22, u23, u24, hσ, hT2, hZ2⟩ => ?_⟩
  · subst hσ
    -- watch, length, weights
    refine ⟨_, rfl, tp, al, cl, 4, 2, 2, rfl, hT2, by decide, by decide, by decide, by decide, by decide, by decide, fun p W H3 ok hWk hWn hRaw3 x3 hT3 => ?_⟩
    refine ⟨_, rfl, tp, al, cl, 6, rfl, hT3, by decide, by decide, fun n H4 hn x4 hT4 => ?_⟩
    refine ⟨_, rfl, tp, al, cl, 2, rfl, hT4, by decide, fun wl ws H5 hws hwl5 nwl x5 hT5 => ?_⟩
    refine ⟨by show 3 ≤ sizeLine; decide, fun tq ntq => ⟨_, _, rfl, SqT.of upd_same, rfl, _, _, rfl, _, _, rfl, _, _, rfl, rfl, ?_⟩⟩
    have x6 : Ex Z H5 (upd H5 tq (.tup [.ref p, .int (n : Nat), .ref wl])) := Ex.new ntq
    have hT6 := hT5.ex x6
    have hRaw4 := hRaw3.exb x4 hT3.ml
    have hRaw5 := hRaw4.exb x5 hT4.ml
    have hRaw6 := hRaw5.exb x6 (fun b hb => absurd hb (by simp))
    have hwl6 := x6.lst hwl5
    have hZ6 := x6.2 (x5.2 (x4.2 (x3.2 hZ2)))
    generalize upd H5 tq (.tup [.ref p, .int (n : Nat), .ref wl]) = H6 at x6 hT6 hRaw6 hwl6 hZ6
    -- here, whole
    refine ⟨_, rfl, p, W, rfl, hRaw6, ok, hZ6, fun hx H7' x7' hHere7' => ?_⟩
    refine ⟨by show 2 ≤ sizeLine; decide, fun th nth => ⟨_, _, rfl, SqT.of upd_same, rfl, _, _, rfl, _, _, rfl, rfl, ?_⟩⟩
    have x7 : Ex Z H6 (upd H7' th (.tup [.ref hx, .int 1])) := x7'.trans (Ex.new nth)
    have hHere7 : WatchAt K C (upd H7' th (.tup [.ref hx, .int 1])) hx W := hHere7'.ex (Ex.new (Z := Z) nth)
    generalize upd H7' th (.tup [.ref hx, .int 1]) = H7 at x7 hHere7
    have hT7 := hT6.ex x7
    have hwl7 := x7.lst hwl6
    have hZ7 := x7.2 hZ6
    rw [← hWk] at hws hwl7
    have k1 := ok.k1
    have hws6 : ∀ c < W.k, 1 ≤ ws c ∧ ws c ≤ 1000000 := fun c hc => ⟨(hws c hc).1, by have := (hws c hc).2; omega⟩
    have hw0 : ∀ c < W.k, 0 < ws c := fun c hc => (hws c hc).1
    have htot : Od.sumTo ws W.k ≤ 60 := by
      have := sumTo_le (k := W.k) fun c hc => (hws c hc).2
      have h2 : W.k * 30 = 60 := by rw [hWk]
      omega
    -- whole
    refine ⟨_, rfl, (n : Nat), rfl, by omega, by omega, for_range (lo := 0) (n := n) (fun i σ H' => ∃ u8, σ = [some (.ref a), some (.ref tp), some (.int (0 + (i0 : Nat))), some (.ref p), some (.int (n : Nat)), some (.ref wl), some (.ref hx), some (.int (Od.sumTo ws W.k ^ i : Nat)), u8, u9, u10, u11, u12, u13, u14, u15, u16, u17, u18, u19, u20, u21, u22, u23, u24] ∧ H' = H7) ⟨_, rfl, rfl⟩ (fun i σ H8 hi ⟨u8, hσ, hH⟩ => ?_) fun σ H8 ⟨u8, hσ, hH⟩ => ?_⟩
    · subst hσ hH
      refine ⟨_, rfl, _, rfl, wl, ((List.range W.k).map fun c => ((ws c : Nat) : Int)), rfl, .inl (by rw [← lineV_ints]; exact SqL.of hwl7), ?_⟩
      rw [sumTo_cast]
      have hpow : Od.sumTo ws W.k ^ i ≤ 60 ^ 5 := Nat.le_trans (Nat.pow_le_pow_left htot i) (Nat.pow_le_pow_right (by decide) (by omega))
      have h60 : (60 : Nat) ^ 5 = 777600000 := by decide
      refine ⟨_, _, rfl, rfl, .inl ⟨by omega, by omega⟩, ?_⟩
      refine ⟨some (.int (0 + (i : Nat))), ?_, rfl⟩
      rw [Nat.pow_succ, Int.natCast_mul]
      rfl
    subst hσ hH
    -- rows
    refine ⟨by show 1 ≤ sizeLine; decide, fun tn ntn => ⟨_, rfl, ?_⟩⟩
    have x9 : Ex Z H8 (upd H8 tn (.tup [.non])) := Ex.new ntn
    refine none_rows (Z := Z) upd_same (by omega) fun s H9 x9' hs9 => ?_
    refine ⟨s, n, 2, rfl, hs9, by omega, by decide, fun rl H10 x10 hrl => ?_⟩
    have x810 := x9.trans (x9'.trans x10)
    clear x9 x9' x10
    have hT10 := hT7.ex x810
    rw [← hWk] at hrl
    -- means
    refine ⟨by show 1 ≤ sizeLine; decide, fun l1 nl1 => ⟨l1, 4, [.int 0], rfl, rfl, upd_same, by decide, by decide, by show 4 ≤ sizeLine; decide, fun ml nml => ?_⟩⟩
    have x11 : Ex Z H10 (upd H10 l1 (.lst [.int 0])) := Ex.new nl1
    have x12 : Ex Z (upd H10 l1 (.lst [.int 0])) (upd (upd H10 l1 (.lst [.int 0])) ml (.lst [.int 0, .int 0, .int 0, .int 0])) := Ex.new nml
    have nm := (hT10.ex x11).new nml
    have hml12 : (upd (upd H10 l1 (.lst [.int 0])) ml (.lst [.int 0, .int 0, .int 0, .int 0])) ml = some (.lst [.int 0, .int 0, .int 0, .int 0]) := upd_same
    have x812 := x810.trans (x11.trans x12)
    have hrl12 := hrl.ex (x11.trans x12)
    refine ⟨_, _, _, rfl, ?_⟩
    have eH12 : (upd (upd H10 l1 (.lst [.int 0])) ml (.lst (List.replicate (4 : Int).toNat [.int 0]).flatten)) = (upd (upd H10 l1 (.lst [.int 0])) ml (.lst [.int 0, .int 0, .int 0, .int 0])) := rfl
    generalize upd (upd H10 l1 (.lst [.int 0])) ml (.lst [.int 0, .int 0, .int 0, .int 0]) = H12 at x812 hml12 hrl12 eH12
    rw [eH12]
    clear x11 x12 eH12
    have hT12 := hT7.ex x812
    have hHere12 := hHere7.ex x812
    have hwl12 := x812.lst hwl7
    have hZ12 := x812.2 hZ7
    have hal : 0 < (allRows W.k n).length := by
      rw [allRows_length]
      exact Nat.pow_pos (by omega)
    -- shares
    refine ⟨by show 2 ≤ sizeLine; decide, fun a0 na0 => ?_⟩
    have x13 : Ex Z H12 (upd H12 a0 (.tup [.int 0, .int 1])) := Ex.new na0
    have ha0 : upd H12 a0 (.tup [.int 0, .int 1]) a0 = some (.tup [.int 0, .int 1]) := upd_same
    generalize upd H12 a0 (.tup [.int 0, .int 1]) = H13 at x13 ha0
    have hT13 := hT12.ex x13
    refine ⟨_, rfl, tp, al, cl, 4, rfl, hT13, by decide, by decide, fun d1 H14 hd1 x14 hT14 => ?_⟩
    refine ⟨_, _, rfl, rfl, by show 2 ≤ sizeLine; decide, fun a1 na1 => ?_⟩
    have x15 : Ex Z H14 (upd H14 a1 (.tup [.int (1 + (d1 : Nat)), .int 9])) := Ex.new na1
    have ha1 : FracAt (upd H14 a1 (.tup [.int (1 + (d1 : Nat)), .int 9])) a1 (1 + d1, 9) := by
      show upd H14 a1 _ a1 = _
      rw [upd_same, Int.natCast_add]
      rfl
    have ha0 := x15.tup (hT13.keepT x14 ha0)
    have hrl15 := LtAt.ex x15 (LtAt.keep hT13 x14 (hrl12.ex x13) hal)
    have hml15 := x15.lst (hT13.keepL x14 (x13.lst hml12) nm.2.1)
    have hwl15 := x15.lst (hT13.keepL x14 (x13.lst hwl12) nwl.2.1)
    have hHere15 := WatchAt.ex x15 ((hHere12.ex x13).exb x14 hT13.ml)
    have hZ15 := x15.2 (x14.2 (x13.2 hZ12))
    have hT15 := hT14.ex x15
    generalize upd H14 a1 (.tup [.int (1 + (d1 : Nat)), .int 9]) = H15 at x15 ha1 ha0 hrl15 hml15 hwl15 hHere15 hZ15 hT15
    refine ⟨_, rfl, tp, al, cl, 3, rfl, hT15, by decide, by decide, fun d2 H16 hd2 x16 hT16 => ?_⟩
    refine ⟨_, _, rfl, rfl, by show 2 ≤ sizeLine; decide, fun a2 na2 => ?_⟩
    have x17 : Ex Z H16 (upd H16 a2 (.tup [.int (6 + (d2 : Nat)), .int 9])) := Ex.new na2
    have ha2 : FracAt (upd H16 a2 (.tup [.int (6 + (d2 : Nat)), .int 9])) a2 (6 + d2, 9) := by
      show upd H16 a2 _ a2 = _
      rw [upd_same, Int.natCast_add]
      rfl
    have ha0 := x17.tup (hT15.keepT x16 ha0)
    have ha1 := x17.tup (hT15.keepT x16 ha1)
    have hrl17 := LtAt.ex x17 (LtAt.keep hT15 x16 hrl15 hal)
    have hml17 := x17.lst (hT15.keepL x16 hml15 nm.2.1)
    have hwl17 := x17.lst (hT15.keepL x16 hwl15 nwl.2.1)
    have hHere17 := WatchAt.ex x17 (hHere15.exb x16 hT15.ml)
    have hZ17 := x17.2 (x16.2 hZ15)
    have hT17 := hT16.ex x17
    generalize upd H16 a2 (.tup [.int (6 + (d2 : Nat)), .int 9]) = H17 at x17 ha2 ha1 ha0 hrl17 hml17 hwl17 hHere17 hZ17 hT17
    refine ⟨by show 2 ≤ sizeLine; decide, fun a3 na3 => ⟨by show 4 ≤ sizeLine; decide, fun sl nsl => ?_⟩⟩
    have x18 : Ex Z H17 (upd H17 a3 (.tup [.int 1, .int 1])) := Ex.new na3
    have x19 : Ex Z (upd H17 a3 (.tup [.int 1, .int 1])) (upd (upd H17 a3 (.tup [.int 1, .int 1])) sl (.lst [.ref a0, .ref a1, .ref a2, .ref a3])) := Ex.new nsl
    have ha3 := x19.tup (show (upd H17 a3 (.tup [.int 1, .int 1])) a3 = some (.tup [.int 1, .int 1]) from upd_same)
    have hsl : (upd (upd H17 a3 (.tup [.int 1, .int 1])) sl (.lst [.ref a0, .ref a1, .ref a2, .ref a3])) sl = some (.lst [.ref a0, .ref a1, .ref a2, .ref a3]) := upd_same
    have x1719 := x18.trans x19
    have L0 : Lp K Z C tp al cl hx wl sl rl W ws n (1 + d1) (6 + d2) (upd (upd H17 a3 (.tup [.int 1, .int 1])) sl (.lst [.ref a0, .ref a1, .ref a2, .ref a3])) :=
      ⟨hT17.ex x1719, x1719.2 hZ17, hHere17.ex x1719, x1719.lst hwl17, ⟨a0, a1, a2, a3, hsl, x1719.tup ha0, x1719.tup ha1, x1719.tup ha2, ha3⟩, hrl17.ex x1719⟩
    have hml := x1719.lst hml17
    generalize upd (upd H17 a3 (.tup [.int 1, .int 1])) sl (.lst [.ref a0, .ref a1, .ref a2, .ref a3]) = H0 at L0 hml
    have hs1 : 1 + d1 ≤ 4 := by omega
    have hs2 : 6 + d2 ≤ 8 := by omega
    have hs26 : 6 ≤ 6 + d2 := by omega
    generalize 1 + d1 = s1 at L0 hs1
    generalize 6 + d2 = s2 at L0 hs2 hs26
    clear x1719 x18 x19 x17 x16 x15 x14 x13 hT17 hZ17 hHere17 hwl17 hrl17 hml17 ha0 ha1 ha2 ha3 hsl hT16 hT15 hT14 hT13 hZ15 hHere15 hwl15 hrl15 hml15 hT12 hHere12 hwl12 hZ12 hml12 hrl12 hrl x812 x810 hT10 hs9 hT7 hwl7 hZ7 hHere7
    -- rows
    obtain ⟨rs, r1, r2, r3⟩ := L0.rows
    refine ⟨_, rfl, rl, _, rfl, .inl (SqL.of r1), fun J G wk hG => ?_⟩
    rw [List.length_map] at wk
    refine for_it wk (fun i σ H' => ∃ mi v14 v15 v16 v17 v18 v19 v20 v21 v22 v23 v24, σ = [some (.ref a), some (.ref tp), some (.int (0 + (i0 : Nat))), some (.ref p), some (.int (n : Nat)), some (.ref wl), some (.ref hx), some (.int (Od.sumTo ws W.k ^ n : Nat)), u8, some (.ref rl), some (.ref mi), some (.int (SumP ws (szF W ws (1, 1)) ((allRows W.k n).take i) : Nat)), some (.int (SumP ws (tk W 0) ((allRows W.k n).take i) : Nat)), some (.ref sl), v14, v15, v16, v17, v18, v19, v20, v21, v22, v23, v24] ∧ Ex Z H0 H' ∧ H' mi = some (.lst (fourV (fun f => SumP ws (szF W ws f) ((allRows W.k n).take i)) s1 s2)))
      ⟨ml, _, _, _, _, _, _, _, _, _, _, _, rfl, Exb.refl _, by rw [hml]; rfl⟩ (fun i σ H' _ ⟨_, _, _, _, _, _, _, _, _, _, _, _, _, x, _⟩ => hG Z [] H' (by simp) x) (fun i x σ H1' H2' hi ⟨mi, v14, v15, v16, v17, v18, v19, v20, v21, v22, v23, v24, hσ, x1', hmi⟩ hy => ?_) fun σ H1' ⟨mi, v14, v15, v16, v17, v18, v19, v20, v21, v22, v23, v24, hσ, x1', hmi⟩ => ?_
    · subst hσ
      obtain ⟨rfl, hx'⟩ := hy
      rw [List.getElem?_map, List.getElem?_eq_getElem hi] at hx'
      obtain rfl := Option.some.inj hx'
      have hi2 : i < (allRows W.k n).length := by omega
      have hrow0 := r3 i _ _ (List.getElem?_eq_getElem hi) (List.getElem?_eq_getElem hi2)
      have hget : (allRows W.k n)[i]? = some (allRows W.k n)[i] := List.getElem?_eq_getElem hi2
      have hmemr := mem_allRows.mp (List.getElem_mem hi2)
      generalize hrow : (allRows W.k n)[i] = row at hrow0 hget hmemr
      obtain ⟨hlen, hrk⟩ := hmemr
      generalize rs[i] = ra at hrow0
      rename_i _ _ _
      -- part
      refine ⟨_, rfl, ra, _, rfl, .inr (SqT.of (x1'.tup hrow0)), fun J2 G2 wk2 hG2 => ?_⟩
      rw [natV_len] at wk2
      refine for_it wk2 (fun j σ H' => ∃ u16, σ = [some (.ref a), some (.ref tp), some (.int (0 + (i0 : Nat))), some (.ref p), some (.int (n : Nat)), some (.ref wl), some (.ref hx), some (.int (Od.sumTo ws W.k ^ n : Nat)), u8, some (.ref rl), some (.ref mi), some (.int (SumP ws (szF W ws (1, 1)) ((allRows W.k n).take i) : Nat)), some (.int (SumP ws (tk W 0) ((allRows W.k n).take i) : Nat)), some (.ref sl), some (.ref ra), some (.int (part ws (row.take j) : Nat)), u16, v17, v18, v19, v20, v21, v22, v23, v24] ∧ Ex Z H0 H' ∧ Ex Z H2' H' ∧ H' mi = some (.lst (fourV (fun f => SumP ws (szF W ws f) ((allRows W.k n).take i)) s1 s2)))
        ⟨_, rfl, x1', Exb.refl _, hmi⟩ (fun j σ H' _ ⟨_, _, _, x, _⟩ => hG2 Z [] H' (by simp) x) (fun j x σ H3 H4 hj ⟨u16, hσ, x3, x13, hmi3⟩ hy => ?_) fun σ H3 ⟨u16, hσ, x3, x13, hmi3⟩ => ?_
      · subst hσ
        obtain ⟨rfl, hx2⟩ := hy
        obtain ⟨c, hc, rfl⟩ := natV_get hx2
        have hck := hrk c (List.mem_of_getElem? hc)
        have L3 := L0.ex x3
        refine ⟨_, rfl, _, rfl, _, rfl, ?_⟩
        refine ⟨_, _, _, _, rfl, rfl, SqL.of L3.wt, atI_nat (lineV_at hck), ?_⟩
        refine ⟨_, _, rfl, rfl, .inr ⟨by have := (hws c hck).1; omega, by have := (hws c hck).2; omega⟩, ?_⟩
        refine ⟨some (.int (c : Nat)), ?_, x3, x13, hmi3⟩
        rw [part_take hc, Int.natCast_mul]
        rfl
      subst hσ
      rw [List.take_of_length_le (Nat.le_refl _)]
      have L3 := L0.ex x3
      have hra3 : SqT K H3 ra (natV row) := SqT.of (x3.tup hrow0)
      have hR3 : RwAt K H3 ra W.k row := ⟨.inr hra3, by omega, hrk⟩
      have hpart : part ws row ≤ 30 ^ 5 := Nat.le_trans (part_le (k := W.k) (fun c hc => (hws c hc).2) hrk) (Nat.pow_le_pow_right (by decide) (by omega))
      have h30 : (30 : Nat) ^ 5 = 24300000 := by decide
      have hRow : ∀ s m, Hide row s m → s.length ≤ 300 ∧ Od.Row.Ok W.k s := fun s m h => ⟨by rw [h.len]; omega, h.ok hrk⟩
      obtain ⟨a0, a1, a2, a3, hsl, f0, f1, f2, f3⟩ := L3.sh
      -- sizes
      refine ⟨_, rfl, sl, _, rfl, .inl (SqL.of hsl), fun J3 G3 wk3 hG3 D hD => ?_⟩
      refine lcE (B := []) (Z := Z) wk3 hD (hG3 Z [] · (by simp)) (by show 4 ≤ 1000000; decide) (fun i' acc _ => acc = ((shs s1 s2).take i').map fun f => V.int (szF W ws f row : Nat)) rfl
        (fun i' acc x H5 H6 hi' x5 hacc hla hpi hy => ?_) fun acc H5 x5 hacc hpi => ?_
      · obtain ⟨rfl, hx2⟩ := hy
        obtain ⟨sh, f, rfl, hf, hfa, q1, q2, q3⟩ := sh_at f0 f1 f2 f3 hs1 hs2 i' _ hx2
        subst hpi
        refine ⟨rfl, _, rfl, _, rfl, _, rfl, _, rfl, hx, ra, wl, sh, W, row, ws, f, rfl, (L3.ex x5).here, ok, hR3.ex x5, by omega, ⟨.inl (SqL.of (L3.ex x5).wt), hws6⟩, hfa.ex x5, q1, q2, q3, (L3.ex x5).tabs, fun p' H7 ps x7 hps hsz => ?_⟩
        refine ⟨_, _, rfl, .inr (SqT.of hps), ?_⟩
        refine LcP.put x5 hD hacc (by simp) hla (by have : i' < 4 := hi'; omega) x7 ?_
        rw [List.take_add_one, hf, List.map_append, natV_len, ← szF_eq hsz]
        rfl
      have hS5 : H5 D = some (.lst (fourV (fun f => szF W ws f row) s1 s2)) := by
        rw [hacc, hpi, List.take_of_length_le (by show 4 ≤ 4; decide)]
        rfl
      have hmi5 := x5.lst hmi3
      have x05 := x3.trans x5
      have hR5 := hR3.ex x5
      have L5 := L3.ex x5
      -- ticks
      refine ⟨_, rfl, _, _, rfl, rfl, ((n + 1 : Nat) : Int), rfl, by omega, by omega, fun D2 hD2 => ?_⟩
      refine lcE (B := []) (Z := Z) (walk_range (lo := 0) (n := n + 1)) hD2 (fun _ _ => trivial) (by omega) (fun t acc _ => acc = natV (((List.range (n + 1)).take t).filter fun t => decide (OneW W (ledS W (beginS row t))))) rfl
        (fun t acc x H6 H7 hi' x6 hacc6 hla hpi6 hy => ?_) fun acc H6 x6 hacc6 hpi6 => ?_
      · obtain ⟨rfl, hy⟩ := hy
        have hy : x = V.int (0 + (t : Nat)) := hy
        rw [Int.zero_add] at hy
        subst hy hpi6
        have x36 := x05.trans x6
        refine ⟨rfl, _, rfl, _, rfl, _, rfl, ?_⟩
        refine ⟨_, rfl, take_slice (Z := Z) (t := t) ((x5.trans x6).sqT hra3) (by omega) fun s8 H8 x8 hs8 => ?_⟩
        refine ⟨_, _, rfl, .inr hs8, fun l9 nl9 => ?_⟩
        have x9 : Ex Z H8 (upd H8 l9 (.lst (natV (row.take t)))) := Ex.new nl9
        have h9 : upd H8 l9 (.lst (natV (row.take t))) l9 = some (.lst (natV (row.take t))) := upd_same
        generalize upd H8 l9 (.lst (natV (row.take t))) = H9 at x9 h9
        refine ⟨by show 1 ≤ sizeLine; decide, fun l10 nl10 => ?_⟩
        have x10 : Ex Z H9 (upd H9 l10 (.lst [.non])) := Ex.new nl10
        have h10 : upd H9 l10 (.lst [.non]) l10 = some (.lst [.non]) := upd_same
        generalize upd H9 l10 (.lst [.non]) = H10 at x10 h10
        refine ⟨_, rfl, _, rfl, _, _, rfl, rfl, ?_⟩
        have hsub : ((n : Nat) : Int) - ((t : Nat) : Int) = ((n - t : Nat) : Int) := by omega
        refine ⟨l10, _, [.non], rfl, rfl, h10, by omega, by omega, by rw [hsub, Int.toNat_natCast]; show 1 * (n - t) ≤ sizeLine; rw [sizeLine_eq]; omega, fun l11 nl11 => ?_⟩
        have x11 : Ex Z H10 (upd H10 l11 (.lst (List.replicate (((n : Nat) : Int) - ((t : Nat) : Int)).toNat [V.non]).flatten)) := Ex.new nl11
        have h11 : upd H10 l11 (.lst (List.replicate (((n : Nat) : Int) - ((t : Nat) : Int)).toNat [V.non]).flatten) l11 = some (.lst (List.replicate (row.length - t) V.non)) := by
          rw [upd_same, hsub, Int.toNat_natCast, rep_none H10, hlen]
        generalize upd H10 l11 (.lst (List.replicate (((n : Nat) : Int) - ((t : Nat) : Int)).toNat [V.non]).flatten) = H11 at x11 h11
        refine ⟨l9, l11, _, _, rfl, rfl, (x10.trans x11).lst h9, h11, by rw [natV_len, List.length_replicate, sizeLine_eq, List.length_take]; omega, fun l12 nl12 => ?_⟩
        have x12 : Ex Z H11 (upd H11 l12 (.lst (natV (row.take t) ++ List.replicate (row.length - t) V.non))) := Ex.new nl12
        have h12 : upd H11 l12 (.lst (natV (row.take t) ++ List.replicate (row.length - t) V.non)) l12 = some (.lst (rowV (beginS row t))) := by
          rw [upd_same, beginV]
        generalize upd H11 l12 (.lst (natV (row.take t) ++ List.replicate (row.length - t) V.non)) = H12 at x12 h12
        have x612 := x8.trans (x9.trans (x10.trans (x11.trans x12)))
        have hid := Hide.begin row t (by omega)
        refine ⟨hx, l12, W, beginS row t, rfl, (L5.ex (x6.trans x612)).here, ok, ⟨.inl (SqL.of h12), hRow _ _ hid⟩, fun v H13 x13' hv => ?_⟩
        have x613 := x612.trans x13'
        have hstep : ∀ b, decide (OneW W (ledS W (beginS row t))) = b → natV (((List.range (n + 1)).take (t + 1)).filter fun t => decide (OneW W (ledS W (beginS row t)))) = natV (((List.range (n + 1)).take t).filter fun t => decide (OneW W (ledS W (beginS row t)))) ++ (if b = true then [V.int (t : Nat)] else []) := fun b hb => by
          rw [List.take_add_one, List.getElem?_range hi', List.filter_append]
          unfold natV
          rw [List.map_append]
          congr 1
          show List.map _ (List.filter _ [t]) = _
          rw [List.filter_cons, hb]
          cases b <;> rfl
        rcases hv with ⟨ho, xw, rfl⟩ | ⟨ho, rfl⟩
        · refine ⟨rfl, true, rfl, ?_⟩
          refine ⟨_, rfl, ?_⟩
          refine LcP.put x6 hD2 hacc6 (by simp) hla (by omega) x613 ?_
          rw [hstep true (decide_eq_true ho)]
          rfl
        · refine ⟨rfl, false, rfl, x6.trans x613, _, x613.lst hacc6, by omega, ?_⟩
          exact (List.append_nil _).symm.trans (hstep false (decide_eq_false ho)).symm
      rw [List.take_of_length_le (by simp)] at hpi6
      subst hpi6
      have htk := tk_head ok hrk (fun t => decide (OneW W (ledS W (beginS row t)))) (fun t _ => decide_eq_true_iff)
      rw [hlen] at htk
      refine ⟨D2, _, 0, .int (tk W 0 row : Nat), rfl, rfl, SqL.of hacc6, atI_nat (j := 0) (by unfold natV; rw [List.getElem?_map, htk]; rfl), ?_⟩
      have hS6 := x6.lst hS5
      have hmi6 := x6.lst hmi5
      have x06 := x05.trans x6
      have hR6 := hR5.ex x6
      have L6 := L5.ex x6
      -- least
      refine ⟨_, rfl, _, rfl, by show 2 ≤ sizeLine; decide, fun lp nlp => ?_⟩
      have x7 : Ex Z H6 (upd H6 lp (.lst [.int 1, .int 1])) := Ex.new nlp
      have h7 : upd H6 lp (.lst [.int 1, .int 1]) lp = some (.lst (lineV W.k fun _ => 1)) := by
        rw [upd_same, hWk]
        rfl
      generalize upd H6 lp (.lst [.int 1, .int 1]) = H7 at x7 h7
      refine ⟨hx, ra, lp, W, row, rfl, (L6.ex x7).here, ok, hR6.ex x7, by omega, .inl (SqL.of h7), (L6.ex x7).tabs, fun pc H8 m x8 hpc hch => ?_⟩
      obtain ⟨pt, ns', hpT, _, _⟩ := hpc
      refine ⟨_, _, _, _, rfl, rfl, hpT, atI_nat (j := 0) rfl, ?_⟩
      have hsz1 : szF W ws (1, 1) row = m := szF_eq (by
        obtain ⟨m', hm'⟩ := Size.there (ws := ws) ok hw0 hrk (sh := (1, 1)) (by decide)
        rw [← hm'.cheap ok hw0 hrk hch]
        exact hm')
      have x78 := x7.trans x8
      have hS8 := x78.lst hS6
      have hmi8 := x78.lst hmi6
      have x08 := x06.trans x78
      have hR8 := hR6.ex x78
      have L8 := L6.ex x78
      clear L3 hra3 hR3 hS5 hmi5 x05 hR5 L5 hS6 hmi6 x06 hR6 L6 x7 x8 x78 x6 x5 hacc6 hacc h7 hpT hpi hsl f0 f1 f2 f3
      have hszm : ∀ {f : Nat × Nat}, f.1 ≤ f.2 → Size W ws row f (szF W ws f row) := fun h => szF_size (Size.there ok hw0 hrk h)
      have hS8i := hS8
      rw [fourV_ints] at hS8i
      have asc : ((shs s1 s2).map fun s => ((szF W ws s row : Nat) : Int)).Pairwise (· ≤ ·) :=
        fourV_asc (f := fun s => szF W ws s row) (sz_mono ok hw0 hrk (by decide) (by show s1 ≤ 9; omega) (by show 0 < 9; decide) (by show 0 * 9 ≤ s1 * 1; omega)) (sz_mono ok hw0 hrk (by show s1 ≤ 9; omega) (by show s2 ≤ 9; omega) (by show 0 < 9; decide) (by show s1 * 9 ≤ s2 * 9; omega)) (sz_mono ok hw0 hrk (by show s2 ≤ 9; omega) (by decide) (by decide) (by show s2 * 1 ≤ 1 * 9; omega))
      refine ⟨_, rfl, _, rfl, ?_⟩
      refine ne_sorted (Z := Z) hS8i (by rw [List.length_map]; show 4 < 64; decide) asc fun H9 x9 => ⟨false, rfl, ?_⟩
      have hS9 := x9.lst hS8
      have hmi9 := x9.lst hmi8
      have x09 := x08.trans x9
      have hR9 := hR8.ex x9
      have L9 := L8.ex x9
      have hzero : szF W ws (0, 1) row = 0 := (hszm (f := (0, 1)) (by decide)).zero_iff.mpr (by show 0 * _ ≤ _; omega)
      have htkle : m ≤ tk W 0 row := hch.le (tk_le row 0) ((sure_begin ok hrk (tk_le row 0)).mpr (tk_sure row 0))
      refine ⟨_, rfl, _, _, _, _, rfl, rfl, SqL.of hS9, atI_nat (j := 3) (v := .int (szF W ws (1, 1) row : Nat)) rfl, ?_⟩
      refine ⟨_, rfl, rfl, false, neF (by rw [hsz1]), ?_⟩
      refine ⟨_, rfl, _, rfl, _, _, rfl, rfl, false, blF (by omega), ?_⟩
      refine ⟨_, rfl, _, _, _, _, rfl, rfl, SqL.of hS9, atI_nat (j := 0) (v := .int (szF W ws (0, 1) row : Nat)) rfl, rfl, false, neF (by rw [hzero]; rfl), ?_⟩
      -- odds of the unknown row
      have hidn := Hide.none_ row
      rw [hlen] at hidn
      have hMpos := M_led_pos (ws := ws) ok hw0 hrk hidn
      have hMle := M_le (ws := ws) ok (List.replicate n none) (W.wd (led W 0 row))
      have hwn : whole ws W.k (List.replicate n none) ≤ 60 ^ 5 := by
        exact Nat.le_trans (Nat.pow_le_pow_left htot _) (Nat.pow_le_pow_right (by decide) (Nat.le_trans (unk_le _) (by rw [List.length_replicate]; omega)))
      have h60 : (60 : Nat) ^ 5 = 777600000 := by decide
      have hwp : 0 < whole ws W.k (List.replicate n none) := whole_pos ok.k1 hw0 _
      refine ⟨_, rfl, by show 1 ≤ sizeLine; decide, fun l10 nl10 => ?_⟩
      have x10 : Ex Z H9 (upd H9 l10 (.lst [.non])) := Ex.new nl10
      have h10 : upd H9 l10 (.lst [.non]) l10 = some (.lst [.non]) := upd_same
      generalize upd H9 l10 (.lst [.non]) = H10 at x10 h10
      refine ⟨_, rfl, l10, ((n : Nat) : Int), [.non], rfl, rfl, h10, by omega, by omega, by rw [Int.toNat_natCast]; show 1 * n ≤ sizeLine; rw [sizeLine_eq]; omega, fun l11 nl11 => ?_⟩
      have x11 : Ex Z H10 (upd H10 l11 (.lst (List.replicate (((n : Nat) : Int)).toNat [V.non]).flatten)) := Ex.new nl11
      have h11 : upd H10 l11 (.lst (List.replicate (((n : Nat) : Int)).toNat [V.non]).flatten) l11 = some (.lst (rowV (List.replicate n none))) := by
        rw [upd_same, Int.toNat_natCast, rep_none H10, row_none]
      generalize upd H10 l11 (.lst (List.replicate (((n : Nat) : Int)).toNat [V.non]).flatten) = H11 at x11 h11
      have x911 := x10.trans x11
      refine ⟨_, rfl, hx, l11, wl, W, List.replicate n none, ws, rfl, (L9.ex x911).here, ok, ⟨.inl (SqL.of h11), hRow _ _ hidn⟩, ⟨.inl (SqL.of (L9.ex x911).wt), hws6⟩, fun po H12 x12 _ hfd => ?_⟩
      have x912 := x911.trans x12
      refine ⟨_, rfl, _, rfl, hx, ra, W, row, rfl, (L9.ex x912).here, ok, hR9.ex x912, (L9.ex x912).tabs, fun H13 x13' => ?_⟩
      have x913 := x912.trans x13'
      obtain ⟨fa, hdg, hfa⟩ := (hfd.ex x13').get (v := W.wd (led W 0 row)) (show otab W ws (List.replicate n none) _ = some _ from if_neg (Nat.ne_of_gt hMpos))
      refine ⟨po, _, rfl, hdg, ?_⟩
      refine ⟨_, _, rfl, SqT.of hfa, rfl, _, _, rfl, _, _, rfl, rfl, ?_⟩
      have hS13 := x913.lst hS9
      have hmi13 := x913.lst hmi9
      have x013 := x09.trans x913
      have L13 := L9.ex x913
      obtain ⟨b0, b1, b2, b3, hsl13, g0, g1, g2, g3⟩ := L13.sh
      have hb1 := frac_le1 (M W ws (List.replicate n none) (W.wd (led W 0 row))) (whole ws W.k (List.replicate n none))
      have hb2 := frac_le2 (M W ws (List.replicate n none) (W.wd (led W 0 row))) (whole ws W.k (List.replicate n none))
      have hcross := cross_frac (m := M W ws (List.replicate n none) (W.wd (led W 0 row))) (s := s1) (t := 9) hwp
      generalize frac (M W ws (List.replicate n none) (W.wd (led W 0 row))) (whole ws W.k (List.replicate n none)) = fr at hb1 hb2 hcross
      refine ⟨_, rfl, _, _, _, _, rfl, rfl, SqL.of hS13, atI_nat (j := 1) (v := .int (szF W ws (s1, 9) row : Nat)) rfl, rfl, ?_⟩
      refine ⟨_, rfl, _, _, rfl, rfl, .inl ⟨by omega, by omega⟩, ?_⟩
      refine ⟨_, rfl, _, _, _, _, rfl, rfl, SqL.of hsl13, atI_nat (j := 1) (v := .ref b1) rfl, ?_⟩
      refine ⟨_, _, _, _, rfl, rfl, SqT.of g1, atI_nat (j := 0) (v := .int (s1 : Nat)) rfl, ?_⟩
      refine ⟨_, rfl, _, _, rfl, rfl, .inl ⟨by omega, by omega⟩, ?_⟩
      refine ⟨_, _, rfl, rfl, rfl, false, neF (congrArg V.bl (decide_eq_decide.mpr ?_)), ?_⟩
      · have hz := (hszm (f := (s1, 9)) (by show s1 ≤ 9; omega)).zero_iff
        unfold Lk at hz
        rw [hlen] at hz
        have hz : szF W ws (s1, 9) row = 0 ↔ s1 * fr.2 ≤ fr.1 * 9 := hz.trans hcross.symm
        constructor
        · intro e
          have e : szF W ws (s1, 9) row = 0 := by
            have := V.int.inj e
            omega
          have := Int.ofNat_le.mpr (hz.mp e)
          rw [Int.natCast_mul, Int.natCast_mul] at this
          exact this
        · intro e
          have e : ((s1 : Nat) : Int) * ((fr.2 : Nat) : Int) ≤ ((fr.1 : Nat) : Int) * 9 := e
          have : s1 * fr.2 ≤ fr.1 * 9 := by
            apply Int.ofNat_le.mp
            rw [Int.natCast_mul, Int.natCast_mul]
            exact e
          rw [hz.mpr this]
          rfl
      -- means
      refine ⟨_, rfl, _, rfl, mi, D, _, _, rfl, SqL.of hmi13, SqL.of hS13, fun D3 hD3 => ?_⟩
      refine lcE (B := []) (Z := Z) (walk_zip (n := 4) (by rfl)) hD3 (fun H' x => ⟨SqL.of (x.lst hmi13), SqL.of (x.lst hS13)⟩) (by decide) (fun i' acc _ => acc = ((shs s1 s2).take i').map fun f => V.int (SumP ws (szF W ws f) ((allRows W.k n).take (i + 1)) : Nat)) rfl
        (fun i' acc x H14 H15 hi' x14 hacc14 hla hpi hy => ?_) fun acc H14 x14 hacc14 hpi => ?_
      · obtain ⟨T0, y1, y2, rfl, nT0, rfl, e1, e2⟩ := hy
        have e1 : ((shs s1 s2).map fun f => V.int (SumP ws (szF W ws f) ((allRows W.k n).take i) : Nat))[i']? = some y1 := e1
        have e2 : ((shs s1 s2).map fun f => V.int (szF W ws f row : Nat))[i']? = some y2 := e2
        rw [List.getElem?_map] at e1 e2
        obtain ⟨f, hf, rfl⟩ := Option.map_eq_some_iff.mp e1
        rw [hf] at e2
        obtain rfl := Option.some.inj e2
        subst hpi
        refine ⟨_, _, rfl, SqT.of upd_same, rfl, _, _, rfl, _, _, rfl, rfl, rfl, ?_⟩
        refine ⟨_, rfl, _, rfl, _, rfl, _, _, rfl, rfl, .inl ⟨by omega, by omega⟩, _, _, rfl, rfl, ?_⟩
        refine LcP.put x14 hD3 hacc14 (by simp) hla (by omega) (Exb.new nT0) ?_
        rw [List.take_add_one (l := shs s1 s2), hf, List.map_append]
        congr 1
        show [V.int _] = [V.int _]
        rw [SumP_take hget, Int.natCast_add, Int.natCast_mul]
      rw [List.take_of_length_le (l := shs s1 s2) (by show 4 ≤ 4; decide)] at hpi
      subst hpi
      refine ⟨_, rfl, _, rfl, _, rfl, _, _, rfl, rfl, .inl ⟨by omega, by omega⟩, _, _, rfl, rfl, ?_⟩
      refine ⟨_, rfl, _, rfl, _, rfl, _, _, rfl, rfl, .inl ⟨by omega, by omega⟩, _, _, rfl, rfl, _, _, rfl, ?_⟩
      refine ⟨D3, some (.ref ra), some (.int (part ws row : Nat)), u16, some (.ref D), some (.int (tk W 0 row : Nat)), some (.int (m : Nat)), some (.int (fr.1 : Nat)), some (.int (fr.2 : Nat)), v22, v23, v24, ?_, x013.trans x14, hacc14⟩
      rw [SumP_take hget, SumP_take hget, hsz1, Int.natCast_add, Int.natCast_mul, Int.natCast_add, Int.natCast_mul]
      rfl
    · subst hσ
      rw [r2, List.take_of_length_le (Nat.le_refl _)] at hmi
      rw [r2, List.take_of_length_le (Nat.le_refl _)]
      have L1 := L0.ex x1'
      have hmi' := hmi
      rw [fourV_ints] at hmi'
      have asc : ((shs s1 s2).map fun s => ((SumP ws (szF W ws s) (allRows W.k n) : Nat) : Int)).Pairwise (· ≤ ·) :=
        fourV_asc (f := fun s => SumP ws (szF W ws s) (allRows W.k n)) (sum_mono ok hw0 (by decide) (by show s1 ≤ 9; omega) (by show 0 < 9; decide) (by show 0 * 9 ≤ s1 * 1; omega)) (sum_mono ok hw0 (by show s1 ≤ 9; omega) (by show s2 ≤ 9; omega) (by show 0 < 9; decide) (by show s1 * 9 ≤ s2 * 9; omega)) (sum_mono ok hw0 (by show s2 ≤ 9; omega) (by decide) (by decide) (by show s2 * 1 ≤ 1 * 9; omega))
      refine ⟨_, rfl, ?_⟩
      refine ⟨_, _, _, _, rfl, rfl, SqL.of hmi, atI_nat (j := 3) (v := .int (SumP ws (szF W ws (1, 1)) (allRows W.k n) : Nat)) rfl, ?_⟩
      refine ⟨_, rfl, rfl, false, neF rfl, ?_⟩
      refine ⟨_, rfl, _, rfl, ?_⟩
      refine ne_sorted (Z := Z) hmi' (by rw [List.length_map]; show 4 < 64; decide) asc fun H2 x2 => ⟨false, rfl, ?_⟩
      have L2 := L1.ex x2
      have hS2 : SqL K H2 wl (lineV W.k ws) := SqL.of L2.wt
      refine ⟨_, rfl, _, rfl, _, rfl, hx, wl, W, ws, n, rfl, L2.here, ok, ⟨.inl hS2, hws6⟩, by omega, fun q1 H3' x3' hq1 => ?_⟩
      have hpow : Od.sumTo ws W.k ^ n ≤ 60 ^ 5 := Nat.le_trans (Nat.pow_le_pow_left htot n) (Nat.pow_le_pow_right (by decide) (by omega))
      have hpos : 0 < Od.sumTo ws W.k ^ n := Nat.pow_pos (sumTo_pos ok.k1 hw0)
      have hbeg : SumP ws (tk W 0) (allRows W.k n) ≤ 5 * 60 ^ 5 := by
        have h1 : Sr W.k ws n (tk W 0) ≤ Sr W.k ws n (fun _ => 5) := Sr_le fun r hr => Nat.le_trans (tk_le r 0) (by have := (mem_allRows.mp hr).1; omega)
        rw [Sr_mulc] at h1
        exact Nat.le_trans h1 (Nat.mul_le_mul_left 5 hpow)
      have hprod : SumP ws (tk W 0) (allRows W.k n) * Od.sumTo ws W.k ^ n < 2 ^ 15000 := Nat.lt_of_le_of_lt (Nat.mul_le_mul hbeg hpow) (Nat.lt_of_lt_of_le (show 5 * 60 ^ 5 * 60 ^ 5 < 2 ^ 100 by decide) (Nat.pow_le_pow_right (by decide) (by decide)))
      refine ⟨_, rfl, _, rfl, _, _, rfl, hpos, Nat.lt_of_le_of_lt hpow (Nat.lt_of_lt_of_le (show 60 ^ 5 < 2 ^ 100 by decide) (Nat.pow_le_pow_right (by decide) (by decide))), hprod, fun q2 H4' x4' hq2 => ?_⟩
      have hq1' := hq1.ex' x4'
      have em : meanN W ws n = frac (SumP ws (tk W 0) (allRows W.k n)) (Od.sumTo ws W.k ^ n) := by
        unfold meanN
        rw [mean_begun]
        rfl
      rw [em] at hq1'
      refine ne_same hq1'.dp hq2.dp rfl ⟨false, rfl, ?_⟩
      have L4 := L2.ex (x3'.trans x4')
      exact ⟨_, _, _, _, _, _, _, _, _, _, _, _, _, _, _, _, _, _, _, _, _, _, _, rfl, L4.tape, L4.tabs⟩
  · subst hσ
    exact hq _
end
end K62
/-! ==== E64 ==== -/
namespace K62
open PySem PySem.Spec PyProof.Rows L2 Fx Od
section
variable {P : Program} {w : World} {K : PySem.W.Frag} {h : Heap} {mg : Str → Option Value}
theorem tup0_ok {K : PySem.W.Frag} {x : Str} (h : tup0B K x = true) (H : Hp) : SqT K H (He.ga K x) [.int 0] := by
  unfold tup0B at h
  cases q : K.lookup (He.ga K x) with
  | none =>
    rw [q] at h
    cases h
  | some o =>
    obtain ⟨oc, od, dt, osl⟩ := o
    rw [q] at h
    cases oc with
    | type t =>
      cases dt with
      | seq its n =>
        obtain ⟨h1, h2⟩ := He.ba (show (decide (t = "tuple") && (match its.toList with | [.int i _] => decide (i = 0) | _ => false)) = true from h)
        have h1 := of_decide_eq_true h1
        subst h1
        cases e : its.toList with
        | nil =>
          rw [e] at h2
          cases h2
        | cons v r =>
          rw [e] at h2
          cases v with
          | int i t =>
            cases r with
            | nil =>
              have h2 : decide (i = 0) = true := h2
              have h2 := of_decide_eq_true h2
              subst h2
              refine .inr ⟨_, its, n, q, rfl, rfl, ?_, ?_⟩
              · have : its.size = 1 := by rw [← Array.length_toList, e]; rfl
                rw [this]
                decide
              · rw [e]
                exact .cons ⟨t, rfl⟩ .nil
            | cons _ _ => cases h2
          | _ => cases h2
      | _ => cases h
    | _ => cases h
theorem txt_of (X : K.In h) (G : h.Ns mainGlobals mg) (d : He.SaysD hfa hfn K) (hex : hex_ K = true) : Txt K mg (He.ga K "Watch") := by
  obtain ⟨hx0, hr1⟩ := He.ba hex
  obtain ⟨hx1, hr2⟩ := He.ba hr1
  have hx2 := hr2
  exact ⟨He.free_ok X G (d.fact 66 (f := .free "abs") rfl),
    He.free_ok X G (d.fact 67 (f := .free "all") rfl),
    He.free_ok X G (d.fact 68 (f := .free "bool") rfl),
    He.free_ok X G (d.fact 69 (f := .free "enumerate") rfl),
    He.free_ok X G (d.fact 70 (f := .free "int") rfl),
    He.free_ok X G (d.fact 71 (f := .free "isinstance") rfl),
    He.free_ok X G (d.fact 72 (f := .free "len") rfl),
    He.free_ok X G (d.fact 73 (f := .free "list") rfl),
    He.free_ok X G (d.fact 82 (f := .free "zip") rfl),
    He.free_ok X G (d.fact 78 (f := .free "str") rfl),
    He.free_ok X G (d.fact 74 (f := .free "min") rfl),
    He.free_ok X G (d.fact 76 (f := .free "range") rfl),
    He.free_ok X G (d.fact 77 (f := .free "sorted") rfl),
    He.free_ok X G (d.fact 79 (f := .free "sum") rfl),
    He.free_ok X G (d.fact 81 (f := .free "tuple") rfl),
    (by obtain ⟨t, e⟩ := He.int_ok X G (d.fact 83 (f := .int "MOST_EVENTS" 300) rfl); exact ⟨_, e, t, rfl⟩),
    (by obtain ⟨t, e⟩ := He.int_ok X G (d.fact 84 (f := .int "MOST_KINDS" 4) rfl); exact ⟨_, e, t, rfl⟩),
    (by obtain ⟨t, e⟩ := He.int_ok X G (d.fact 85 (f := .int "MOST_WORD" 3) rfl); exact ⟨_, e, t, rfl⟩),
    (by obtain ⟨t, e⟩ := He.int_ok X G (d.fact 86 (f := .int "MOST_PLACES" 6) rfl); exact ⟨_, e, t, rfl⟩),
    (by obtain ⟨t, e⟩ := He.int_ok X G (d.fact 87 (f := .int "MOST_PRICE_tariffs" 1000000) rfl); exact ⟨_, e, t, rfl⟩),
    (by obtain ⟨t, e⟩ := He.int_ok X G (d.fact 91 (f := .int "MOST_PRICE_cheapest" 1000000) rfl); exact ⟨_, e, t, rfl⟩),
    (by obtain ⟨t, e⟩ := He.int_ok X G (d.fact 88 (f := .int "MOST_TRIED" 14) rfl); exact ⟨_, e, t, rfl⟩),
    (by obtain ⟨t, e⟩ := He.int_ok X G (d.fact 89 (f := .int "MOST_BOTTOM" 1000000) rfl); exact ⟨_, e, t, rfl⟩),
    (by obtain ⟨t, e⟩ := He.int_ok X G (d.fact 90 (f := .int "MOST_LENGTH" 40) rfl); exact ⟨_, e, t, rfl⟩),
    (by obtain ⟨t, e⟩ := He.str_ok X G (d.fact 97 (f := .str "COUNTED" "counted") rfl); exact ⟨_, e, t, rfl⟩),
    (by obtain ⟨t, e⟩ := He.str_ok X G (d.fact 98 (f := .str "LOST" "lost") rfl); exact ⟨_, e, t, rfl⟩),
    ⟨_, He.glo_ok X G (d.fact 96 (f := .glo "BEGIN") rfl), rfl⟩,
    tup0_ok hx1,
    ⟨_, He.glo_ok X G (d.fact 64 (f := .glo "Watch") rfl), rfl⟩,
    He.cls_ok (d.fact 92 (f := .cls "Watch") rfl),
    He.noat_ok (d.fact 94 (f := .noat "Watch" "own_moves") rfl),
    He.noat_ok (d.fact 95 (f := .noat "Watch" "own_words") rfl),
    insB_ok (He.cls_ok (d.fact 92 (f := .cls "Watch") rfl)) hx0⟩
theorem df_is_number (X : K.In h) (G : h.Ns mainGlobals mg) (d : He.SaysD hfa hfn K) : Df K mg "is_number" s_is_number [] := by
  obtain ⟨fd, F⟩ := d.def_ 0 (d := hd_s_is_number) rfl
  exact ⟨_, fd, F, He.glo_ok X G (d.fact 0 (f := .glo "is_number") rfl)⟩
theorem df_is_between (X : K.In h) (G : h.Ns mainGlobals mg) (d : He.SaysD hfa hfn K) : Df K mg "is_between" s_is_between [] := by
  obtain ⟨fd, F⟩ := d.def_ 1 (d := hd_s_is_between) rfl
  exact ⟨_, fd, F, He.glo_ok X G (d.fact 1 (f := .glo "is_between") rfl)⟩
theorem df_is_list (X : K.In h) (G : h.Ns mainGlobals mg) (d : He.SaysD hfa hfn K) : Df K mg "is_list" s_is_list [] := by
  obtain ⟨fd, F⟩ := d.def_ 2 (d := hd_s_is_list) rfl
  exact ⟨_, fd, F, He.glo_ok X G (d.fact 2 (f := .glo "is_list") rfl)⟩
theorem df_is_word (X : K.In h) (G : h.Ns mainGlobals mg) (d : He.SaysD hfa hfn K) : Df K mg "is_word" s_is_word [] := by
  obtain ⟨fd, F⟩ := d.def_ 7 (d := hd_s_is_word) rfl
  exact ⟨_, fd, F, He.glo_ok X G (d.fact 7 (f := .glo "is_word") rfl)⟩
theorem df_is_line (X : K.In h) (G : h.Ns mainGlobals mg) (d : He.SaysD hfa hfn K) : Df K mg "is_line" s_is_line [] := by
  obtain ⟨fd, F⟩ := d.def_ 8 (d := hd_s_is_line) rfl
  exact ⟨_, fd, F, He.glo_ok X G (d.fact 8 (f := .glo "is_line") rfl)⟩
theorem df_need_words (X : K.In h) (G : h.Ns mainGlobals mg) (d : He.SaysD hfa hfn K) : Df K mg "need_words" s_need_words [] := by
  obtain ⟨fd, F⟩ := d.def_ 10 (d := hd_s_need_words) rfl
  exact ⟨_, fd, F, He.glo_ok X G (d.fact 10 (f := .glo "need_words") rfl)⟩
theorem df_first_wrong (X : K.In h) (G : h.Ns mainGlobals mg) (d : He.SaysD hfa hfn K) : Df K mg "first_wrong" s_first_wrong [] := by
  obtain ⟨fd, F⟩ := d.def_ 3 (d := hd_s_first_wrong) rfl
  exact ⟨_, fd, F, He.glo_ok X G (d.fact 3 (f := .glo "first_wrong") rfl)⟩
theorem dc_need_moves (X : K.In h) (G : h.Ns mainGlobals mg) (d : He.SaysD hfa hfn K) : DfC K mg "need_moves" s_need_moves (He.cT K ("need_moves", none)).1 := by
  obtain ⟨fd, F⟩ := d.def_ 9 (d := hd_s_need_moves) rfl
  have F2 := F
  obtain ⟨oc, od, dV, kV, doc, pm, an, cdv, ct, osl, rfl, lk, hcd, _, _⟩ := F2.ex
  obtain ⟨c, rfl⟩ := He.codeIn_ref hcd
  have e : He.codeOf K ("need_moves", none) = c := He.codeOf_eq lk rfl
  exact ⟨_, _, F, by show Value.ref c = .ref (He.codeOf K ("need_moves", none)); rw [e], He.glo_ok X G (d.fact 9 (f := .glo "need_moves") rfl)⟩
theorem df_need_watch (X : K.In h) (G : h.Ns mainGlobals mg) (d : He.SaysD hfa hfn K) : Df K mg "need_watch" s_need_watch [.non] := by
  obtain ⟨fd, F⟩ := d.def_ 13 (d := hd_s_need_watch) rfl
  exact ⟨_, fd, F, He.glo_ok X G (d.fact 11 (f := .glo "need_watch") rfl)⟩
theorem df_need_shown (X : K.In h) (G : h.Ns mainGlobals mg) (d : He.SaysD hfa hfn K) : Df K mg "need_shown" s_need_shown [] := by
  obtain ⟨fd, F⟩ := d.def_ 17 (d := hd_s_need_shown) rfl
  exact ⟨_, fd, F, He.glo_ok X G (d.fact 15 (f := .glo "need_shown") rfl)⟩
theorem df_need_weights (X : K.In h) (G : h.Ns mainGlobals mg) (d : He.SaysD hfa hfn K) : Df K mg "need_weights" s_need_weights [] := by
  obtain ⟨fd, F⟩ := d.def_ 30 (d := hd_s_need_weights) rfl
  exact ⟨_, fd, F, He.glo_ok X G (d.fact 28 (f := .glo "need_weights") rfl)⟩
theorem df_divisor (X : K.In h) (G : h.Ns mainGlobals mg) (d : He.SaysD hfa hfn K) : Df K mg "divisor" s_divisor [] := by
  obtain ⟨fd, F⟩ := d.def_ 31 (d := hd_s_divisor) rfl
  exact ⟨_, fd, F, He.glo_ok X G (d.fact 29 (f := .glo "divisor") rfl)⟩
theorem df_power (X : K.In h) (G : h.Ns mainGlobals mg) (d : He.SaysD hfa hfn K) : Df K mg "power" s_power [] := by
  obtain ⟨fd, F⟩ := d.def_ 32 (d := hd_s_power) rfl
  exact ⟨_, fd, F, He.glo_ok X G (d.fact 30 (f := .glo "power") rfl)⟩
theorem df_fraction_of (X : K.In h) (G : h.Ns mainGlobals mg) (d : He.SaysD hfa hfn K) : Df K mg "fraction_of" s_fraction_of [] := by
  obtain ⟨fd, F⟩ := d.def_ 33 (d := hd_s_fraction_of) rfl
  exact ⟨_, fd, F, He.glo_ok X G (d.fact 31 (f := .glo "fraction_of") rfl)⟩
theorem df_heavier_by (X : K.In h) (G : h.Ns mainGlobals mg) (d : He.SaysD hfa hfn K) : Df K mg "heavier_by" s_heavier_by [] := by
  obtain ⟨fd, F⟩ := d.def_ 34 (d := hd_s_heavier_by) rfl
  exact ⟨_, fd, F, He.glo_ok X G (d.fact 32 (f := .glo "heavier_by") rfl)⟩
theorem df_numbers_by (X : K.In h) (G : h.Ns mainGlobals mg) (d : He.SaysD hfa hfn K) : Df K mg "numbers_by" s_numbers_by [] := by
  obtain ⟨fd, F⟩ := d.def_ 35 (d := hd_s_numbers_by) rfl
  exact ⟨_, fd, F, He.glo_ok X G (d.fact 33 (f := .glo "numbers_by") rfl)⟩
theorem df_words_by (X : K.In h) (G : h.Ns mainGlobals mg) (d : He.SaysD hfa hfn K) : Df K mg "words_by" s_words_by [] := by
  obtain ⟨fd, F⟩ := d.def_ 36 (d := hd_s_words_by) rfl
  exact ⟨_, fd, F, He.glo_ok X G (d.fact 34 (f := .glo "words_by") rfl)⟩
theorem df_odds_by (X : K.In h) (G : h.Ns mainGlobals mg) (d : He.SaysD hfa hfn K) : Df K mg "odds_by" s_odds_by [] := by
  obtain ⟨fd, F⟩ := d.def_ 37 (d := hd_s_odds_by) rfl
  exact ⟨_, fd, F, He.glo_ok X G (d.fact 35 (f := .glo "odds_by") rfl)⟩
theorem df_need_odds (X : K.In h) (G : h.Ns mainGlobals mg) (d : He.SaysD hfa hfn K) : Df K mg "need_odds" s_need_odds [] := by
  obtain ⟨fd, F⟩ := d.def_ 38 (d := hd_s_need_odds) rfl
  exact ⟨_, fd, F, He.glo_ok X G (d.fact 36 (f := .glo "need_odds") rfl)⟩
theorem df_odds (X : K.In h) (G : h.Ns mainGlobals mg) (d : He.SaysD hfa hfn K) : Df K mg "odds" s_odds [] := by
  obtain ⟨fd, F⟩ := d.def_ 39 (d := hd_s_odds) rfl
  exact ⟨_, fd, F, He.glo_ok X G (d.fact 37 (f := .glo "odds") rfl)⟩
theorem df_words_of (X : K.In h) (G : h.Ns mainGlobals mg) (d : He.SaysD hfa hfn K) : Df K mg "words_of" s_words_of [] := by
  obtain ⟨fd, F⟩ := d.def_ 44 (d := hd_s_words_of) rfl
  exact ⟨_, fd, F, He.glo_ok X G (d.fact 42 (f := .glo "words_of") rfl)⟩
theorem df_later_words (X : K.In h) (G : h.Ns mainGlobals mg) (d : He.SaysD hfa hfn K) : Df K mg "later_words" s_later_words [] := by
  obtain ⟨fd, F⟩ := d.def_ 45 (d := hd_s_later_words) rfl
  exact ⟨_, fd, F, He.glo_ok X G (d.fact 43 (f := .glo "later_words") rfl)⟩
theorem df_sure_at (X : K.In h) (G : h.Ns mainGlobals mg) (d : He.SaysD hfa hfn K) : Df K mg "sure_at" s_sure_at [] := by
  obtain ⟨fd, F⟩ := d.def_ 46 (d := hd_s_sure_at) rfl
  exact ⟨_, fd, F, He.glo_ok X G (d.fact 44 (f := .glo "sure_at") rfl)⟩
theorem df_need_timed (X : K.In h) (G : h.Ns mainGlobals mg) (d : He.SaysD hfa hfn K) : Df K mg "need_timed" s_need_timed [] := by
  obtain ⟨fd, F⟩ := d.def_ 47 (d := hd_s_need_timed) rfl
  exact ⟨_, fd, F, He.glo_ok X G (d.fact 45 (f := .glo "need_timed") rfl)⟩
theorem df_mean_sure (X : K.In h) (G : h.Ns mainGlobals mg) (d : He.SaysD hfa hfn K) : Df K mg "mean_sure" s_mean_sure [] := by
  obtain ⟨fd, F⟩ := d.def_ 48 (d := hd_s_mean_sure) rfl
  exact ⟨_, fd, F, He.glo_ok X G (d.fact 46 (f := .glo "mean_sure") rfl)⟩
theorem df_is_short_list (X : K.In h) (G : h.Ns mainGlobals mg) (d : He.SaysD hfa hfn K) : Df K mg "is_short_list" s_is_short_list [] := by
  obtain ⟨fd, F⟩ := d.def_ 4 (d := hd_s_is_short_list) rfl
  exact ⟨_, fd, F, He.glo_ok X G (d.fact 4 (f := .glo "is_short_list") rfl)⟩
theorem dc_need_row_of (X : K.In h) (G : h.Ns mainGlobals mg) (d : He.SaysD hfa hfn K) : DfC K mg "need_row_of" s_need_row_of (He.cT K ("need_row_of", none)).1 := by
  obtain ⟨fd, F⟩ := d.def_ 6 (d := hd_s_need_row_of) rfl
  have F2 := F
  obtain ⟨oc, od, dV, kV, doc, pm, an, cdv, ct, osl, rfl, lk, hcd, _, _⟩ := F2.ex
  obtain ⟨c, rfl⟩ := He.codeIn_ref hcd
  have e : He.codeOf K ("need_row_of", none) = c := He.codeOf_eq lk rfl
  exact ⟨_, _, F, by show Value.ref c = .ref (He.codeOf K ("need_row_of", none)); rw [e], He.glo_ok X G (d.fact 6 (f := .glo "need_row_of") rfl)⟩
theorem df_need_row (X : K.In h) (G : h.Ns mainGlobals mg) (d : He.SaysD hfa hfn K) : Df K mg "need_row" s_need_row [] := by
  obtain ⟨fd, F⟩ := d.def_ 5 (d := hd_s_need_row) rfl
  exact ⟨_, fd, F, He.glo_ok X G (d.fact 5 (f := .glo "need_row") rfl)⟩
theorem df_need_both (X : K.In h) (G : h.Ns mainGlobals mg) (d : He.SaysD hfa hfn K) : Df K mg "need_both" s_need_both [] := by
  obtain ⟨fd, F⟩ := d.def_ 14 (d := hd_s_need_both) rfl
  exact ⟨_, fd, F, He.glo_ok X G (d.fact 12 (f := .glo "need_both") rfl)⟩
theorem df_led_from (X : K.In h) (G : h.Ns mainGlobals mg) (d : He.SaysD hfa hfn K) : Df K mg "led_from" s_led_from [] := by
  obtain ⟨fd, F⟩ := d.def_ 15 (d := hd_s_led_from) rfl
  exact ⟨_, fd, F, He.glo_ok X G (d.fact 13 (f := .glo "led_from") rfl)⟩
theorem df_verdict_of (X : K.In h) (G : h.Ns mainGlobals mg) (d : He.SaysD hfa hfn K) : Df K mg "verdict_of" s_verdict_of [] := by
  obtain ⟨fd, F⟩ := d.def_ 16 (d := hd_s_verdict_of) rfl
  exact ⟨_, fd, F, He.glo_ok X G (d.fact 14 (f := .glo "verdict_of") rfl)⟩
theorem df_shown_at (X : K.In h) (G : h.Ns mainGlobals mg) (d : He.SaysD hfa hfn K) : Df K mg "shown_at" s_shown_at [] := by
  obtain ⟨fd, F⟩ := d.def_ 18 (d := hd_s_shown_at) rfl
  exact ⟨_, fd, F, He.glo_ok X G (d.fact 16 (f := .glo "shown_at") rfl)⟩
theorem df_mode_right (X : K.In h) (G : h.Ns mainGlobals mg) (d : He.SaysD hfa hfn K) : Df K mg "mode_right" s_mode_right [] := by
  obtain ⟨fd, F⟩ := d.def_ 19 (d := hd_s_mode_right) rfl
  exact ⟨_, fd, F, He.glo_ok X G (d.fact 17 (f := .glo "mode_right") rfl)⟩
theorem df_need_mode (X : K.In h) (G : h.Ns mainGlobals mg) (d : He.SaysD hfa hfn K) : Df K mg "need_mode" s_need_mode [] := by
  obtain ⟨fd, F⟩ := d.def_ 20 (d := hd_s_need_mode) rfl
  exact ⟨_, fd, F, He.glo_ok X G (d.fact 18 (f := .glo "need_mode") rfl)⟩
theorem df_known_by (X : K.In h) (G : h.Ns mainGlobals mg) (d : He.SaysD hfa hfn K) : Df K mg "known_by" s_known_by [] := by
  obtain ⟨fd, F⟩ := d.def_ 21 (d := hd_s_known_by) rfl
  exact ⟨_, fd, F, He.glo_ok X G (d.fact 19 (f := .glo "known_by") rfl)⟩
theorem df_next_by (X : K.In h) (G : h.Ns mainGlobals mg) (d : He.SaysD hfa hfn K) : Df K mg "next_by" s_next_by [] := by
  obtain ⟨fd, F⟩ := d.def_ 22 (d := hd_s_next_by) rfl
  exact ⟨_, fd, F, He.glo_ok X G (d.fact 20 (f := .glo "next_by") rfl)⟩
theorem df_unknown_by (X : K.In h) (G : h.Ns mainGlobals mg) (d : He.SaysD hfa hfn K) : Df K mg "unknown_by" s_unknown_by [] := by
  obtain ⟨fd, F⟩ := d.def_ 24 (d := hd_s_unknown_by) rfl
  exact ⟨_, fd, F, He.glo_ok X G (d.fact 22 (f := .glo "unknown_by") rfl)⟩
theorem df_behind_by (X : K.In h) (G : h.Ns mainGlobals mg) (d : He.SaysD hfa hfn K) : Df K mg "behind_by" s_behind_by [] := by
  obtain ⟨fd, F⟩ := d.def_ 25 (d := hd_s_behind_by) rfl
  exact ⟨_, fd, F, He.glo_ok X G (d.fact 23 (f := .glo "behind_by") rfl)⟩
theorem df_led_by (X : K.In h) (G : h.Ns mainGlobals mg) (d : He.SaysD hfa hfn K) : Df K mg "led_by" s_led_by [] := by
  obtain ⟨fd, F⟩ := d.def_ 26 (d := hd_s_led_by) rfl
  exact ⟨_, fd, F, He.glo_ok X G (d.fact 24 (f := .glo "led_by") rfl)⟩
theorem df_word_of (X : K.In h) (G : h.Ns mainGlobals mg) (d : He.SaysD hfa hfn K) : Df K mg "word_of" s_word_of [] := by
  obtain ⟨fd, F⟩ := d.def_ 27 (d := hd_s_word_of) rfl
  exact ⟨_, fd, F, He.glo_ok X G (d.fact 25 (f := .glo "word_of") rfl)⟩
theorem df_can_lead (X : K.In h) (G : h.Ns mainGlobals mg) (d : He.SaysD hfa hfn K) : Df K mg "can_lead" s_can_lead [] := by
  obtain ⟨fd, F⟩ := d.def_ 28 (d := hd_s_can_lead) rfl
  exact ⟨_, fd, F, He.glo_ok X G (d.fact 26 (f := .glo "can_lead") rfl)⟩
theorem df_sure (X : K.In h) (G : h.Ns mainGlobals mg) (d : He.SaysD hfa hfn K) : Df K mg "sure" s_sure [] := by
  obtain ⟨fd, F⟩ := d.def_ 29 (d := hd_s_sure) rfl
  exact ⟨_, fd, F, He.glo_ok X G (d.fact 27 (f := .glo "sure") rfl)⟩
theorem df_reached_by (X : K.In h) (G : h.Ns mainGlobals mg) (d : He.SaysD hfa hfn K) : Df K mg "reached_by" s_reached_by [] := by
  obtain ⟨fd, F⟩ := d.def_ 23 (d := hd_s_reached_by) rfl
  exact ⟨_, fd, F, He.glo_ok X G (d.fact 21 (f := .glo "reached_by") rfl)⟩
theorem df_need_share (X : K.In h) (G : h.Ns mainGlobals mg) (d : He.SaysD hfa hfn K) : Df K mg "need_share" s_need_share [] := by
  obtain ⟨fd, F⟩ := d.def_ 40 (d := hd_s_need_share) rfl
  exact ⟨_, fd, F, He.glo_ok X G (d.fact 38 (f := .glo "need_share") rfl)⟩
theorem df_sets_of_size (X : K.In h) (G : h.Ns mainGlobals mg) (d : He.SaysD hfa hfn K) : Df K mg "sets_of_size" s_sets_of_size [] := by
  obtain ⟨fd, F⟩ := d.def_ 41 (d := hd_s_sets_of_size) rfl
  exact ⟨_, fd, F, He.glo_ok X G (d.fact 39 (f := .glo "sets_of_size") rfl)⟩
theorem df_is_likely (X : K.In h) (G : h.Ns mainGlobals mg) (d : He.SaysD hfa hfn K) : Df K mg "is_likely" s_is_likely [] := by
  obtain ⟨fd, F⟩ := d.def_ 42 (d := hd_s_is_likely) rfl
  exact ⟨_, fd, F, He.glo_ok X G (d.fact 40 (f := .glo "is_likely") rfl)⟩
theorem df_chance_reason (X : K.In h) (G : h.Ns mainGlobals mg) (d : He.SaysD hfa hfn K) : Df K mg "chance_reason" s_chance_reason [] := by
  obtain ⟨fd, F⟩ := d.def_ 43 (d := hd_s_chance_reason) rfl
  exact ⟨_, fd, F, He.glo_ok X G (d.fact 41 (f := .glo "chance_reason") rfl)⟩
theorem df_need_case (X : K.In h) (G : h.Ns mainGlobals mg) (d : He.SaysD hfa hfn K) : Df K mg "need_case" s_need_case [] := by
  obtain ⟨fd, F⟩ := d.def_ 49 (d := hd_s_need_case) rfl
  exact ⟨_, fd, F, He.glo_ok X G (d.fact 47 (f := .glo "need_case") rfl)⟩
theorem df_need_prices (X : K.In h) (G : h.Ns mainGlobals mg) (d : He.SaysD hfa hfn K) : Df K mg "need_prices" s_need_prices [] := by
  obtain ⟨fd, F⟩ := d.def_ 50 (d := hd_s_need_prices) rfl
  exact ⟨_, fd, F, He.glo_ok X G (d.fact 48 (f := .glo "need_prices") rfl)⟩
theorem df_offered (X : K.In h) (G : h.Ns mainGlobals mg) (d : He.SaysD hfa hfn K) : Df K mg "offered" s_offered [] := by
  obtain ⟨fd, F⟩ := d.def_ 51 (d := hd_s_offered) rfl
  exact ⟨_, fd, F, He.glo_ok X G (d.fact 49 (f := .glo "offered") rfl)⟩
theorem df_paid_on (X : K.In h) (G : h.Ns mainGlobals mg) (d : He.SaysD hfa hfn K) : Df K mg "paid_on" s_paid_on [] := by
  obtain ⟨fd, F⟩ := d.def_ 52 (d := hd_s_paid_on) rfl
  exact ⟨_, fd, F, He.glo_ok X G (d.fact 50 (f := .glo "paid_on") rfl)⟩
theorem df_cheapest_by (X : K.In h) (G : h.Ns mainGlobals mg) (d : He.SaysD hfa hfn K) : Df K mg "cheapest_by" s_cheapest_by [] := by
  obtain ⟨fd, F⟩ := d.def_ 53 (d := hd_s_cheapest_by) rfl
  exact ⟨_, fd, F, He.glo_ok X G (d.fact 51 (f := .glo "cheapest_by") rfl)⟩
theorem df_cheapest_reason (X : K.In h) (G : h.Ns mainGlobals mg) (d : He.SaysD hfa hfn K) : Df K mg "cheapest_reason" s_cheapest_reason [] := by
  obtain ⟨fd, F⟩ := d.def_ 54 (d := hd_s_cheapest_reason) rfl
  exact ⟨_, fd, F, He.glo_ok X G (d.fact 52 (f := .glo "cheapest_reason") rfl)⟩
theorem df_law_blend (X : K.In h) (G : h.Ns mainGlobals mg) (d : He.SaysD hfa hfn K) : Df K mg "_law_blend" s_law_blend [] := by
  obtain ⟨fd, F⟩ := d.def_ 56 (d := hd_s_law_blend) rfl
  exact ⟨_, fd, F, He.glo_ok X G (d.fact 54 (f := .glo "_law_blend") rfl)⟩
theorem df_law_draw (X : K.In h) (G : h.Ns mainGlobals mg) (d : He.SaysD hfa hfn K) : Df K mg "_law_draw" s_law_draw [] := by
  obtain ⟨fd, F⟩ := d.def_ 57 (d := hd_s_law_draw) rfl
  exact ⟨_, fd, F, He.glo_ok X G (d.fact 55 (f := .glo "_law_draw") rfl)⟩
theorem df_law_pick (X : K.In h) (G : h.Ns mainGlobals mg) (d : He.SaysD hfa hfn K) : Df K mg "_law_pick" s_law_pick [] := by
  obtain ⟨fd, F⟩ := d.def_ 58 (d := hd_s_law_pick) rfl
  exact ⟨_, fd, F, He.glo_ok X G (d.fact 56 (f := .glo "_law_pick") rfl)⟩
theorem df_law_watch (X : K.In h) (G : h.Ns mainGlobals mg) (d : He.SaysD hfa hfn K) : Df K mg "_law_watch" s_law_watch [] := by
  obtain ⟨fd, F⟩ := d.def_ 59 (d := hd_s_law_watch) rfl
  exact ⟨_, fd, F, He.glo_ok X G (d.fact 57 (f := .glo "_law_watch") rfl)⟩
theorem df_law_made (X : K.In h) (G : h.Ns mainGlobals mg) (d : He.SaysD hfa hfn K) : Df K mg "_law_made" s_law_made [] := by
  obtain ⟨fd, F⟩ := d.def_ 60 (d := hd_s_law_made) rfl
  exact ⟨_, fd, F, He.glo_ok X G (d.fact 58 (f := .glo "_law_made") rfl)⟩
theorem df_law_weights (X : K.In h) (G : h.Ns mainGlobals mg) (d : He.SaysD hfa hfn K) : Df K mg "_law_weights" s_law_weights [] := by
  obtain ⟨fd, F⟩ := d.def_ 61 (d := hd_s_law_weights) rfl
  exact ⟨_, fd, F, He.glo_ok X G (d.fact 59 (f := .glo "_law_weights") rfl)⟩
theorem df_law_begun (X : K.In h) (G : h.Ns mainGlobals mg) (d : He.SaysD hfa hfn K) : Df K mg "_law_begun" s_law_begun [] := by
  obtain ⟨fd, F⟩ := d.def_ 55 (d := hd_s_law_begun) rfl
  exact ⟨_, fd, F, He.glo_ok X G (d.fact 53 (f := .glo "_law_begun") rfl)⟩
theorem df_law_common (X : K.In h) (G : h.Ns mainGlobals mg) (d : He.SaysD hfa hfn K) : Df K mg "_law_common" s_law_common [] := by
  obtain ⟨fd, F⟩ := d.def_ 62 (d := hd_s_law_common) rfl
  exact ⟨_, fd, F, He.glo_ok X G (d.fact 60 (f := .glo "_law_common") rfl)⟩
theorem df_law_fraction (X : K.In h) (G : h.Ns mainGlobals mg) (d : He.SaysD hfa hfn K) : Df K mg "_law_fraction" s_law_fraction [] := by
  obtain ⟨fd, F⟩ := d.def_ 63 (d := hd_s_law_fraction) rfl
  exact ⟨_, fd, F, He.glo_ok X G (d.fact 61 (f := .glo "_law_fraction") rfl)⟩
theorem df_law_filled (X : K.In h) (G : h.Ns mainGlobals mg) (d : He.SaysD hfa hfn K) : Df K mg "_law_filled" s_law_filled [] := by
  obtain ⟨fd, F⟩ := d.def_ 64 (d := hd_s_law_filled) rfl
  exact ⟨_, fd, F, He.glo_ok X G (d.fact 62 (f := .glo "_law_filled") rfl)⟩
theorem df_law (X : K.In h) (G : h.Ns mainGlobals mg) (d : He.SaysD hfa hfn K) : Df K mg "law" s_law [] := by
  obtain ⟨fd, F⟩ := d.def_ 65 (d := hd_s_law) rfl
  exact ⟨_, fd, F, He.glo_ok X G (d.fact 63 (f := .glo "law") rfl)⟩
theorem di_Watch (X : K.In h) (G : h.Ns mainGlobals mg) (d : He.SaysD hfa hfn K) : DfI K mg (He.ga K "Watch") "Watch" "Watch.__init__" s_Watch_init := by
  obtain ⟨fd, F⟩ := d.def_ 11 (d := hd_s_Watch_init) rfl
  exact ⟨_, fd, F, He.mkr_ok (d.fact 93 (f := .mkr "Watch") rfl), He.glo_ok X G (d.fact 64 (f := .glo "Watch") rfl)⟩
theorem dg_moves {w : World} (c : SaysP hfa hfn htf hgt hex_ w h K) : Dg K (He.ga K "Watch") "moves" "Watch.moves" s_Watch_moves := by
  have g := c.g gd_moves (by unfold hgt; simp)
  obtain ⟨fd, F⟩ := g.ex
  exact ⟨_, _, fd, F, g.prop⟩
theorem dg_words {w : World} (c : SaysP hfa hfn htf hgt hex_ w h K) : Dg K (He.ga K "Watch") "words" "Watch.words" s_Watch_words := by
  have g := c.g gd_words (by unfold hgt; simp)
  obtain ⟨fd, F⟩ := g.ex
  exact ⟨_, _, fd, F, g.prop⟩
theorem dg_kinds {w : World} (c : SaysP hfa hfn htf hgt hex_ w h K) : Dg K (He.ga K "Watch") "kinds" "Watch.kinds" s_Watch_kinds := by
  have g := c.g gd_kinds (by unfold hgt; simp)
  obtain ⟨fd, F⟩ := g.ex
  exact ⟨_, _, fd, F, g.prop⟩
end
theorem facts {w : World} {K : PySem.W.Frag} {h : Heap} {mg : Str → Option Value} {fa : Addr} (X : K.In h) (G : h.Ns mainGlobals mg) (hmg : mg ("law" : Str) = some (.ref fa)) (c : SaysP hfa hfn htf hgt hex_ w h K) :
    LamX.LawAtS PySem.Challenge.rw_whytold_k64_whole_likely_and_sure_on_the w K C8.CX0 10 63 "script" mg fa h := by
  have d := c.x.t.d
  have hex := c.x.more
  have T := txt_of X G d hex
  obtain ⟨hx0, hr1⟩ := He.ba hex
  obtain ⟨hx1, hr2⟩ := He.ba hr1
  have hx2 := hr2
  obtain ⟨Z, hZ⟩ : ∃ Z : List (Addr × Str), Z = [((He.cT K ("need_moves", none)).2, lamQ), ((He.cT K ("need_row_of", none)).2, lamR)] := ⟨_, rfl⟩
  have hm0 : (("need_moves", none) : He.Defn) ∈ htf := by unfold htf; simp
  have hZ0 : (((He.cT K ("need_moves", none)).2, lamQ) : Addr × Str) ∈ Z := by rw [hZ]; simp
  have hm1 : (("need_row_of", none) : He.Defn) ∈ htf := by unfold htf; simp
  have hZ1 : (((He.cT K ("need_row_of", none)).2, lamR) : Addr × Str) ∈ Z := by rw [hZ]; simp
  have ne1_0 : (He.cT K ("need_row_of", none)).2 ≠ (He.cT K ("need_moves", none)).2 := of_decide_eq_true hx2
  have hY0 : ∀ p ∈ Z, p.1 = (He.cT K ("need_moves", none)).2 → p.2 = lamQ := by
    intro p hp e
    rw [hZ] at hp
    simp only [List.mem_cons, List.not_mem_nil, or_false] at hp
    rcases hp with rfl | rfl
    · rfl
    · exact absurd e ne1_0
  have hY1 : ∀ p ∈ Z, p.1 = (He.cT K ("need_row_of", none)).2 → p.2 = lamR := by
    intro p hp e
    rw [hZ] at hp
    simp only [List.mem_cons, List.not_mem_nil, or_false] at hp
    rcases hp with rfl | rfl
    · exact absurd e.symm ne1_0
    · rfl
  obtain ⟨fl, fdl, Fl, hml⟩ := (df_law X G d).ex
  have efa : fl = fa := by
    rw [hmg] at hml
    exact (Value.ref.inj (Option.some.inj hml)).symm
  subst efa
  refine ⟨fdl, [He.cT K ("need_moves", none), He.cT K ("need_row_of", none)], spLaw K Z, fun p hp => ?_, fun p hp => ?_, fun p hp => ?_, fun s u => ?_, fun H a ns hl hb hT hS => ?_, fun base hK hN hTB => ?_⟩
  · simp only [List.mem_cons, List.not_mem_nil, or_false] at hp
    rcases hp with rfl | rfl
    · exact c.x.empty _ hm0
    · exact c.x.empty _ hm1
  · simp only [List.mem_cons, List.not_mem_nil, or_false] at hp
    rcases hp with rfl | rfl
    · exact c.x.out _ hm0
    · exact c.x.out _ hm1
  · simp only [List.mem_cons, List.not_mem_nil, or_false] at hp
    rcases hp with rfl | rfl
    · exact PySem.W.codeHd_of_K X (c.x.hd _ hm0)
    · exact PySem.W.codeHd_of_K X (c.x.hd _ hm1)
  · exact Fl.bindsA (ps := ["script"]) (by intro kV doc pm an cdv ct us h; match us, h with | [_], _ => rfl) s [u] rfl
  · refine ⟨a, ns, rfl, hS, hl, fun p hp => ?_, fun H' => rfl⟩
    rw [hZ] at hp
    simp only [List.mem_cons, List.not_mem_nil, or_false] at hp
    rcases hp with rfl | rfl
    · exact ⟨#[], hT (He.cT K ("need_moves", none)) (by simp), trivial, fun pos cv hc => by cases hc⟩
    · exact ⟨#[], hT (He.cT K ("need_row_of", none)) (by simp), trivial, fun pos cv hc => by cases hc⟩
  · have TB0 := hTB (He.cT K ("need_moves", none)) (by simp)
    have TB1 := hTB (He.cT K ("need_row_of", none)) (by simp)
    have c_law_begun := begun_ok (P := (PySem.Challenge.rw_whytold_k64_whole_likely_and_sure_on_the).prog) (w := w) (base := base) (Z := Z) T (df_law_begun X G d)
    have c_law_blend := blend_ok (P := (PySem.Challenge.rw_whytold_k64_whole_likely_and_sure_on_the).prog) (w := w) (base := base) (Z := Z) T (df_law_blend X G d)
    have c_law_draw := draw_ok (P := (PySem.Challenge.rw_whytold_k64_whole_likely_and_sure_on_the).prog) (w := w) (base := base) (Z := Z) T (df_law_draw X G d) c_law_blend
    have c_law_watch := lwatch_ok (P := (PySem.Challenge.rw_whytold_k64_whole_likely_and_sure_on_the).prog) (w := w) (base := base) (Z := Z) T (df_law_watch X G d) c_law_draw
    have c_is_list := is_list_ok (P := (PySem.Challenge.rw_whytold_k64_whole_likely_and_sure_on_the).prog) (w := w) (base := base) (Z := Z) T (df_is_list X G d)
    have c_is_number := is_number_ok (P := (PySem.Challenge.rw_whytold_k64_whole_likely_and_sure_on_the).prog) (w := w) (base := base) T (df_is_number X G d)
    have c_is_between := is_between_ok (P := (PySem.Challenge.rw_whytold_k64_whole_likely_and_sure_on_the).prog) (w := w) (base := base) T (df_is_between X G d) c_is_number
    have c_is_line := is_line_ok (P := (PySem.Challenge.rw_whytold_k64_whole_likely_and_sure_on_the).prog) (w := w) (base := base) (Z := Z) T (df_is_line X G d) c_is_list c_is_between
    have c_need_moves := need_moves_ok (P := (PySem.Challenge.rw_whytold_k64_whole_likely_and_sure_on_the).prog) (w := w) (base := base) (Z := Z) T (dc_need_moves X G d) (df_first_wrong X G d) TB0 hZ0 hY0 c_is_list c_is_line
    have c_is_word := is_word_ok (P := (PySem.Challenge.rw_whytold_k64_whole_likely_and_sure_on_the).prog) (w := w) (base := base) T (df_is_word X G d) c_is_between
    have c_need_words := need_words_ok (P := (PySem.Challenge.rw_whytold_k64_whole_likely_and_sure_on_the).prog) (w := w) (base := base) (Z := Z) T (df_need_words X G d) (df_first_wrong X G d) c_is_list c_is_word
    have c_Watch := Watch_ok (P := (PySem.Challenge.rw_whytold_k64_whole_likely_and_sure_on_the).prog) (w := w) (base := base) (Z := Z) T (di_Watch X G d) c_need_moves c_need_words
    have c_law_made := made_ok (P := (PySem.Challenge.rw_whytold_k64_whole_likely_and_sure_on_the).prog) (w := w) (base := base) (Z := Z) T (df_law_made X G d) c_Watch
    have c_law_pick := pick_ok (P := (PySem.Challenge.rw_whytold_k64_whole_likely_and_sure_on_the).prog) (w := w) (base := base) (Z := Z) T (df_law_pick X G d) c_law_draw
    have c_law_weights := lweights_ok (P := (PySem.Challenge.rw_whytold_k64_whole_likely_and_sure_on_the).prog) (w := w) (base := base) (Z := Z) T (df_law_weights X G d) c_law_draw c_law_pick
    have c_law_filled := filled_ok (P := (PySem.Challenge.rw_whytold_k64_whole_likely_and_sure_on_the).prog) (w := w) (base := base) (Z := Z) T (df_law_filled X G d)
    have c_law_common := common_ok (P := (PySem.Challenge.rw_whytold_k64_whole_likely_and_sure_on_the).prog) (w := w) (base := base) T (df_law_common X G d)
    have c_law_fraction := lfraction_ok (P := (PySem.Challenge.rw_whytold_k64_whole_likely_and_sure_on_the).prog) (w := w) (base := base) (Z := Z) (df_law_fraction X G d) c_law_common
    have c_need_watch := need_watch_ok (P := (PySem.Challenge.rw_whytold_k64_whole_likely_and_sure_on_the).prog) (w := w) (base := base) T (df_need_watch X G d)
    have p_kinds := Watch_kinds_ok (P := (PySem.Challenge.rw_whytold_k64_whole_likely_and_sure_on_the).prog) (w := w) (base := base) T (dg_kinds c)
    have c_is_short_list := is_short_list_ok (P := (PySem.Challenge.rw_whytold_k64_whole_likely_and_sure_on_the).prog) (w := w) (base := base) (Z := Z) T (df_is_short_list X G d) c_is_list
    have c_need_row_of := need_row_of_ok (P := (PySem.Challenge.rw_whytold_k64_whole_likely_and_sure_on_the).prog) (w := w) (base := base) (Z := Z) T (dc_need_row_of X G d) (df_first_wrong X G d) TB1 hZ1 hY1 c_is_short_list c_is_between
    have c_need_row := need_row_ok (P := (PySem.Challenge.rw_whytold_k64_whole_likely_and_sure_on_the).prog) (w := w) (base := base) (Z := Z) T (df_need_row X G d) p_kinds c_need_row_of
    have c_need_weights := need_weights_ok (P := (PySem.Challenge.rw_whytold_k64_whole_likely_and_sure_on_the).prog) (w := w) (base := base) (Z := Z) T (df_need_weights X G d) p_kinds c_is_list c_is_between
    have c_need_share := need_share_ok (P := (PySem.Challenge.rw_whytold_k64_whole_likely_and_sure_on_the).prog) (w := w) (base := base) (Z := Z) T (df_need_share X G d) c_is_between
    have c_sets_of_size := sets_of_size_ok (P := (PySem.Challenge.rw_whytold_k64_whole_likely_and_sure_on_the).prog) (w := w) (base := base) (Z := Z) T (df_sets_of_size X G d) 5
    have p_words := Watch_words_ok (P := (PySem.Challenge.rw_whytold_k64_whole_likely_and_sure_on_the).prog) (w := w) (base := base) T (dg_words c)
    have p_moves := Watch_moves_ok (P := (PySem.Challenge.rw_whytold_k64_whole_likely_and_sure_on_the).prog) (w := w) (base := base) T (dg_moves c)
    have c_heavier_by := heavier_ok (P := (PySem.Challenge.rw_whytold_k64_whole_likely_and_sure_on_the).prog) (w := w) (base := base) (Z := Z) T (df_heavier_by X G d) p_kinds p_moves
    have c_power := power_ok (P := (PySem.Challenge.rw_whytold_k64_whole_likely_and_sure_on_the).prog) (w := w) (base := base) T (df_power X G d)
    have c_numbers_by := numbers_ok (P := (PySem.Challenge.rw_whytold_k64_whole_likely_and_sure_on_the).prog) (w := w) (base := base) (Z := Z) T (df_numbers_by X G d) c_heavier_by c_power
    have c_words_by := words_by_ok (P := (PySem.Challenge.rw_whytold_k64_whole_likely_and_sure_on_the).prog) (w := w) (base := base) (Z := Z) T (df_words_by X G d) p_words c_numbers_by
    have c_shown_at := shown_at_ok (P := (PySem.Challenge.rw_whytold_k64_whole_likely_and_sure_on_the).prog) (w := w) (base := base) (Z := Z) T (df_shown_at X G d)
    have c_led_from := led_from_ok (P := (PySem.Challenge.rw_whytold_k64_whole_likely_and_sure_on_the).prog) (w := w) (base := base) (Z := Z) T (df_led_from X G d) p_moves
    have c_is_likely := is_likely_ok (P := (PySem.Challenge.rw_whytold_k64_whole_likely_and_sure_on_the).prog) (w := w) (base := base) (Z := Z) T (df_is_likely X G d) p_words c_words_by c_shown_at c_led_from
    have c_chance_reason := chance_reason_ok (P := (PySem.Challenge.rw_whytold_k64_whole_likely_and_sure_on_the).prog) (w := w) (base := base) (Z := Z) T (df_chance_reason X G d) c_need_watch c_need_row c_need_weights c_need_share c_sets_of_size c_is_likely
    have c_word_of := word_of_ok (P := (PySem.Challenge.rw_whytold_k64_whole_likely_and_sure_on_the).prog) (w := w) (base := base) (Z := Z) T (df_word_of X G d) p_words
    have c_need_shown := need_shown_ok (P := (PySem.Challenge.rw_whytold_k64_whole_likely_and_sure_on_the).prog) (w := w) (base := base) (Z := Z) T (df_need_shown X G d) p_kinds c_is_list c_is_between
    have c_mode_right := mode_right_ok (P := (PySem.Challenge.rw_whytold_k64_whole_likely_and_sure_on_the).prog) (w := w) (base := base) (Z := Z) T (df_mode_right X G d)
    have c_need_mode := need_mode_ok (P := (PySem.Challenge.rw_whytold_k64_whole_likely_and_sure_on_the).prog) (w := w) (base := base) (Z := Z) (df_need_mode X G d) c_mode_right
    have c_next_by := next_by_ok (P := (PySem.Challenge.rw_whytold_k64_whole_likely_and_sure_on_the).prog) (w := w) (base := base) (Z := Z) T (df_next_by X G d) p_moves
    have c_reached_by := reached_by_ok (P := (PySem.Challenge.rw_whytold_k64_whole_likely_and_sure_on_the).prog) (w := w) (base := base) (df_reached_by X G d)
    have c_unknown_by := unknown_by_ok (P := (PySem.Challenge.rw_whytold_k64_whole_likely_and_sure_on_the).prog) (w := w) (base := base) (Z := Z) T (df_unknown_by X G d) c_next_by c_reached_by
    have c_known_by := known_by_ok (P := (PySem.Challenge.rw_whytold_k64_whole_likely_and_sure_on_the).prog) (w := w) (base := base) (Z := Z) T (df_known_by X G d) p_moves
    have c_behind_by := behind_by_ok (P := (PySem.Challenge.rw_whytold_k64_whole_likely_and_sure_on_the).prog) (w := w) (base := base) (Z := Z) (df_behind_by X G d) c_unknown_by c_known_by
    have c_led_by := led_by_ok (P := (PySem.Challenge.rw_whytold_k64_whole_likely_and_sure_on_the).prog) (w := w) (base := base) (Z := Z) T (df_led_by X G d) c_behind_by
    have c_can_lead := can_lead_ok (P := (PySem.Challenge.rw_whytold_k64_whole_likely_and_sure_on_the).prog) (w := w) (base := base) (Z := Z) (df_can_lead X G d) c_need_watch c_need_shown c_need_mode c_led_by
    have c_sure := sure_ok (P := (PySem.Challenge.rw_whytold_k64_whole_likely_and_sure_on_the).prog) (w := w) (base := base) (Z := Z) (df_sure X G d) c_word_of c_can_lead
    have c_need_case := need_case_ok (P := (PySem.Challenge.rw_whytold_k64_whole_likely_and_sure_on_the).prog) (w := w) (base := base) (Z := Z) (df_need_case X G d) c_need_watch c_need_row c_need_mode
    have c_need_prices := need_prices_ok (P := (PySem.Challenge.rw_whytold_k64_whole_likely_and_sure_on_the).prog) (w := w) (base := base) (Z := Z) T (df_need_prices X G d) p_kinds c_is_list c_is_between
    have c_offered := offered_ok (P := (PySem.Challenge.rw_whytold_k64_whole_likely_and_sure_on_the).prog) (w := w) (base := base) (Z := Z) (df_offered X G d)
    have c_paid_on := paid_on_ok (P := (PySem.Challenge.rw_whytold_k64_whole_likely_and_sure_on_the).prog) (w := w) (base := base) (Z := Z) T (df_paid_on X G d) c_known_by c_unknown_by c_offered
    have c_cheapest_by := cheapest_by_ok (P := (PySem.Challenge.rw_whytold_k64_whole_likely_and_sure_on_the).prog) (w := w) (base := base) (Z := Z) T (df_cheapest_by X G d) c_paid_on c_word_of
    have c_cheapest_reason := cheapest_reason_ok (P := (PySem.Challenge.rw_whytold_k64_whole_likely_and_sure_on_the).prog) (w := w) (base := base) (Z := Z) (df_cheapest_reason X G d) c_need_case c_need_prices c_cheapest_by
    have c_need_odds := need_odds_ok (P := (PySem.Challenge.rw_whytold_k64_whole_likely_and_sure_on_the).prog) (w := w) (base := base) (Z := Z) (df_need_odds X G d) c_need_watch c_need_shown c_need_weights
    have c_divisor := divisor_ok (P := (PySem.Challenge.rw_whytold_k64_whole_likely_and_sure_on_the).prog) (w := w) (base := base) (df_divisor X G d)
    have c_fraction_of := fraction_of_ok (P := (PySem.Challenge.rw_whytold_k64_whole_likely_and_sure_on_the).prog) (w := w) (base := base) (Z := Z) (df_fraction_of X G d) c_divisor
    have c_odds_by := odds_by_ok (P := (PySem.Challenge.rw_whytold_k64_whole_likely_and_sure_on_the).prog) (w := w) (base := base) (Z := Z) T (df_odds_by X G d) c_words_by c_fraction_of
    have c_odds := odds_ok (P := (PySem.Challenge.rw_whytold_k64_whole_likely_and_sure_on_the).prog) (w := w) (base := base) (Z := Z) (df_odds X G d) c_need_odds c_odds_by
    have c_need_both := need_both_ok (P := (PySem.Challenge.rw_whytold_k64_whole_likely_and_sure_on_the).prog) (w := w) (base := base) (Z := Z) (df_need_both X G d) c_need_watch c_need_row
    have c_verdict_of := verdict_of_ok (P := (PySem.Challenge.rw_whytold_k64_whole_likely_and_sure_on_the).prog) (w := w) (base := base) (Z := Z) T (df_verdict_of X G d) p_words c_need_both c_led_from
    have c_need_timed := need_timed_ok (P := (PySem.Challenge.rw_whytold_k64_whole_likely_and_sure_on_the).prog) (w := w) (base := base) (Z := Z) T (df_need_timed X G d) c_need_watch c_need_weights c_is_between
    have c_words_of := words_of_ok (P := (PySem.Challenge.rw_whytold_k64_whole_likely_and_sure_on_the).prog) (w := w) (base := base) (Z := Z) (df_words_of X G d)
    have c_later_words := later_ok (P := (PySem.Challenge.rw_whytold_k64_whole_likely_and_sure_on_the).prog) (w := w) (base := base) (Z := Z) T (df_later_words X G d) p_words p_moves c_words_of
    have c_sure_at := sure_at_ok (P := (PySem.Challenge.rw_whytold_k64_whole_likely_and_sure_on_the).prog) (w := w) (base := base) (Z := Z) T (df_sure_at X G d) p_moves c_later_words c_power
    have c_mean_sure := mean_sure_ok (P := (PySem.Challenge.rw_whytold_k64_whole_likely_and_sure_on_the).prog) (w := w) (base := base) (Z := Z) T (df_mean_sure X G d) c_need_timed c_sure_at c_fraction_of
    have c_law := law_ok T Fl c_law_begun c_law_draw c_law_watch c_law_made c_law_weights c_law_filled c_law_fraction c_chance_reason c_sure c_cheapest_reason c_odds c_verdict_of c_mean_sure
    exact c_law
end K62
open PySem PySem.W PySem.Calls PyProof.Rows
theorem PySem.Challenge.cw_whytold_k64_whole_likely_and_sure_on_the_holds : PySem.Challenge.rw_whytold_k64_whole_likely_and_sure_on_the.Holds := by
  w_on; o_law
  refine HandSHeadRun.head_any (r := OpenLaw.row PySem.Challenge.rw_whytold_k64_whole_likely_and_sure_on_the) (q := view (OpenLaw.row PySem.Challenge.rw_whytold_k64_whole_likely_and_sure_on_the).prog [103]) (H := K62.hk) (ob := K62.ob) (M := 9000) (loose := K62.hnm) (d := HandSHeadRun.topDef (OpenLaw.row PySem.Challenge.rw_whytold_k64_whole_likely_and_sure_on_the).prog 103) (kwd := []) K62.ob_eq
    (by kernel_rfl) (fun s => by kernel_rfl) K62.run (by kernel_rfl) (by kernel_rfl) (by kernel_rfl) (by rfl) (by first | assumption | decide +kernel) (by decide +kernel) ⟨rfl, rfl, rfl, rfl, rfl, by decide +kernel⟩ ?hw ?hc
  case hw => w_witness2
  case hc =>
    refine LamX.walk_ofTsE (l := PySem.Challenge.rw_whytold_k64_whole_likely_and_sure_on_the) (n := 63) (k := 10) (x := "script") (CX := fun _ => C8.CX0) rfl (by decide) (by kernel_rfl) ⟨rfl, by decide, by decide⟩ ?F (fun _ _ _ _ _ z => z)
    intro w mg fa h Y G hmg0
    obtain ⟨K, KX, c⟩ := Y
    have hmg : mg ("law" : PySem.Str) = some (.ref fa) := by
      have e : (HandSHeadRun.topDef (OpenLaw.row PySem.Challenge.rw_whytold_k64_whole_likely_and_sure_on_the).prog 103).name = ("law" : PySem.Str) := by kernel_rfl
      rw [← e]
      exact hmg0
    exact ⟨K, KX, K62.facts KX G hmg c⟩
