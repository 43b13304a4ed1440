import PyProof.Rows.All
import Wide.All
import OpenK.AllK
import Wide.FinOn
import KE.KStateDown
import HandS.ForMost
import HandS.More
import HandS.Exc
import HandS.Defaults
import HandS.Property
import HandS.IsInst
import HandS.Head0
import HandS.Head1
import HandS.Head2
import HandS.HeadEnd
import HandS.HeadHook1
import HandS.HeadHook2
import PySem.Challenge.RW_sharedpipe_k51_whole_fills_and_covers
import HandS.NoneIn
import HandS.TupAny
import HandS.Style
import HandS.Conv
import HandS.Zip
import HandS.ListItems
import HandS.DictComp
import HandS.Flow
import HandS.Star
import HandS.Wide
import HandS.Finally
import KE.DataMinMax
import PyProof.P3Eq
import HandS.SetFor
import HandS.SetTxt0
import HandS.Strs
import HandS.Text
import PyProof.StrBlock2
import HandS.DeepEq
import HandS.OwnEq
import PyProof.ReprLen
import PyProof.StrLawsRepr
import PyProof.ReprRoads
import PyProof.CallFns
import HandS.Sort
import PyProof.SumWalkG
set_option Elab.async false
set_option linter.all false
section
set_option Elab.async false
set_option linter.all false
set_option maxRecDepth 100000
set_option maxHeartbeats 0
/-! The head: the top by one run in the kernel, and what is told of each def behind it. Printed by gen_head.py. -/
namespace K51
open PySem PySem.Spec PyProof.Rows L2
def top (i : Nat) : Stmt := PySem.Challenge.pw_sharedpipe_k51_whole_fills_and_covers.main.body.getD i (.Pass ⟨0, 0, 0, 0⟩)
/-- a def's row: where its function stands, its names, its statement -/
structure DefQ where
  adr : PySem.W.Frag → Addr
  name : Str
  qual : Str
  st : Stmt
def fnQ (K : PySem.W.Frag) (a : Addr) : He.FnW := match K.lookup a with
  | some ⟨_, _, .func fd, _⟩ => some (fd.name, fd.qualname, fd.params, fd.body, fd.scope, fd.globals, fd.closure, fd.builtins)
  | _ => none
def DefQ.val (d : DefQ) : He.FnW := some (d.name, d.qual, defArgs d.st, .stmts (defBody d.st), defScope d.st, mainGlobals, [], builtinsNs)
def DefQ.ok (K : PySem.W.Frag) (d : DefQ) : Bool := PySem.W.keepIn K (.ref (d.adr K)) && (match K.lookup (d.adr K) with
  | some ⟨_, _, .func fd, _⟩ => PySem.W.codeIn K fd.code d.qual && (He.dflB K fd.defaults [] && He.kwdB K fd.kwdefaults [])
  | _ => false)
abbrev FnP (K : PySem.W.Frag) (x q : Str) (st : Stmt) (f : Addr) (fd : FuncData) : Prop := FunD K x q (defArgs st) (defBody st) (defScope st) [] [] f fd
theorem DefQ.funD {K : PySem.W.Frag} {d : DefQ} (e : fnQ K (d.adr K) = d.val) (c : d.ok K = true) : ∃ fd, FnP K d.name d.qual d.st (d.adr K) fd := by
  obtain ⟨kp, c2⟩ := He.ba c
  unfold fnQ at e
  cases q : K.lookup (d.adr K) with
  | none => rw [q] at c2; cases c2
  | some o =>
    obtain ⟨oc, od, dt, osl⟩ := o
    rw [q] at c2 e
    cases dt with
    | func fd =>
      obtain ⟨n1, n2, n3, n4, n5, n6, n7, n8, n9, n10, n11, n12, n13, n14, n15⟩ := fd
      have e3 : (some (n1, n2, n3, n4, n5, n6, n7, n15) : He.FnW) = d.val := e
      unfold DefQ.val at e3
      simp only [Option.some.injEq, Prod.mk.injEq] at e3
      obtain ⟨h1, h2, h3, h4, h5, h6, h7, h8⟩ := e3
      subst h1 h2 h3 h4 h5 h6 h7 h8
      obtain ⟨k1, k2⟩ := He.ba (show (PySem.W.codeIn K n13 d.qual && (He.dflB K n8 [] && He.kwdB K n9 [])) = true from c2)
      obtain ⟨k3, k4⟩ := He.ba k2
      exact ⟨_, ⟨oc, od, n8, n9, n10, n11, n12, n13, n14, osl, rfl, q, k1, He.dflB_ok k3, He.kwdB_ok k4⟩, kp⟩
    | _ => cases c2
abbrev AlQ : Type := Bool × List He.FnW
def obsQ (ex : PySem.W.Frag → Bool) (fn : List DefQ) (K : PySem.W.Frag) : AlQ := (ex K && fn.all (fun d => d.ok K), fn.map fun d => fnQ K (d.adr K))
def valQ (fn : List DefQ) : AlQ := (true, fn.map DefQ.val)
def obsQG (as : List Addr) (ex : PySem.W.Frag → Bool) (fn : List DefQ) (g : Addr → Option Obj) : AlQ := obsQ ex fn (He.frG g as)
def SaysQ (ex : PySem.W.Frag → Bool) (fn : List DefQ) (K : PySem.W.Frag) : Prop := obsQ ex fn K = valQ fn
def hookQ (as : List Addr) (ex : PySem.W.Frag → Bool) (fn : List DefQ) : PySem.W.Hook where
  α := AlQ
  obs := fun s => obsQG as ex fn s.heap.get?
  val := fun _ => valQ fn
  says := fun _ h => ∃ K : PySem.W.Frag, K.In h ∧ SaysQ ex fn K
  of := fun _ _ e => ⟨_, He.frG_in, e⟩
  keeps := fun _ _ _ ⟨K, hK, c⟩ k => ⟨K, PySem.W.Frag.In.keeps hK k, c⟩
theorem obsQG_eq {as : List Addr} {ex : PySem.W.Frag → Bool} {fn : List DefQ} {g : Addr → Option Obj} {s : Shared} (h : ∀ a, g a = s.heap.get? a) : obsQG as ex fn g = (hookQ as ex fn).obs s := by
  have e : g = s.heap.get? := funext h
  subst e
  rfl
theorem SaysQ.ex {ex : PySem.W.Frag → Bool} {fn : List DefQ} {K : PySem.W.Frag} (c : SaysQ ex fn K) : ex K = true :=
  (He.ba (show (ex K && fn.all (fun d => d.ok K)) = true from congrArg Prod.fst c)).1
theorem SaysQ.def_ {ex : PySem.W.Frag → Bool} {fn : List DefQ} {K : PySem.W.Frag} (c : SaysQ ex fn K) {d : DefQ} (h : d ∈ fn) : ∃ fd, FnP K d.name d.qual d.st (d.adr K) fd := by
  have a : fn.all (fun d => d.ok K) = true := (He.ba (show (ex K && fn.all (fun d => d.ok K)) = true from congrArg Prod.fst c)).2
  have b : fn.map (fun d => fnQ K (d.adr K)) = fn.map DefQ.val := congrArg Prod.snd c
  have b2 : ∀ d ∈ fn, fnQ K (d.adr K) = d.val := List.map_inj_left.mp b
  exact DefQ.funD (b2 d h) (List.all_eq_true.mp a d h)
def prAd (K : PySem.W.Frag) (C m : Str) : Addr := He.ma K (He.ga K C) m
/-- the getter of a property -/
def getAd (K : PySem.W.Frag) (C m : Str) : Addr := match PySem.W.recIn K (prAd K C m) "property" with
  | some (.ref g :: _) => g
  | _ => 0
def propB (K : PySem.W.Frag) (C m : Str) : Bool := He.eqO (PySem.W.findIn K (.ref (He.ga K C)) m) (some (some (.ref (prAd K C m)))) &&
  (He.eqO (PySem.W.specialIn K (.ref (prAd K C m)) "__get__") (some (some (.builtin "property.__get__"))) && (decide (PySem.W.takesIn K (.ref (prAd K C m)) = some true) &&
  (match PySem.W.recIn K (prAd K C m) "property" with
  | some (.ref _ :: _) => true
  | _ => false)))
theorem propB_ok {K : PySem.W.Frag} {C m : Str} (h : propB K C m = true) : PropOf K (He.ga K C) m (prAd K C m) (getAd K C m) := by
  obtain ⟨h1, h2⟩ := He.ba h
  obtain ⟨h3, h4⟩ := He.ba h2
  obtain ⟨h5, h6⟩ := He.ba h4
  refine ⟨He.eqO_ok h1, He.eqO_ok h3, of_decide_eq_true h5, ?_⟩
  unfold getAd
  split at h6
  · next g r e =>
    rw [e]
    exact ⟨r, rfl⟩
  · cases h6
/-- isinstance of an own class's instances -/
def isiB (K : PySem.W.Frag) (C : Str) : Bool := He.eqO (PySem.W.findIn K (.ref (He.ga K C)) "__class__") (some (some (.builtin "object.__class__"))) &&
  (He.eqO (PySem.W.specialIn K (.builtin "object.__class__") "__get__") (some (some (.builtin "getset_descriptor.__get__"))) && (decide (PySem.W.takesIn K (.builtin "object.__class__") = some true) &&
  (decide (PySem.W.mroIn K (He.ga K C) (.type "object") = some true))))

abbrev s_read_pools : Stmt := top 2
def d_read_pools : DefQ := ⟨fun K => He.fAd K (("read_pools" : Str), none), "read_pools", "read_pools", s_read_pools⟩
abbrev s_rivals : Stmt := top 3
def d_rivals : DefQ := ⟨fun K => He.fAd K (("rivals" : Str), none), "rivals", "rivals", s_rivals⟩
abbrev s_all_parts : Stmt := top 4
def d_all_parts : DefQ := ⟨fun K => He.fAd K (("all_parts" : Str), none), "all_parts", "all_parts", s_all_parts⟩
abbrev s_holds_much : Stmt := top 5
def d_holds_much : DefQ := ⟨fun K => He.fAd K (("holds_much" : Str), none), "holds_much", "holds_much", s_holds_much⟩
abbrev s_hold_of : Stmt := top 6
def d_hold_of : DefQ := ⟨fun K => He.fAd K (("hold_of" : Str), none), "hold_of", "hold_of", s_hold_of⟩
abbrev s_caps_of : Stmt := top 7
def d_caps_of : DefQ := ⟨fun K => He.fAd K (("caps_of" : Str), none), "caps_of", "caps_of", s_caps_of⟩
abbrev s_left_over : Stmt := top 8
def d_left_over : DefQ := ⟨fun K => He.fAd K (("left_over" : Str), none), "left_over", "left_over", s_left_over⟩
abbrev s_all_cuts : Stmt := top 9
def d_all_cuts : DefQ := ⟨fun K => He.fAd K (("all_cuts" : Str), none), "all_cuts", "all_cuts", s_all_cuts⟩
abbrev s_cut_sum : Stmt := top 10
def d_cut_sum : DefQ := ⟨fun K => He.fAd K (("cut_sum" : Str), none), "cut_sum", "cut_sum", s_cut_sum⟩
abbrev s_least_cut : Stmt := top 11
def d_least_cut : DefQ := ⟨fun K => He.fAd K (("least_cut" : Str), none), "least_cut", "least_cut", s_least_cut⟩
abbrev s_is_integer : Stmt := top 26
def d_is_integer : DefQ := ⟨fun K => He.fAd K (("is_integer" : Str), none), "is_integer", "is_integer", s_is_integer⟩
abbrev s_is_number : Stmt := top 27
def d_is_number : DefQ := ⟨fun K => He.fAd K (("is_number" : Str), none), "is_number", "is_number", s_is_number⟩
abbrev s_is_name : Stmt := top 28
def d_is_name : DefQ := ⟨fun K => He.fAd K (("is_name" : Str), none), "is_name", "is_name", s_is_name⟩
abbrev s_is_moment : Stmt := top 29
def d_is_moment : DefQ := ⟨fun K => He.fAd K (("is_moment" : Str), none), "is_moment", "is_moment", s_is_moment⟩
abbrev s_check_slow : Stmt := top 31
def d_check_slow : DefQ := ⟨fun K => He.fAd K (("check_slow" : Str), none), "check_slow", "check_slow", s_check_slow⟩
abbrev s_check_pool : Stmt := top 33
def d_check_pool : DefQ := ⟨fun K => He.fAd K (("check_pool" : Str), none), "check_pool", "check_pool", s_check_pool⟩
abbrev s_holds : Stmt := top 34
def d_holds : DefQ := ⟨fun K => He.fAd K (("holds" : Str), none), "holds", "holds", s_holds⟩
abbrev s_filled : Stmt := top 35
def d_filled : DefQ := ⟨fun K => He.fAd K (("filled" : Str), none), "filled", "filled", s_filled⟩
abbrev s_fill : Stmt := top 36
def d_fill : DefQ := ⟨fun K => He.fAd K (("fill" : Str), none), "fill", "fill", s_fill⟩
abbrev s_is_fill : Stmt := top 37
def d_is_fill : DefQ := ⟨fun K => He.fAd K (("is_fill" : Str), none), "is_fill", "is_fill", s_is_fill⟩
abbrev s_cover : Stmt := top 39
def d_cover : DefQ := ⟨fun K => He.fAd K (("cover" : Str), none), "cover", "cover", s_cover⟩
abbrev s_cover_sum : Stmt := top 40
def d_cover_sum : DefQ := ⟨fun K => He.fAd K (("cover_sum" : Str), none), "cover_sum", "cover_sum", s_cover_sum⟩
abbrev s_are_some : Stmt := top 41
def d_are_some : DefQ := ⟨fun K => He.fAd K (("are_some" : Str), none), "are_some", "are_some", s_are_some⟩
abbrev s_is_cover : Stmt := top 42
def d_is_cover : DefQ := ⟨fun K => He.fAd K (("is_cover" : Str), none), "is_cover", "is_cover", s_is_cover⟩
abbrev s_is_shape : Stmt := top 48
def d_is_shape : DefQ := ⟨fun K => He.fAd K (("is_shape" : Str), none), "is_shape", "is_shape", s_is_shape⟩
abbrev s_atoms_of : Stmt := top 49
def d_atoms_of : DefQ := ⟨fun K => He.fAd K (("atoms_of" : Str), none), "atoms_of", "atoms_of", s_atoms_of⟩
abbrev s_is_tree : Stmt := top 50
def d_is_tree : DefQ := ⟨fun K => He.fAd K (("is_tree" : Str), none), "is_tree", "is_tree", s_is_tree⟩
abbrev s_threshold_of : Stmt := top 52
def d_threshold_of : DefQ := ⟨fun K => He.fAd K (("threshold_of" : Str), none), "threshold_of", "threshold_of", s_threshold_of⟩
abbrev s_Rule_initU : Stmt := inClass (top 56) 0
def d_Rule_initU : DefQ := ⟨fun K => He.fAd K (("Rule" : Str), some ("__init__" : Str)), "__init__", "Rule.__init__", s_Rule_initU⟩
abbrev s_is_pool : Stmt := top 62
def d_is_pool : DefQ := ⟨fun K => He.fAd K (("is_pool" : Str), none), "is_pool", "is_pool", s_is_pool⟩
abbrev s_is_name_or_none : Stmt := top 63
def d_is_name_or_none : DefQ := ⟨fun K => He.fAd K (("is_name_or_none" : Str), none), "is_name_or_none", "is_name_or_none", s_is_name_or_none⟩
abbrev s_is_group : Stmt := top 64
def d_is_group : DefQ := ⟨fun K => He.fAd K (("is_group" : Str), none), "is_group", "is_group", s_is_group⟩
abbrev s_is_stream : Stmt := top 65
def d_is_stream : DefQ := ⟨fun K => He.fAd K (("is_stream" : Str), none), "is_stream", "is_stream", s_is_stream⟩
abbrev s_are_groups : Stmt := top 66
def d_are_groups : DefQ := ⟨fun K => He.fAd K (("are_groups" : Str), none), "are_groups", "are_groups", s_are_groups⟩
abbrev s_are_streams : Stmt := top 67
def d_are_streams : DefQ := ⟨fun K => He.fAd K (("are_streams" : Str), none), "are_streams", "are_streams", s_are_streams⟩
abbrev s_need_form : Stmt := top 68
def d_need_form : DefQ := ⟨fun K => He.fAd K (("need_form" : Str), none), "need_form", "need_form", s_need_form⟩
abbrev s_ascending : Stmt := top 69
def d_ascending : DefQ := ⟨fun K => He.fAd K (("ascending" : Str), none), "ascending", "ascending", s_ascending⟩
abbrev s_chain : Stmt := top 70
def d_chain : DefQ := ⟨fun K => He.fAd K (("chain" : Str), none), "chain", "chain", s_chain⟩
abbrev s_twice : Stmt := top 71
def d_twice : DefQ := ⟨fun K => He.fAd K (("twice" : Str), none), "twice", "twice", s_twice⟩
abbrev s_unknown : Stmt := top 72
def d_unknown : DefQ := ⟨fun K => He.fAd K (("unknown" : Str), none), "unknown", "unknown", s_unknown⟩
abbrev s_rings : Stmt := top 73
def d_rings : DefQ := ⟨fun K => He.fAd K (("rings" : Str), none), "rings", "rings", s_rings⟩
abbrev s_bad_guides : Stmt := top 74
def d_bad_guides : DefQ := ⟨fun K => He.fAd K (("bad_guides" : Str), none), "bad_guides", "bad_guides", s_bad_guides⟩
abbrev s_Plan_initU : Stmt := inClass (top 75) 0
def d_Plan_initU : DefQ := ⟨fun K => He.fAd K (("Plan" : Str), some ("__init__" : Str)), "__init__", "Plan.__init__", s_Plan_initU⟩
abbrev s_Plan_need_sound : Stmt := inClass (top 75) 1
def d_Plan_need_sound : DefQ := ⟨fun K => He.fAd K (("Plan" : Str), some ("need_sound" : Str)), "need_sound", "Plan.need_sound", s_Plan_need_sound⟩
abbrev s_Plan_narrow : Stmt := inClass (top 75) 2
def d_Plan_narrow : DefQ := ⟨fun K => He.fAd K (("Plan" : Str), some ("narrow" : Str)), "narrow", "Plan.narrow", s_Plan_narrow⟩
abbrev s_Plan_least_own : Stmt := inClass (top 75) 3
def d_Plan_least_own : DefQ := ⟨fun K => He.fAd K (("Plan" : Str), some ("least_own" : Str)), "least_own", "Plan.least_own", s_Plan_least_own⟩
abbrev s_Plan_streams : Stmt := inClass (top 75) 4
def d_Plan_streams : DefQ := ⟨fun K => He.fAd K (("Plan" : Str), some ("streams" : Str)), "streams", "Plan.streams", s_Plan_streams⟩
abbrev s_Plan_houses : Stmt := inClass (top 75) 5
def d_Plan_houses : DefQ := ⟨fun K => He.fAd K (("Plan" : Str), some ("houses" : Str)), "houses", "Plan.houses", s_Plan_houses⟩
abbrev s_Plan_kinds : Stmt := inClass (top 75) 6
def d_Plan_kinds : DefQ := ⟨fun K => He.fAd K (("Plan" : Str), some ("kinds" : Str)), "kinds", "Plan.kinds", s_Plan_kinds⟩
abbrev s_Plan_shared : Stmt := inClass (top 75) 7
def d_Plan_shared : DefQ := ⟨fun K => He.fAd K (("Plan" : Str), some ("shared" : Str)), "shared", "Plan.shared", s_Plan_shared⟩
abbrev s_Plan_need_stream : Stmt := inClass (top 75) 8
def d_Plan_need_stream : DefQ := ⟨fun K => He.fAd K (("Plan" : Str), some ("need_stream" : Str)), "need_stream", "Plan.need_stream", s_Plan_need_stream⟩
abbrev s_Plan_over : Stmt := inClass (top 75) 9
def d_Plan_over : DefQ := ⟨fun K => He.fAd K (("Plan" : Str), some ("over" : Str)), "over", "Plan.over", s_Plan_over⟩
abbrev s_Plan_under : Stmt := inClass (top 75) 10
def d_Plan_under : DefQ := ⟨fun K => He.fAd K (("Plan" : Str), some ("under" : Str)), "under", "Plan.under", s_Plan_under⟩
abbrev s_Plan_most : Stmt := inClass (top 75) 11
def d_Plan_most : DefQ := ⟨fun K => He.fAd K (("Plan" : Str), some ("most" : Str)), "most", "Plan.most", s_Plan_most⟩
abbrev s_Plan_guide : Stmt := inClass (top 75) 12
def d_Plan_guide : DefQ := ⟨fun K => He.fAd K (("Plan" : Str), some ("guide" : Str)), "guide", "Plan.guide", s_Plan_guide⟩
abbrev s_Plan_guides : Stmt := inClass (top 75) 13
def d_Plan_guides : DefQ := ⟨fun K => He.fAd K (("Plan" : Str), some ("guides" : Str)), "guides", "Plan.guides", s_Plan_guides⟩
abbrev s_Plan_pool : Stmt := inClass (top 75) 15
def d_Plan_pool : DefQ := ⟨fun K => He.fAd K (("Plan" : Str), some ("pool" : Str)), "pool", "Plan.pool", s_Plan_pool⟩
abbrev s_Plan_containsU : Stmt := inClass (top 75) 16
def d_Plan_containsU : DefQ := ⟨fun K => He.fAd K (("Plan" : Str), some ("__contains__" : Str)), "__contains__", "Plan.__contains__", s_Plan_containsU⟩
abbrev s_Plan_getitemU : Stmt := inClass (top 75) 17
def d_Plan_getitemU : DefQ := ⟨fun K => He.fAd K (("Plan" : Str), some ("__getitem__" : Str)), "__getitem__", "Plan.__getitem__", s_Plan_getitemU⟩
abbrev sl_bag : Stmt := top 77
def dl_bag : DefQ := ⟨fun K => He.fAd K (("_law_bag" : Str), none), "_law_bag", "_law_bag", sl_bag⟩
abbrev sl_take : Stmt := top 78
def dl_take : DefQ := ⟨fun K => He.fAd K (("_law_take" : Str), none), "_law_take", "_law_take", sl_take⟩
abbrev sl_alike : Stmt := top 79
def dl_alike : DefQ := ⟨fun K => He.fAd K (("_law_alike" : Str), none), "_law_alike", "_law_alike", sl_alike⟩
abbrev sl_mixed : Stmt := top 80
def dl_mixed : DefQ := ⟨fun K => He.fAd K (("_law_mixed" : Str), none), "_law_mixed", "_law_mixed", sl_mixed⟩
abbrev sl_draw_names : Stmt := top 81
def dl_draw_names : DefQ := ⟨fun K => He.fAd K (("_law_draw_names" : Str), none), "_law_draw_names", "_law_draw_names", sl_draw_names⟩
abbrev sl_draw_size : Stmt := top 82
def dl_draw_size : DefQ := ⟨fun K => He.fAd K (("_law_draw_size" : Str), none), "_law_draw_size", "_law_draw_size", sl_draw_size⟩
abbrev sl_draw_tree : Stmt := top 83
def dl_draw_tree : DefQ := ⟨fun K => He.fAd K (("_law_draw_tree" : Str), none), "_law_draw_tree", "_law_draw_tree", sl_draw_tree⟩
abbrev sl_threshold : Stmt := top 84
def dl_threshold : DefQ := ⟨fun K => He.fAd K (("_law_threshold" : Str), none), "_law_threshold", "_law_threshold", sl_threshold⟩
abbrev sl_draw_pool : Stmt := top 85
def dl_draw_pool : DefQ := ⟨fun K => He.fAd K (("_law_draw_pool" : Str), none), "_law_draw_pool", "_law_draw_pool", sl_draw_pool⟩
abbrev sl_draw_groups : Stmt := top 86
def dl_draw_groups : DefQ := ⟨fun K => He.fAd K (("_law_draw_groups" : Str), none), "_law_draw_groups", "_law_draw_groups", sl_draw_groups⟩
abbrev sl_draw_stream : Stmt := top 87
def dl_draw_stream : DefQ := ⟨fun K => He.fAd K (("_law_draw_stream" : Str), none), "_law_draw_stream", "_law_draw_stream", sl_draw_stream⟩
abbrev sl_draw_parts : Stmt := top 88
def dl_draw_parts : DefQ := ⟨fun K => He.fAd K (("_law_draw_parts" : Str), none), "_law_draw_parts", "_law_draw_parts", sl_draw_parts⟩
abbrev sl_make_plan : Stmt := top 89
def dl_make_plan : DefQ := ⟨fun K => He.fAd K (("_law_make_plan" : Str), none), "_law_make_plan", "_law_make_plan", sl_make_plan⟩
abbrev sl_around : Stmt := top 90
def dl_around : DefQ := ⟨fun K => He.fAd K (("_law_around" : Str), none), "_law_around", "_law_around", sl_around⟩
abbrev sl_over : Stmt := top 91
def dl_over : DefQ := ⟨fun K => He.fAd K (("_law_over" : Str), none), "_law_over", "_law_over", sl_over⟩
abbrev sl_under : Stmt := top 92
def dl_under : DefQ := ⟨fun K => He.fAd K (("_law_under" : Str), none), "_law_under", "_law_under", sl_under⟩
abbrev sl_shared : Stmt := top 93
def dl_shared : DefQ := ⟨fun K => He.fAd K (("_law_shared" : Str), none), "_law_shared", "_law_shared", sl_shared⟩
abbrev sl_pool : Stmt := top 94
def dl_pool : DefQ := ⟨fun K => He.fAd K (("_law_pool" : Str), none), "_law_pool", "_law_pool", sl_pool⟩
abbrev sl_guides : Stmt := top 95
def dl_guides : DefQ := ⟨fun K => He.fAd K (("_law_guides" : Str), none), "_law_guides", "_law_guides", sl_guides⟩
abbrev sl_draw_slow : Stmt := top 96
def dl_draw_slow : DefQ := ⟨fun K => He.fAd K (("_law_draw_slow" : Str), none), "_law_draw_slow", "_law_draw_slow", sl_draw_slow⟩
abbrev sl_hold : Stmt := top 97
def dl_hold : DefQ := ⟨fun K => He.fAd K (("_law_hold" : Str), none), "_law_hold", "_law_hold", sl_hold⟩
abbrev sl_read_pools : Stmt := top 98
def dl_read_pools : DefQ := ⟨fun K => He.fAd K (("_law_read_pools" : Str), none), "_law_read_pools", "_law_read_pools", sl_read_pools⟩
abbrev sl_rivals : Stmt := top 99
def dl_rivals : DefQ := ⟨fun K => He.fAd K (("_law_rivals" : Str), none), "_law_rivals", "_law_rivals", sl_rivals⟩
abbrev sl_is_sum : Stmt := top 100
def dl_is_sum : DefQ := ⟨fun K => He.fAd K (("_law_is_sum" : Str), none), "_law_is_sum", "_law_is_sum", sl_is_sum⟩
abbrev sl_is_ascending : Stmt := top 101
def dl_is_ascending : DefQ := ⟨fun K => He.fAd K (("_law_is_ascending" : Str), none), "_law_is_ascending", "_law_is_ascending", sl_is_ascending⟩
abbrev sl_covers : Stmt := top 102
def dl_covers : DefQ := ⟨fun K => He.fAd K (("_law_covers" : Str), none), "_law_covers", "_law_covers", sl_covers⟩
abbrev sl_cover_sum : Stmt := top 103
def dl_cover_sum : DefQ := ⟨fun K => He.fAd K (("_law_cover_sum" : Str), none), "_law_cover_sum", "_law_cover_sum", sl_cover_sum⟩
abbrev sl_some_fill : Stmt := top 104
def dl_some_fill : DefQ := ⟨fun K => He.fAd K (("_law_some_fill" : Str), none), "_law_some_fill", "_law_some_fill", sl_some_fill⟩
abbrev sl_some_cover : Stmt := top 105
def dl_some_cover : DefQ := ⟨fun K => He.fAd K (("_law_some_cover" : Str), none), "_law_some_cover", "_law_some_cover", sl_some_cover⟩
abbrev sl_sums_right : Stmt := top 106
def dl_sums_right : DefQ := ⟨fun K => He.fAd K (("_law_sums_right" : Str), none), "_law_sums_right", "_law_sums_right", sl_sums_right⟩
abbrev sl_drawn_right : Stmt := top 107
def dl_drawn_right : DefQ := ⟨fun K => He.fAd K (("_law_drawn_right" : Str), none), "_law_drawn_right", "_law_drawn_right", sl_drawn_right⟩
abbrev s_law : Stmt := top 108
def d_law : DefQ := ⟨fun K => He.fAd K (("law" : Str), none), "law", "law", s_law⟩
abbrev s_Rule_threshold : Stmt := inClass (top 56) 3
def d_Rule_threshold : DefQ := ⟨fun K => getAd K "Rule" "threshold", "threshold", "Rule.threshold", s_Rule_threshold⟩
def fn0 : List DefQ := [d_read_pools, d_rivals, d_all_parts, d_holds_much, d_hold_of, d_caps_of, d_left_over, d_all_cuts, d_cut_sum, d_least_cut, d_is_integer, d_is_number, d_is_name, d_is_moment, d_check_slow, d_check_pool, d_holds, d_filled, d_fill, d_is_fill, d_cover, d_cover_sum, d_are_some, d_is_cover, d_is_shape, d_atoms_of, d_is_tree, d_threshold_of, d_Rule_initU, d_is_pool]
def fn1 : List DefQ := [d_is_name_or_none, d_is_group, d_is_stream, d_are_groups, d_are_streams, d_need_form, d_ascending, d_chain, d_twice, d_unknown, d_rings, d_bad_guides, d_Plan_initU, d_Plan_need_sound, d_Plan_narrow, d_Plan_least_own, d_Plan_streams, d_Plan_houses, d_Plan_kinds, d_Plan_shared, d_Plan_need_stream, d_Plan_over, d_Plan_under, d_Plan_most, d_Plan_guide, d_Plan_guides, d_Plan_pool, d_Plan_containsU, d_Plan_getitemU, dl_bag]
def fn2 : List DefQ := [dl_take, dl_alike, dl_mixed, dl_draw_names, dl_draw_size, dl_draw_tree, dl_threshold, dl_draw_pool, dl_draw_groups, dl_draw_stream, dl_draw_parts, dl_make_plan, dl_around, dl_over, dl_under, dl_shared, dl_pool, dl_guides, dl_draw_slow, dl_hold, dl_read_pools, dl_rivals, dl_is_sum, dl_is_ascending, dl_covers, dl_cover_sum, dl_some_fill, dl_some_cover, dl_sums_right, dl_drawn_right]
def fn3 : List DefQ := [d_law, d_Rule_threshold]
def fn : List DefQ := fn0 ++ fn1 ++ fn2 ++ fn3
def fas : List He.Fa := [.glo "read_pools", .glo "rivals", .glo "all_parts", .glo "holds_much", .glo "hold_of", .glo "caps_of", .glo "left_over", .glo "all_cuts", .glo "cut_sum", .glo "least_cut", .glo "is_integer", .glo "is_number", .glo "is_name", .glo "is_moment", .glo "check_slow", .glo "check_pool", .glo "holds", .glo "filled", .glo "fill", .glo "is_fill", .glo "cover", .glo "cover_sum", .glo "are_some", .glo "is_cover", .glo "is_shape", .glo "atoms_of", .glo "is_tree", .glo "threshold_of", .glo "is_pool", .glo "is_name_or_none", .glo "is_group", .glo "is_stream", .glo "are_groups", .glo "are_streams", .glo "need_form", .glo "ascending", .glo "chain", .glo "twice", .glo "unknown", .glo "rings"]
def fas1 : List He.Fa := [.glo "bad_guides", .glo "_law_bag", .glo "_law_take", .glo "_law_alike", .glo "_law_mixed", .glo "_law_draw_names", .glo "_law_draw_size", .glo "_law_draw_tree", .glo "_law_threshold", .glo "_law_draw_pool", .glo "_law_draw_groups", .glo "_law_draw_stream", .glo "_law_draw_parts", .glo "_law_make_plan", .glo "_law_around", .glo "_law_over", .glo "_law_under", .glo "_law_shared", .glo "_law_pool", .glo "_law_guides", .glo "_law_draw_slow", .glo "_law_hold", .glo "_law_read_pools", .glo "_law_rivals", .glo "_law_is_sum", .glo "_law_is_ascending", .glo "_law_covers", .glo "_law_cover_sum", .glo "_law_some_fill", .glo "_law_some_cover", .glo "_law_sums_right", .glo "_law_drawn_right", .glo "law", .glo "Rule", .glo "Plan", .free "abs", .free "all", .free "dict", .free "int", .free "isinstance"]
def fas2 : List He.Fa := [.free "len", .free "list", .free "max", .free "min", .free "range", .free "repr", .free "set", .free "sorted", .free "sum", .free "tuple", .free "zip", .free "bool", .free "str", .int "MOST_NAME" 8, .int "MOST_BY" 6, .int "MOST_ATOMS" 6, .int "ROUND" 60, .int "MOST_STREAMS" 6, .int "MOST_GROUPS" 6, .str "SMALL" "abcdefghijklmnopqrstuvwxyz", .str "PIPE" "pipe", .cls "Rule", .mkr "Rule", .noat "Rule" "its_tree", .cls "Plan", .mkr "Plan", .noat "Plan" "its_pipe", .noat "Plan" "its_houses", .noat "Plan" "its_kinds", .noat "Plan" "its_streams", .meth "Rule" "__init__", .meth "Plan" "__init__", .meth "Plan" "need_sound", .meth "Plan" "narrow", .meth "Plan" "least_own", .meth "Plan" "streams", .meth "Plan" "houses", .meth "Plan" "kinds", .meth "Plan" "shared", .meth "Plan" "need_stream"]
def fas3 : List He.Fa := [.meth "Plan" "over", .meth "Plan" "under", .meth "Plan" "most", .meth "Plan" "guide", .meth "Plan" "guides", .meth "Plan" "pool", .meth "Plan" "__contains__", .meth "Plan" "__getitem__"]
def fa : List He.Fa := fas ++ fas1 ++ fas2 ++ fas3
def ex (K : PySem.W.Frag) : Bool := (fa.all fun f => f.ok K) && (propB K "Rule" "threshold" && (isiB K "Rule" && (isiB K "Plan" && ((He.eqO (PySem.W.nsIn K mainGlobals "MOMENTS") (some (some (.ref (He.ga K "MOMENTS")))) && He.tupB K "MOMENTS" [.str "come", .str "read"]) && (He.eqO (PySem.W.nsIn K mainGlobals "JOINS") (some (some (.ref (He.ga K "JOINS")))) && He.tupB K "JOINS" [.str "or", .str "and"])))))
def nm0 : List Str := ["_wall", "read_pools", "rivals", "all_parts", "holds_much", "hold_of", "caps_of", "left_over", "all_cuts", "cut_sum", "least_cut", "PipeError", "Wrong", "TooMany", "Twice"]
def nm1 : List Str := ["Unknown", "Ring", "BadGuide", "Narrow", "BadSlow", "SMALL", "MOST_NAME", "MOMENTS", "is_integer", "is_number", "is_name", "is_moment", "check_slow", "check_pool", "holds"]
def nm2 : List Str := ["filled", "fill", "is_fill", "cover", "cover_sum", "are_some", "is_cover", "MOST_BY", "MOST_ATOMS", "ROUND", "JOINS", "is_shape", "atoms_of", "is_tree", "given_of"]
def nm3 : List Str := ["threshold_of", "telling_amounts", "first_apart", "Rule", "need_few", "PIPE", "MOST_STREAMS", "MOST_GROUPS", "is_pool", "is_name_or_none", "is_group", "is_stream", "are_groups", "are_streams", "need_form"]
def nm4 : List Str := ["ascending", "chain", "twice", "unknown", "rings", "bad_guides", "Plan", "_law_bag", "_law_take", "_law_alike", "_law_mixed", "_law_draw_names", "_law_draw_size", "_law_draw_tree", "_law_threshold"]
def nm5 : List Str := ["_law_draw_pool", "_law_draw_groups", "_law_draw_stream", "_law_draw_parts", "_law_make_plan", "_law_around", "_law_over", "_law_under", "_law_shared", "_law_pool", "_law_guides", "_law_draw_slow", "_law_hold", "_law_read_pools", "_law_rivals"]
def nm6 : List Str := ["_law_is_sum", "_law_is_ascending", "_law_covers", "_law_cover_sum", "_law_some_fill", "_law_some_cover", "_law_sums_right", "_law_drawn_right"]
def nms : List Str := nm0 ++ nm1 ++ nm2 ++ nm3 ++ nm4 ++ nm5 ++ nm6
def adrs0 : List Addr := [3, 26, 31, 36, 43, 50, 55, 60, 65, 70, 75, 248, 255, 262, 267, 274, 279, 286, 293, 300, 307, 312, 319, 326, 331, 336, 337, 344, 351, 358]
def adrs1 : List Addr := [372, 451, 469, 476, 483, 488, 493, 498, 505, 510, 517, 522, 527, 532, 539, 698, 707, 714, 721, 728, 733, 740, 745, 752, 759, 766, 771, 778, 785, 792]
def adrs2 : List Addr := [799, 804, 811, 818, 823, 828, 835, 840, 845, 850, 855, 860, 865, 870, 875, 882, 889, 894, 25, 30, 35, 42, 49, 54, 59, 64, 69, 74, 254, 261]
def adrs3 : List Addr := [266, 273, 278, 285, 292, 299, 306, 311, 318, 325, 330, 335, 343, 350, 357, 371, 450, 468, 475, 482, 487, 492, 497, 504, 509, 516, 521, 526, 531, 538]
def adrs4 : List Addr := [697, 706, 713, 720, 727, 732, 739, 744, 751, 758, 765, 770, 777, 784, 791, 798, 803, 810, 817, 822, 827, 834, 839, 844, 849, 854, 859, 864, 869, 874]
def adrs5 : List Addr := [881, 888, 893, 398, 420, 553, 560, 565, 572, 579, 586, 593, 600, 607, 614, 619, 626, 633, 638, 652, 659, 666, 397, 419, 552, 559, 564, 571, 578, 585]
def adrs6 : List Addr := [592, 599, 606, 613, 618, 625, 632, 637, 651, 658, 665, 418]
def adrs : List Addr := adrs0 ++ adrs1 ++ adrs2 ++ adrs3 ++ adrs4 ++ adrs5 ++ adrs6
structure IsiP (K : PySem.W.Frag) (C : Str) : Prop where
  ha : PySem.W.findIn K (.ref (He.ga K C)) "__class__" = some (some (.builtin "object.__class__"))
  hn : PySem.W.specialIn K (.builtin "object.__class__") "__get__" = some (some (.builtin "getset_descriptor.__get__"))
  ht : PySem.W.takesIn K (.builtin "object.__class__") = some true
  hm : PySem.W.mroIn K (He.ga K C) (.type "object") = some true
theorem isiB_ok {K : PySem.W.Frag} {C : Str} (h : isiB K C = true) : IsiP K C := by
  obtain ⟨h1, h2⟩ := He.ba h
  obtain ⟨h3, h4⟩ := He.ba h2
  obtain ⟨h5, h6⟩ := He.ba h4
  exact ⟨He.eqO_ok h1, He.eqO_ok h3, of_decide_eq_true h5, of_decide_eq_true h6⟩
theorem fact {K : PySem.W.Frag} (c : SaysQ ex fn K) (i : Nat) {f : He.Fa} (h : fa[i]? = some f) : f.ok K = true :=
  List.all_eq_true.mp (He.ba (show ((fa.all fun f => f.ok K) && _) = true from c.ex)).1 f (List.mem_of_getElem? h)
structure Facts (K : PySem.W.Frag) (mg : Str → Option Value) : Prop where
  gread_pools : mg "read_pools" = some (.ref (He.ga K "read_pools"))
  grivals : mg "rivals" = some (.ref (He.ga K "rivals"))
  gall_parts : mg "all_parts" = some (.ref (He.ga K "all_parts"))
  gholds_much : mg "holds_much" = some (.ref (He.ga K "holds_much"))
  ghold_of : mg "hold_of" = some (.ref (He.ga K "hold_of"))
  gcaps_of : mg "caps_of" = some (.ref (He.ga K "caps_of"))
  gleft_over : mg "left_over" = some (.ref (He.ga K "left_over"))
  gall_cuts : mg "all_cuts" = some (.ref (He.ga K "all_cuts"))
  gcut_sum : mg "cut_sum" = some (.ref (He.ga K "cut_sum"))
  gleast_cut : mg "least_cut" = some (.ref (He.ga K "least_cut"))
  gis_integer : mg "is_integer" = some (.ref (He.ga K "is_integer"))
  gis_number : mg "is_number" = some (.ref (He.ga K "is_number"))
  gis_name : mg "is_name" = some (.ref (He.ga K "is_name"))
  gis_moment : mg "is_moment" = some (.ref (He.ga K "is_moment"))
  gcheck_slow : mg "check_slow" = some (.ref (He.ga K "check_slow"))
  gcheck_pool : mg "check_pool" = some (.ref (He.ga K "check_pool"))
  gholds : mg "holds" = some (.ref (He.ga K "holds"))
  gfilled : mg "filled" = some (.ref (He.ga K "filled"))
  gfill : mg "fill" = some (.ref (He.ga K "fill"))
  gis_fill : mg "is_fill" = some (.ref (He.ga K "is_fill"))
  gcover : mg "cover" = some (.ref (He.ga K "cover"))
  gcover_sum : mg "cover_sum" = some (.ref (He.ga K "cover_sum"))
  gare_some : mg "are_some" = some (.ref (He.ga K "are_some"))
  gis_cover : mg "is_cover" = some (.ref (He.ga K "is_cover"))
  gis_shape : mg "is_shape" = some (.ref (He.ga K "is_shape"))
  gatoms_of : mg "atoms_of" = some (.ref (He.ga K "atoms_of"))
  gis_tree : mg "is_tree" = some (.ref (He.ga K "is_tree"))
  gthreshold_of : mg "threshold_of" = some (.ref (He.ga K "threshold_of"))
  gis_pool : mg "is_pool" = some (.ref (He.ga K "is_pool"))
  gis_name_or_none : mg "is_name_or_none" = some (.ref (He.ga K "is_name_or_none"))
  gis_group : mg "is_group" = some (.ref (He.ga K "is_group"))
  gis_stream : mg "is_stream" = some (.ref (He.ga K "is_stream"))
  gare_groups : mg "are_groups" = some (.ref (He.ga K "are_groups"))
  gare_streams : mg "are_streams" = some (.ref (He.ga K "are_streams"))
  gneed_form : mg "need_form" = some (.ref (He.ga K "need_form"))
  gascending : mg "ascending" = some (.ref (He.ga K "ascending"))
  gchain : mg "chain" = some (.ref (He.ga K "chain"))
  gtwice : mg "twice" = some (.ref (He.ga K "twice"))
  gunknown : mg "unknown" = some (.ref (He.ga K "unknown"))
  grings : mg "rings" = some (.ref (He.ga K "rings"))
  gbad_guides : mg "bad_guides" = some (.ref (He.ga K "bad_guides"))
  g_law_bag : mg "_law_bag" = some (.ref (He.ga K "_law_bag"))
  g_law_take : mg "_law_take" = some (.ref (He.ga K "_law_take"))
  g_law_alike : mg "_law_alike" = some (.ref (He.ga K "_law_alike"))
  g_law_mixed : mg "_law_mixed" = some (.ref (He.ga K "_law_mixed"))
  g_law_draw_names : mg "_law_draw_names" = some (.ref (He.ga K "_law_draw_names"))
  g_law_draw_size : mg "_law_draw_size" = some (.ref (He.ga K "_law_draw_size"))
  g_law_draw_tree : mg "_law_draw_tree" = some (.ref (He.ga K "_law_draw_tree"))
  g_law_threshold : mg "_law_threshold" = some (.ref (He.ga K "_law_threshold"))
  g_law_draw_pool : mg "_law_draw_pool" = some (.ref (He.ga K "_law_draw_pool"))
  g_law_draw_groups : mg "_law_draw_groups" = some (.ref (He.ga K "_law_draw_groups"))
  g_law_draw_stream : mg "_law_draw_stream" = some (.ref (He.ga K "_law_draw_stream"))
  g_law_draw_parts : mg "_law_draw_parts" = some (.ref (He.ga K "_law_draw_parts"))
  g_law_make_plan : mg "_law_make_plan" = some (.ref (He.ga K "_law_make_plan"))
  g_law_around : mg "_law_around" = some (.ref (He.ga K "_law_around"))
  g_law_over : mg "_law_over" = some (.ref (He.ga K "_law_over"))
  g_law_under : mg "_law_under" = some (.ref (He.ga K "_law_under"))
  g_law_shared : mg "_law_shared" = some (.ref (He.ga K "_law_shared"))
  g_law_pool : mg "_law_pool" = some (.ref (He.ga K "_law_pool"))
  g_law_guides : mg "_law_guides" = some (.ref (He.ga K "_law_guides"))
  g_law_draw_slow : mg "_law_draw_slow" = some (.ref (He.ga K "_law_draw_slow"))
  g_law_hold : mg "_law_hold" = some (.ref (He.ga K "_law_hold"))
  g_law_read_pools : mg "_law_read_pools" = some (.ref (He.ga K "_law_read_pools"))
  g_law_rivals : mg "_law_rivals" = some (.ref (He.ga K "_law_rivals"))
  g_law_is_sum : mg "_law_is_sum" = some (.ref (He.ga K "_law_is_sum"))
  g_law_is_ascending : mg "_law_is_ascending" = some (.ref (He.ga K "_law_is_ascending"))
  g_law_covers : mg "_law_covers" = some (.ref (He.ga K "_law_covers"))
  g_law_cover_sum : mg "_law_cover_sum" = some (.ref (He.ga K "_law_cover_sum"))
  g_law_some_fill : mg "_law_some_fill" = some (.ref (He.ga K "_law_some_fill"))
  g_law_some_cover : mg "_law_some_cover" = some (.ref (He.ga K "_law_some_cover"))
  g_law_sums_right : mg "_law_sums_right" = some (.ref (He.ga K "_law_sums_right"))
  g_law_drawn_right : mg "_law_drawn_right" = some (.ref (He.ga K "_law_drawn_right"))
  glaw : mg "law" = some (.ref (He.ga K "law"))
  g_Rule : mg "Rule" = some (.ref (He.ga K "Rule"))
  c_Rule : Cls K (He.ga K "Rule")
  k_Rule : Mk K (He.ga K "Rule") (He.ma K (He.ga K "Rule") "__init__")
  n_Rule_its_tree : NoAttr K (He.ga K "Rule") "its_tree"
  i_Rule : IsiP K "Rule"
  g_Plan : mg "Plan" = some (.ref (He.ga K "Plan"))
  c_Plan : Cls K (He.ga K "Plan")
  k_Plan : Mk K (He.ga K "Plan") (He.ma K (He.ga K "Plan") "__init__")
  n_Plan_its_pipe : NoAttr K (He.ga K "Plan") "its_pipe"
  n_Plan_its_houses : NoAttr K (He.ga K "Plan") "its_houses"
  n_Plan_its_kinds : NoAttr K (He.ga K "Plan") "its_kinds"
  n_Plan_its_streams : NoAttr K (He.ga K "Plan") "its_streams"
  i_Plan : IsiP K "Plan"
  p_thr : PropOf K (He.ga K "Rule") "threshold" (prAd K "Rule" "threshold") (getAd K "Rule" "threshold")
  b_abs : mg "abs" = none
  b_all : mg "all" = none
  b_dict : mg "dict" = none
  b_int : mg "int" = none
  b_isinstance : mg "isinstance" = none
  b_len : mg "len" = none
  b_list : mg "list" = none
  b_max : mg "max" = none
  b_min : mg "min" = none
  b_range : mg "range" = none
  b_repr : mg "repr" = none
  b_set : mg "set" = none
  b_sorted : mg "sorted" = none
  b_sum : mg "sum" = none
  b_tuple : mg "tuple" = none
  b_zip : mg "zip" = none
  b_bool : mg "bool" = none
  b_str : mg "str" = none
  v_MOST_NAME : ∃ t, mg "MOST_NAME" = some (.int 8 t)
  v_MOST_BY : ∃ t, mg "MOST_BY" = some (.int 6 t)
  v_MOST_ATOMS : ∃ t, mg "MOST_ATOMS" = some (.int 6 t)
  v_ROUND : ∃ t, mg "ROUND" = some (.int 60 t)
  v_MOST_STREAMS : ∃ t, mg "MOST_STREAMS" = some (.int 6 t)
  v_MOST_GROUPS : ∃ t, mg "MOST_GROUPS" = some (.int 6 t)
  v_SMALL : ∃ t, mg "SMALL" = some (.str "abcdefghijklmnopqrstuvwxyz" t)
  v_PIPE : ∃ t, mg "PIPE" = some (.str "pipe" t)
  g_MOMENTS : mg "MOMENTS" = some (.ref (He.ga K "MOMENTS"))
  t_MOMENTS : ∀ H, SqT K H (He.ga K "MOMENTS") [V.str "come", V.str "read"]
  g_JOINS : mg "JOINS" = some (.ref (He.ga K "JOINS"))
  t_JOINS : ∀ H, SqT K H (He.ga K "JOINS") [V.str "or", V.str "and"]
  m_Rule_UUinitUU : Meth K (He.ga K "Rule") "__init__" (He.ma K (He.ga K "Rule") "__init__")
  m_Plan_UUinitUU : Meth K (He.ga K "Plan") "__init__" (He.ma K (He.ga K "Plan") "__init__")
  m_Plan_need_sound : Meth K (He.ga K "Plan") "need_sound" (He.ma K (He.ga K "Plan") "need_sound")
  m_Plan_narrow : Meth K (He.ga K "Plan") "narrow" (He.ma K (He.ga K "Plan") "narrow")
  m_Plan_least_own : Meth K (He.ga K "Plan") "least_own" (He.ma K (He.ga K "Plan") "least_own")
  m_Plan_streams : Meth K (He.ga K "Plan") "streams" (He.ma K (He.ga K "Plan") "streams")
  m_Plan_houses : Meth K (He.ga K "Plan") "houses" (He.ma K (He.ga K "Plan") "houses")
  m_Plan_kinds : Meth K (He.ga K "Plan") "kinds" (He.ma K (He.ga K "Plan") "kinds")
  m_Plan_shared : Meth K (He.ga K "Plan") "shared" (He.ma K (He.ga K "Plan") "shared")
  m_Plan_need_stream : Meth K (He.ga K "Plan") "need_stream" (He.ma K (He.ga K "Plan") "need_stream")
  m_Plan_over : Meth K (He.ga K "Plan") "over" (He.ma K (He.ga K "Plan") "over")
  m_Plan_under : Meth K (He.ga K "Plan") "under" (He.ma K (He.ga K "Plan") "under")
  m_Plan_most : Meth K (He.ga K "Plan") "most" (He.ma K (He.ga K "Plan") "most")
  m_Plan_guide : Meth K (He.ga K "Plan") "guide" (He.ma K (He.ga K "Plan") "guide")
  m_Plan_guides : Meth K (He.ga K "Plan") "guides" (He.ma K (He.ga K "Plan") "guides")
  m_Plan_pool : Meth K (He.ga K "Plan") "pool" (He.ma K (He.ga K "Plan") "pool")
  m_Plan_UUcontainsUU : Meth K (He.ga K "Plan") "__contains__" (He.ma K (He.ga K "Plan") "__contains__")
  m_Plan_UUgetitemUU : Meth K (He.ga K "Plan") "__getitem__" (He.ma K (He.ga K "Plan") "__getitem__")
  f_read_pools : ∃ fd, FnP K "read_pools" "read_pools" s_read_pools (He.ga K "read_pools") fd
  f_rivals : ∃ fd, FnP K "rivals" "rivals" s_rivals (He.ga K "rivals") fd
  f_all_parts : ∃ fd, FnP K "all_parts" "all_parts" s_all_parts (He.ga K "all_parts") fd
  f_holds_much : ∃ fd, FnP K "holds_much" "holds_much" s_holds_much (He.ga K "holds_much") fd
  f_hold_of : ∃ fd, FnP K "hold_of" "hold_of" s_hold_of (He.ga K "hold_of") fd
  f_caps_of : ∃ fd, FnP K "caps_of" "caps_of" s_caps_of (He.ga K "caps_of") fd
  f_left_over : ∃ fd, FnP K "left_over" "left_over" s_left_over (He.ga K "left_over") fd
  f_all_cuts : ∃ fd, FnP K "all_cuts" "all_cuts" s_all_cuts (He.ga K "all_cuts") fd
  f_cut_sum : ∃ fd, FnP K "cut_sum" "cut_sum" s_cut_sum (He.ga K "cut_sum") fd
  f_least_cut : ∃ fd, FnP K "least_cut" "least_cut" s_least_cut (He.ga K "least_cut") fd
  f_is_integer : ∃ fd, FnP K "is_integer" "is_integer" s_is_integer (He.ga K "is_integer") fd
  f_is_number : ∃ fd, FnP K "is_number" "is_number" s_is_number (He.ga K "is_number") fd
  f_is_name : ∃ fd, FnP K "is_name" "is_name" s_is_name (He.ga K "is_name") fd
  f_is_moment : ∃ fd, FnP K "is_moment" "is_moment" s_is_moment (He.ga K "is_moment") fd
  f_check_slow : ∃ fd, FnP K "check_slow" "check_slow" s_check_slow (He.ga K "check_slow") fd
  f_check_pool : ∃ fd, FnP K "check_pool" "check_pool" s_check_pool (He.ga K "check_pool") fd
  f_holds : ∃ fd, FnP K "holds" "holds" s_holds (He.ga K "holds") fd
  f_filled : ∃ fd, FnP K "filled" "filled" s_filled (He.ga K "filled") fd
  f_fill : ∃ fd, FnP K "fill" "fill" s_fill (He.ga K "fill") fd
  f_is_fill : ∃ fd, FnP K "is_fill" "is_fill" s_is_fill (He.ga K "is_fill") fd
  f_cover : ∃ fd, FnP K "cover" "cover" s_cover (He.ga K "cover") fd
  f_cover_sum : ∃ fd, FnP K "cover_sum" "cover_sum" s_cover_sum (He.ga K "cover_sum") fd
  f_are_some : ∃ fd, FnP K "are_some" "are_some" s_are_some (He.ga K "are_some") fd
  f_is_cover : ∃ fd, FnP K "is_cover" "is_cover" s_is_cover (He.ga K "is_cover") fd
  f_is_shape : ∃ fd, FnP K "is_shape" "is_shape" s_is_shape (He.ga K "is_shape") fd
  f_atoms_of : ∃ fd, FnP K "atoms_of" "atoms_of" s_atoms_of (He.ga K "atoms_of") fd
  f_is_tree : ∃ fd, FnP K "is_tree" "is_tree" s_is_tree (He.ga K "is_tree") fd
  f_threshold_of : ∃ fd, FnP K "threshold_of" "threshold_of" s_threshold_of (He.ga K "threshold_of") fd
  f_Rule_initU : ∃ fd, FnP K "__init__" "Rule.__init__" s_Rule_initU (He.ma K (He.ga K "Rule") "__init__") fd
  f_is_pool : ∃ fd, FnP K "is_pool" "is_pool" s_is_pool (He.ga K "is_pool") fd
  f_is_name_or_none : ∃ fd, FnP K "is_name_or_none" "is_name_or_none" s_is_name_or_none (He.ga K "is_name_or_none") fd
  f_is_group : ∃ fd, FnP K "is_group" "is_group" s_is_group (He.ga K "is_group") fd
  f_is_stream : ∃ fd, FnP K "is_stream" "is_stream" s_is_stream (He.ga K "is_stream") fd
  f_are_groups : ∃ fd, FnP K "are_groups" "are_groups" s_are_groups (He.ga K "are_groups") fd
  f_are_streams : ∃ fd, FnP K "are_streams" "are_streams" s_are_streams (He.ga K "are_streams") fd
  f_need_form : ∃ fd, FnP K "need_form" "need_form" s_need_form (He.ga K "need_form") fd
  f_ascending : ∃ fd, FnP K "ascending" "ascending" s_ascending (He.ga K "ascending") fd
  f_chain : ∃ fd, FnP K "chain" "chain" s_chain (He.ga K "chain") fd
  f_twice : ∃ fd, FnP K "twice" "twice" s_twice (He.ga K "twice") fd
  f_unknown : ∃ fd, FnP K "unknown" "unknown" s_unknown (He.ga K "unknown") fd
  f_rings : ∃ fd, FnP K "rings" "rings" s_rings (He.ga K "rings") fd
  f_bad_guides : ∃ fd, FnP K "bad_guides" "bad_guides" s_bad_guides (He.ga K "bad_guides") fd
  f_Plan_initU : ∃ fd, FnP K "__init__" "Plan.__init__" s_Plan_initU (He.ma K (He.ga K "Plan") "__init__") fd
  f_Plan_need_sound : ∃ fd, FnP K "need_sound" "Plan.need_sound" s_Plan_need_sound (He.ma K (He.ga K "Plan") "need_sound") fd
  f_Plan_narrow : ∃ fd, FnP K "narrow" "Plan.narrow" s_Plan_narrow (He.ma K (He.ga K "Plan") "narrow") fd
  f_Plan_least_own : ∃ fd, FnP K "least_own" "Plan.least_own" s_Plan_least_own (He.ma K (He.ga K "Plan") "least_own") fd
  f_Plan_streams : ∃ fd, FnP K "streams" "Plan.streams" s_Plan_streams (He.ma K (He.ga K "Plan") "streams") fd
  f_Plan_houses : ∃ fd, FnP K "houses" "Plan.houses" s_Plan_houses (He.ma K (He.ga K "Plan") "houses") fd
  f_Plan_kinds : ∃ fd, FnP K "kinds" "Plan.kinds" s_Plan_kinds (He.ma K (He.ga K "Plan") "kinds") fd
  f_Plan_shared : ∃ fd, FnP K "shared" "Plan.shared" s_Plan_shared (He.ma K (He.ga K "Plan") "shared") fd
  f_Plan_need_stream : ∃ fd, FnP K "need_stream" "Plan.need_stream" s_Plan_need_stream (He.ma K (He.ga K "Plan") "need_stream") fd
  f_Plan_over : ∃ fd, FnP K "over" "Plan.over" s_Plan_over (He.ma K (He.ga K "Plan") "over") fd
  f_Plan_under : ∃ fd, FnP K "under" "Plan.under" s_Plan_under (He.ma K (He.ga K "Plan") "under") fd
  f_Plan_most : ∃ fd, FnP K "most" "Plan.most" s_Plan_most (He.ma K (He.ga K "Plan") "most") fd
  f_Plan_guide : ∃ fd, FnP K "guide" "Plan.guide" s_Plan_guide (He.ma K (He.ga K "Plan") "guide") fd
  f_Plan_guides : ∃ fd, FnP K "guides" "Plan.guides" s_Plan_guides (He.ma K (He.ga K "Plan") "guides") fd
  f_Plan_pool : ∃ fd, FnP K "pool" "Plan.pool" s_Plan_pool (He.ma K (He.ga K "Plan") "pool") fd
  f_Plan_containsU : ∃ fd, FnP K "__contains__" "Plan.__contains__" s_Plan_containsU (He.ma K (He.ga K "Plan") "__contains__") fd
  f_Plan_getitemU : ∃ fd, FnP K "__getitem__" "Plan.__getitem__" s_Plan_getitemU (He.ma K (He.ga K "Plan") "__getitem__") fd
  fl_bag : ∃ fd, FnP K "_law_bag" "_law_bag" sl_bag (He.ga K "_law_bag") fd
  fl_take : ∃ fd, FnP K "_law_take" "_law_take" sl_take (He.ga K "_law_take") fd
  fl_alike : ∃ fd, FnP K "_law_alike" "_law_alike" sl_alike (He.ga K "_law_alike") fd
  fl_mixed : ∃ fd, FnP K "_law_mixed" "_law_mixed" sl_mixed (He.ga K "_law_mixed") fd
  fl_draw_names : ∃ fd, FnP K "_law_draw_names" "_law_draw_names" sl_draw_names (He.ga K "_law_draw_names") fd
  fl_draw_size : ∃ fd, FnP K "_law_draw_size" "_law_draw_size" sl_draw_size (He.ga K "_law_draw_size") fd
  fl_draw_tree : ∃ fd, FnP K "_law_draw_tree" "_law_draw_tree" sl_draw_tree (He.ga K "_law_draw_tree") fd
  fl_threshold : ∃ fd, FnP K "_law_threshold" "_law_threshold" sl_threshold (He.ga K "_law_threshold") fd
  fl_draw_pool : ∃ fd, FnP K "_law_draw_pool" "_law_draw_pool" sl_draw_pool (He.ga K "_law_draw_pool") fd
  fl_draw_groups : ∃ fd, FnP K "_law_draw_groups" "_law_draw_groups" sl_draw_groups (He.ga K "_law_draw_groups") fd
  fl_draw_stream : ∃ fd, FnP K "_law_draw_stream" "_law_draw_stream" sl_draw_stream (He.ga K "_law_draw_stream") fd
  fl_draw_parts : ∃ fd, FnP K "_law_draw_parts" "_law_draw_parts" sl_draw_parts (He.ga K "_law_draw_parts") fd
  fl_make_plan : ∃ fd, FnP K "_law_make_plan" "_law_make_plan" sl_make_plan (He.ga K "_law_make_plan") fd
  fl_around : ∃ fd, FnP K "_law_around" "_law_around" sl_around (He.ga K "_law_around") fd
  fl_over : ∃ fd, FnP K "_law_over" "_law_over" sl_over (He.ga K "_law_over") fd
  fl_under : ∃ fd, FnP K "_law_under" "_law_under" sl_under (He.ga K "_law_under") fd
  fl_shared : ∃ fd, FnP K "_law_shared" "_law_shared" sl_shared (He.ga K "_law_shared") fd
  fl_pool : ∃ fd, FnP K "_law_pool" "_law_pool" sl_pool (He.ga K "_law_pool") fd
  fl_guides : ∃ fd, FnP K "_law_guides" "_law_guides" sl_guides (He.ga K "_law_guides") fd
  fl_draw_slow : ∃ fd, FnP K "_law_draw_slow" "_law_draw_slow" sl_draw_slow (He.ga K "_law_draw_slow") fd
  fl_hold : ∃ fd, FnP K "_law_hold" "_law_hold" sl_hold (He.ga K "_law_hold") fd
  fl_read_pools : ∃ fd, FnP K "_law_read_pools" "_law_read_pools" sl_read_pools (He.ga K "_law_read_pools") fd
  fl_rivals : ∃ fd, FnP K "_law_rivals" "_law_rivals" sl_rivals (He.ga K "_law_rivals") fd
  fl_is_sum : ∃ fd, FnP K "_law_is_sum" "_law_is_sum" sl_is_sum (He.ga K "_law_is_sum") fd
  fl_is_ascending : ∃ fd, FnP K "_law_is_ascending" "_law_is_ascending" sl_is_ascending (He.ga K "_law_is_ascending") fd
  fl_covers : ∃ fd, FnP K "_law_covers" "_law_covers" sl_covers (He.ga K "_law_covers") fd
  fl_cover_sum : ∃ fd, FnP K "_law_cover_sum" "_law_cover_sum" sl_cover_sum (He.ga K "_law_cover_sum") fd
  fl_some_fill : ∃ fd, FnP K "_law_some_fill" "_law_some_fill" sl_some_fill (He.ga K "_law_some_fill") fd
  fl_some_cover : ∃ fd, FnP K "_law_some_cover" "_law_some_cover" sl_some_cover (He.ga K "_law_some_cover") fd
  fl_sums_right : ∃ fd, FnP K "_law_sums_right" "_law_sums_right" sl_sums_right (He.ga K "_law_sums_right") fd
  fl_drawn_right : ∃ fd, FnP K "_law_drawn_right" "_law_drawn_right" sl_drawn_right (He.ga K "_law_drawn_right") fd
  f_law : ∃ fd, FnP K "law" "law" s_law (He.ga K "law") fd
  f_Rule_threshold : ∃ fd, FnP K "threshold" "Rule.threshold" s_Rule_threshold (getAd K "Rule" "threshold") fd
theorem facts_of {K : PySem.W.Frag} {h : Heap} {mg : Str → Option Value} (X : K.In h) (G : h.Ns mainGlobals mg) (c : SaysQ ex fn K) : Facts K mg := by
  obtain ⟨_, e1⟩ := He.ba (show ((fa.all fun f => f.ok K) && _) = true from c.ex)
  obtain ⟨pr, e2⟩ := He.ba e1
  obtain ⟨isr, e3⟩ := He.ba e2
  obtain ⟨isp, tps⟩ := He.ba e3
  obtain ⟨tp0, tp1⟩ := He.ba tps
  exact {
    gread_pools := He.glo_ok X G (fact c 0 (f := .glo "read_pools") rfl)
    grivals := He.glo_ok X G (fact c 1 (f := .glo "rivals") rfl)
    gall_parts := He.glo_ok X G (fact c 2 (f := .glo "all_parts") rfl)
    gholds_much := He.glo_ok X G (fact c 3 (f := .glo "holds_much") rfl)
    ghold_of := He.glo_ok X G (fact c 4 (f := .glo "hold_of") rfl)
    gcaps_of := He.glo_ok X G (fact c 5 (f := .glo "caps_of") rfl)
    gleft_over := He.glo_ok X G (fact c 6 (f := .glo "left_over") rfl)
    gall_cuts := He.glo_ok X G (fact c 7 (f := .glo "all_cuts") rfl)
    gcut_sum := He.glo_ok X G (fact c 8 (f := .glo "cut_sum") rfl)
    gleast_cut := He.glo_ok X G (fact c 9 (f := .glo "least_cut") rfl)
    gis_integer := He.glo_ok X G (fact c 10 (f := .glo "is_integer") rfl)
    gis_number := He.glo_ok X G (fact c 11 (f := .glo "is_number") rfl)
    gis_name := He.glo_ok X G (fact c 12 (f := .glo "is_name") rfl)
    gis_moment := He.glo_ok X G (fact c 13 (f := .glo "is_moment") rfl)
    gcheck_slow := He.glo_ok X G (fact c 14 (f := .glo "check_slow") rfl)
    gcheck_pool := He.glo_ok X G (fact c 15 (f := .glo "check_pool") rfl)
    gholds := He.glo_ok X G (fact c 16 (f := .glo "holds") rfl)
    gfilled := He.glo_ok X G (fact c 17 (f := .glo "filled") rfl)
    gfill := He.glo_ok X G (fact c 18 (f := .glo "fill") rfl)
    gis_fill := He.glo_ok X G (fact c 19 (f := .glo "is_fill") rfl)
    gcover := He.glo_ok X G (fact c 20 (f := .glo "cover") rfl)
    gcover_sum := He.glo_ok X G (fact c 21 (f := .glo "cover_sum") rfl)
    gare_some := He.glo_ok X G (fact c 22 (f := .glo "are_some") rfl)
    gis_cover := He.glo_ok X G (fact c 23 (f := .glo "is_cover") rfl)
    gis_shape := He.glo_ok X G (fact c 24 (f := .glo "is_shape") rfl)
    gatoms_of := He.glo_ok X G (fact c 25 (f := .glo "atoms_of") rfl)
    gis_tree := He.glo_ok X G (fact c 26 (f := .glo "is_tree") rfl)
    gthreshold_of := He.glo_ok X G (fact c 27 (f := .glo "threshold_of") rfl)
    gis_pool := He.glo_ok X G (fact c 28 (f := .glo "is_pool") rfl)
    gis_name_or_none := He.glo_ok X G (fact c 29 (f := .glo "is_name_or_none") rfl)
    gis_group := He.glo_ok X G (fact c 30 (f := .glo "is_group") rfl)
    gis_stream := He.glo_ok X G (fact c 31 (f := .glo "is_stream") rfl)
    gare_groups := He.glo_ok X G (fact c 32 (f := .glo "are_groups") rfl)
    gare_streams := He.glo_ok X G (fact c 33 (f := .glo "are_streams") rfl)
    gneed_form := He.glo_ok X G (fact c 34 (f := .glo "need_form") rfl)
    gascending := He.glo_ok X G (fact c 35 (f := .glo "ascending") rfl)
    gchain := He.glo_ok X G (fact c 36 (f := .glo "chain") rfl)
    gtwice := He.glo_ok X G (fact c 37 (f := .glo "twice") rfl)
    gunknown := He.glo_ok X G (fact c 38 (f := .glo "unknown") rfl)
    grings := He.glo_ok X G (fact c 39 (f := .glo "rings") rfl)
    gbad_guides := He.glo_ok X G (fact c 40 (f := .glo "bad_guides") rfl)
    g_law_bag := He.glo_ok X G (fact c 41 (f := .glo "_law_bag") rfl)
    g_law_take := He.glo_ok X G (fact c 42 (f := .glo "_law_take") rfl)
    g_law_alike := He.glo_ok X G (fact c 43 (f := .glo "_law_alike") rfl)
    g_law_mixed := He.glo_ok X G (fact c 44 (f := .glo "_law_mixed") rfl)
    g_law_draw_names := He.glo_ok X G (fact c 45 (f := .glo "_law_draw_names") rfl)
    g_law_draw_size := He.glo_ok X G (fact c 46 (f := .glo "_law_draw_size") rfl)
    g_law_draw_tree := He.glo_ok X G (fact c 47 (f := .glo "_law_draw_tree") rfl)
    g_law_threshold := He.glo_ok X G (fact c 48 (f := .glo "_law_threshold") rfl)
    g_law_draw_pool := He.glo_ok X G (fact c 49 (f := .glo "_law_draw_pool") rfl)
    g_law_draw_groups := He.glo_ok X G (fact c 50 (f := .glo "_law_draw_groups") rfl)
    g_law_draw_stream := He.glo_ok X G (fact c 51 (f := .glo "_law_draw_stream") rfl)
    g_law_draw_parts := He.glo_ok X G (fact c 52 (f := .glo "_law_draw_parts") rfl)
    g_law_make_plan := He.glo_ok X G (fact c 53 (f := .glo "_law_make_plan") rfl)
    g_law_around := He.glo_ok X G (fact c 54 (f := .glo "_law_around") rfl)
    g_law_over := He.glo_ok X G (fact c 55 (f := .glo "_law_over") rfl)
    g_law_under := He.glo_ok X G (fact c 56 (f := .glo "_law_under") rfl)
    g_law_shared := He.glo_ok X G (fact c 57 (f := .glo "_law_shared") rfl)
    g_law_pool := He.glo_ok X G (fact c 58 (f := .glo "_law_pool") rfl)
    g_law_guides := He.glo_ok X G (fact c 59 (f := .glo "_law_guides") rfl)
    g_law_draw_slow := He.glo_ok X G (fact c 60 (f := .glo "_law_draw_slow") rfl)
    g_law_hold := He.glo_ok X G (fact c 61 (f := .glo "_law_hold") rfl)
    g_law_read_pools := He.glo_ok X G (fact c 62 (f := .glo "_law_read_pools") rfl)
    g_law_rivals := He.glo_ok X G (fact c 63 (f := .glo "_law_rivals") rfl)
    g_law_is_sum := He.glo_ok X G (fact c 64 (f := .glo "_law_is_sum") rfl)
    g_law_is_ascending := He.glo_ok X G (fact c 65 (f := .glo "_law_is_ascending") rfl)
    g_law_covers := He.glo_ok X G (fact c 66 (f := .glo "_law_covers") rfl)
    g_law_cover_sum := He.glo_ok X G (fact c 67 (f := .glo "_law_cover_sum") rfl)
    g_law_some_fill := He.glo_ok X G (fact c 68 (f := .glo "_law_some_fill") rfl)
    g_law_some_cover := He.glo_ok X G (fact c 69 (f := .glo "_law_some_cover") rfl)
    g_law_sums_right := He.glo_ok X G (fact c 70 (f := .glo "_law_sums_right") rfl)
    g_law_drawn_right := He.glo_ok X G (fact c 71 (f := .glo "_law_drawn_right") rfl)
    glaw := He.glo_ok X G (fact c 72 (f := .glo "law") rfl)
    g_Rule := He.glo_ok X G (fact c 73 (f := .glo "Rule") rfl)
    c_Rule := He.cls_ok (fact c 101 (f := .cls "Rule") rfl)
    k_Rule := He.mkr_ok (fact c 102 (f := .mkr "Rule") rfl)
    n_Rule_its_tree := He.noat_ok (fact c 103 (f := .noat "Rule" "its_tree") rfl)
    i_Rule := isiB_ok isr
    g_Plan := He.glo_ok X G (fact c 74 (f := .glo "Plan") rfl)
    c_Plan := He.cls_ok (fact c 104 (f := .cls "Plan") rfl)
    k_Plan := He.mkr_ok (fact c 105 (f := .mkr "Plan") rfl)
    n_Plan_its_pipe := He.noat_ok (fact c 106 (f := .noat "Plan" "its_pipe") rfl)
    n_Plan_its_houses := He.noat_ok (fact c 107 (f := .noat "Plan" "its_houses") rfl)
    n_Plan_its_kinds := He.noat_ok (fact c 108 (f := .noat "Plan" "its_kinds") rfl)
    n_Plan_its_streams := He.noat_ok (fact c 109 (f := .noat "Plan" "its_streams") rfl)
    i_Plan := isiB_ok isp
    p_thr := propB_ok pr
    b_abs := He.free_ok X G (fact c 75 (f := .free "abs") rfl)
    b_all := He.free_ok X G (fact c 76 (f := .free "all") rfl)
    b_dict := He.free_ok X G (fact c 77 (f := .free "dict") rfl)
    b_int := He.free_ok X G (fact c 78 (f := .free "int") rfl)
    b_isinstance := He.free_ok X G (fact c 79 (f := .free "isinstance") rfl)
    b_len := He.free_ok X G (fact c 80 (f := .free "len") rfl)
    b_list := He.free_ok X G (fact c 81 (f := .free "list") rfl)
    b_max := He.free_ok X G (fact c 82 (f := .free "max") rfl)
    b_min := He.free_ok X G (fact c 83 (f := .free "min") rfl)
    b_range := He.free_ok X G (fact c 84 (f := .free "range") rfl)
    b_repr := He.free_ok X G (fact c 85 (f := .free "repr") rfl)
    b_set := He.free_ok X G (fact c 86 (f := .free "set") rfl)
    b_sorted := He.free_ok X G (fact c 87 (f := .free "sorted") rfl)
    b_sum := He.free_ok X G (fact c 88 (f := .free "sum") rfl)
    b_tuple := He.free_ok X G (fact c 89 (f := .free "tuple") rfl)
    b_zip := He.free_ok X G (fact c 90 (f := .free "zip") rfl)
    b_bool := He.free_ok X G (fact c 91 (f := .free "bool") rfl)
    b_str := He.free_ok X G (fact c 92 (f := .free "str") rfl)
    v_MOST_NAME := He.int_ok X G (fact c 93 (f := .int "MOST_NAME" 8) rfl)
    v_MOST_BY := He.int_ok X G (fact c 94 (f := .int "MOST_BY" 6) rfl)
    v_MOST_ATOMS := He.int_ok X G (fact c 95 (f := .int "MOST_ATOMS" 6) rfl)
    v_ROUND := He.int_ok X G (fact c 96 (f := .int "ROUND" 60) rfl)
    v_MOST_STREAMS := He.int_ok X G (fact c 97 (f := .int "MOST_STREAMS" 6) rfl)
    v_MOST_GROUPS := He.int_ok X G (fact c 98 (f := .int "MOST_GROUPS" 6) rfl)
    v_SMALL := He.str_ok X G (fact c 99 (f := .str "SMALL" "abcdefghijklmnopqrstuvwxyz") rfl)
    v_PIPE := He.str_ok X G (fact c 100 (f := .str "PIPE" "pipe") rfl)
    g_MOMENTS := PySem.W.mg_of X G (He.eqO_ok (He.ba tp0).1)
    t_MOMENTS := fun H => He.tupB_ok (He.ba tp0).2 H
    g_JOINS := PySem.W.mg_of X G (He.eqO_ok (He.ba tp1).1)
    t_JOINS := fun H => He.tupB_ok (He.ba tp1).2 H
    m_Rule_UUinitUU := He.meth_ok (fact c 110 (f := .meth "Rule" "__init__") rfl)
    m_Plan_UUinitUU := He.meth_ok (fact c 111 (f := .meth "Plan" "__init__") rfl)
    m_Plan_need_sound := He.meth_ok (fact c 112 (f := .meth "Plan" "need_sound") rfl)
    m_Plan_narrow := He.meth_ok (fact c 113 (f := .meth "Plan" "narrow") rfl)
    m_Plan_least_own := He.meth_ok (fact c 114 (f := .meth "Plan" "least_own") rfl)
    m_Plan_streams := He.meth_ok (fact c 115 (f := .meth "Plan" "streams") rfl)
    m_Plan_houses := He.meth_ok (fact c 116 (f := .meth "Plan" "houses") rfl)
    m_Plan_kinds := He.meth_ok (fact c 117 (f := .meth "Plan" "kinds") rfl)
    m_Plan_shared := He.meth_ok (fact c 118 (f := .meth "Plan" "shared") rfl)
    m_Plan_need_stream := He.meth_ok (fact c 119 (f := .meth "Plan" "need_stream") rfl)
    m_Plan_over := He.meth_ok (fact c 120 (f := .meth "Plan" "over") rfl)
    m_Plan_under := He.meth_ok (fact c 121 (f := .meth "Plan" "under") rfl)
    m_Plan_most := He.meth_ok (fact c 122 (f := .meth "Plan" "most") rfl)
    m_Plan_guide := He.meth_ok (fact c 123 (f := .meth "Plan" "guide") rfl)
    m_Plan_guides := He.meth_ok (fact c 124 (f := .meth "Plan" "guides") rfl)
    m_Plan_pool := He.meth_ok (fact c 125 (f := .meth "Plan" "pool") rfl)
    m_Plan_UUcontainsUU := He.meth_ok (fact c 126 (f := .meth "Plan" "__contains__") rfl)
    m_Plan_UUgetitemUU := He.meth_ok (fact c 127 (f := .meth "Plan" "__getitem__") rfl)
    f_read_pools := c.def_ (d := d_read_pools) (List.mem_of_getElem? (i := 0) rfl)
    f_rivals := c.def_ (d := d_rivals) (List.mem_of_getElem? (i := 1) rfl)
    f_all_parts := c.def_ (d := d_all_parts) (List.mem_of_getElem? (i := 2) rfl)
    f_holds_much := c.def_ (d := d_holds_much) (List.mem_of_getElem? (i := 3) rfl)
    f_hold_of := c.def_ (d := d_hold_of) (List.mem_of_getElem? (i := 4) rfl)
    f_caps_of := c.def_ (d := d_caps_of) (List.mem_of_getElem? (i := 5) rfl)
    f_left_over := c.def_ (d := d_left_over) (List.mem_of_getElem? (i := 6) rfl)
    f_all_cuts := c.def_ (d := d_all_cuts) (List.mem_of_getElem? (i := 7) rfl)
    f_cut_sum := c.def_ (d := d_cut_sum) (List.mem_of_getElem? (i := 8) rfl)
    f_least_cut := c.def_ (d := d_least_cut) (List.mem_of_getElem? (i := 9) rfl)
    f_is_integer := c.def_ (d := d_is_integer) (List.mem_of_getElem? (i := 10) rfl)
    f_is_number := c.def_ (d := d_is_number) (List.mem_of_getElem? (i := 11) rfl)
    f_is_name := c.def_ (d := d_is_name) (List.mem_of_getElem? (i := 12) rfl)
    f_is_moment := c.def_ (d := d_is_moment) (List.mem_of_getElem? (i := 13) rfl)
    f_check_slow := c.def_ (d := d_check_slow) (List.mem_of_getElem? (i := 14) rfl)
    f_check_pool := c.def_ (d := d_check_pool) (List.mem_of_getElem? (i := 15) rfl)
    f_holds := c.def_ (d := d_holds) (List.mem_of_getElem? (i := 16) rfl)
    f_filled := c.def_ (d := d_filled) (List.mem_of_getElem? (i := 17) rfl)
    f_fill := c.def_ (d := d_fill) (List.mem_of_getElem? (i := 18) rfl)
    f_is_fill := c.def_ (d := d_is_fill) (List.mem_of_getElem? (i := 19) rfl)
    f_cover := c.def_ (d := d_cover) (List.mem_of_getElem? (i := 20) rfl)
    f_cover_sum := c.def_ (d := d_cover_sum) (List.mem_of_getElem? (i := 21) rfl)
    f_are_some := c.def_ (d := d_are_some) (List.mem_of_getElem? (i := 22) rfl)
    f_is_cover := c.def_ (d := d_is_cover) (List.mem_of_getElem? (i := 23) rfl)
    f_is_shape := c.def_ (d := d_is_shape) (List.mem_of_getElem? (i := 24) rfl)
    f_atoms_of := c.def_ (d := d_atoms_of) (List.mem_of_getElem? (i := 25) rfl)
    f_is_tree := c.def_ (d := d_is_tree) (List.mem_of_getElem? (i := 26) rfl)
    f_threshold_of := c.def_ (d := d_threshold_of) (List.mem_of_getElem? (i := 27) rfl)
    f_Rule_initU := c.def_ (d := d_Rule_initU) (List.mem_of_getElem? (i := 28) rfl)
    f_is_pool := c.def_ (d := d_is_pool) (List.mem_of_getElem? (i := 29) rfl)
    f_is_name_or_none := c.def_ (d := d_is_name_or_none) (List.mem_of_getElem? (i := 30) rfl)
    f_is_group := c.def_ (d := d_is_group) (List.mem_of_getElem? (i := 31) rfl)
    f_is_stream := c.def_ (d := d_is_stream) (List.mem_of_getElem? (i := 32) rfl)
    f_are_groups := c.def_ (d := d_are_groups) (List.mem_of_getElem? (i := 33) rfl)
    f_are_streams := c.def_ (d := d_are_streams) (List.mem_of_getElem? (i := 34) rfl)
    f_need_form := c.def_ (d := d_need_form) (List.mem_of_getElem? (i := 35) rfl)
    f_ascending := c.def_ (d := d_ascending) (List.mem_of_getElem? (i := 36) rfl)
    f_chain := c.def_ (d := d_chain) (List.mem_of_getElem? (i := 37) rfl)
    f_twice := c.def_ (d := d_twice) (List.mem_of_getElem? (i := 38) rfl)
    f_unknown := c.def_ (d := d_unknown) (List.mem_of_getElem? (i := 39) rfl)
    f_rings := c.def_ (d := d_rings) (List.mem_of_getElem? (i := 40) rfl)
    f_bad_guides := c.def_ (d := d_bad_guides) (List.mem_of_getElem? (i := 41) rfl)
    f_Plan_initU := c.def_ (d := d_Plan_initU) (List.mem_of_getElem? (i := 42) rfl)
    f_Plan_need_sound := c.def_ (d := d_Plan_need_sound) (List.mem_of_getElem? (i := 43) rfl)
    f_Plan_narrow := c.def_ (d := d_Plan_narrow) (List.mem_of_getElem? (i := 44) rfl)
    f_Plan_least_own := c.def_ (d := d_Plan_least_own) (List.mem_of_getElem? (i := 45) rfl)
    f_Plan_streams := c.def_ (d := d_Plan_streams) (List.mem_of_getElem? (i := 46) rfl)
    f_Plan_houses := c.def_ (d := d_Plan_houses) (List.mem_of_getElem? (i := 47) rfl)
    f_Plan_kinds := c.def_ (d := d_Plan_kinds) (List.mem_of_getElem? (i := 48) rfl)
    f_Plan_shared := c.def_ (d := d_Plan_shared) (List.mem_of_getElem? (i := 49) rfl)
    f_Plan_need_stream := c.def_ (d := d_Plan_need_stream) (List.mem_of_getElem? (i := 50) rfl)
    f_Plan_over := c.def_ (d := d_Plan_over) (List.mem_of_getElem? (i := 51) rfl)
    f_Plan_under := c.def_ (d := d_Plan_under) (List.mem_of_getElem? (i := 52) rfl)
    f_Plan_most := c.def_ (d := d_Plan_most) (List.mem_of_getElem? (i := 53) rfl)
    f_Plan_guide := c.def_ (d := d_Plan_guide) (List.mem_of_getElem? (i := 54) rfl)
    f_Plan_guides := c.def_ (d := d_Plan_guides) (List.mem_of_getElem? (i := 55) rfl)
    f_Plan_pool := c.def_ (d := d_Plan_pool) (List.mem_of_getElem? (i := 56) rfl)
    f_Plan_containsU := c.def_ (d := d_Plan_containsU) (List.mem_of_getElem? (i := 57) rfl)
    f_Plan_getitemU := c.def_ (d := d_Plan_getitemU) (List.mem_of_getElem? (i := 58) rfl)
    fl_bag := c.def_ (d := dl_bag) (List.mem_of_getElem? (i := 59) rfl)
    fl_take := c.def_ (d := dl_take) (List.mem_of_getElem? (i := 60) rfl)
    fl_alike := c.def_ (d := dl_alike) (List.mem_of_getElem? (i := 61) rfl)
    fl_mixed := c.def_ (d := dl_mixed) (List.mem_of_getElem? (i := 62) rfl)
    fl_draw_names := c.def_ (d := dl_draw_names) (List.mem_of_getElem? (i := 63) rfl)
    fl_draw_size := c.def_ (d := dl_draw_size) (List.mem_of_getElem? (i := 64) rfl)
    fl_draw_tree := c.def_ (d := dl_draw_tree) (List.mem_of_getElem? (i := 65) rfl)
    fl_threshold := c.def_ (d := dl_threshold) (List.mem_of_getElem? (i := 66) rfl)
    fl_draw_pool := c.def_ (d := dl_draw_pool) (List.mem_of_getElem? (i := 67) rfl)
    fl_draw_groups := c.def_ (d := dl_draw_groups) (List.mem_of_getElem? (i := 68) rfl)
    fl_draw_stream := c.def_ (d := dl_draw_stream) (List.mem_of_getElem? (i := 69) rfl)
    fl_draw_parts := c.def_ (d := dl_draw_parts) (List.mem_of_getElem? (i := 70) rfl)
    fl_make_plan := c.def_ (d := dl_make_plan) (List.mem_of_getElem? (i := 71) rfl)
    fl_around := c.def_ (d := dl_around) (List.mem_of_getElem? (i := 72) rfl)
    fl_over := c.def_ (d := dl_over) (List.mem_of_getElem? (i := 73) rfl)
    fl_under := c.def_ (d := dl_under) (List.mem_of_getElem? (i := 74) rfl)
    fl_shared := c.def_ (d := dl_shared) (List.mem_of_getElem? (i := 75) rfl)
    fl_pool := c.def_ (d := dl_pool) (List.mem_of_getElem? (i := 76) rfl)
    fl_guides := c.def_ (d := dl_guides) (List.mem_of_getElem? (i := 77) rfl)
    fl_draw_slow := c.def_ (d := dl_draw_slow) (List.mem_of_getElem? (i := 78) rfl)
    fl_hold := c.def_ (d := dl_hold) (List.mem_of_getElem? (i := 79) rfl)
    fl_read_pools := c.def_ (d := dl_read_pools) (List.mem_of_getElem? (i := 80) rfl)
    fl_rivals := c.def_ (d := dl_rivals) (List.mem_of_getElem? (i := 81) rfl)
    fl_is_sum := c.def_ (d := dl_is_sum) (List.mem_of_getElem? (i := 82) rfl)
    fl_is_ascending := c.def_ (d := dl_is_ascending) (List.mem_of_getElem? (i := 83) rfl)
    fl_covers := c.def_ (d := dl_covers) (List.mem_of_getElem? (i := 84) rfl)
    fl_cover_sum := c.def_ (d := dl_cover_sum) (List.mem_of_getElem? (i := 85) rfl)
    fl_some_fill := c.def_ (d := dl_some_fill) (List.mem_of_getElem? (i := 86) rfl)
    fl_some_cover := c.def_ (d := dl_some_cover) (List.mem_of_getElem? (i := 87) rfl)
    fl_sums_right := c.def_ (d := dl_sums_right) (List.mem_of_getElem? (i := 88) rfl)
    fl_drawn_right := c.def_ (d := dl_drawn_right) (List.mem_of_getElem? (i := 89) rfl)
    f_law := c.def_ (d := d_law) (List.mem_of_getElem? (i := 90) rfl)
    f_Rule_threshold := c.def_ (d := d_Rule_threshold) (List.mem_of_getElem? (i := 91) rfl) }
end K51
end
section
set_option Elab.async false
set_option linter.all false
set_option maxRecDepth 100000
set_option maxHeartbeats 0
namespace K51
open PySem PySem.Spec PyProof.Rows L2
abbrev RR : PySem.W.OpenRow := PySem.W.OpenLaw.row PySem.Challenge.rw_sharedpipe_k51_whole_fills_and_covers
/-! ### the run -/
abbrev hk : PySem.W.Hook := hookQ adrs ex fn
def ob (s : PySem.W.SharedT) : AlQ := obsQG adrs ex fn (HandSHeadRun.getT s)
theorem ob_eq (s : PySem.W.SharedT) : ob s = hk.obs s.abs := obsQG_eq (HandSHeadRun.getT_eq s)
theorem run (w : World) : HandSHeadRun.RunEq RR (PySem.W.view RR.prog [108]) hk ob 6200 nms w := by
  intro os
  kernel_rfl
end K51
end
section
set_option Elab.async false
set_option linter.all false
set_option maxRecDepth 100000
/-! Values as data; what a heap represents; judgements for expressions by data. -/
namespace K51
open PySem PySem.Spec PyProof.Rows L2
/-- a value as data -/
inductive D where
  | non
  | bl (b : Bool)
  | int (i : Int)
  | str (x : Str)
  | lst (l : List D)
  | tup (l : List D)
  | dct (l : List (Str × D))
  | obj (c : Str) (l : List (Str × D))
  /-- the very address: what is owned -/
  | own (a : Addr)
/-- a dict that is locked for good -/
def Fz (L : Hp) (a : Addr) (kvs : List (Key × V)) : Prop := ∃ o, L a = some (.frz o (.dK kvs))
theorem Fz.rd {L : Hp} {a : Addr} {kvs : List (Key × V)} (h : Fz L a kvs) : Rd L a (.dK kvs) := .inr h
abbrev lim : Nat := 100000
theorem lim_le {n : Nat} (h : n ≤ lim) : n ≤ sizeLine := Nat.le_trans h (by decide)
theorem lim_lt {n : Nat} (h : n ≤ lim) : n < sizeLine := Nat.lt_of_le_of_lt h (by decide)
mutual
/-- the value v stands for the data d in the heap L -/
inductive Rep (K : PySem.W.Frag) (L : Hp) : V → D → Prop
  | non : Rep K L .non .non
  | bl (b : Bool) : Rep K L (.bl b) (.bl b)
  | int (i : Int) : Rep K L (.int i) (.int i)
  | str (x : Str) : Rep K L (.str x) (.str x)
  | lst {a : Addr} {xs : List V} {l : List D} : L a = some (.lst xs) → RepL K L xs l → l.length ≤ lim → Rep K L (.ref a) (.lst l)
  | tup {a : Addr} {xs : List V} {l : List D} : L a = some (.tup xs) → RepL K L xs l → l.length ≤ lim → Rep K L (.ref a) (.tup l)
  | dct {a : Addr} {kvs : List (Key × V)} {l : List (Str × D)} : Fz L a kvs → RepK K L kvs l → l.length ≤ lim → Rep K L (.ref a) (.dct l)
  | obj {a dx : Addr} {fs : List (Str × V)} {c : Str} {l : List (Str × D)} : L a = some (.ins (He.ga K c) dx fs) → RepF K L fs l → Rep K L (.ref a) (.obj c l)
  | own (a : Addr) : Rep K L (.ref a) (.own a)
inductive RepL (K : PySem.W.Frag) (L : Hp) : List V → List D → Prop
  | nil : RepL K L [] []
  | cons {v : V} {vs : List V} {d : D} {ds : List D} : Rep K L v d → RepL K L vs ds → RepL K L (v :: vs) (d :: ds)
inductive RepK (K : PySem.W.Frag) (L : Hp) : List (Key × V) → List (Str × D) → Prop
  | nil : RepK K L [] []
  | cons {x : Str} {v : V} {d : D} {kvs : List (Key × V)} {l : List (Str × D)} : Rep K L v d → RepK K L kvs l → RepK K L ((.inr x, v) :: kvs) ((x, d) :: l)
inductive RepF (K : PySem.W.Frag) (L : Hp) : List (Str × V) → List (Str × D) → Prop
  | nil : RepF K L [] []
  | cons {x : Str} {v : V} {d : D} {fs : List (Str × V)} {l : List (Str × D)} : Rep K L v d → RepF K L fs l → RepF K L ((x, v) :: fs) ((x, d) :: l)
end
section
variable {K : PySem.W.Frag} {L L' : Hp}
/-- lists, tuples, instances stay; dicts stay to be read -/
structure Mo (L L' : Hp) : Prop where
  l : ∀ a xs, L a = some (.lst xs) → L' a = some (.lst xs)
  t : ∀ a xs, L a = some (.tup xs) → L' a = some (.tup xs)
  i : ∀ a C dx fs, L a = some (.ins C dx fs) → L' a = some (.ins C dx fs)
  d : ∀ a kvs, Fz L a kvs → Fz L' a kvs
mutual
theorem Rep.mo (m : Mo L L') : ∀ {v : V} {d : D}, Rep K L v d → Rep K L' v d
  | _, _, .non => .non
  | _, _, .bl b => .bl b
  | _, _, .int i => .int i
  | _, _, .str x => .str x
  | _, _, .lst h r z => .lst (m.l _ _ h) (r.mo m) z
  | _, _, .tup h r z => .tup (m.t _ _ h) (r.mo m) z
  | _, _, .dct h r z => .dct (m.d _ _ h) (r.mo m) z
  | _, _, .obj h r => .obj (m.i _ _ _ _ h) (r.mo m)
  | _, _, .own a => .own a
theorem RepL.mo (m : Mo L L') : ∀ {vs : List V} {ds : List D}, RepL K L vs ds → RepL K L' vs ds
  | _, _, .nil => .nil
  | _, _, .cons h r => .cons (h.mo m) (r.mo m)
theorem RepK.mo (m : Mo L L') : ∀ {vs : List (Key × V)} {ds : List (Str × D)}, RepK K L vs ds → RepK K L' vs ds
  | _, _, .nil => .nil
  | _, _, .cons h r => .cons (h.mo m) (r.mo m)
theorem RepF.mo (m : Mo L L') : ∀ {vs : List (Str × V)} {ds : List (Str × D)}, RepF K L vs ds → RepF K L' vs ds
  | _, _, .nil => .nil
  | _, _, .cons h r => .cons (h.mo m) (r.mo m)
end
/-- all that is tracked stays -/
abbrev Ex (L L' : Hp) : Prop := ∀ a o, L a = some o → L' a = some o
theorem Ex.rf : Ex L L := fun _ _ h => h
theorem Ex.tr {L1 : Hp} (a : Ex L L1) (b : Ex L1 L') : Ex L L' := fun c o h => b c o (a c o h)
theorem Ex.mo (e : Ex L L') : Mo L L' := ⟨fun _ _ h => e _ _ h, fun _ _ h => e _ _ h, fun _ _ _ _ h => e _ _ h, fun _ _ ⟨o, h⟩ => ⟨o, e _ _ h⟩⟩
theorem Rep.ex (e : Ex L L') {v : V} {d : D} (h : Rep K L v d) : Rep K L' v d := h.mo e.mo
theorem RepL.ex (e : Ex L L') {vs : List V} {ds : List D} (h : RepL K L vs ds) : RepL K L' vs ds := h.mo e.mo
theorem RepK.ex (e : Ex L L') {vs : List (Key × V)} {ds : List (Str × D)} (h : RepK K L vs ds) : RepK K L' vs ds := h.mo e.mo
/-! inversion -/
theorem Rep.non_ {v : V} (h : Rep K L v .non) : v = .non := by cases h; rfl
theorem Rep.bl_ {v : V} {b : Bool} (h : Rep K L v (.bl b)) : v = .bl b := by cases h; rfl
theorem Rep.int_ {v : V} {i : Int} (h : Rep K L v (.int i)) : v = .int i := by cases h; rfl
theorem Rep.str_ {v : V} {x : Str} (h : Rep K L v (.str x)) : v = .str x := by cases h; rfl
theorem Rep.lst_ {v : V} {l : List D} (h : Rep K L v (.lst l)) : ∃ a xs, v = .ref a ∧ L a = some (.lst xs) ∧ RepL K L xs l ∧ l.length ≤ lim := by cases h with | lst h r z => exact ⟨_, _, rfl, h, r, z⟩
theorem Rep.tup_ {v : V} {l : List D} (h : Rep K L v (.tup l)) : ∃ a xs, v = .ref a ∧ L a = some (.tup xs) ∧ RepL K L xs l ∧ l.length ≤ lim := by cases h with | tup h r z => exact ⟨_, _, rfl, h, r, z⟩
theorem Rep.dct_ {v : V} {l : List (Str × D)} (h : Rep K L v (.dct l)) : ∃ a kvs, v = .ref a ∧ Rd L a (.dK kvs) ∧ RepK K L kvs l ∧ l.length ≤ lim := by cases h with | dct h r z => exact ⟨_, _, rfl, h.rd, r, z⟩
theorem Rep.dctF_ {v : V} {l : List (Str × D)} (h : Rep K L v (.dct l)) : ∃ a o kvs, v = .ref a ∧ L a = some (.frz o (.dK kvs)) ∧ RepK K L kvs l ∧ l.length ≤ lim := by cases h with | dct h r z => exact ⟨_, h.choose, _, rfl, h.choose_spec, r, z⟩
theorem Rep.own_ {v : V} {a : Addr} (h : Rep K L v (.own a)) : v = .ref a := by cases h; rfl
theorem Rep.obj_ {v : V} {c : Str} {l : List (Str × D)} (h : Rep K L v (.obj c l)) : ∃ a dx fs, v = .ref a ∧ L a = some (.ins (He.ga K c) dx fs) ∧ RepF K L fs l := by cases h with | obj h r => exact ⟨_, _, _, rfl, h, r⟩
theorem RepL.nil_ {xs : List V} (h : RepL K L xs []) : xs = [] := by cases h; rfl
theorem RepL.cons_ {xs : List V} {d : D} {l : List D} (h : RepL K L xs (d :: l)) : ∃ v vs, xs = v :: vs ∧ Rep K L v d ∧ RepL K L vs l := by cases h with | cons h r => exact ⟨_, _, rfl, h, r⟩
theorem RepL.len : ∀ {vs : List V} {ds : List D}, RepL K L vs ds → vs.length = ds.length
  | _, _, .nil => rfl
  | _, _, .cons _ r => congrArg (· + 1) r.len
theorem RepK.len : ∀ {vs : List (Key × V)} {ds : List (Str × D)}, RepK K L vs ds → vs.length = ds.length
  | _, _, .nil => rfl
  | _, _, .cons _ r => congrArg (· + 1) r.len
theorem RepL.app : ∀ {vs ws : List V} {ds es : List D}, RepL K L vs ds → RepL K L ws es → RepL K L (vs ++ ws) (ds ++ es)
  | _, _, _, _, .nil, r => r
  | _, _, _, _, .cons h r, q => .cons h (r.app q)
theorem RepL.one {v : V} {d : D} (h : Rep K L v d) : RepL K L [v] [d] := .cons h .nil
theorem RepL.get : ∀ {vs : List V} {ds : List D} {i : Nat} {d : D}, RepL K L vs ds → ds[i]? = some d → ∃ v, vs[i]? = some v ∧ Rep K L v d
  | _, _, 0, _, .cons h _, e => by cases e; exact ⟨_, rfl, h⟩
  | _, _, i + 1, _, .cons _ r, e => r.get (i := i) e
theorem RepL.getV : ∀ {vs : List V} {ds : List D} {i : Nat} {v : V}, RepL K L vs ds → vs[i]? = some v → ∃ d, ds[i]? = some d ∧ Rep K L v d
  | _, _, 0, _, .cons h _, e => by cases e; exact ⟨_, rfl, h⟩
  | _, _, i + 1, _, .cons _ r, e => r.getV (i := i) e
theorem RepL.take : ∀ {vs : List V} {ds : List D} (n : Nat), RepL K L vs ds → RepL K L (vs.take n) (ds.take n)
  | _, _, 0, _ => by rw [List.take_zero, List.take_zero]; exact .nil
  | _, _, n + 1, .nil => .nil
  | _, _, n + 1, .cons h r => .cons h (r.take n)
theorem RepL.drop : ∀ {vs : List V} {ds : List D} (n : Nat), RepL K L vs ds → RepL K L (vs.drop n) (ds.drop n)
  | _, _, 0, r => r
  | _, _, n + 1, .nil => .nil
  | _, _, n + 1, .cons h r => r.drop n
theorem RepK.get : ∀ {kvs : List (Key × V)} {l : List (Str × D)} {i : Nat} {k : Key} {v : V}, RepK K L kvs l → kvs[i]? = some (k, v) → ∃ x d, l[i]? = some (x, d) ∧ k = .inr x ∧ Rep K L v d
  | _, _, 0, _, _, .cons h _, e => by cases e; exact ⟨_, _, rfl, rfl, h⟩
  | _, _, i + 1, _, _, .cons _ r, e => r.get (i := i) e
theorem RepL.map {α : Type} {c : α → D} : ∀ {l : List α} {vs : List V}, RepL K L vs (l.map c) → ∀ {i : Nat} {v : V}, vs[i]? = some v → ∃ a, l[i]? = some a ∧ Rep K L v (c a)
  | [], _, .nil, _, _, e => by simp at e
  | a :: l, _, .cons h r, 0, _, e => by cases e; exact ⟨a, rfl, h⟩
  | a :: l, _, .cons h r, i + 1, _, e => RepL.map (l := l) r (i := i) e
/-- texts are the same values whatever the heap -/
theorem RepL.strs : ∀ {l : List Str} {vs : List V}, RepL K L vs (l.map D.str) → vs = l.map V.str
  | [], _, .nil => rfl
  | a :: l, _, .cons h r => by rw [h.str_, r.strs]; rfl
theorem RepL.ints : ∀ {l : List Int} {vs : List V}, RepL K L vs (l.map D.int) → vs = l.map V.int
  | [], _, .nil => rfl
  | a :: l, _, .cons h r => by rw [h.int_, r.ints]; rfl
theorem RepL.bls : ∀ {l : List Bool} {vs : List V}, RepL K L vs (l.map D.bl) → vs = l.map V.bl
  | [], _, .nil => rfl
  | a :: l, _, .cons h r => by rw [h.bl_, r.bls]; rfl
theorem RepL.ofStrs : ∀ (l : List Str), RepL K L (l.map V.str) (l.map D.str)
  | [] => .nil
  | a :: l => .cons (.str a) (RepL.ofStrs l)
theorem RepL.ofInts : ∀ (l : List Int), RepL K L (l.map V.int) (l.map D.int)
  | [] => .nil
  | a :: l => .cons (.int a) (RepL.ofInts l)
end
/-! ### going on: new objects alone -/
/-- from the heap H with its part L (what is known and stays) to H' with L' -/
structure Go (H L H' L' : Hp) : Prop where
  ex : Ex H H'
  lx : Ex L L'
  sub : Ex L' H'
  old : ∀ a, H a ≠ none → L' a = L a
section
variable {H L H1 L1 H2 L2 : Hp}
theorem Go.rf (e : Ex L H) : Go H L H L := ⟨Ex.rf, Ex.rf, e, fun _ _ => rfl⟩
theorem Go.tr (a : Go H L H1 L1) (b : Go H1 L1 H2 L2) : Go H L H2 L2 := ⟨a.ex.tr b.ex, a.lx.tr b.lx, b.sub, fun c h => by
  have h1 : H1 c ≠ none := by
    cases e : H c with
    | none => exact absurd e h
    | some o => rw [a.ex c o e]; exact nofun
  rw [b.old c h1, a.old c h]⟩
theorem ex_new {p : Addr} {o : HO} (h : H p = none) : Ex H (upd H p o) := fun b u e => by rw [upd_ne (ne_of_none e h)]; exact e
theorem sub_new {p : Addr} {o : HO} (e : Ex L H) : Ex (upd L p o) (upd H p o) := fun b u h => by
  by_cases q : b = p
  · rw [q, upd_same] at h ⊢; exact h
  · rw [upd_ne q] at h ⊢; exact e b u h
theorem free_sub {p : Addr} (e : Ex L H) (h : H p = none) : L p = none := by
  cases q : L p with
  | none => rfl
  | some o => rw [e p o q] at h; cases h
theorem Go.new {p : Addr} {o : HO} (e : Ex L H) (h : H p = none) : Go H L (upd H p o) (upd L p o) := ⟨ex_new h, ex_new (free_sub e h), sub_new e, fun a n => by
  rw [upd_ne (show a ≠ p from fun q => n (q ▸ h))]⟩
end
/-! ### the slots -/
abbrev En := List (Option D)
structure EnvR (K : PySem.W.Frag) (L : Hp) (σ : L2.St) (ρ : En) : Prop where
  len : σ.length = ρ.length
  at_ : ∀ (i : Nat) (d : D), ρ[i]? = some (some d) → ∃ v, σ[i]? = some (some v) ∧ Rep K L v d
section
variable {K : PySem.W.Frag} {L L' : Hp} {σ : L2.St} {ρ : En}
theorem EnvR.mo (m : Mo L L') (e : EnvR K L σ ρ) : EnvR K L' σ ρ := ⟨e.len, fun i d h => let ⟨v, a, b⟩ := e.at_ i d h; ⟨v, a, b.mo m⟩⟩
theorem EnvR.ex (x : Ex L L') (e : EnvR K L σ ρ) : EnvR K L' σ ρ := e.mo x.mo
theorem EnvR.set {i : Nat} {v : V} {d : D} (e : EnvR K L σ ρ) (h : Rep K L v d) : EnvR K L (σ.set i (some v)) (ρ.set i (some d)) := ⟨by rw [List.length_set, List.length_set]; exact e.len, fun j d' q => by
  rw [List.getElem?_set] at q ⊢
  rw [e.len]
  by_cases ij : i = j
  · rw [if_pos ij] at q ⊢
    by_cases hl : i < ρ.length
    · rw [if_pos hl] at q ⊢
      cases q
      exact ⟨v, rfl, h⟩
    · rw [if_neg hl] at q; cases q
  · rw [if_neg ij] at q ⊢
    exact e.at_ j d' q⟩
theorem EnvR.wipe1 {i : Nat} (e : EnvR K L σ ρ) : EnvR K L (σ.set i none) (ρ.set i none) := ⟨by rw [List.length_set, List.length_set]; exact e.len, fun j d' q => by
  rw [List.getElem?_set] at q ⊢
  rw [e.len]
  by_cases ij : i = j
  · rw [if_pos ij] at q
    by_cases hl : i < ρ.length
    · rw [if_pos hl] at q; cases q
    · rw [if_neg hl] at q; cases q
  · rw [if_neg ij] at q ⊢
    exact e.at_ j d' q⟩
/-- fewer slots told -/
theorem EnvR.less {ρ' : En} (e : EnvR K L σ ρ) (hl : ρ'.length = ρ.length) (h : ∀ (i : Nat) (d : D), ρ'[i]? = some (some d) → ρ[i]? = some (some d)) : EnvR K L σ ρ' := ⟨e.len.trans hl.symm, fun i d q => e.at_ i d (h i d q)⟩
end
/-! ### the judgements' readings -/
section
variable (K : PySem.W.Frag)
/-- an expression gives the data d, new objects alone are made -/
def tJ (ρ : En) (d : D) : TE := fun σ H Q => ∃ L, Ex L H ∧ EnvR K L σ ρ ∧ ∀ v H' L', Go H L H' L' → Rep K L' v d → Q v H'
def tT (ρ : En) (b : Bool) : TT := fun σ H Q => ∃ L, Ex L H ∧ EnvR K L σ ρ ∧ ∀ H' L', Go H L H' L' → Q b H'
def tJA (ρ : En) (ds : List D) : TA := fun σ H Q => ∃ L, Ex L H ∧ EnvR K L σ ρ ∧ ∀ vs H' L', Go H L H' L' → RepL K L' vs ds → Q vs H'
/-- a statement's way out -/
inductive Out where
  | nxt (ρ : En)
  | ret (d : D)
def OutK (o : Out) (E : Ends) (H L : Hp) : Prop := match o with
  | .nxt ρ' => ∀ σ' H' L', Go H L H' L' → EnvR K L' σ' ρ' → E.nx σ' H'
  | .ret d => ∀ v H' L', Go H L H' L' → Rep K L' v d → E.rt v H'
def tS (ρ : En) (o : Out) : TS := fun E σ H => ∃ L, Ex L H ∧ EnvR K L σ ρ ∧ OutK K o E H L
theorem OutK.go {o : Out} {E : Ends} {H L H1 L1 : Hp} (g : Go H L H1 L1) (k : OutK K o E H L) : OutK K o E H1 L1 := by
  cases o with
  | nxt ρ' => exact fun σ2 H2 L2 g2 => k σ2 H2 L2 (g.tr g2)
  | ret d => exact fun v H2 L2 g2 => k v H2 L2 (g.tr g2)
end
section
variable {X : Cx} {K : PySem.W.Frag} {ρ : En} {d x y z : D} {e a b : Expr} {pos : Pos}
theorem _root_.L2.PE.imp {t t' : TE} (h : PE X e t) (i : ∀ σ H Q, t' σ H Q → t σ H Q) : PE X e t' := ⟨fun pins s σ H Q I q => h.run pins s σ H Q I (i σ H Q q)⟩
theorem _root_.L2.PT.imp {t t' : TT} (h : PT X e t) (i : ∀ σ H Q, t' σ H Q → t σ H Q) : PT X e t' := ⟨fun pins s σ H Q I q => h.run pins s σ H Q I (i σ H Q q)⟩
theorem _root_.L2.PW.imp {t t' : TT} (h : PW X e t) (i : ∀ σ H Q, t' σ H Q → t σ H Q) : PW X e t' := ⟨fun w pins s σ H Q I q => h.run w pins s σ H Q I (i σ H Q q)⟩
theorem _root_.L2.PA.imp {es : List Expr} {t t' : TA} (h : PA X es t) (i : ∀ σ H Q, t' σ H Q → t σ H Q) : PA X es t' := ⟨fun po pins s σ H Q I q => h.run po pins s σ H Q I (i σ H Q q)⟩
theorem _root_.L2.PS.imp {st : Stmt} {t t' : TS} (h : PS X st t) (i : ∀ E σ H, t' E σ H → t E σ H) : PS X st t' := ⟨fun pins s σ H E I q => h.run pins s σ H E I (i E σ H q)⟩
theorem _root_.L2.PSs.imp {st : List Stmt} {t t' : TS} (h : PSs X st t) (i : ∀ E σ H, t' E σ H → t E σ H) : PSs X st t' := ⟨fun pins s σ H E I q => h.run pins s σ H E I (i E σ H q)⟩
theorem _root_.L2.PTs.imp {es : List Expr} {t t' : TT} (h : PTs X es t) (i : ∀ σ H Q, t' σ H Q → t σ H Q) : PTs X es t' := ⟨fun pins s σ H Q I q => h.run pins s σ H Q I (i σ H Q q)⟩
theorem _root_.L2.PE.or {t t' : TE} (h : PE X e t) (h' : PE X e t') : PE X e (fun σ H Q => t σ H Q ∨ t' σ H Q) := ⟨fun pins s σ H Q I q => q.elim (h.run pins s σ H Q I) (h'.run pins s σ H Q I)⟩
theorem _root_.L2.PE.any {α : Type} {t : α → TE} (h : ∀ a, PE X e (t a)) : PE X e (fun σ H Q => ∃ a, t a σ H Q) := ⟨fun pins s σ H Q I ⟨a, q⟩ => (h a).run pins s σ H Q I q⟩
theorem _root_.L2.PTs.any {α : Type} {es : List Expr} {t : α → TT} (h : ∀ a, PTs X es (t a)) : PTs X es (fun σ H Q => ∃ a, t a σ H Q) := ⟨fun pins s σ H Q I ⟨a, q⟩ => (h a).run pins s σ H Q I q⟩
theorem _root_.L2.PSs.any {α : Type} {st : List Stmt} {t : α → TS} (h : ∀ a, PSs X st (t a)) : PSs X st (fun E σ H => ∃ a, t a E σ H) := ⟨fun pins s σ H E I ⟨a, q⟩ => (h a).run pins s σ H E I q⟩
theorem _root_.L2.PE.onlyif {p : Prop} {t : TE} (h : p → PE X e t) : PE X e (fun σ H Q => p ∧ t σ H Q) := ⟨fun pins s σ H Q I ⟨a, q⟩ => (h a).run pins s σ H Q I q⟩
theorem _root_.L2.PTs.onlyif {p : Prop} {es : List Expr} {t : TT} (h : p → PTs X es t) : PTs X es (fun σ H Q => p ∧ t σ H Q) := ⟨fun pins s σ H Q I ⟨a, q⟩ => (h a).run pins s σ H Q I q⟩
theorem _root_.L2.PSs.onlyif {p : Prop} {st : List Stmt} {t : TS} (h : p → PSs X st t) : PSs X st (fun E σ H => p ∧ t E σ H) := ⟨fun pins s σ H E I ⟨a, q⟩ => (h a).run pins s σ H E I q⟩
/-- the same value -/
theorem j_is {d' : D} (h : PE X e (tJ K ρ d)) (q : d = d') : PE X e (tJ K ρ d') := q ▸ h
theorem t_is {b b' : Bool} (h : PT X e (tT K ρ b)) (q : b = b') : PT X e (tT K ρ b') := q ▸ h
/-! names, constants -/
theorem j_v (i : Nat) {x : Str} {pos : Pos} (h : ρ[i]? = some (some d) := by rfl) (hN : X.N[i]? = some x := by rfl) (hv : Vis X.env.scope x := by first | exact Or.inl rfl | exact Or.inr (Or.inl rfl) | exact Or.inr (Or.inr rfl))
    (hd : (x == ("__debug__" : Str)) = false := by decide) (hcd : (x == ("__classdict__" : Str)) = false := by decide) : PE X (.Name x pos) (tJ K ρ d) :=
  (pe_var hN hv hd hcd).imp fun σ H Q ⟨L, e, env, k⟩ => let ⟨v, hs, r⟩ := env.at_ i d h; ⟨v, hs, k v H L (Go.rf e) r⟩
theorem j_int {i : Int} {j pos} : PE X (.Constant (.int i) j pos) (tJ K ρ (.int i)) := pe_int.imp fun _ H _ ⟨L, e, _, k⟩ => k _ H L (Go.rf e) (.int i)
theorem j_bl {b : Bool} {j pos} : PE X (.Constant (.bool b) j pos) (tJ K ρ (.bl b)) := pe_bl.imp fun _ H _ ⟨L, e, _, k⟩ => k _ H L (Go.rf e) (.bl b)
theorem j_non {j pos} : PE X (.Constant .none j pos) (tJ K ρ .non) := pe_non.imp fun _ H _ ⟨L, e, _, k⟩ => k _ H L (Go.rf e) .non
theorem j_str {x : Str} {j pos} : PE X (.Constant (.str x) j pos) (tJ K ρ (.str x)) := pe_str.imp fun _ H _ ⟨L, e, _, k⟩ => k _ H L (Go.rf e) (.str x)
/-- a module's number, text -/
theorem j_gint {x : Str} {i : Int} {pos : Pos} (hm : ∃ t, X.mg x = some (.int i t)) (hg : Gl X x := by rfl) (hd : (x == ("__debug__" : Str)) = false := by decide) : PE X (.Name x pos) (tJ K ρ (.int i)) := by
  obtain ⟨t, hm⟩ := hm
  exact (pe_glob hg hm (v := .int i) ⟨t, rfl⟩ hd).imp fun _ H _ ⟨L, e, _, k⟩ => k _ H L (Go.rf e) (.int i)
theorem j_gstr {x z : Str} {pos : Pos} (hm : ∃ t, X.mg x = some (.str z t)) (hg : Gl X x := by rfl) (hd : (x == ("__debug__" : Str)) = false := by decide) : PE X (.Name x pos) (tJ K ρ (.str z)) := by
  obtain ⟨t, hm⟩ := hm
  exact (pe_glob hg hm (v := .str z) ⟨t, rfl⟩ hd).imp fun _ H _ ⟨L, e, _, k⟩ => k _ H L (Go.rf e) (.str z)
/-! two operands -/
/-- an operation by data -/
def OpD (K : PySem.W.Frag) (r : R2) (x y z : D) : Prop := ∀ (v w : V) (H L : Hp) (Q : VK), Ex L H → Rep K L v x → Rep K L w y → (∀ u H' L', Go H L H' L' → Rep K L' u z → Q u H') → r v w H Q
theorem tOp_of {r : R2} (h : OpD K r x y z) : ∀ σ H Q, tJ K ρ z σ H Q → tOp r (tJ K ρ x) (tJ K ρ y) σ H Q := fun σ H Q ⟨L, e, env, k⟩ =>
  ⟨L, e, env, fun v H1 L1 g1 r1 => ⟨L1, g1.sub, env.ex g1.lx, fun w H2 L2 g2 r2 => h v w H2 L2 Q g2.sub (r1.ex g2.lx) r2 fun u H3 L3 g3 r3 => k u H3 L3 ((g1.tr g2).tr g3) r3⟩⟩
theorem j_op {op : Operator} {r : R2} (ho : OpR X (binaryOp op) r) (hd : OpD K r x y z) (ha : PE X a (tJ K ρ x)) (hb : PE X b (tJ K ρ y)) : PE X (.BinOp a op b pos) (tJ K ρ z) := (pe_op ho ha hb).imp (tOp_of hd)
theorem j_cmp {op : CmpOp} {r : R2} (ho : OpR X (compareOp op) r) (hd : OpD K r x y z) (hm : behindInMarks op b = false) (ha : PE X a (tJ K ρ x)) (hb : PE X b (tJ K ρ y)) : PE X (.Compare a [op] [b] pos) (tJ K ρ z) := (pe_cmpR ho ha hb hm).imp (tOp_of hd)
theorem t_cmp {op : CmpOp} {r : R2} {c : Bool} (ho : OpR X (compareOp op) r) (hd : OpD K r x y (.bl c)) (hm : behindInMarks op b = false) (ha : PE X a (tJ K ρ x)) (hb : PE X b (tJ K ρ y)) : PT X (.Compare a [op] [b] pos) (tT K ρ c) :=
  (pt_cmpR ho ha hb hm).imp fun σ H Q ⟨L, e, env, k⟩ => tOp_of hd σ H _ ⟨L, e, env, fun v H' L' g r => ⟨c, r.bl_, k H' L' g⟩⟩
theorem od_int {f : Int → Int → V} {i j : Int} {z : D} (hz : ∀ L, Rep K L (f i j) z) : OpD K (rI0 f) (.int i) (.int j) z := fun v w H L Q e rv rw k =>
  ⟨i, j, rv.int_, rw.int_, k _ H L (Go.rf e) (hz L)⟩
theorem od_intC {C : Int → Int → Prop} {f : Int → Int → V} {i j : Int} {z : D} (hc : C i j) (hz : ∀ L, Rep K L (f i j) z) : OpD K (rI C f) (.int i) (.int j) z := fun v w H L Q e rv rw k =>
  ⟨i, j, rv.int_, rw.int_, hc, k _ H L (Go.rf e) (hz L)⟩
theorem j_add {i j : Int} (ha : PE X a (tJ K ρ (.int i))) (hb : PE X b (tJ K ρ (.int j))) : PE X (.BinOp a .Add b pos) (tJ K ρ (.int (i + j))) := j_op op_add (od_int fun _ => .int _) ha hb
theorem j_sub {i j : Int} (ha : PE X a (tJ K ρ (.int i))) (hb : PE X b (tJ K ρ (.int j))) : PE X (.BinOp a .Sub b pos) (tJ K ρ (.int (i - j))) := j_op op_sub (od_int fun _ => .int _) ha hb
/-- flat data as values -/
def flt : D → Option V
  | .non => some .non
  | .bl b => some (.bl b)
  | .int i => some (.int i)
  | .str x => some (.str x)
  | _ => none
theorem flt_rep {L : Hp} {d : D} {u v : V} (h : flt d = some u) (r : Rep K L v d) : v = u := by
  cases r <;> first | (cases h; rfl) | cases h
theorem od_eq {x y : D} {u w : V} {c : Bool} (hx : flt x = some u) (hy : flt y = some w) (hs : scal u w = true) (hc : decide (u = w) = c) : OpD K rEq x y (.bl c) := fun v v' H L Q e rv rw k => by
  rw [flt_rep hx rv, flt_rep hy rw]
  exact ⟨hs, by rw [hc]; exact k _ H L (Go.rf e) (.bl c)⟩
theorem od_ne {x y : D} {u w : V} {c : Bool} (hx : flt x = some u) (hy : flt y = some w) (hs : scal u w = true) (hc : (!decide (u = w)) = c) : OpD K rNe x y (.bl c) := fun v v' H L Q e rv rw k => by
  rw [flt_rep hx rv, flt_rep hy rw]
  exact ⟨hs, by rw [hc]; exact k _ H L (Go.rf e) (.bl c)⟩
theorem j_eqS {x y : Str} (ha : PE X a (tJ K ρ (.str x))) (hb : PE X b (tJ K ρ (.str y))) : PE X (.Compare a [.Eq] [b] pos) (tJ K ρ (.bl (decide (x = y)))) :=
  j_cmp op_eq (od_eq rfl rfl rfl (by rw [dec_str]; rfl)) (nomark _) ha hb
end
end K51
end
section
set_option Elab.async false
set_option linter.all false
set_option maxRecDepth 100000
/-! Rules for expressions by data: comparisons, tests, displays, subscripts, calls of built-ins. -/
namespace K51
open PySem PySem.Spec PyProof.Rows L2
/-! ### comparisons -/
/-- x op y is c, by data -/
structure CD (X : Cx) (op : CmpOp) (x y : D) (c : Bool) : Prop where
  ex : ∃ r, OpR X (compareOp op) r ∧ OpD X.K r x y (.bl c)
/-- x op y is z, by data -/
structure BD (X : Cx) (op : Operator) (x y z : D) : Prop where
  ex : ∃ r, OpR X (binaryOp op) r ∧ OpD X.K r x y z
section
variable {X : Cx} {ρ : En} {d x y z : D} {e a b : Expr} {pos : Pos} {c : Bool} {op : CmpOp} {bop : Operator} {n : Nat}
theorem j_c (h : CD X op x y c) (ha : PE X a (tJ X.K ρ x)) (hb : PE X b (tJ X.K ρ y)) (hm : behindInMarks op b = false := by first | exact nomark _ | rfl) : PE X (.Compare a [op] [b] pos) (tJ X.K ρ (.bl c)) := by
  obtain ⟨r, ho, hd⟩ := h.ex
  exact j_cmp ho hd hm ha hb
theorem t_c (h : CD X op x y c) (ha : PE X a (tJ X.K ρ x)) (hb : PE X b (tJ X.K ρ y)) (hm : behindInMarks op b = false := by first | exact nomark _ | rfl) : PT X (.Compare a [op] [b] pos) (tT X.K ρ c) := by
  obtain ⟨r, ho, hd⟩ := h.ex
  exact t_cmp ho hd hm ha hb
theorem j_b (h : BD X bop x y z) (ha : PE X a (tJ X.K ρ x)) (hb : PE X b (tJ X.K ρ y)) : PE X (.BinOp a bop b pos) (tJ X.K ρ z) := by
  obtain ⟨r, ho, hd⟩ := h.ex
  exact j_op ho hd ha hb
theorem CD.to {c' : Bool} (h : CD X op x y c) (e : c = c') : CD X op x y c' := e ▸ h
theorem cd_lt {i j : Int} : CD X .Lt (.int i) (.int j) (decide (i < j)) := ⟨_, op_lt, od_int fun _ => .bl _⟩
theorem cd_le {i j : Int} : CD X .LtE (.int i) (.int j) (decide (i ≤ j)) := ⟨_, op_le, od_int fun _ => .bl _⟩
theorem cd_gt {i j : Int} : CD X .Gt (.int i) (.int j) (decide (j < i)) := ⟨_, op_gt, od_int fun _ => .bl _⟩
theorem cd_ge {i j : Int} : CD X .GtE (.int i) (.int j) (decide (j ≤ i)) := ⟨_, op_ge, od_int fun _ => .bl _⟩
theorem cd_eqI {i j : Int} : CD X .Eq (.int i) (.int j) (decide (i = j)) := ⟨_, op_eq, od_eq rfl rfl rfl (by rw [dec_int]; rfl)⟩
theorem cd_neI {i j : Int} : CD X .NotEq (.int i) (.int j) (!decide (i = j)) := ⟨_, op_ne, od_ne rfl rfl rfl (by rw [dec_int]; rfl)⟩
theorem cd_eqS {i j : Str} : CD X .Eq (.str i) (.str j) (decide (i = j)) := ⟨_, op_eq, od_eq rfl rfl rfl (by rw [dec_str]; rfl)⟩
theorem cd_neS {i j : Str} : CD X .NotEq (.str i) (.str j) (!decide (i = j)) := ⟨_, op_ne, od_ne rfl rfl rfl (by rw [dec_str]; rfl)⟩
/-- is None, for any data -/
def isN : D → Bool
  | .non => true
  | _ => false
theorem rep_isN {K : PySem.W.Frag} {L : Hp} {v : V} {d : D} (r : Rep K L v d) : decide (v = .non) = isN d := by cases r <;> rfl
theorem cd_isN : CD X .Is x .non (isN x) := ⟨_, op_isN, fun v w H L Q e rv rw k => ⟨rw.non_, k _ H L (Go.rf e) (rep_isN rv ▸ .bl _)⟩⟩
theorem cd_notN : CD X .IsNot x .non (!isN x) := ⟨_, op_notN, fun v w H L Q e rv rw k => ⟨rw.non_, k _ H L (Go.rf e) (rep_isN rv ▸ .bl _)⟩⟩
theorem cd_isB {p q : Bool} : CD X .Is (.bl p) (.bl q) (decide (p = q)) := ⟨_, op_isBl, fun v w H L Q e rv rw k => ⟨p, q, rv.bl_, rw.bl_, k _ H L (Go.rf e) (.bl _)⟩⟩
theorem cd_notB {p q : Bool} : CD X .IsNot (.bl p) (.bl q) (!decide (p = q)) := ⟨_, op_notBl, fun v w H L Q e rv rw k => ⟨p, q, rv.bl_, rw.bl_, k _ H L (Go.rf e) (.bl _)⟩⟩
/-! in, not in -/
theorem flt_flat {d : D} {v : V} (h : flt d = some v) : flatV v = true := by cases d <;> first | (cases h; rfl) | cases h
inductive Flts : List D → List V → Prop
  | nil : Flts [] []
  | cons {d : D} {u : V} {l : List D} {us : List V} : flt d = some u → Flts l us → Flts (d :: l) (u :: us)
theorem reps_strs {K : PySem.W.Frag} {L : Hp} {l : List D} {vs : List V} {us : List V} (hu : Flts l us) (r : RepL K L vs l) : vs = us := by
  induction hu generalizing vs with
  | nil => exact r.nil_
  | cons h _ ih =>
    obtain ⟨v, w, rfl, r1, r2⟩ := r.cons_
    rw [flt_rep h r1, ih r2]
theorem flats {l : List D} {us : List V} (hu : Flts l us) : us.all flatV = true := by
  induction hu with
  | nil => rfl
  | cons h _ ih => rw [List.all_cons, flt_flat h, ih]; rfl
theorem f2_strs : ∀ l : List Str, Flts (l.map D.str) (l.map V.str)
  | [] => .nil
  | _ :: l => .cons rfl (f2_strs l)
/-- None or a text -/
def ofO : Option Str → D
  | none => .non
  | some x => .str x
def vO : Option Str → V
  | none => .non
  | some x => .str x
theorem flt_ofO (o : Option Str) : flt (ofO o) = some (vO o) := by cases o <;> rfl
theorem f2_opts : ∀ l : List (Option Str), Flts (l.map ofO) (l.map vO)
  | [] => .nil
  | o :: l => .cons (flt_ofO o) (f2_opts l)
theorem inV_strs (s : Str) : ∀ l : List Str, inV (.str s) (l.map V.str) = decide (s ∈ l)
  | [] => by simp [inV]
  | x :: l => by
    have ih := inV_strs s l
    unfold inV at ih ⊢
    rw [List.map_cons, List.any_cons, ih]
    show ((x == s) || decide (s ∈ l)) = decide (s ∈ x :: l)
    by_cases h : x = s
    · simp [h]
    · have h2 : ¬ s = x := fun q => h q.symm
      simp [h, h2]
theorem inV_opts (s : Str) : ∀ l : List (Option Str), inV (.str s) (l.map vO) = decide (some s ∈ l)
  | [] => by simp [inV]
  | x :: l => by
    have ih := inV_opts s l
    unfold inV at ih ⊢
    rw [List.map_cons, List.any_cons, ih]
    cases x with
    | none => show (false || decide (some s ∈ l)) = decide (some s ∈ none :: l); simp
    | some x =>
      show ((x == s) || decide (some s ∈ l)) = decide (some s ∈ some x :: l)
      by_cases h : x = s
      · simp [h]
      · have h2 : ¬ s = x := fun q => h q.symm
        simp [h, h2]
theorem cd_inL {l : List D} {us : List V} {u : V} (hx : flt x = some u) (hu : Flts l us) : CD X .In x (.lst l) (inV u us) := ⟨_, op_in_seq, fun v w H L Q e rv rw k => by
  obtain ⟨a, xs, rfl, ha, rl, _⟩ := rw.lst_
  rw [flt_rep hx rv]
  have q := reps_strs hu rl
  subst q
  exact ⟨a, _, rfl, .inl (SqL.of (e _ _ ha)), flt_flat hx, flats hu, k _ H L (Go.rf e) (.bl _)⟩⟩
theorem cd_ninL {l : List D} {us : List V} {u : V} (hx : flt x = some u) (hu : Flts l us) : CD X .NotIn x (.lst l) (!inV u us) := ⟨_, op_notIn_seq, fun v w H L Q e rv rw k => by
  obtain ⟨a, xs, rfl, ha, rl, _⟩ := rw.lst_
  rw [flt_rep hx rv]
  have q := reps_strs hu rl
  subst q
  exact ⟨a, _, rfl, .inl (SqL.of (e _ _ ha)), flt_flat hx, flats hu, k _ H L (Go.rf e) (.bl _)⟩⟩
theorem cd_inT {l : List D} {us : List V} {u : V} (hx : flt x = some u) (hu : Flts l us) : CD X .In x (.tup l) (inV u us) := ⟨_, op_in_seq, fun v w H L Q e rv rw k => by
  obtain ⟨a, xs, rfl, ha, rl, _⟩ := rw.tup_
  rw [flt_rep hx rv]
  have q := reps_strs hu rl
  subst q
  exact ⟨a, _, rfl, .inr (SqT.of (e _ _ ha)), flt_flat hx, flats hu, k _ H L (Go.rf e) (.bl _)⟩⟩
theorem cd_ninT {l : List D} {us : List V} {u : V} (hx : flt x = some u) (hu : Flts l us) : CD X .NotIn x (.tup l) (!inV u us) := ⟨_, op_notIn_seq, fun v w H L Q e rv rw k => by
  obtain ⟨a, xs, rfl, ha, rl, _⟩ := rw.tup_
  rw [flt_rep hx rv]
  have q := reps_strs hu rl
  subst q
  exact ⟨a, _, rfl, .inr (SqT.of (e _ _ ha)), flt_flat hx, flats hu, k _ H L (Go.rf e) (.bl _)⟩⟩
theorem cd_in {s : Str} {l : List Str} : CD X .In (.str s) (.lst (l.map D.str)) (decide (s ∈ l)) := (cd_inL rfl (f2_strs l)).to (inV_strs s l)
theorem cd_nin {s : Str} {l : List Str} : CD X .NotIn (.str s) (.lst (l.map D.str)) (!decide (s ∈ l)) := (cd_ninL rfl (f2_strs l)).to (congrArg _ (inV_strs s l))
theorem cd_int {s : Str} {l : List Str} : CD X .In (.str s) (.tup (l.map D.str)) (decide (s ∈ l)) := (cd_inT rfl (f2_strs l)).to (inV_strs s l)
theorem cd_nint {s : Str} {l : List Str} : CD X .NotIn (.str s) (.tup (l.map D.str)) (!decide (s ∈ l)) := (cd_ninT rfl (f2_strs l)).to (congrArg _ (inV_strs s l))
theorem cd_inO {s : Str} {l : List (Option Str)} : CD X .In (.str s) (.lst (l.map ofO)) (decide (some s ∈ l)) := (cd_inL rfl (f2_opts l)).to (inV_opts s l)
/-! dicts -/
/-- the entry of a key -/
def dget (l : List (Str × D)) (k : Str) : Option D := (l.find? fun p => decide (p.1 = k)).map (·.2)
theorem dget_nil {k : Str} : dget [] k = none := rfl
theorem dget_cons {k x : Str} {d : D} {l : List (Str × D)} : dget ((x, d) :: l) k = if x = k then some d else dget l k := by
  unfold dget
  rw [List.find?_cons]
  by_cases h : x = k
  · rw [if_pos h, show decide ((x, d).1 = k) = true from decide_eq_true h]; rfl
  · rw [if_neg h, show decide ((x, d).1 = k) = false from decide_eq_false h]
theorem repK_get {K : PySem.W.Frag} {L : Hp} {k : Str} : ∀ {kvs : List (Key × V)} {l : List (Str × D)}, RepK K L kvs l → (∃ v d, valV kvs (.inr k) = some v ∧ dget l k = some d ∧ Rep K L v d) ∨ (valV kvs (.inr k) = none ∧ dget l k = none)
  | _, _, .nil => .inr ⟨rfl, rfl⟩
  | _, _, .cons (x := x) (v := v) (d := d) (kvs := kvs) (l := l) h r => by
    rw [dget_cons]
    by_cases q : x = k
    · rw [if_pos q, valV_pos (show ((Sum.inr x : Key), v).1 = Sum.inr k from congrArg Sum.inr q)]
      exact .inl ⟨v, d, rfl, rfl, h⟩
    · rw [if_neg q, valV_neg (show ¬ ((Sum.inr x : Key), v).1 = Sum.inr k from fun z => q (Sum.inr.inj z))]
      exact repK_get r
theorem rd_up {L H : Hp} (e : Ex L H) {a : Addr} {u : HO} (h : Rd L a u) : Rd H a u := h.elim (fun h => .inl (e _ _ h)) fun ⟨o, h⟩ => .inr ⟨o, e _ _ h⟩
theorem dget_of {K : PySem.W.Frag} {L H : Hp} {a : Addr} {kvs : List (Key × V)} {l : List (Str × D)} {k : Str} (e : Ex L H) (h : Rd L a (.dK kvs)) (r : RepK K L kvs l) : ∃ o, DGet H a (.str k) o ∧ (o.isSome = (dget l k).isSome) ∧ ∀ d, dget l k = some d → ∃ v, o = some v ∧ Rep K L v d := by
  refine ⟨valV kvs (.inr k), .inl ⟨kvs, .inr k, rd_up e h, rfl, rfl⟩, ?_⟩
  rcases repK_get (k := k) r with ⟨v, d, h1, h2, h3⟩ | ⟨h1, h2⟩
  · rw [h1, h2]; exact ⟨rfl, fun d' q => by cases q; exact ⟨v, rfl, h3⟩⟩
  · rw [h1, h2]; exact ⟨rfl, fun d' q => by cases q⟩
def rDIn (neg : Bool) : R2 := fun x y H Q => (∃ a o, y = .ref a ∧ DGet H a x o ∧ Q (.bl (if neg then !o.isSome else o.isSome)) H) ∨ ∃ a kvs, y = .ref a ∧ x = .non ∧ Rd H a (.dK kvs) ∧ Q (.bl neg) H
theorem op_inD (hr : Room n X.A) : OpR X (compareOp .In) (rDIn false) := by
  intro pins s σ H x y v u Q I rx ry h
  rcases h with ⟨a, o, rfl, g, q⟩ | ⟨a, kvs, rfl, rfl, g, q⟩
  · cases ry
    exact d_in (hu_of hr) I g rx fun s' I' => ⟨.bl _, H, I', rfl, q⟩
  · cases ry
    cases rx
    exact d_inNone I g fun s' I' => ⟨.bl _, H, I', rfl, q⟩
theorem op_ninD (hr : Room n X.A) : OpR X (compareOp .NotIn) (rDIn true) := by
  intro pins s σ H x y v u Q I rx ry h
  rcases h with ⟨a, o, rfl, g, q⟩ | ⟨a, kvs, rfl, rfl, g, q⟩
  · cases ry
    exact d_notIn (hu_of hr) I g rx fun s' I' => ⟨.bl _, H, I', rfl, q⟩
  · cases ry
    cases rx
    exact d_notInNone I g fun s' I' => ⟨.bl _, H, I', rfl, q⟩
theorem cd_inD {s : Str} {l : List (Str × D)} (hr : Room n X.A) : CD X .In (.str s) (.dct l) (dget l s).isSome := ⟨_, op_inD hr, fun v w H L Q e rv rw k => by
  obtain ⟨a, kvs, rfl, h, r, _⟩ := rw.dct_
  obtain ⟨o, g, g2, _⟩ := dget_of (k := s) e h r
  rw [rv.str_]
  exact .inl ⟨a, o, rfl, g, k _ H L (Go.rf e) (by rw [if_neg Bool.false_ne_true, g2]; exact .bl _)⟩⟩
theorem cd_ninD {s : Str} {l : List (Str × D)} (hr : Room n X.A) : CD X .NotIn (.str s) (.dct l) (!(dget l s).isSome) := ⟨_, op_ninD hr, fun v w H L Q e rv rw k => by
  obtain ⟨a, kvs, rfl, h, r, _⟩ := rw.dct_
  obtain ⟨o, g, g2, _⟩ := dget_of (k := s) e h r
  rw [rv.str_]
  exact .inl ⟨a, o, rfl, g, k _ H L (Go.rf e) (by rw [if_pos rfl, g2]; exact .bl _)⟩⟩
theorem cd_inDN {l : List (Str × D)} (hr : Room n X.A) : CD X .In .non (.dct l) false := ⟨_, op_inD hr, fun v w H L Q e rv rw k => by
  obtain ⟨a, kvs, rfl, h, r, _⟩ := rw.dct_
  exact .inr ⟨a, kvs, rfl, rv.non_, rd_up e h, k _ H L (Go.rf e) (.bl _)⟩⟩
theorem cd_ninDN {l : List (Str × D)} (hr : Room n X.A) : CD X .NotIn .non (.dct l) true := ⟨_, op_ninD hr, fun v w H L Q e rv rw k => by
  obtain ⟨a, kvs, rfl, h, r, _⟩ := rw.dct_
  exact .inr ⟨a, kvs, rfl, rv.non_, rd_up e h, k _ H L (Go.rf e) (.bl _)⟩⟩
/-- one sign in a text -/
theorem cd_sign {c : Nat} {z : Str} : CD X .In (.str ⟨#[c]⟩) (.str z) (decide (c ∈ z.cps.toList)) := ⟨_, op_in_sign, fun v w H L Q e rv rw k => ⟨c, z, rv.str_, rw.str_, k _ H L (Go.rf e) (.bl _)⟩⟩
/-! == of data at any depth -/
mutual
def py : D → Option PyData
  | .non => some .none
  | .bl b => some (.bool b)
  | .int i => some (.int i)
  | .str x => some (.str x)
  | .lst l => (pyL l).map .list
  | .tup l => (pyL l).map .tuple
  | .dct _ => none
  | .obj _ _ => none
  | .own _ => none
def pyL : List D → Option (List PyData)
  | [] => some []
  | d :: r => match py d, pyL r with
    | some p, some q => some (p :: q)
    | _, _ => none
end
theorem pyL_cons {d : D} {r : List D} {ps : List PyData} (h : pyL (d :: r) = some ps) : ∃ p q, ps = p :: q ∧ py d = some p ∧ pyL r = some q := by
  rw [pyL] at h
  cases h1 : py d with
  | none => rw [h1] at h; cases h
  | some p =>
    cases h2 : pyL r with
    | none => rw [h1, h2] at h; cases h
    | some q => rw [h1, h2] at h; cases h; exact ⟨p, q, rfl, rfl, rfl⟩
mutual
theorem py_rep {K : PySem.W.Frag} {L H : Hp} (e : Ex L H) : ∀ {d : D} {v : V} {p : PyData}, Rep K L v d → py d = some p → Dp K H v p
  | .non, _, _, .non, h => by cases h; exact .non
  | .bl b, _, _, .bl _, h => by cases h; exact .bl b
  | .int i, _, _, .int _, h => by cases h; exact .int i
  | .str x, _, _, .str _, h => by cases h; exact .str x
  | .own _, _, _, _, h => by cases h
  | .lst l, _, _, .lst ha r _, h => by
    rw [py] at h
    cases q : pyL l with
    | none => rw [q] at h; cases h
    | some ps => rw [q] at h; cases h; exact .lst (SqL.of (e _ _ ha)) (pyL_rep e r q)
  | .tup l, _, _, .tup ha r _, h => by
    rw [py] at h
    cases q : pyL l with
    | none => rw [q] at h; cases h
    | some ps => rw [q] at h; cases h; exact .tup (SqT.of (e _ _ ha)) (pyL_rep e r q)
theorem pyL_rep {K : PySem.W.Frag} {L H : Hp} (e : Ex L H) : ∀ {l : List D} {vs : List V} {ps : List PyData}, RepL K L vs l → pyL l = some ps → DpAll K H vs ps
  | [], _, _, .nil, h => by cases h; exact .nil
  | d :: r, _, _, .cons h1 h2, h => by
    obtain ⟨p, q, rfl, e1, e2⟩ := pyL_cons h
    exact .cons (py_rep e h1 e1) (pyL_rep e h2 e2)
end
theorem cd_eqP {p q : PyData} (hr : Room n X.A) (hx : py x = some p) (hy : py y = some q) (sp : SeqAt.shaped p = true) (sq : SeqAt.shaped q = true) : CD X .Eq x y (PyData.eqv p q) := ⟨_, op_eqD hr.units, fun v w H L Q e rv rw k => ⟨p, q, py_rep e rv hx, py_rep e rw hy, sp, sq, k _ H L (Go.rf e) (.bl _)⟩⟩
theorem cd_neP {p q : PyData} (hr : Room n X.A) (hx : py x = some p) (hy : py y = some q) (sp : SeqAt.shaped p = true) (sq : SeqAt.shaped q = true) : CD X .NotEq x y (!PyData.eqv p q) := ⟨_, op_neD hr.units, fun v w H L Q e rv rw k => ⟨p, q, py_rep e rv hx, py_rep e rw hy, sp, sq, k _ H L (Go.rf e) (.bl _)⟩⟩
/-- None or texts, of plain signs -/
def pO : Option Str → PyData
  | none => .none
  | some x => .str x
def okO : Option Str → Prop
  | none => True
  | some x => PyData.strOk x = true
theorem pyL_opts : ∀ l : List (Option Str), pyL (l.map ofO) = some (l.map pO)
  | [] => rfl
  | o :: l => by rw [List.map_cons, pyL, pyL_opts l]; cases o <;> rfl
theorem pyL_strs : ∀ l : List Str, pyL (l.map D.str) = some (l.map PyData.str)
  | [] => rfl
  | o :: l => by rw [List.map_cons, pyL, pyL_strs l]; rfl
theorem lay_opts : ∀ l : List (Option Str), (∀ o ∈ l, okO o) → PyData.canLayAll0 (l.map pO) = true
  | [], _ => rfl
  | o :: l, h => by
    rw [List.map_cons, PyData.canLayAll0, lay_opts l fun q m => h q (List.mem_cons_of_mem _ m)]
    have := h o List.mem_cons_self
    cases o with
    | none => rfl
    | some x => rw [Bool.and_true]; exact this
theorem lay_strs : ∀ l : List Str, (∀ o ∈ l, PyData.strOk o = true) → PyData.canLayAll0 (l.map PyData.str) = true
  | [], _ => rfl
  | o :: l, h => by
    rw [List.map_cons, PyData.canLayAll0, lay_strs l fun q m => h q (List.mem_cons_of_mem _ m), Bool.and_true]
    exact h o List.mem_cons_self
theorem dep_opts : ∀ l : List (Option Str), PyData.depthAll (l.map pO) = 0
  | [] => rfl
  | o :: l => by rw [List.map_cons, PyData.depthAll, dep_opts l]; cases o <;> rfl
theorem dep_strs : ∀ l : List Str, PyData.depthAll (l.map PyData.str) = 0
  | [] => rfl
  | o :: l => by rw [List.map_cons, PyData.depthAll, dep_strs l]; rfl
theorem eqv_opts : ∀ l m : List (Option Str), PyData.eqvAll (l.map pO) (m.map pO) = decide (l = m)
  | [], [] => rfl
  | [], _ :: _ => rfl
  | _ :: _, [] => rfl
  | o :: l, q :: m => by
    rw [List.map_cons, List.map_cons, PyData.eqvAll, eqv_opts l m]
    cases o <;> cases q
    · show (true && decide (l = m)) = _; simp
    · show (false && decide (l = m)) = _; simp
    · show (false && decide (l = m)) = _; simp
    · next x y => show ((x == y) && decide (l = m)) = _; by_cases h : x = y <;> by_cases h2 : l = m <;> simp [h, h2]
theorem eqv_strs : ∀ l m : List Str, PyData.eqvAll (l.map PyData.str) (m.map PyData.str) = decide (l = m)
  | [], [] => rfl
  | [], _ :: _ => rfl
  | _ :: _, [] => rfl
  | x :: l, y :: m => by
    rw [List.map_cons, List.map_cons, PyData.eqvAll, eqv_strs l m]
    show ((x == y) && decide (l = m)) = _
    by_cases h : x = y <;> by_cases h2 : l = m <;> simp [h, h2]
theorem shp_l {ps : List PyData} (h : PyData.canLayAll0 ps = true) (h2 : PyData.depthAll ps = 0) : SeqAt.shaped (.list ps) = true := by
  show (PyData.canLayAll0 ps && decide (PyData.depthAll ps + 1 ≤ 64)) = true
  rw [h, h2]; rfl
theorem shp_t {ps : List PyData} (h : PyData.canLayAll0 ps = true) (h2 : PyData.depthAll ps = 0) : SeqAt.shaped (.tuple ps) = true := by
  show (PyData.canLayAll0 ps && decide (PyData.depthAll ps + 1 ≤ 64)) = true
  rw [h, h2]; rfl
abbrev okS (l : List Str) : Prop := ∀ x ∈ l, PyData.strOk x = true
theorem cd_eqL {l m : List Str} (hr : Room n X.A) (hl : okS l) (hm : okS m) : CD X .Eq (.lst (l.map D.str)) (.lst (m.map D.str)) (decide (l = m)) :=
  (cd_eqP hr (by rw [py, pyL_strs]; rfl) (by rw [py, pyL_strs]; rfl) (shp_l (lay_strs l hl) (dep_strs l)) (shp_l (lay_strs m hm) (dep_strs m))).to (eqv_strs l m)
theorem cd_neL {l m : List Str} (hr : Room n X.A) (hl : okS l) (hm : okS m) : CD X .NotEq (.lst (l.map D.str)) (.lst (m.map D.str)) (!decide (l = m)) :=
  (cd_neP hr (by rw [py, pyL_strs]; rfl) (by rw [py, pyL_strs]; rfl) (shp_l (lay_strs l hl) (dep_strs l)) (shp_l (lay_strs m hm) (dep_strs m))).to (congrArg _ (eqv_strs l m))
theorem cd_neTO {l m : List (Option Str)} (hr : Room n X.A) (hl : ∀ o ∈ l, okO o) (hm : ∀ o ∈ m, okO o) : CD X .NotEq (.tup (l.map ofO)) (.tup (m.map ofO)) (!decide (l = m)) :=
  (cd_neP hr (by rw [py, pyL_opts]; rfl) (by rw [py, pyL_opts]; rfl) (shp_t (lay_opts l hl) (dep_opts l)) (shp_t (lay_opts m hm) (dep_opts m))).to (congrArg _ (eqv_opts l m))
/-! ### tests -/
variable {p q : Bool} {rest : List Expr}
theorem t_not (h : PT X a (tT X.K ρ p)) : PT X (.UnaryOp .Not a pos) (tT X.K ρ (!p)) := (pt_not h).imp fun σ H Q ⟨L, e, env, k⟩ => ⟨L, e, env, fun H' L' g => k H' L' g⟩
theorem w_and1 (h : PT X a (tT X.K ρ p)) : PW X (.BoolOp .And [a] pos) (tT X.K ρ p) := pw_and1 h
theorem w_or1 (h : PT X a (tT X.K ρ p)) : PW X (.BoolOp .Or [a] pos) (tT X.K ρ p) := pw_or1 h
theorem _root_.L2.PW.never : PW X e (fun _ _ _ => False) := ⟨fun _ _ _ _ _ _ _ h => h.elim⟩
theorem _root_.L2.PE.never : PE X e (fun _ _ _ => False) := ⟨fun _ _ _ _ _ _ h => h.elim⟩
theorem w_and (h : PT X a (tT X.K ρ p)) (h2 : p = true → PW X (.BoolOp .And (b :: rest) pos) (tT X.K ρ q)) : PW X (.BoolOp .And (a :: b :: rest) pos) (tT X.K ρ (p && q)) := by
  cases p with
  | true => exact (pw_and h (h2 rfl)).imp fun σ H Q ⟨L, e, env, k⟩ => ⟨L, e, env, fun H1 L1 g1 => iteT ⟨L1, g1.sub, env.ex g1.lx, fun H2 L2 g2 => k H2 L2 (g1.tr g2)⟩⟩
  | false => exact (pw_and h PW.never).imp fun σ H Q ⟨L, e, env, k⟩ => ⟨L, e, env, fun H1 L1 g1 => iteF (k H1 L1 g1)⟩
theorem w_or (h : PT X a (tT X.K ρ p)) (h2 : p = false → PW X (.BoolOp .Or (b :: rest) pos) (tT X.K ρ q)) : PW X (.BoolOp .Or (a :: b :: rest) pos) (tT X.K ρ (p || q)) := by
  cases p with
  | false => exact (pw_or h (h2 rfl)).imp fun σ H Q ⟨L, e, env, k⟩ => ⟨L, e, env, fun H1 L1 g1 => iteF ⟨L1, g1.sub, env.ex g1.lx, fun H2 L2 g2 => k H2 L2 (g1.tr g2)⟩⟩
  | true => exact (pw_or h PW.never).imp fun σ H Q ⟨L, e, env, k⟩ => ⟨L, e, env, fun H1 L1 g1 => iteT (k H1 L1 g1)⟩
/-- a test's answer told by cases -/
theorem w_is {p' : Bool} (h : PW X e (tT X.K ρ p)) (q : p = p') : PW X e (tT X.K ρ p') := q ▸ h
/-- a bool as a test -/
theorem t_v (h : PE X a (tJ X.K ρ (.bl p))) (he : ∀ whole, isTrue a X.env whole = (do let v ← whole; standAt a.pos; holding [v] (truthy v)) := by intro _; rfl) : PT X a (tT X.K ρ p) :=
  (pt_val h he).imp fun σ H Q ⟨L, e, env, k⟩ => ⟨L, e, env, fun v H' L' g r => ⟨p, r.bl_, k H' L' g⟩⟩
/-- and, or of bools as values: the last may be anything -/
theorem j_one {bo : BoolOp} (h : PE X a (tJ X.K ρ d)) : PE X (.BoolOp bo [a] pos) (tJ X.K ρ d) := pe_one h
theorem j_and (h : PE X a (tJ X.K ρ (.bl p))) (h2 : p = true → PE X (.BoolOp .And (b :: rest) pos) (tJ X.K ρ (.bl q))) : PE X (.BoolOp .And (a :: b :: rest) pos) (tJ X.K ρ (.bl (p && q))) := by
  cases p with
  | true => exact (pe_and h (h2 rfl)).imp fun σ H Q ⟨L, e, env, k⟩ => ⟨L, e, env, fun v H1 L1 g1 r => ⟨true, r.bl_, iteT ⟨L1, g1.sub, env.ex g1.lx, fun v H2 L2 g2 => k v H2 L2 (g1.tr g2)⟩⟩⟩
  | false => exact (pe_and h PE.never).imp fun σ H Q ⟨L, e, env, k⟩ => ⟨L, e, env, fun v H1 L1 g1 r => ⟨false, r.bl_, iteF (k _ H1 L1 g1 (.bl _))⟩⟩
theorem j_or (h : PE X a (tJ X.K ρ (.bl p))) (h2 : p = false → PE X (.BoolOp .Or (b :: rest) pos) (tJ X.K ρ (.bl q))) : PE X (.BoolOp .Or (a :: b :: rest) pos) (tJ X.K ρ (.bl (p || q))) := by
  cases p with
  | false => exact (pe_or h (h2 rfl)).imp fun σ H Q ⟨L, e, env, k⟩ => ⟨L, e, env, fun v H1 L1 g1 r => ⟨false, r.bl_, iteF ⟨L1, g1.sub, env.ex g1.lx, fun v H2 L2 g2 => k v H2 L2 (g1.tr g2)⟩⟩⟩
  | true => exact (pe_or h PE.never).imp fun σ H Q ⟨L, e, env, k⟩ => ⟨L, e, env, fun v H1 L1 g1 r => ⟨true, r.bl_, iteT (k _ H1 L1 g1 (.bl _))⟩⟩
theorem j_not (h : PE X a (tJ X.K ρ (.bl p))) : PE X (.UnaryOp .Not a pos) (tJ X.K ρ (.bl (!p))) := (pe_not h).imp fun σ H Q ⟨L, e, env, k⟩ => ⟨L, e, env, fun v H1 L1 g1 r => ⟨p, r.bl_, k _ H1 L1 g1 (.bl _)⟩⟩
/-- a if c else b -/
theorem j_if {c0 : Expr} (h : PT X c0 (tT X.K ρ p)) (h1 : p = true → PE X a (tJ X.K ρ d)) (h2 : p = false → PE X b (tJ X.K ρ d)) : PE X (.IfExp c0 a b pos) (tJ X.K ρ d) := by
  cases p with
  | true => exact (pe_ifExp h (h1 rfl) PE.never).imp fun σ H Q ⟨L, e, env, k⟩ => ⟨L, e, env, fun H1 L1 g1 => iteT ⟨L1, g1.sub, env.ex g1.lx, fun v H2 L2 g2 => k v H2 L2 (g1.tr g2)⟩⟩
  | false => exact (pe_ifExp h PE.never (h2 rfl)).imp fun σ H Q ⟨L, e, env, k⟩ => ⟨L, e, env, fun H1 L1 g1 => iteF ⟨L1, g1.sub, env.ex g1.lx, fun v H2 L2 g2 => k v H2 L2 (g1.tr g2)⟩⟩
/-- a op b op' c0 of ints -/
theorem t_chain {op' : CmpOp} {c0 : Expr} {p q : Bool} (h1 : CD X op x y p) (h2 : p = true → CD X op' y z q) (ha : PE X a (tJ X.K ρ x)) (hb : PE X b (tJ X.K ρ y)) (hc : PE X c0 (tJ X.K ρ z)) (hm : lastMarks [op, op'] [b, c0] = false := by with_unfolding_all rfl) :
    PT X (.Compare a [op, op'] [b, c0] pos) (tT X.K ρ (p && q)) := by
  obtain ⟨r, ho, hd⟩ := h1.ex
  cases p with
  | true =>
    obtain ⟨r', ho', hd'⟩ := (h2 rfl).ex
    exact (pt_chain ho ho' ha hb hc hm).imp fun σ H Q ⟨L, e, env, k⟩ => ⟨L, e, env, fun v H1 L1 g1 r1 => ⟨L1, g1.sub, env.ex g1.lx, fun w H2 L2 g2 r2 => hd v w H2 L2 _ g2.sub (r1.ex g2.lx) r2 fun u H3 L3 g3 r3 =>
      ⟨true, r3.bl_, iteT ⟨L3, g3.sub, ((env.ex g1.lx).ex g2.lx).ex g3.lx, fun w' H4 L4 g4 r4 => hd' w w' H4 L4 _ g4.sub ((r2.ex g3.lx).ex g4.lx) r4 fun u' H5 L5 g5 r5 => ⟨q, r5.bl_, k H5 L5 ((((g1.tr g2).tr g3).tr g4).tr g5)⟩⟩⟩⟩⟩
  | false =>
    exact (pt_chain (r' := fun _ _ _ _ => False) ho (fun _ _ _ _ _ _ _ _ _ _ _ _ h => h.elim) ha hb (PE.never (e := c0)) hm).imp fun σ H Q ⟨L, e, env, k⟩ => ⟨L, e, env, fun v H1 L1 g1 r1 => ⟨L1, g1.sub, env.ex g1.lx, fun w H2 L2 g2 r2 => hd v w H2 L2 _ g2.sub (r1.ex g2.lx) r2 fun u H3 L3 g3 r3 =>
      ⟨false, r3.bl_, iteF ⟨false, rfl, k H3 L3 ((g1.tr g2).tr g3)⟩⟩⟩⟩
end
end K51
end
section
set_option Elab.async false
set_option linter.all false
set_option maxRecDepth 100000
/-! Rules by data: sums of lists and tuples, subscripts, slices, displays, calls, attributes, statements. -/
namespace K51
open PySem PySem.Spec PyProof.Rows L2
section
variable {X : Cx} {ρ : En} {d x y z : D} {e a b : Expr} {pos : Pos} {c : Bool} {n : Nat} {l m : List D} {K : PySem.W.Frag} {H L : Hp}
theorem BD.to {op : Operator} {z' : D} (h : BD X op x y z) (e : z = z') : BD X op x y z' := e ▸ h
theorem bd_addI {i j : Int} : BD X .Add (.int i) (.int j) (.int (i + j)) := ⟨_, op_add, od_int fun _ => .int _⟩
theorem bd_subI {i j : Int} : BD X .Sub (.int i) (.int j) (.int (i - j)) := ⟨_, op_sub, od_int fun _ => .int _⟩
theorem bd_addS {i j : Str} (h : i.length + j.length ≤ lim) : BD X .Add (.str i) (.str j) (.str (i ++ j)) := ⟨_, op_add_str, fun v w H L Q e rv rw k => ⟨i, j, rv.str_, rw.str_, lim_le h, k _ H L (Go.rf e) (.str _)⟩⟩
theorem bd_addL (h : l.length + m.length ≤ lim) : BD X .Add (.lst l) (.lst m) (.lst (l ++ m)) := ⟨_, op_cat, fun v w H L Q e rv rw k => by
  obtain ⟨a, xs, rfl, ha, r1, _⟩ := rv.lst_
  obtain ⟨b, ys, rfl, hb, r2, _⟩ := rw.lst_
  refine ⟨a, b, xs, ys, rfl, rfl, e _ _ ha, e _ _ hb, by rw [r1.len, r2.len]; exact lim_le h, fun p hp => ?_⟩
  have g := Go.new (o := .lst (xs ++ ys)) e hp
  exact k _ _ _ g (.lst upd_same ((r1.ex g.lx).app (r2.ex g.lx)) (by rw [List.length_append]; exact h))⟩
theorem bd_addT (h : l.length + m.length ≤ lim) : BD X .Add (.tup l) (.tup m) (.tup (l ++ m)) := ⟨_, op_catA, fun v w H L Q e rv rw k => by
  have rv' := rv
  have rw' := rw
  obtain ⟨a, xs, rfl, ha, r1, _⟩ := rv.tup_
  obtain ⟨b, ys, rfl, hb, r2, _⟩ := rw.tup_
  refine ⟨a, b, xs, ys, rfl, rfl, SqT.of (e _ _ ha), SqT.of (e _ _ hb), by rw [r1.len, r2.len]; exact lim_le h, fun q => ?_, fun q q2 => ?_, fun q q2 p hp => ?_⟩
  · subst q
    have : l = [] := List.length_eq_zero_iff.mp r1.len.symm
    subst this
    exact k _ H L (Go.rf e) rw'
  · subst q2
    have : m = [] := List.length_eq_zero_iff.mp r2.len.symm
    subst this
    rw [List.append_nil] at k
    exact k _ H L (Go.rf e) rv'
  · have g := Go.new (o := .tup (xs ++ ys)) e hp
    exact k _ _ _ g (.tup upd_same ((r1.ex g.lx).app (r2.ex g.lx)) (by rw [List.length_append]; exact h))⟩
/-! ### subscripts -/
theorem at_rep {xs : List V} {i : Int} (r : RepL K L xs l) (h : atI l i = some d) : ∃ v, atI xs i = some v ∧ Rep K L v d := by
  unfold atI at h ⊢
  rw [r.len]
  cases q : ixN l.length i with
  | none => rw [q] at h; cases h
  | some j =>
    rw [q] at h
    exact r.get h
theorem j_ixL {i : Int} (ha : PE X a (tJ X.K ρ (.lst l))) (hb : PE X b (tJ X.K ρ (.int i))) (h : atI l i = some d) (hs : PlainIx b := by exact fun _ _ => rfl) : PE X (.Subscript a b pos) (tJ X.K ρ d) :=
  (pe_ix ix_list ha hb hs).imp fun σ H Q ⟨L, e, env, k⟩ => ⟨L, e, env, fun v H1 L1 g1 r1 => ⟨L1, g1.sub, env.ex g1.lx, fun w H2 L2 g2 r2 => by
    obtain ⟨p, xs, rfl, hp, rl, _⟩ := (r1.ex g2.lx).lst_
    obtain ⟨u, hu, ru⟩ := at_rep rl h
    exact ⟨p, xs, i, u, rfl, r2.int_, SqL.of (g2.sub _ _ hp), hu, k u H2 L2 (g1.tr g2) ru⟩⟩⟩
theorem j_ixT {i : Int} (ha : PE X a (tJ X.K ρ (.tup l))) (hb : PE X b (tJ X.K ρ (.int i))) (h : atI l i = some d) (hs : PlainIx b := by exact fun _ _ => rfl) : PE X (.Subscript a b pos) (tJ X.K ρ d) :=
  (pe_ix ix_tup ha hb hs).imp fun σ H Q ⟨L, e, env, k⟩ => ⟨L, e, env, fun v H1 L1 g1 r1 => ⟨L1, g1.sub, env.ex g1.lx, fun w H2 L2 g2 r2 => by
    obtain ⟨p, xs, rfl, hp, rl, _⟩ := (r1.ex g2.lx).tup_
    obtain ⟨u, hu, ru⟩ := at_rep rl h
    exact ⟨p, xs, i, u, rfl, r2.int_, SqT.of (g2.sub _ _ hp), hu, k u H2 L2 (g1.tr g2) ru⟩⟩⟩
theorem j_ixD {s : Str} {t : List (Str × D)} (hr : Room n X.A) (ha : PE X a (tJ X.K ρ (.dct t))) (hb : PE X b (tJ X.K ρ (.str s))) (h : dget t s = some d) (hs : NoSl b := by exact fun _ _ => rfl) : PE X (.Subscript a b pos) (tJ X.K ρ d) :=
  (pe_dget (hu_of hr) ha hb hs).imp fun σ H Q ⟨L, e, env, k⟩ => ⟨L, e, env, fun v H1 L1 g1 r1 => ⟨L1, g1.sub, env.ex g1.lx, fun w H2 L2 g2 r2 => by
    obtain ⟨p, kvs, rfl, hp, rk, _⟩ := (r1.ex g2.lx).dct_
    obtain ⟨o, g, _, g3⟩ := dget_of (k := s) g2.sub hp rk
    obtain ⟨u, rfl, ru⟩ := g3 d h
    rw [r2.str_]
    exact ⟨p, u, rfl, g, k u H2 L2 (g1.tr g2) ru⟩⟩⟩
/-! slices -/
def tO (K : PySem.W.Frag) (ρ : En) (o : Option Int) : TO := fun σ H Q => ∃ L, Ex L H ∧ EnvR K L σ ρ ∧ ∀ H' L', Go H L H' L' → Q o H'
theorem o_none : PO X none (tO X.K ρ none) := ⟨fun pins s σ H Q I ⟨L, e, env, k⟩ => po_none.run pins s σ H Q I (k H L (Go.rf e))⟩
theorem o_some {i : Int} (h : PE X e (tJ X.K ρ (.int i))) : PO X (some e) (tO X.K ρ (some i)) := ⟨fun pins s σ H Q I ⟨L, e, env, k⟩ => (po_some h).run pins s σ H Q I ⟨L, e, env, fun v H' L' g r => ⟨i, r.int_, k H' L' g⟩⟩⟩
def cutD (l : List D) (lo hi : Option Int) : List D := (l.drop (HT.sIx l.length 0 lo)).take (HT.sIx l.length l.length hi - HT.sIx l.length 0 lo)
theorem cut_rep {xs : List V} {lo hi : Option Int} (r : RepL K L xs l) : RepL K L (cutV xs lo hi) (cutD l lo hi) := by
  unfold cutV cutD
  rw [r.len]
  exact (r.drop _).take _
theorem cutD_len (lo hi : Option Int) : (cutD l lo hi).length ≤ l.length := by
  unfold cutD
  rw [List.length_take, List.length_drop]
  omega
variable {lo hi : Option Expr} {p2 : Pos} {i j : Option Int}
theorem j_slL (ha : PE X a (tJ X.K ρ (.lst l))) (hl : PO X lo (tO X.K ρ i)) (hh : PO X hi (tO X.K ρ j)) : PE X (.Subscript a (.Slice lo hi none p2) pos) (tJ X.K ρ (.lst (cutD l i j))) :=
  (pe_slice sl_list ha hl hh).imp fun σ H Q ⟨L, e, env, k⟩ => ⟨L, e, env, fun v H1 L1 g1 r1 => ⟨L1, g1.sub, env.ex g1.lx, fun H2 L2 g2 => ⟨L2, g2.sub, (env.ex g1.lx).ex g2.lx, fun H3 L3 g3 => by
    obtain ⟨p, xs, rfl, hp, rl, z⟩ := ((r1.ex g2.lx).ex g3.lx).lst_
    refine ⟨p, xs, rfl, SqL.of (g3.sub _ _ hp), fun q hq => ?_⟩
    have g4 := Go.new (o := .lst (cutV xs i j)) g3.sub hq
    exact k _ _ _ (((g1.tr g2).tr g3).tr g4) (.lst upd_same ((cut_rep rl).ex g4.lx) (Nat.le_trans (cutD_len _ _) z))⟩⟩⟩
theorem j_slT (ha : PE X a (tJ X.K ρ (.tup l))) (hl : PO X lo (tO X.K ρ i)) (hh : PO X hi (tO X.K ρ j)) : PE X (.Subscript a (.Slice lo hi none p2) pos) (tJ X.K ρ (.tup (cutD l i j))) :=
  (pe_slice sl_tupA ha hl hh).imp fun σ H Q ⟨L, e, env, k⟩ => ⟨L, e, env, fun v H1 L1 g1 r1 => ⟨L1, g1.sub, env.ex g1.lx, fun H2 L2 g2 => ⟨L2, g2.sub, (env.ex g1.lx).ex g2.lx, fun H3 L3 g3 => by
    have r3 := (r1.ex g2.lx).ex g3.lx
    obtain ⟨p, xs, rfl, hp, rl, z⟩ := r3.tup_
    refine ⟨p, xs, rfl, SqT.of (g3.sub _ _ hp), fun w => ?_, fun _ q hq => ?_⟩
    · have : cutD l i j = l := by
        unfold cutD
        rw [← rl.len, w.1, w.2, Nat.sub_zero, List.drop_zero, rl.len, List.take_length]
      rw [this] at k
      exact k _ _ _ ((g1.tr g2).tr g3) r3
    · have g4 := Go.new (o := .tup (cutV xs i j)) g3.sub hq
      exact k _ _ _ (((g1.tr g2).tr g3).tr g4) (.tup upd_same ((cut_rep rl).ex g4.lx) (Nat.le_trans (cutD_len _ _) z))⟩⟩⟩
/-! ### argument lists, displays -/
variable {es : List Expr} {ds : List D}
theorem ja_nil : PA X [] (tJA X.K ρ []) := pa_nil.imp fun σ H Q ⟨L, e, env, k⟩ => k [] H L (Go.rf e) .nil
theorem ja_cons (ha : PE X e (tJ X.K ρ d)) (hr : PA X es (tJA X.K ρ ds)) (hs : starEach (e :: es) X.env = (false, eval e X.env) :: starEach es X.env := by rfl) : PA X (e :: es) (tJA X.K ρ (d :: ds)) :=
  (pa_cons ha hr hs).imp fun σ H Q ⟨L, e, env, k⟩ => ⟨L, e, env, fun v H1 L1 g1 r1 => ⟨L1, g1.sub, env.ex g1.lx, fun vs H2 L2 g2 r2 => k _ H2 L2 (g1.tr g2) (.cons (r1.ex g2.lx) r2)⟩⟩
theorem ja_starL {p : Pos} (ha : PE X e (tJ X.K ρ (.lst l))) (hr : PA X es (tJA X.K ρ ds)) (hs : starEach (.Starred e p :: es) X.env = (true, eval e X.env) :: starEach es X.env := by rfl) : PA X (.Starred e p :: es) (tJA X.K ρ (l ++ ds)) :=
  (StX.pa_star ha hr hs).imp fun σ H Q ⟨L, e, env, k⟩ => ⟨L, e, env, fun v H1 L1 g1 r1 => by
    obtain ⟨p, xs, rfl, hp, rl, _⟩ := r1.lst_
    exact ⟨p, xs, rfl, .inr (SqL.of (g1.sub _ _ hp)), L1, g1.sub, env.ex g1.lx, fun vs H2 L2 g2 r2 => k _ H2 L2 (g1.tr g2) ((rl.ex g2.lx).app r2)⟩⟩
theorem j_tup {x1 : Nat} (h : PA X es (tJA X.K ρ ds)) (hl : ds.length ≤ lim := by exact Nat.le_of_ble_eq_true rfl) : PE X (.Tuple es x1 pos) (tJ X.K ρ (.tup ds)) :=
  (pe_tup h).imp fun σ H Q ⟨L, e, env, k⟩ => ⟨L, e, env, fun vs H1 L1 g1 r1 => ⟨by rw [r1.len]; exact lim_le hl, fun p hp => by
    have g2 := Go.new (o := .tup vs) g1.sub hp
    exact k _ _ _ (g1.tr g2) (.tup upd_same (r1.ex g2.lx) hl)⟩⟩
theorem j_lst (h : PA X es (tJA X.K ρ ds)) (hl : ds.length ≤ lim := by exact Nat.le_of_ble_eq_true rfl) : PE X (.List es pos) (tJ X.K ρ (.lst ds)) :=
  (pe_lst h).imp fun σ H Q ⟨L, e, env, k⟩ => ⟨L, e, env, fun vs H1 L1 g1 r1 => ⟨by rw [r1.len]; exact lim_le hl, fun p hp => by
    have g2 := Go.new (o := .lst vs) g1.sub hp
    exact k _ _ _ (g1.tr g2) (.lst upd_same (r1.ex g2.lx) hl)⟩⟩
/-- a new dict, not locked: its own address, not known yet -/
def tF (K : PySem.W.Frag) (ρ : En) (t : List (Str × D)) : TE := fun σ H Q => ∃ L, Ex L H ∧ EnvR K L σ ρ ∧ ∀ a H' L' kvs, Go H L H' L' → H a = none → L' a = none → H' a = some (.dK kvs) → RepK K L' kvs t → t.length ≤ lim → Q (.ref a) H'
def tFz (t : TE) : TE := fun σ H Q => t σ H fun v H1 => ∃ d u, v = .ref d ∧ H1 d = some u ∧ Mut (some u) ∧ ∀ od, Q v (upd H1 d (.frz od u))
theorem pe_fz {t : TE} (h : PE X e t) : PE X e (tFz t) := by
  refine ⟨fun pins s σ H Q I hw => ?_⟩
  refine thn (h.run pins s σ H _ I hw) fun v s1 ⟨x, H1, I1, r, d, u, ex, hd, mu, q⟩ => ?_
  obtain ⟨od, I2⟩ := I1.lock hd mu
  exact ⟨x, _, I2, r, q od⟩
/-- .. locked for good: data -/
theorem j_fz {t : List (Str × D)} (h : PE X e (tF X.K ρ t)) : PE X e (tJ X.K ρ (.dct t)) := (pe_fz h).imp fun σ H Q ⟨L, e, env, k⟩ => ⟨L, e, env, fun a H' L' kvs g ha la h1 r z => ⟨a, .dK kvs, rfl, h1, trivial, fun od => k _ _ (upd L' a (.frz od (.dK kvs)))
  ⟨fun b o hb => by rw [upd_ne (ne_of_none hb ha)]; exact g.ex b o hb, fun b o hb => by rw [upd_ne (ne_of_none (g.lx b o hb) la)]; exact g.lx b o hb, sub_new g.sub, fun b hb => by rw [upd_ne (show b ≠ a from fun q => hb (q ▸ ha))]; exact g.old b hb⟩ (.dct ⟨od, upd_same⟩ (r.ex (ex_new la)) z)⟩⟩
theorem fr_dnil : PE X (.Dict [] [] pos) (tF X.K ρ []) :=
  pe_dnewK.imp fun σ H Q ⟨L, e, env, k⟩ p hp => k p _ L [] ⟨ex_new hp, Ex.rf, fun b o hb => by rw [upd_ne (ne_of_none (e b o hb) hp)]; exact e b o hb, fun _ _ => rfl⟩ hp (free_sub e hp) upd_same .nil (Nat.zero_le _)
theorem j_dnil : PE X (.Dict [] [] pos) (tJ X.K ρ (.dct [])) :=
  j_fz fr_dnil
/-! ### calls -/
/-- what a call makes of its arguments, by data -/
def CallD (K : PySem.W.Frag) (r : List V → Hp → VK → Prop) (ds : List D) (d : D) : Prop := ∀ (vs : List V) (H L : Hp) (Q : VK), Ex L H → RepL K L vs ds → (∀ u H' L', Go H L H' L' → Rep K L' u d → Q u H') → r vs H Q
/-- a built-in's call, by data -/
structure BF (X : Cx) (x : Str) (ds : List D) (d : D) : Prop where
  ex : ∃ r, ((∃ id, bootBuiltins x = some (.builtin id) ∧ CallR X (.builtin id) r) ∨ ∃ T, bootBuiltins x = some (.type T) ∧ CallR X (.type T) r) ∧ CallD X.K r ds d
theorem BF.to {x : Str} {d' : D} (h : BF X x ds d) (e : d = d') : BF X x ds d' := e ▸ h
theorem j_f {x : Str} {p : Pos} (h : BF X x ds d) (hm : X.mg x = none) (ha : PA X (e :: es) (tJA X.K ρ ds)) (hg : Gl X x := by rfl) (hn : x ≠ "__name__" := by decide) (hdb : (x == ("__debug__" : Str)) = false := by decide)
    (he : starEach (e :: es) X.env = (false, eval e X.env) :: starEach es X.env := by rfl) (hpl : (backTo pos (starEach es X.env)).any (·.1) = false := by rfl) : PE X (.Call (.Name x p) (e :: es) [] pos) (tJ X.K ρ d) := by
  obtain ⟨r, h1, hd⟩ := h.ex
  have imp : ∀ σ H Q, tJ X.K ρ d σ H Q → tCB r (tJA X.K ρ ds) σ H Q := fun σ H Q ⟨L, e, env, k⟩ => ⟨L, e, env, fun vs H1 L1 g1 r1 => hd vs H1 L1 Q g1.sub r1 fun u H2 L2 g2 r2 => k u H2 L2 (g1.tr g2) r2⟩
  rcases h1 with ⟨id, hv, hc⟩ | ⟨T, hv, hc⟩
  · exact (pe_callB hc hg hm hv ha hn hdb he hpl).imp imp
  · exact (pe_callTy hc hg hm hv ha hn hdb he hpl).imp imp
theorem cd1 {r : List V → Hp → VK → Prop} (h : ∀ v H L Q, Ex L H → Rep K L v x → (∀ u H' L', Go H L H' L' → Rep K L' u d → Q u H') → r [v] H Q) : CallD K r [x] d := fun vs H L Q e rl k => by
  obtain ⟨v, w, rfl, r1, r2⟩ := rl.cons_
  obtain rfl := r2.nil_
  exact h v H L Q e r1 k
theorem cd2 {r : List V → Hp → VK → Prop} (h : ∀ v w H L Q, Ex L H → Rep K L v x → Rep K L w y → (∀ u H' L', Go H L H' L' → Rep K L' u d → Q u H') → r [v, w] H Q) : CallD K r [x, y] d := fun vs H L Q e rl k => by
  obtain ⟨v, w, rfl, r1, r2⟩ := rl.cons_
  obtain ⟨v2, w2, rfl, r3, r4⟩ := r2.cons_
  obtain rfl := r4.nil_
  exact h v v2 H L Q e r1 r3 k
theorem bf_lenL : BF X "len" [.lst l] (.int l.length) := ⟨_, .inl ⟨_, boot_len, call_len⟩, cd1 fun v H L Q e r k => by
  obtain ⟨p, xs, rfl, hp, rl, _⟩ := r.lst_
  exact ⟨_, xs.length, rfl, .inl ⟨xs, SqL.of (e _ _ hp), rfl⟩, k _ H L (Go.rf e) (by rw [rl.len]; exact .int _)⟩⟩
theorem bf_lenT : BF X "len" [.tup l] (.int l.length) := ⟨_, .inl ⟨_, boot_len, call_len⟩, cd1 fun v H L Q e r k => by
  obtain ⟨p, xs, rfl, hp, rl, _⟩ := r.tup_
  exact ⟨_, xs.length, rfl, .inr ⟨xs, SqT.of (e _ _ hp), rfl⟩, k _ H L (Go.rf e) (by rw [rl.len]; exact .int _)⟩⟩
theorem bf_lenS {s : Str} (h : s.length ≤ lim) : BF X "len" [.str s] (.int s.length) := ⟨_, .inl ⟨_, boot_len, call_len⟩, cd1 fun v H L Q e r k => by
  rw [r.str_]
  exact ⟨_, s.length, rfl, ⟨lim_le h, rfl⟩, k _ H L (Go.rf e) (.int _)⟩⟩
theorem call_lenDR : CallR X (.builtin "len") (fun xs H Q => ∃ a kvs, xs = [V.ref a] ∧ Rd H a (.dK kvs) ∧ Q (.int kvs.length) H) := by
  intro pins s σ H xs us Q I r h
  obtain ⟨a, kvs, rfl, ha, q⟩ := h
  obtain ⟨u, rfl, ru⟩ := vals1 r
  cases ru
  exact d_len I ha fun t s' I' => ⟨.int kvs.length, H, I', ⟨t, rfl⟩, q⟩
theorem bf_lenD {t : List (Str × D)} : BF X "len" [.dct t] (.int t.length) := ⟨_, .inl ⟨_, boot_len, call_lenDR⟩, cd1 fun v H L Q e r k => by
  obtain ⟨p, kvs, rfl, hp, rl, _⟩ := r.dct_
  exact ⟨_, kvs, rfl, rd_up e hp, k _ H L (Go.rf e) (by rw [rl.len]; exact .int _)⟩⟩
theorem bf_intI {i : Int} : BF X "int" [.int i] (.int i) := ⟨_, .inr ⟨_, boot_int, call_int1⟩, cd1 fun v H L Q e r k => by
  rw [r.int_]; exact .inl ⟨i, rfl, k _ H L (Go.rf e) (.int _)⟩⟩
theorem bf_intB {q : Bool} : BF X "int" [.bl q] (.int (if q then 1 else 0)) := ⟨_, .inr ⟨_, boot_int, call_int1⟩, cd1 fun v H L Q e r k => by
  rw [r.bl_]; exact .inr ⟨q, rfl, k _ H L (Go.rf e) (.int _)⟩⟩
theorem bf_max2 {i j : Int} (hc : X.calm = true) : BF X "max" [.int i, .int j] (.int (max i j)) := ⟨_, .inl ⟨_, boot_max, call_max2 hc⟩, cd2 fun v w H L Q e r r2 k => by
  rw [r.int_, r2.int_]
  refine ⟨i, j, rfl, k _ H L (Go.rf e) ?_⟩
  have : (if j > i then j else i) = max i j := by split <;> omega
  rw [this]
  exact .int _⟩
theorem bf_min2 {i j : Int} (hc : X.calm = true) : BF X "min" [.int i, .int j] (.int (min i j)) := ⟨_, .inl ⟨_, boot_min, call_min2 hc⟩, cd2 fun v w H L Q e r r2 k => by
  rw [r.int_, r2.int_]
  refine ⟨i, j, rfl, k _ H L (Go.rf e) ?_⟩
  have : (if j < i then j else i) = min i j := by split <;> omega
  rw [this]
  exact .int _⟩
theorem bf_sum {ns : List Int} (hc : X.calm = true) : BF X "sum" [.lst (ns.map D.int)] (.int ns.sum) := ⟨_, .inl ⟨_, boot_sum, cr_sum hc⟩, cd1 fun v H L Q e r k => by
  obtain ⟨p, xs, rfl, hp, rl, _⟩ := r.lst_
  rw [rl.ints] at hp
  exact ⟨p, ns, rfl, SqL.of (e _ _ hp), k _ H L (Go.rf e) (.int _)⟩⟩
theorem bf_all {bs : List Bool} (hc : X.calm = true) : BF X "all" [.lst (bs.map D.bl)] (.bl (bs.all id)) := ⟨_, .inl ⟨_, boot_all, cr_all hc⟩, cd1 fun v H L Q e r k => by
  obtain ⟨p, xs, rfl, hp, rl, _⟩ := r.lst_
  rw [rl.bls] at hp
  exact ⟨p, bs, rfl, SqL.of (e _ _ hp), k _ H L (Go.rf e) (.bl _)⟩⟩
theorem bf_listL : BF X "list" [.lst l] (.lst l) := ⟨_, .inr ⟨_, boot_list, call_list_of⟩, cd1 fun v H L Q e r k => by
  obtain ⟨p, xs, rfl, hp, rl, z⟩ := r.lst_
  refine ⟨p, xs, rfl, .inl (SqL.of (e _ _ hp)), fun q hq => ?_⟩
  have g := Go.new (o := .lst xs) e hq
  exact k _ _ _ g (.lst upd_same (rl.ex g.lx) z)⟩
theorem bf_listT : BF X "list" [.tup l] (.lst l) := ⟨_, .inr ⟨_, boot_list, call_list_of⟩, cd1 fun v H L Q e r k => by
  obtain ⟨p, xs, rfl, hp, rl, z⟩ := r.tup_
  refine ⟨p, xs, rfl, .inr (SqT.of (e _ _ hp)), fun q hq => ?_⟩
  have g := Go.new (o := .lst xs) e hq
  exact k _ _ _ g (.lst upd_same (rl.ex g.lx) z)⟩
theorem bf_tupL : BF X "tuple" [.lst l] (.tup l) := ⟨_, .inr ⟨_, boot_tuple, call_tuple_of⟩, cd1 fun v H L Q e r k => by
  obtain ⟨p, xs, rfl, hp, rl, z⟩ := r.lst_
  refine ⟨p, xs, rfl, .inl ⟨SqL.of (e _ _ hp), fun q hq => ?_⟩⟩
  have g := Go.new (o := .tup xs) e hq
  exact k _ _ _ g (.tup upd_same (rl.ex g.lx) z)⟩
theorem repK_keys {kvs : List (Key × V)} {t : List (Str × D)} : RepK K L kvs t → kvs.map (·.1) = (t.map (·.1)).map Sum.inr := fun h => by
  induction t generalizing kvs with
  | nil => cases h; rfl
  | cons p r ih => cases h with | cons h1 h2 => rw [List.map_cons, ih h2]; rfl
theorem repK_keysV {kvs : List (Key × V)} {t : List (Str × D)} (h : RepK K L kvs t) : kvs.map (fun kv => kV kv.1) = (t.map (·.1)).map V.str := by
  induction t generalizing kvs with
  | nil => cases h; rfl
  | cons p r ih => cases h with | cons h1 h2 => rw [List.map_cons, ih h2]; rfl
theorem bf_listD {t : List (Str × D)} (hc : X.calm = true) : BF X "list" [.dct t] (.lst ((t.map (·.1)).map D.str)) := ⟨_, .inr ⟨_, boot_list, call_listD hc⟩, cd1 fun v H L Q e r k => by
  obtain ⟨p, kvs, rfl, hp, rl, z⟩ := r.dct_
  refine ⟨p, kvs, rfl, rd_up e hp, fun q hq => ?_⟩
  rw [repK_keysV rl]
  exact k _ _ _ (Go.new e hq) (.lst upd_same (.ofStrs _) (by rw [List.length_map, List.length_map]; exact z))⟩
/-- dict(d), d a dict -/
theorem fr_dictD {t : List (Str × D)} {p : Pos} (ha : PE X e (tJ X.K ρ (.dct t))) (hm : X.mg "dict" = none) (hg : Gl X "dict" := by rfl) (he : starEach [e] X.env = (false, eval e X.env) :: starEach [] X.env := by rfl) (hpl : (backTo pos (starEach [] X.env)).any (·.1) = false := by rfl) :
    PE X (.Call (.Name "dict" p) [e] [] pos) (tF X.K ρ t) :=
  (pe_callTy call_dictD hg hm boot_dict (ja_cons ha ja_nil he) (by decide) (by decide) he hpl).imp fun σ H Q ⟨L, e, env, k⟩ => ⟨L, e, env, fun vs H1 L1 g1 r1 => by
    obtain ⟨v, vs2, rfl, r2, r3⟩ := r1.cons_
    obtain rfl := r3.nil_
    obtain ⟨p, kvs, rfl, hp, rl, z⟩ := r2.dct_
    refine ⟨p, kvs, rfl, rd_up g1.sub hp, fun q hq => ?_⟩
    have hq0 : H q = none := by
      cases hh : H q with
      | none => rfl
      | some o => rw [g1.ex q o hh] at hq; cases hq
    exact k q _ L1 kvs ⟨g1.ex.tr (ex_new hq), g1.lx, g1.sub.tr (ex_new hq), g1.old⟩ hq0 (free_sub g1.sub hq) upd_same rl z⟩
end
/-! ### sorted texts -/
def ltS (x y : Str) : Prop := x.cps.toList < y.cps.toList
instance : DecidableRel ltS := fun x y => inferInstanceAs (Decidable (x.cps.toList < y.cps.toList))
def leS (x y : Str) : Prop := ¬ ltS y x
instance : DecidableRel leS := fun x y => inferInstanceAs (Decidable (¬ ltS y x))
theorem ltCps_iff : ∀ a b : List Nat, ltCps a b = true ↔ a < b
  | [], [] => by simp [ltCps]
  | [], _ :: _ => by simp [ltCps]
  | _ :: _, [] => by simp [ltCps]
  | x :: a, y :: b => by
    unfold ltCps
    rw [List.cons_lt_cons_iff, ← ltCps_iff a b]
    simp
theorem leS_antisymm {x y : Str} (h : leS x y) (h2 : leS y x) : x = y := by
  obtain ⟨⟨a⟩⟩ := x
  obtain ⟨⟨b⟩⟩ := y
  have : a = b := List.le_antisymm (show ¬ b < a from h) (show ¬ a < b from h2)
  rw [this]
theorem leS_total (x y : Str) : leS x y ∨ leS y x := by
  by_cases h : ltS y x
  · exact .inr fun q => List.lt_asymm h q
  · exact .inl h
theorem leS_trans {x y z : Str} (h : leS x y) (h2 : leS y z) : leS x z := fun q => by
  by_cases e : ltS x y
  · exact h2 (List.lt_trans q e)
  · have := leS_antisymm h e
    subst this
    exact h2 q
def insS (x : Str) : List Str → List Str
  | [] => [x]
  | y :: r => if leS x y then x :: y :: r else y :: insS x r
/-- the texts ascending -/
def srt : List Str → List Str
  | [] => []
  | x :: r => insS x (srt r)
theorem insS_perm (x : Str) : ∀ l, (insS x l).Perm (x :: l)
  | [] => .refl _
  | y :: r => by
    unfold insS
    split
    · exact .refl _
    · exact ((insS_perm x r).cons y).trans (List.Perm.swap x y r)
theorem srt_perm : ∀ l, (srt l).Perm l
  | [] => .refl _
  | x :: r => (insS_perm x (srt r)).trans ((srt_perm r).cons x)
theorem insS_sorted (x : Str) : ∀ l, l.Pairwise leS → (insS x l).Pairwise leS
  | [], _ => List.pairwise_singleton _ _
  | y :: r, h => by
    obtain ⟨h1, h2⟩ := List.pairwise_cons.mp h
    unfold insS
    split
    · next q => exact List.pairwise_cons.mpr ⟨fun z hz => by
        rcases List.mem_cons.mp hz with e | e
        · exact e ▸ q
        · exact leS_trans q (h1 z e), h⟩
    · next q =>
      refine List.pairwise_cons.mpr ⟨fun z hz => ?_, insS_sorted x r h2⟩
      rcases List.mem_cons.mp ((insS_perm x r).mem_iff.mp hz) with e | e
      · exact e ▸ (leS_total x y).resolve_left q
      · exact h1 z e
theorem srt_sorted : ∀ l, (srt l).Pairwise leS
  | [] => .nil
  | x :: r => insS_sorted x _ (srt_sorted r)
theorem risingS_pair : ∀ (l : List Str) (p : Str), risingS p l = true → (p :: l).Pairwise leS
  | [], p, _ => List.pairwise_singleton _ _
  | x :: r, p, h => by
    unfold risingS at h
    obtain ⟨h1, h2⟩ := Bool.and_eq_true_iff.mp h
    have ih := risingS_pair r x h2
    have px : leS p x := fun q => by rw [(ltCps_iff _ _).mpr q] at h1; cases h1
    refine List.pairwise_cons.mpr ⟨fun z hz => ?_, ih⟩
    rcases List.mem_cons.mp hz with e | e
    · exact e ▸ px
    · exact leS_trans px ((List.pairwise_cons.mp ih).1 z e)
theorem sortedS_pair : ∀ {l : List Str}, sortedS l = true → l.Pairwise leS
  | [], _ => .nil
  | x :: r, h => risingS_pair r x h
theorem srt_uniq {l m : List Str} (h : m.Perm l) (s : m.Pairwise leS) : m = srt l := List.Perm.eq_of_pairwise (fun _ _ _ _ a b => leS_antisymm a b) s (srt_sorted l) (h.trans (srt_perm l).symm)
theorem srt_of_perm {l m : List Str} (h : l.Perm m) : srt l = srt m := srt_uniq ((srt_perm l).trans h) (srt_sorted l)
theorem srt_id {l : List Str} (s : l.Pairwise leS) : srt l = l := (srt_uniq (.refl _) s).symm
theorem srt_mem {l : List Str} {x : Str} : x ∈ srt l ↔ x ∈ l := (srt_perm l).mem_iff
theorem srt_len (l : List Str) : (srt l).length = l.length := (srt_perm l).length_eq
section
variable {X : Cx}
theorem bf_sortL {l : List Str} (h : l.length < 64) : BF X "sorted" [.lst (l.map D.str)] (.lst ((srt l).map D.str)) := ⟨_, .inl ⟨_, boot_sorted, cr_sortedS⟩, cd1 fun v H L Q e r k => by
  obtain ⟨p, xs, rfl, hp, rl, z⟩ := r.lst_
  rw [rl.strs] at hp
  refine ⟨p, l, rfl, SqL.of (e _ _ hp), h, fun ys q pm so hq => ?_⟩
  obtain rfl := srt_uniq pm (sortedS_pair so)
  exact k _ _ _ (Go.new e hq) (.lst upd_same (.ofStrs _) (by rw [List.length_map, srt_len]; exact Nat.le_trans (Nat.le_of_lt h) (by decide)))⟩
theorem bf_sortD {t : List (Str × D)} (hc : X.calm = true) (h : t.length < 64) : BF X "sorted" [.dct t] (.lst ((srt (t.map (·.1))).map D.str)) := ⟨_, .inl ⟨_, boot_sorted, call_sortedD hc⟩, cd1 fun v H L Q e r k => by
  obtain ⟨p, kvs, rfl, hp, rl, z⟩ := r.dct_
  refine ⟨p, kvs, t.map (·.1), rfl, rd_up e hp, repK_keys rl, by rw [List.length_map]; exact h, fun ys q pm so hq => ?_⟩
  obtain rfl := srt_uniq pm (sortedS_pair so)
  exact k _ _ _ (Go.new e hq) (.lst upd_same (.ofStrs _) (by rw [List.length_map, srt_len, List.length_map]; exact Nat.le_trans (Nat.le_of_lt h) (by decide)))⟩
end
end K51
end
section
set_option Elab.async false
set_option linter.all false
set_option maxRecDepth 100000
/-! Rules by data: isinstance, defs and methods, attributes, comprehensions, statements, a def's body. -/
namespace K51
open PySem PySem.Spec PyProof.Rows L2
section
variable {X : Cx} {ρ ρ' : En} {d x y z : D} {e a b : Expr} {es : List Expr} {pos p : Pos} {c : Bool} {n k : Nat} {l ds : List D} {K : PySem.W.Frag} {H L : Hp} {o : Out}
/-! ### isinstance -/
def tyD : D → Option String
  | .non => some "NoneType"
  | .bl _ => some "bool"
  | .int _ => some "int"
  | .str _ => some "str"
  | .lst _ => some "list"
  | .tup _ => some "tuple"
  | .dct _ => some "dict"
  | .obj _ _ => none
  | .own _ => none
theorem tyX_of {v : V} {t : String} (e : Ex L H) (r : Rep K L v d) (h : tyD d = some t) : TyX K H v (.type t) := by
  cases r with
  | non => cases h; exact .base .non
  | bl b => cases h; exact .base (.bl b)
  | int i => cases h; exact .base (.int i)
  | str s => cases h; exact .base (.str s)
  | lst ha _ _ => cases h; exact .base (.lst (e _ _ ha))
  | tup ha _ _ => cases h; exact .base (.tup (e _ _ ha))
  | dct ha _ _ =>
    cases h
    exact .fDict (e _ _ ha.choose_spec)
  | own a => cases h
  | obj _ _ => cases h
/-- isinstance(e, T), T a built-in class -/
theorem j_isi {T : Str} {Tn t : String} {q : Pos} (ha : PE X e (tJ X.K ρ d)) (ht : tyD d = some t) (hk : kitB t Tn = some c) (hv : bootBuiltins T = some (.type Tn)) (hm : X.mg "isinstance" = none) (hmT : X.mg T = none) (hg : Gl X "isinstance" := by rfl) (hgT : Gl X T := by rfl)
    (hn : T ≠ "__name__" := by decide) (hd : (T == ("__debug__" : Str)) = false := by decide)
    (he : starEach [e, .Name T q] X.env = (false, eval e X.env) :: starEach [.Name T q] X.env := by rfl) (he2 : starEach [.Name T q] X.env = (false, eval (.Name T q) X.env) :: starEach [] X.env := by rfl) (hpl : (backTo pos (starEach [.Name T q] X.env)).any (·.1) = false := by rfl) :
    PE X (.Call (.Name "isinstance" p) [e, .Name T q] [] pos) (tJ X.K ρ (.bl c)) :=
  (pe_callB call_isi hg hm boot_isinstance (pa_cons ha (pa_cons (pe_bltn (v := .ty Tn) hgT hmT hv rfl hn hd) pa_nil he2) he) (by decide) (by decide) he hpl).imp fun σ H Q ⟨L, e, env, k⟩ => ⟨L, e, env, fun v H1 L1 g1 r1 =>
    ⟨v, .ty Tn, .type t, .type Tn, c, rfl, .ty Tn, tyX_of g1.sub r1 ht, kit_ty hk, k _ H1 L1 g1 (.bl c)⟩⟩
/-- what isinstance asks of an own class -/
structure IsiC (K : PySem.W.Frag) (C : Str) : Prop where
  cl : Cls K (He.ga K C)
  ha : PySem.W.findIn K (.ref (He.ga K C)) "__class__" = some (some (.builtin "object.__class__"))
  hn : PySem.W.specialIn K (.builtin "object.__class__") "__get__" = some (some (.builtin "getset_descriptor.__get__"))
  ht : PySem.W.takesIn K (.builtin "object.__class__") = some true
  hm : PySem.W.mroIn K (He.ga K C) (.type "object") = some true
theorem j_isiC {C : Str} {t : List (Str × D)} {q : Pos} (ha : PE X e (tJ X.K ρ (.obj C t))) (ic : IsiC X.K C) (hm : X.mg "isinstance" = none) (hmC : X.mg C = some (.ref (He.ga X.K C))) (hg : Gl X "isinstance" := by rfl) (hgC : Gl X C := by rfl) (hd : (C == ("__debug__" : Str)) = false := by decide)
    (he : starEach [e, .Name C q] X.env = (false, eval e X.env) :: starEach [.Name C q] X.env := by rfl) (he2 : starEach [.Name C q] X.env = (false, eval (.Name C q) X.env) :: starEach [] X.env := by rfl) (hpl : (backTo pos (starEach [.Name C q] X.env)).any (·.1) = false := by rfl) :
    PE X (.Call (.Name "isinstance" p) [e, .Name C q] [] pos) (tJ X.K ρ (.bl true)) :=
  (pe_callB call_isi hg hm boot_isinstance (pa_cons ha (pa_cons (pe_glob (v := .ref (He.ga X.K C)) hgC hmC rfl hd) pa_nil he2) he) (by decide) (by decide) he hpl).imp fun σ H Q ⟨L, e, env, k⟩ => ⟨L, e, env, fun v H1 L1 g1 r1 => by
    obtain ⟨p, dx, fs, rfl, hp, _⟩ := r1.obj_
    refine ⟨.ref p, .ref (He.ga X.K C), .ref (He.ga X.K C), .ref (He.ga X.K C), true, rfl, .own _, .base (.ins (g1.sub _ _ hp) ic.cl ic.ha ic.hn ic.ht ic.hm), ?_, k _ H1 L1 g1 (.bl true)⟩
    unfold PySem.W.kitOne
    rw [if_pos (by simp)]⟩
/-! ### attributes -/
theorem repF_get {f : Str} : ∀ {fs : List (Str × V)} {t : List (Str × D)} {d : D}, RepF K L fs t → t.lookup f = some d → ∃ v, fs.lookup f = some v ∧ Rep K L v d
  | _, _, _, .nil, h => by cases h
  | _, _, _, .cons (x := x) h1 h2, h => by
    rw [List.lookup_cons] at h ⊢
    by_cases q : f = x
    · subst q
      simp only [beq_self_eq_true] at h ⊢
      cases h
      exact ⟨_, rfl, h1⟩
    · rw [beq_eq_false_iff_ne.mpr q] at h ⊢
      exact repF_get h2 h
/-- e.f, a field -/
theorem j_fld {C f : Str} {t : List (Str × D)} (ha : PE X e (tJ X.K ρ (.obj C t))) (cl : Cls X.K (He.ga X.K C)) (na : NoAttr X.K (He.ga X.K C) f) (h : t.lookup f = some d) (hb : attributeBase e f X.env (eval e X.env) = eval e X.env := by rfl) : PE X (.Attribute e f pos) (tJ X.K ρ d) :=
  (pe_fld ha hb).imp fun σ H Q ⟨L, e, env, k⟩ => ⟨L, e, env, fun v H1 L1 g1 r1 => by
    obtain ⟨p, dx, fs, rfl, hp, rf⟩ := r1.obj_
    obtain ⟨u, hu, ru⟩ := repF_get rf h
    exact ⟨p, _, dx, fs, u, rfl, g1.sub _ _ hp, cl, na, hu, k u H1 L1 g1 ru⟩⟩
/-! ### defs -/
/-- a def's promise by data: R ds d: handed ds, it hands back d -/
def spD (K : PySem.W.Frag) (R : List D → D → Prop) : Sp := fun vs H Q _ => ∃ L ds d, Ex L H ∧ RepL K L vs ds ∧ R ds d ∧ ∀ v H' L', Go H L H' L' → Rep K L' v d → Q v H'
/-- the def at f keeps its promise, by at most level k -/
structure Ok0 (P : Program) (w : World) (K : PySem.W.Frag) (mg : Str → Option Value) (base : Heap) (k : Nat) (f : Addr) (ps : List Str) (sp : Sp) : Prop where
  ex : ∃ fd, FnOk P w K mg base CX0 k f fd ps sp ∧ Binds K fd ps []
  kp : PySem.W.keepIn K (.ref f) = true
/-- .. of the module's name x -/
structure OkG (P : Program) (w : World) (K : PySem.W.Frag) (mg : Str → Option Value) (base : Heap) (k : Nat) (x : Str) (ps : List Str) (sp : Sp) : Prop where
  ex : ∃ f, mg x = some (.ref f) ∧ Ok0 P w K mg base k f ps sp
theorem j_call {f : Str} {ps : List Str} {R : List D → D → Prop} (G : OkG X.prog X.w X.K X.mg X.base k f ps (spD X.K R)) (hr : Room n X.A) (ha : PA X (e :: es) (tJA X.K ρ ds)) (h : R ds d) (hk : k ≤ n := by decide) (hg : Gl X f := by rfl)
    (hdb : (f == ("__debug__" : Str)) = false := by decide) (he : starEach (e :: es) X.env = (false, eval e X.env) :: starEach es X.env := by rfl) (hpl : (backTo pos (starEach es X.env)).any (·.1) = false := by rfl) :
    PE X (.Call (.Name f p) (e :: es) [] pos) (tJ X.K ρ d) := by
  obtain ⟨fa, hm, ⟨fd, F, B⟩, kp⟩ := G.ex
  exact (pe_call F (hr.mono hk) hg hm kp B .nil pass0 ha hdb he hpl).imp fun σ H Q ⟨L, e, env, k⟩ => ⟨L, e, env, fun vs H1 L1 g1 r1 => ⟨L1, ds, d, g1.sub, by rw [List.append_nil]; exact r1, h, fun v H2 L2 g2 r2 => k v H2 L2 (g1.tr g2) r2⟩⟩
/-- the method m of the class C -/
structure OkM (P : Program) (w : World) (K : PySem.W.Frag) (mg : Str → Option Value) (base : Heap) (k : Nat) (C m : Str) (ps : List Str) (sp : Sp) : Prop where
  ex : ∃ f, Meth K (He.ga K C) m f ∧ ∃ fd, FnOk P w K mg base CX0 k f fd ps sp ∧ Binds K fd ps []
theorem repF_none {f : Str} : ∀ {fs : List (Str × V)} {t : List (Str × D)}, RepF K L fs t → t.lookup f = none → fs.lookup f = none
  | _, _, .nil, h => rfl
  | _, _, .cons (x := x) h1 h2, h => by
    rw [List.lookup_cons] at h ⊢
    by_cases q : f = x
    · subst q
      simp only [beq_self_eq_true] at h
      cases h
    · rw [beq_eq_false_iff_ne.mpr q] at h ⊢
      exact repF_none h2 h
theorem j_meth {C m : Str} {t : List (Str × D)} {ps : List Str} {R : List D → D → Prop} {apos : Pos} (G : OkM X.prog X.w X.K X.mg X.base k C m ps (spD X.K R)) (hr : Room n X.A) (cl : Cls X.K (He.ga X.K C)) (ho : PE X a (tJ X.K ρ (.obj C t))) (hno : t.lookup m = none) (ha : PA X (e :: es) (tJA X.K ρ ds)) (h : R (.obj C t :: ds) d) (hk : k ≤ n := by decide)
    {pl : Sem Bool} (hst : starEach (e :: es) X.env = (false, eval e X.env) :: starEach es X.env := by rfl) (hpl : (backTo pos (starEach es X.env)).any (·.1) = false := by rfl)
    (ht : eval (.Call (.Attribute a m apos) (e :: es) [] pos) X.env = (do
      let ov ← eval a X.env
      standAt apos.atName
      let (f, first) ← holding [ov] (getMethod ov m pl)
      callWith pos f first (backTo pos (starEach (e :: es) X.env)) (backToKw pos (keywordEach [] X.env))) := by rfl) :
    PE X (.Call (.Attribute a m apos) (e :: es) [] pos) (tJ X.K ρ d) := by
  obtain ⟨f, M, fd, F, B⟩ := G.ex
  exact (pe_meth ho cl M F (hr.mono hk) B .nil pass0 ha hst hpl ht).imp fun σ H Q ⟨L, e, env, k⟩ => ⟨L, e, env, fun v H1 L1 g1 r1 => by
    have r1' := r1
    obtain ⟨q, dx, fs, rfl, hq, rf⟩ := r1.obj_
    exact ⟨q, dx, fs, rfl, g1.sub _ _ hq, repF_none rf hno, L1, g1.sub, env.ex g1.lx, fun vs H2 L2 g2 r2 => ⟨L2, _, d, g2.sub, .cons (r1'.ex g2.lx) (by rw [List.append_nil]; exact r2), h, fun v H3 L3 g3 r3 => k v H3 L3 ((g1.tr g2).tr g3) r3⟩⟩⟩
theorem j_meth0 {C m : Str} {t : List (Str × D)} {ps : List Str} {R : List D → D → Prop} {apos : Pos} (G : OkM X.prog X.w X.K X.mg X.base k C m ps (spD X.K R)) (hr : Room n X.A) (cl : Cls X.K (He.ga X.K C)) (ho : PE X a (tJ X.K ρ (.obj C t))) (hno : t.lookup m = none) (h : R [.obj C t] d) (hk : k ≤ n := by decide)
    {pl : Sem Bool}
    (ht : eval (.Call (.Attribute a m apos) [] [] pos) X.env = (do
      let ov ← eval a X.env
      standAt apos.atName
      let (f, first) ← holding [ov] (getMethod ov m pl)
      callWith pos f first (backTo pos (starEach [] X.env)) (backToKw pos (keywordEach [] X.env))) := by rfl) :
    PE X (.Call (.Attribute a m apos) [] [] pos) (tJ X.K ρ d) := by
  obtain ⟨f, M, fd, F, B⟩ := G.ex
  exact (pe_meth0 ho cl M F (hr.mono hk) B .nil pass0 ht).imp fun σ H Q ⟨L, e, env, k⟩ => ⟨L, e, env, fun v H1 L1 g1 r1 => by
    have r1' := r1
    obtain ⟨q, dx, fs, rfl, hq, rf⟩ := r1.obj_
    exact ⟨q, dx, fs, rfl, g1.sub _ _ hq, repF_none rf hno, L1, _, d, g1.sub, .cons r1' .nil, h, fun v H3 L3 g3 r3 => k v H3 L3 (g1.tr g3) r3⟩⟩
/-! ### statements -/
variable {st : Stmt} {rest body els : List Stmt}
theorem _root_.L2.PSs.never : PSs X rest (fun _ _ _ => False) := ⟨fun _ _ _ _ _ _ h => h.elim⟩
theorem s_nil : PSs X [] (tS X.K ρ (.nxt ρ)) := pss_nil.imp fun E σ H ⟨L, e, env, k⟩ => k σ H L (Go.rf e) env
theorem s_one (h : PS X st (tS X.K ρ o)) : PSs X [st] (tS X.K ρ o) := pss_one h
/-- a statement, then the rest -/
theorem s_cons {ρ1 : En} (h : PS X st (tS X.K ρ (.nxt ρ1))) (h2 : PSs X rest (tS X.K ρ1 o)) : PSs X (st :: rest) (tS X.K ρ o) := (pss_cons h h2).imp fun E σ H ⟨L, e, env, k⟩ => ⟨L, e, env, fun σ1 H1 L1 g1 env1 => ⟨L1, g1.sub, env1, OutK.go _ g1 k⟩⟩
/-- a statement that leaves -/
theorem s_last (h : PS X st (tS X.K ρ (.ret d))) : PSs X (st :: rest) (tS X.K ρ (.ret d)) := (pss_cons h PSs.never).imp fun E σ H q => q
theorem s_ret (h : PE X e (tJ X.K ρ d)) : PS X (.Return (some e) pos) (tS X.K ρ (.ret d)) := (ps_ret h).imp fun E σ H ⟨L, e, env, k⟩ => ⟨L, e, env, k⟩
theorem s_expr (h : PE X e (tJ X.K ρ d)) (hs : swapsWith e none pos.line X.env = pure false := by rfl) : PS X (.Expr e pos) (tS X.K ρ (.nxt ρ)) := (ps_expr h hs).imp fun E σ H ⟨L, e, env, k⟩ => ⟨L, e, env, fun v H1 L1 g1 _ => k σ H1 L1 g1 (env.ex g1.lx)⟩
theorem s_set (i : Nat) {x : Str} {pos' : Pos} (hN : X.N.Nodup) (h : PE X e (tJ X.K ρ d)) (hi : X.N[i]? = some x := by rfl) (hx : Loc X.env.scope x := by first | exact .inl rfl | exact .inr rfl) (hs : swapsWith e (some (.Name x pos')) pos.line X.env = pure false := by rfl) (hf : X.fn x = true ∨ X.env.scope.names.lookup x = some .local := by first | exact .inl rfl | exact .inr rfl | assumption) :
    PS X (.Assign [.Name x pos'] e pos) (tS X.K ρ (.nxt (ρ.set i (some d)))) := (ps_set hN hi hx h hs hf).imp fun E σ H ⟨L, e, env, k⟩ => ⟨L, e, env, fun v H1 L1 g1 r => k _ H1 L1 g1 ((env.ex g1.lx).set r)⟩
/-- a, b = x, y -/
theorem s_par (i j : Nat) {x y : Str} {px py pt : Pos} {kt k2 pt2} {d1 d2 : D} (hN : X.N.Nodup) (h1 : PE X a (tJ X.K ρ d1)) (h2 : PE X b (tJ X.K ρ d2)) (hc : X.calm = true := by rfl) (hi : X.N[i]? = some x := by rfl) (hj : X.N[j]? = some y := by rfl) (hij : i ≠ j := by decide) (hx : X.env.scope.names.lookup x = some .local := by rfl) (hy : X.env.scope.names.lookup y = some .local := by rfl)
    (hw : swappedStores [.Tuple [.Name x px, .Name y py] kt pt] (.Tuple [a, b] k2 pt2) X.env = pure (some [x, y]) := by rfl)
    (hs : swapsWithSole [.Tuple [.Name x px, .Name y py] kt pt] (.Tuple [a, b] k2 pt2) pos.line X.env = pure false := by rfl)
    (he : starEach [a, b] X.env = (false, eval a X.env) :: starEach [b] X.env := by rfl) (he2 : starEach [b] X.env = (false, eval b X.env) :: starEach [] X.env := by rfl) :
    PS X (.Assign [.Tuple [.Name x px, .Name y py] kt pt] (.Tuple [a, b] k2 pt2) pos) (tS X.K ρ (.nxt ((ρ.set i (some d1)).set j (some d2)))) :=
  (ps_par hc hN hi hj hij hx hy (ja_cons h1 (ja_cons h2 ja_nil he2) he) hw hs).imp fun E σ H ⟨L, e, env, k⟩ => ⟨L, e, env, fun vs H1 L1 g1 r => by
    obtain ⟨v, vs2, rfl, r1, r2⟩ := r.cons_
    obtain ⟨w, vs3, rfl, r3, r4⟩ := r2.cons_
    obtain rfl := r4.nil_
    exact ⟨v, w, rfl, k _ H1 L1 g1 (((env.ex g1.lx).set r1).set r3)⟩⟩
/-- a, b, c = x, y, z -/
theorem s_par3 (i j m : Nat) {c0 : Expr} {x y z : Str} {px py pz pt : Pos} {kt k2 pt2} {d1 d2 d3 : D} (hN : X.N.Nodup) (h1 : PE X a (tJ X.K ρ d1)) (h2 : PE X b (tJ X.K ρ d2)) (h3 : PE X c0 (tJ X.K ρ d3)) (hc : X.calm = true := by rfl) (hi : X.N[i]? = some x := by rfl) (hj : X.N[j]? = some y := by rfl) (hm : X.N[m]? = some z := by rfl) (hij : i ≠ j := by decide) (him : i ≠ m := by decide) (hjm : j ≠ m := by decide)
    (hx : X.env.scope.names.lookup x = some .local := by rfl) (hy : X.env.scope.names.lookup y = some .local := by rfl) (hz : X.env.scope.names.lookup z = some .local := by rfl)
    (hw : swappedStores [.Tuple [.Name x px, .Name y py, .Name z pz] kt pt] (.Tuple [a, b, c0] k2 pt2) X.env = pure (some [x, y, z]) := by rfl)
    (hs : swapsWithSole [.Tuple [.Name x px, .Name y py, .Name z pz] kt pt] (.Tuple [a, b, c0] k2 pt2) pos.line X.env = pure false := by rfl)
    (he : starEach [a, b, c0] X.env = (false, eval a X.env) :: starEach [b, c0] X.env := by rfl) (he2 : starEach [b, c0] X.env = (false, eval b X.env) :: starEach [c0] X.env := by rfl) (he3 : starEach [c0] X.env = (false, eval c0 X.env) :: starEach [] X.env := by rfl) :
    PS X (.Assign [.Tuple [.Name x px, .Name y py, .Name z pz] kt pt] (.Tuple [a, b, c0] k2 pt2) pos) (tS X.K ρ (.nxt (((ρ.set i (some d1)).set j (some d2)).set m (some d3)))) :=
  (ps_par3 hc hN hi hj hm hij him hjm hx hy hz (ja_cons h1 (ja_cons h2 (ja_cons h3 ja_nil he3) he2) he) hw hs).imp fun E σ H ⟨L, e, env, k⟩ => ⟨L, e, env, fun vs H1 L1 g1 r => by
    obtain ⟨v, vs2, rfl, r1, r2⟩ := r.cons_
    obtain ⟨w, vs3, rfl, r3, r4⟩ := r2.cons_
    obtain ⟨u, vs4, rfl, r5, r6⟩ := r4.cons_
    obtain rfl := r6.nil_
    exact ⟨v, w, u, rfl, k _ H1 L1 g1 ((((env.ex g1.lx).set r1).set r3).set r5)⟩⟩
/-- a, b = e, e a tuple of two -/
theorem s_un2 (i j : Nat) {x y : Str} {px py pt : Pos} {kt : Nat} {d1 d2 : D} (hN : X.N.Nodup) (h : PE X e (tJ X.K ρ (.tup [d1, d2]))) (hc : X.calm = true := by rfl) (hi : X.N[i]? = some x := by rfl) (hj : X.N[j]? = some y := by rfl) (hx : Loc X.env.scope x := by first | exact .inl rfl | exact .inr rfl) (hy : Loc X.env.scope y := by first | exact .inl rfl | exact .inr rfl)
    (hf : X.fn x = true ∨ X.env.scope.names.lookup x = some .local := by first | exact .inl rfl | exact .inr rfl) (hf2 : X.fn y = true ∨ X.env.scope.names.lookup y = some .local := by first | exact .inl rfl | exact .inr rfl)
    (hn : (assignEach [.Name x px, .Name y py] X.env).length = 2 := by rfl) (hst : (assignEach [.Name x px, .Name y py] X.env).findIdx? (·.1) = none := by rfl)
    (h2 : (assignEach [.Name x px, .Name y py] X.env).map (·.2) = assign (.Name x px) X.env :: (assignEach [.Name y py] X.env).map (·.2) := by rfl) (h3 : (assignEach [.Name y py] X.env).map (·.2) = assign (.Name y py) X.env :: (assignEach [] X.env).map (·.2) := by rfl)
    (hs : swapsWithSole [.Tuple [.Name x px, .Name y py] kt pt] e pos.line X.env = pure false := by rfl) (hw : swappedStores [.Tuple [.Name x px, .Name y py] kt pt] e X.env = pure none := by rfl)
    (h1 : (assignEach [.Tuple [.Name x px, .Name y py] kt pt] X.env).map (·.2) = [assign (.Tuple [.Name x px, .Name y py] kt pt) X.env] := by rfl) :
    PS X (.Assign [.Tuple [.Name x px, .Name y py] kt pt] e pos) (tS X.K ρ (.nxt ((ρ.set i (some d1)).set j (some d2)))) :=
  (ps_asg h (pg_tup hc (pgs_cons (pg_name hN hi hx hf) (pgs_cons (pg_name hN hj hy hf2) pgs_nil h3) h2) hn hst) hs hw h1).imp fun E σ H ⟨L, e, env, k⟩ => ⟨L, e, env, fun v H1 L1 g1 r => by
    obtain ⟨q, xs, rfl, hq, rl, _⟩ := r.tup_
    obtain ⟨v, vs2, rfl, r1, r2⟩ := rl.cons_
    obtain ⟨w, vs3, rfl, r3, r4⟩ := r2.cons_
    obtain rfl := r4.nil_
    exact ⟨q, _, rfl, SqT.of (g1.sub _ _ hq), rfl, v, [w], rfl, w, [], rfl, rfl, k _ H1 L1 g1 (((env.ex g1.lx).set r1).set r3)⟩⟩
/-- a, b, c = e, e a tuple of three -/
theorem s_un3 (i j m : Nat) {x y z : Str} {px py pz pt : Pos} {kt : Nat} {d1 d2 d3 : D} (hN : X.N.Nodup) (h : PE X e (tJ X.K ρ (.tup [d1, d2, d3]))) (hc : X.calm = true := by rfl) (hi : X.N[i]? = some x := by rfl) (hj : X.N[j]? = some y := by rfl) (hm : X.N[m]? = some z := by rfl) (hx : Loc X.env.scope x := by first | exact .inl rfl | exact .inr rfl) (hy : Loc X.env.scope y := by first | exact .inl rfl | exact .inr rfl) (hz : Loc X.env.scope z := by first | exact .inl rfl | exact .inr rfl)
    (hf : X.fn x = true ∨ X.env.scope.names.lookup x = some .local := by first | exact .inl rfl | exact .inr rfl) (hf2 : X.fn y = true ∨ X.env.scope.names.lookup y = some .local := by first | exact .inl rfl | exact .inr rfl) (hf3 : X.fn z = true ∨ X.env.scope.names.lookup z = some .local := by first | exact .inl rfl | exact .inr rfl)
    (hn : (assignEach [.Name x px, .Name y py, .Name z pz] X.env).length = 3 := by rfl) (hst : (assignEach [.Name x px, .Name y py, .Name z pz] X.env).findIdx? (·.1) = none := by rfl)
    (h2 : (assignEach [.Name x px, .Name y py, .Name z pz] X.env).map (·.2) = assign (.Name x px) X.env :: (assignEach [.Name y py, .Name z pz] X.env).map (·.2) := by rfl) (h3 : (assignEach [.Name y py, .Name z pz] X.env).map (·.2) = assign (.Name y py) X.env :: (assignEach [.Name z pz] X.env).map (·.2) := by rfl) (h4 : (assignEach [.Name z pz] X.env).map (·.2) = assign (.Name z pz) X.env :: (assignEach [] X.env).map (·.2) := by rfl)
    (hs : swapsWithSole [.Tuple [.Name x px, .Name y py, .Name z pz] kt pt] e pos.line X.env = pure false := by rfl) (hw : swappedStores [.Tuple [.Name x px, .Name y py, .Name z pz] kt pt] e X.env = pure none := by rfl)
    (h1 : (assignEach [.Tuple [.Name x px, .Name y py, .Name z pz] kt pt] X.env).map (·.2) = [assign (.Tuple [.Name x px, .Name y py, .Name z pz] kt pt) X.env] := by rfl) :
    PS X (.Assign [.Tuple [.Name x px, .Name y py, .Name z pz] kt pt] e pos) (tS X.K ρ (.nxt (((ρ.set i (some d1)).set j (some d2)).set m (some d3)))) :=
  (ps_asg h (pg_tup hc (pgs_cons (pg_name hN hi hx hf) (pgs_cons (pg_name hN hj hy hf2) (pgs_cons (pg_name hN hm hz hf3) pgs_nil h4) h3) h2) hn hst) hs hw h1).imp fun E σ H ⟨L, e, env, k⟩ => ⟨L, e, env, fun v H1 L1 g1 r => by
    obtain ⟨q, xs, rfl, hq, rl, _⟩ := r.tup_
    obtain ⟨v, vs2, rfl, r1, r2⟩ := rl.cons_
    obtain ⟨w, vs3, rfl, r3, r4⟩ := r2.cons_
    obtain ⟨u, vs4, rfl, r5, r6⟩ := r4.cons_
    obtain rfl := r6.nil_
    exact ⟨q, _, rfl, SqT.of (g1.sub _ _ hq), rfl, v, _, rfl, w, _, rfl, u, [], rfl, rfl, k _ H1 L1 g1 ((((env.ex g1.lx).set r1).set r3).set r5)⟩⟩
/-- if c: .. else: .. -/
theorem s_if (h : PT X a (tT X.K ρ c)) (h1 : c = true → PSs X body (tS X.K ρ o)) (h2 : c = false → PSs X els (tS X.K ρ o)) : PS X (.If a body els pos) (tS X.K ρ o) := by
  cases c with
  | true => exact (ps_if h (h1 rfl) PSs.never).imp fun E σ H ⟨L, e, env, k⟩ => ⟨L, e, env, fun H1 L1 g1 => iteT ⟨L1, g1.sub, env.ex g1.lx, OutK.go _ g1 k⟩⟩
  | false => exact (ps_if h PSs.never (h2 rfl)).imp fun E σ H ⟨L, e, env, k⟩ => ⟨L, e, env, fun H1 L1 g1 => iteF ⟨L1, g1.sub, env.ex g1.lx, OutK.go _ g1 k⟩⟩
/-- if c: (leaves), then the rest -/
theorem s_grd (h : PT X a (tT X.K ρ c)) (h1 : c = true → PSs X body (tS X.K ρ (.ret d))) (h2 : c = false → PSs X rest (tS X.K ρ (.ret d))) : PSs X (.If a body [] pos :: rest) (tS X.K ρ (.ret d)) := by
  cases c with
  | true => exact s_last (s_if h (fun _ => h1 rfl) nofun)
  | false => exact s_cons (s_if h nofun fun _ => s_nil) (h2 rfl)
/-- if c: raise ..; c is not so -/
theorem s_no (h : PT X a (tT X.K ρ false)) (h2 : PSs X rest (tS X.K ρ o)) : PSs X (.If a body [] pos :: rest) (tS X.K ρ o) := s_cons (s_if h nofun fun _ => s_nil) h2
end
/-! ### a def's body -/
section
variable {P : Program} {w : World} {K : PySem.W.Frag} {mg : Str → Option Value} {base : Heap}
theorem start_env {N : List Str} {vs : List V} {ds : List D} {L : Hp} (r : RepL K L vs ds) : EnvR K L (L2.start N vs) (ds.map some ++ List.replicate (N.length - ds.length) none) := by
  unfold L2.start
  refine ⟨by simp [r.len], fun i d h => ?_⟩
  rw [List.getElem?_append] at h ⊢
  rw [List.length_map] at h ⊢
  rw [r.len]
  by_cases q : i < ds.length
  · rw [if_pos q, List.getElem?_map] at h
    rw [if_pos q, List.getElem?_map]
    cases e : ds[i]? with
    | none => rw [e] at h; cases h
    | some d' =>
      rw [e] at h
      cases h
      obtain ⟨v, hv, rv⟩ := r.get e
      exact ⟨v, by rw [hv]; rfl, rv⟩
  · rw [if_neg q, List.getElem?_replicate] at h
    split at h <;> cases h
/-- THE RULE: a def by its body's derivation -/
theorem fn_D {x qual : Str} {params : Arguments} {body : List Stmt} {scope : Scope} {f : Addr} {fd : FuncData} {N ps : List Str} {k : Nat} {R : List D → D → Prop} (F : FunD K x qual params body scope [] [] f fd) (S : FnScope N ps scope)
    (len : ∀ ds d, R ds d → ds.length = ps.length)
    (hb : ∀ (kV doc pm : Value) (an : Option Addr) (cdv ct : Value) (us : List Value), us.length = ps.length → bindArgs (PySem.W.fnOf x qual params body scope .none kV doc pm an cdv ct) ⟨us, []⟩ = pure (ps.zip us))
    (hbody : ∀ (ds : List D) (d : D), R ds d → ∀ (cdv : Value) (A : Around) (outer : List Env) (s : Shared) (H : Hp) (E : XK), Room k (A.deeper (envOfC qual scope s.heap.objs.size f cdv)) →
      PSs (cxOf CX0 P w K mg base N qual scope f cdv A outer s H E).nox body (tS K (ds.map some ++ List.replicate (N.length - ds.length) none) (.ret d)) ∨
      (d = .non ∧ ∃ ρ, PSs (cxOf CX0 P w K mg base N qual scope f cdv A outer s H E).nox body (tS K (ds.map some ++ List.replicate (N.length - ds.length) none) (.nxt ρ)))) :
    Ok0 P w K mg base (k + 1) f ps (spD K R) := by
  refine ⟨⟨fd, F.ok S (fun vs H Q E ⟨L, ds, d, _, r, h, _⟩ => r.len.trans (len ds d h)) fun cdv A outer s H vs Q E hr ⟨L, ds, d, e, r, h, q⟩ => ?_, F.bindsN hb⟩, F.kp⟩
  rcases hbody ds d h cdv A outer s H E hr with t | ⟨rfl, ρ, t⟩
  · exact ⟨_, t.nox, L, e, start_env r, q⟩
  · exact ⟨_, t.nox, L, e, start_env r, fun σ' H' L' g _ => q _ H' L' g .non⟩
end
end K51
end
section
set_option Elab.async false
set_option linter.all false
set_option maxRecDepth 100000
/-! Rules by data: what is walked, comprehensions, for. -/
namespace K51
open PySem PySem.Spec PyProof.Rows L2
/-- the walk J gives the data ds, from the heap H1 with its part L1 on -/
structure IterD (K : PySem.W.Frag) (J : It) (ds : List D) (H1 L1 : Hp) : Prop where
  sz : ds.length ≤ lim
  go : ∀ i H' L', i < ds.length → Ex L1 L' → Ex L' H' → J.go i H'
  stop : ∀ H' L', Ex L1 L' → Ex L' H' → J.stop ds.length H'
  yld : ∀ i d H' L' v H'', ds[i]? = some d → Ex L1 L' → Ex L' H' → J.yld i H' v H'' → ∃ L'', Go H' L' H'' L'' ∧ Rep K L'' v d
def tI (K : PySem.W.Frag) (ρ : En) (ds : List D) : TI := fun σ H R => ∃ L, Ex L H ∧ EnvR K L σ ρ ∧ ∀ J H1 L1, Go H L H1 L1 → IterD K J ds H1 L1 → R J H1
section
variable {X : Cx} {ρ : En} {d x y z : D} {e a b : Expr} {es : List Expr} {pos p : Pos} {n k : Nat} {l ds : List D} {K : PySem.W.Frag} {H L : Hp} {tg : Expr}
theorem _root_.L2.PI.imp {t t' : TI} (h : PI X tg e t) (i : ∀ σ H R, t' σ H R → t σ H R) : PI X tg e t' := ⟨fun pins s σ H R I q => h.run pins s σ H R I (i σ H R q)⟩
theorem iter_list {a : Addr} {xs : List V} (e : Ex L H) (h : L a = some (.lst xs)) (r : RepL K L xs ds) (z : ds.length ≤ lim) : IterD K (Itl K a) ds H L := by
  refine ⟨z, fun i H' L' hi gl gs => ?_, fun H' L' gl gs => ⟨xs, SqL.of (gs _ _ (gl _ _ h)), by rw [r.len]; exact Nat.le_refl _⟩, fun i d H' L' v H'' hd gl gs hy => ?_⟩
  · obtain ⟨v, hv, _⟩ := r.get (List.getElem?_eq_getElem hi)
    exact ⟨xs, v, SqL.of (gs _ _ (gl _ _ h)), hv⟩
  · obtain ⟨rfl, hv⟩ := hy
    obtain ⟨u, hu, ru⟩ := r.get hd
    have := hv xs (SqL.of (gs _ _ (gl _ _ h)))
    rw [hu] at this
    cases this
    exact ⟨L', Go.rf gs, ru.ex gl⟩
theorem iter_tup {a : Addr} {xs : List V} (e : Ex L H) (h : L a = some (.tup xs)) (r : RepL K L xs ds) (z : ds.length ≤ lim) : IterD K (Itt K a) ds H L := by
  refine ⟨z, fun i H' L' hi gl gs => ?_, fun H' L' gl gs => ⟨xs, SqT.of (gs _ _ (gl _ _ h)), by rw [r.len]; exact Nat.le_refl _⟩, fun i d H' L' v H'' hd gl gs hy => ?_⟩
  · obtain ⟨v, hv, _⟩ := r.get (List.getElem?_eq_getElem hi)
    exact ⟨xs, v, SqT.of (gs _ _ (gl _ _ h)), hv⟩
  · obtain ⟨rfl, hv⟩ := hy
    obtain ⟨u, hu, ru⟩ := r.get hd
    have := hv xs (SqT.of (gs _ _ (gl _ _ h)))
    rw [hu] at this
    cases this
    exact ⟨L', Go.rf gs, ru.ex gl⟩
theorem i_list (h : PE X e (tJ X.K ρ (.lst ds))) : PI X tg e (tI X.K ρ ds) := (pi_list h).imp fun σ H R ⟨L, e, env, k⟩ => ⟨L, e, env, fun v H1 L1 g1 r1 => by
  obtain ⟨a, xs, rfl, ha, rl, z⟩ := r1.lst_
  exact ⟨a, rfl, ⟨xs, SqL.of (g1.sub _ _ ha)⟩, k _ H1 L1 g1 (iter_list g1.sub ha rl z)⟩⟩
theorem i_tup (h : PE X e (tJ X.K ρ (.tup ds))) : PI X tg e (tI X.K ρ ds) := (pi_tup h).imp fun σ H R ⟨L, e, env, k⟩ => ⟨L, e, env, fun v H1 L1 g1 r1 => by
  obtain ⟨a, xs, rfl, ha, rl, z⟩ := r1.tup_
  exact ⟨a, rfl, ⟨xs, SqT.of (g1.sub _ _ ha)⟩, k _ H1 L1 g1 (iter_tup g1.sub ha rl z)⟩⟩
/-- the signs of a text -/
def sg (c : Nat) : Str := ⟨#[c]⟩
theorem i_str {s : Str} (h : PE X e (tJ X.K ρ (.str s))) (hz : s.cps.toList.length ≤ lim) : PI X tg e (tI X.K ρ (s.cps.toList.map fun c => .str (sg c))) := (pi_str h).imp fun σ H R ⟨L, e, env, k⟩ => ⟨L, e, env, fun v H1 L1 g1 r1 => by
  refine ⟨s, r1.str_, k _ H1 L1 g1 ⟨by rw [List.length_map]; exact hz, fun i H' L' hi _ _ => ?_, fun H' L' _ _ => ?_, fun i d H' L' v H'' hd gl gs hy => ?_⟩⟩
  · show i < s.cps.size
    rw [List.length_map, Array.length_toList] at hi
    exact hi
  · show s.cps.size ≤ (s.cps.toList.map _).length
    rw [List.length_map, Array.length_toList]
    exact Nat.le_refl _
  · obtain ⟨rfl, c, hc, rfl⟩ := hy
    rw [List.getElem?_map, Array.getElem?_toList, hc] at hd
    cases hd
    exact ⟨L', Go.rf gs, .str _⟩⟩
theorem i_range {m : Int} {p q : Pos} (ha : PE X a (tJ X.K ρ (.int m))) (hm : X.mg "range" = none) (h0 : 0 ≤ m) (hz : m ≤ 100000) (hg : Gl X "range" := by rfl) (hs : starEach [a] X.env = [(false, eval a X.env)] := by rfl) (hs2 : starEach [a] X.env = (false, eval a X.env) :: starEach [] X.env := by rfl) :
    PI X tg (.Call (.Name "range" p) [a] [] q) (tI X.K ρ ((List.range m.toNat).map fun (i : Nat) => .int (i : Int))) := (pi_range1 hg hm (ja_cons ha ja_nil hs2) hs).imp fun σ H R ⟨L, e, env, k⟩ => ⟨L, e, env, fun vs H1 L1 g1 r1 => by
  obtain ⟨v, w, rfl, r2, r3⟩ := r1.cons_
  obtain rfl := r3.nil_
  obtain rfl := r2.int_
  refine ⟨m, rfl, by omega, by omega, k _ H1 L1 g1 ⟨by rw [List.length_map, List.length_range]; show m.toNat ≤ 100000; omega, fun i H' L' hi _ _ => ?_, fun H' L' _ _ => ?_, fun i d H' L' v H'' hd gl gs hy => ?_⟩⟩
  · rw [List.length_map, List.length_range] at hi
    exact hi
  · show m.toNat ≤ _
    rw [List.length_map, List.length_range]
    exact Nat.le_refl _
  · obtain ⟨rfl, rfl⟩ := hy
    rw [List.getElem?_map] at hd
    have hi : i < m.toNat := by
      cases q : (List.range m.toNat)[i]? with
      | none => rw [q] at hd; cases hd
      | some j =>
        have := (List.getElem?_eq_some_iff.mp q).1
        rw [List.length_range] at this
        exact this
    rw [List.getElem?_range hi] at hd
    cases hd
    refine ⟨L', Go.rf gs, ?_⟩
    rw [Int.zero_add]
    exact .int _⟩
/-! ### list comprehensions -/
variable {α : Type} {ls : List α} {c f : α → D} {pr : α → Bool} {ρ' : α → En}
theorem filt_succ {i : Nat} {a : α} (h : ls[i]? = some a) : ((ls.take (i + 1)).filter pr).map f = ((ls.take i).filter pr).map f ++ if pr a = true then [f a] else [] := by
  rw [List.take_add_one, h, List.filter_append, List.map_append]
  congr 1
  show (List.filter pr [a]).map f = _
  by_cases q : pr a = true
  · rw [if_pos q, List.filter_cons_of_pos q]; rfl
  · rw [if_neg q, List.filter_cons_of_neg q]; rfl
theorem ex_upd_free {H1 H2 : Hp} {q : Addr} {o : HO} (e : Ex H1 H2) (h : H1 q = none) : Ex H1 (upd H2 q o) := fun b u hb => by rw [upd_ne (ne_of_none hb h)]; exact e b u hb
/-- the loop of a comprehension, by data -/
theorem lc_gen {wi : TI} {g : TG} {tt : TT} {te : TE} {vs : List Nat} (hw : ∀ σ H R, tI K ρ (ls.map c) σ H R → wi σ H R)
    (hg : ∀ a ∈ ls, ∀ v σ H1 L1 (Q : L2.St → Hp → Prop), EnvR K L1 σ ρ → Ex L1 H1 → Rep K L1 v (c a) → (∀ σ2, EnvR K L1 σ2 (ρ' a) → wipe σ2 vs = wipe σ vs → Q σ2 H1) → g v (wipe σ vs) H1 Q)
    (ht : ∀ a ∈ ls, ∀ σ H Q, tT K (ρ' a) (pr a) σ H Q → tt σ H Q) (he : ∀ a ∈ ls, pr a = true → ∀ σ H Q, tJ K (ρ' a) (f a) σ H Q → te σ H Q) :
    ∀ σ H Q, tJ K ρ (.lst ((ls.filter pr).map f)) σ H Q → tLc wi g tt te vs σ H Q := fun σ H Q ⟨L, e, env, k⟩ => by
  refine hw σ H _ ⟨L, e, env, fun J H1 L1 g1 it Dn hD => ?_⟩
  have lD : L1 Dn = none := free_sub g1.sub hD
  refine ⟨fun i m H' => m + i = ls.length ∧ ∃ L' acc, Go H1 L1 H' L' ∧ L' Dn = none ∧ H' Dn = some (.lst acc) ∧ RepL K L' acc (((ls.take i).filter pr).map f) ∧ acc.length ≤ i, ⟨ls.length, rfl, L1, [], ⟨ex_new hD, Ex.rf, (g1.sub).tr (ex_new hD), fun _ _ => rfl⟩, lD, upd_same, .nil, Nat.le_refl _⟩, fun i m H' ⟨em, L', acc, g2, lD2, hD2, ra, za⟩ => ?_⟩
  by_cases hi : i < ls.length
  · have hl : ls[i]? = some ls[i] := List.getElem?_eq_getElem hi
    have hm : ls[i] ∈ ls := List.getElem_mem hi
    refine .inr ⟨it.go i H' L' (by rw [List.length_map]; exact hi) g2.lx g2.sub, fun H' => ∃ L' acc, Go H1 L1 H' L' ∧ L' Dn = none ∧ H' Dn = some (.lst acc) ∧ RepL K L' acc (((ls.take (i + 1)).filter pr).map f) ∧ acc.length ≤ i + 1, fun H'' q => ⟨m - 1, by omega, by omega, q⟩, fun v H3 hy => ?_⟩
    obtain ⟨L3, g3, r3⟩ := it.yld i (c ls[i]) H' L' v H3 (by rw [List.getElem?_map, hl]; rfl) g2.lx g2.sub hy
    have lD3 : L3 Dn = none := by rw [g3.old Dn (by rw [hD2]; exact nofun)]; exact lD2
    refine hg ls[i] hm v σ H3 L3 _ (((env.ex g1.lx).ex g2.lx).ex g3.lx) g3.sub r3 fun σ2 env2 hw2 => ⟨hw2, ht ls[i] hm σ2 H3 _ ⟨L3, g3.sub, env2, fun H4 L4 g4 => ?_⟩⟩
    have hD4 : H4 Dn = some (.lst acc) := g4.ex _ _ (g3.ex _ _ hD2)
    have lD4 : L4 Dn = none := by rw [g4.old Dn (by rw [g3.ex _ _ hD2]; exact nofun)]; exact lD3
    cases hp : pr ls[i] with
    | true =>
      refine iteT (he ls[i] hm hp σ2 H4 _ ⟨L4, g4.sub, env2.ex g4.lx, fun w H5 L5 g5 r5 => ?_⟩)
      have hD5 : H5 Dn = some (.lst acc) := g5.ex _ _ hD4
      have lD5 : L5 Dn = none := by rw [g5.old Dn (by rw [hD4]; exact nofun)]; exact lD4
      have gg := ((g2.tr g3).tr g4).tr g5
      have sz := it.sz
      rw [List.length_map] at sz
      refine ⟨acc, hD5, lim_lt (by omega), L5, acc ++ [w], ⟨ex_upd_free gg.ex hD, gg.lx, fun b o hb => by rw [upd_ne (ne_of_none hb lD5)]; exact gg.sub b o hb, gg.old⟩, lD5, upd_same, ?_, by rw [List.length_append, List.length_singleton]; omega⟩
      rw [filt_succ hl, hp, if_pos rfl]
      exact (((ra.ex g3.lx).ex g4.lx).ex g5.lx).app (.one r5)
    | false =>
      refine iteF ⟨L4, acc, (g2.tr g3).tr g4, lD4, hD4, ?_, by omega⟩
      rw [filt_succ hl, hp, if_neg Bool.false_ne_true, List.append_nil]
      exact (ra.ex g3.lx).ex g4.lx
  · have ei : i = ls.length := by omega
    subst ei
    have stp := it.stop H' L' g2.lx g2.sub
    rw [List.length_map] at stp
    refine .inl ⟨stp, ?_⟩
    rw [List.take_length] at ra
    have hn : H1 Dn = none := hD
    have sz := it.sz
    rw [List.length_map] at sz
    have gg : Go H1 L1 H' (upd L' Dn (.lst acc)) := ⟨g2.ex, ex_upd_free g2.lx lD, fun b o hb => by
      by_cases q : b = Dn
      · rw [q, upd_same] at hb; rw [q, hD2]; exact hb
      · rw [upd_ne q] at hb; exact g2.sub b o hb, fun b hb => by rw [upd_ne (show b ≠ Dn from fun q => hb (q ▸ hD))]; exact g2.old b hb⟩
    exact k _ _ _ (g1.tr gg) (.lst upd_same (ra.ex (ex_upd_free Ex.rf lD2)) (by rw [← ra.len]; omega))
theorem wipe_set1 {σ : L2.St} {i : Nat} {v : V} : wipe ((σ.set i none).set i (some v)) [i] = wipe σ [i] := by
  show ((σ.set i none).set i (some v)).set i none = σ.set i none
  rw [List.set_set, List.set_set]
theorem env_wipe1 {L1 : Hp} {σ : L2.St} {i : Nat} {v : V} (env : EnvR K L1 σ ρ) (r : Rep K L1 v d) : EnvR K L1 ((wipe σ [i]).set i (some v)) (ρ.set i (some d)) := by
  have h := env.set (i := i) r
  show EnvR K L1 ((σ.set i none).set i (some v)) _
  rw [List.set_set]
  exact h
variable {elt iter : Expr} {ifs : List Expr} {scope : Scope} {px : Pos} {i : Nat} {nm : Str}
abbrev Blk (X : Cx) (scope : Scope) (F : Cx → Prop) : Prop := ∀ (s : Shared) (H : Hp) (C : Addr) (cl : List (Str × Addr)) (fp : List Addr), F (X.blk s H scope (compEnvC scope cl C X.env) fp)
/-- [elt for x in iter if ..], x a name in slot i -/
theorem j_lc (i : Nat) (hN : X.N.Nodup) (hi : PI X (.Name nm px) iter (tI X.K ρ (ls.map c)))
    (ht : ∀ a ∈ ls, Blk X scope fun Y => PTs Y ifs (tT X.K (ρ.set i (some (c a))) (pr a))) (he : ∀ a ∈ ls, pr a = true → Blk X scope fun Y => PE Y elt (tJ X.K (ρ.set i (some (c a))) (f a)))
    (ok : BlkOk X.N X.env.scope scope [(nm, i)] := by exact blkOk_by (by first | decide +kernel | kernel_rfl)) (hc : X.calm = true := by rfl)
    (hg : Blk X scope fun Y => PG Y (.Name nm px) (gName i) := by exact fun _ _ _ _ _ => pg_name ‹_› rfl (.inl rfl)) (hs : ∀ x, foldedSetIterable iter X.env x = pure x := by intro _; rfl) :
    PE X (.ListComp elt [⟨.Name nm px, iter, ifs, 0⟩] scope pos) (tJ X.K ρ (.lst ((ls.filter pr).map f))) :=
  (pe_lc (own := [(nm, i)]) (g := gName i) (tt := fun σ H Q => ∃ a, a ∈ ls ∧ tT X.K (ρ.set i (some (c a))) (pr a) σ H Q) (te := fun σ H Q => ∃ a, (a ∈ ls ∧ pr a = true) ∧ tJ X.K (ρ.set i (some (c a))) (f a) σ H Q) hc hN hi ok hg
    (fun s H C cl fp => PTs.any fun a => PTs.onlyif fun ha => ht a ha s H C cl fp) (fun s H C cl fp => PE.any fun a => PE.onlyif fun ha => he a ha.1 ha.2 s H C cl fp) hs).imp
    (lc_gen (ρ' := fun a => ρ.set i (some (c a))) (fun _ _ _ q => q) (fun a _ v σ H1 L1 Q env _ r q => q _ (env_wipe1 env r) wipe_set1) (fun a ha σ H Q q => ⟨a, ha, q⟩) (fun a ha hp σ H Q q => ⟨a, ⟨ha, hp⟩, q⟩))
/-- y = [..] -/
theorem s_setLc (j i : Nat) {y : Str} {py : Pos} {spos : Pos} (hN : X.N.Nodup) (hi : PI X (.Name nm px) iter (tI X.K ρ (ls.map c)))
    (ht : ∀ a ∈ ls, Blk X scope fun Y => PTs Y ifs (tT X.K (ρ.set i (some (c a))) (pr a))) (he : ∀ a ∈ ls, pr a = true → Blk X scope fun Y => PE Y elt (tJ X.K (ρ.set i (some (c a))) (f a)))
    (hy : X.N[j]? = some y := by rfl) (hyl : X.env.scope.names.lookup y = some .local := by rfl) (hsw : swapsWith (.ListComp elt [⟨.Name nm px, iter, ifs, 0⟩] scope pos) (some (.Name y py)) spos.line X.env = pure true := by exact sw_true rfl rfl rfl (by first | decide +kernel | kernel_rfl))
    (ok : BlkOk X.N X.env.scope scope [(nm, i)] := by exact blkOk_by (by first | decide +kernel | kernel_rfl)) (hc : X.calm = true := by rfl)
    (hg : Blk X scope fun Y => PG Y (.Name nm px) (gName i) := by exact fun _ _ _ _ _ => pg_name ‹_› rfl (.inl rfl)) (hs : ∀ x, foldedSetIterable iter X.env x = pure x := by intro _; rfl) :
    PS X (.Assign [.Name y py] (.ListComp elt [⟨.Name nm px, iter, ifs, 0⟩] scope pos) spos) (tS X.K ρ (.nxt (ρ.set j (some (.lst ((ls.filter pr).map f)))))) :=
  (ps_setLc (i := j) (own := [(nm, i)]) (g := gName i) (tt := fun σ H Q => ∃ a, a ∈ ls ∧ tT X.K (ρ.set i (some (c a))) (pr a) σ H Q) (te := fun σ H Q => ∃ a, (a ∈ ls ∧ pr a = true) ∧ tJ X.K (ρ.set i (some (c a))) (f a) σ H Q) hc hN hy hyl hsw hi ok hg
    (fun s H C cl fp => PTs.any fun a => PTs.onlyif fun ha => ht a ha s H C cl fp) (fun s H C cl fp => PE.any fun a => PE.onlyif fun ha => he a ha.1 ha.2 s H C cl fp) hs).imp
    fun E σ H ⟨L, e, env, k⟩ => lc_gen (ρ' := fun a => ρ.set i (some (c a))) (fun _ _ _ q => q) (fun a _ v σ H1 L1 Q env _ r q => q _ (env_wipe1 env r) wipe_set1) (fun a ha σ H Q q => ⟨a, ha, q⟩) (fun a ha hp σ H Q q => ⟨a, ⟨ha, hp⟩, q⟩) σ H _ ⟨L, e, env, fun v H1 L1 g1 r => k _ H1 L1 g1 ((env.ex g1.lx).set r)⟩
theorem tt_nil : PTs X [] (tT X.K ρ true) := pts_nil.imp fun σ H Q ⟨L, e, env, k⟩ => k H L (Go.rf e)
theorem tt_one {q : Bool} (h : PT X a (tT X.K ρ q)) : PTs X [a] (tT X.K ρ q) := pts_one h
/-! ### for -/
/-- fewer slots told -/
def leE : En → En → Prop
  | [], [] => True
  | a :: r, b :: s => (b = none ∨ a = b) ∧ leE r s
  | _, _ => False
theorem leE_rf : ∀ ρ : En, leE ρ ρ
  | [] => trivial
  | _ :: r => ⟨.inr rfl, leE_rf r⟩
theorem leE_len : ∀ {ρ ρ' : En}, leE ρ ρ' → ρ'.length = ρ.length
  | [], [], _ => rfl
  | _ :: r, _ :: s, h => congrArg (· + 1) (leE_len h.2)
  | [], _ :: _, h => h.elim
  | _ :: _, [], h => h.elim
theorem leE_at : ∀ {ρ ρ' : En}, leE ρ ρ' → ∀ (i : Nat) (d : D), ρ'[i]? = some (some d) → ρ[i]? = some (some d)
  | [], [], _, _, _, h => h
  | a :: r, b :: s, h, 0, d, q => by
    have e : b = some d := Option.some.inj q
    rcases h.1 with z | z
    · rw [z] at e; cases e
    · rw [z, e]; rfl
  | _ :: r, _ :: s, h, i + 1, d, q => leE_at (ρ := r) h.2 i d q
  | [], _ :: _, h, _, _, _ => h.elim
  | _ :: _, [], h, _, _, _ => h.elim
theorem EnvR.le {σ : L2.St} {ρ ρ' : En} (env : EnvR K L σ ρ) (h : leE ρ ρ') : EnvR K L σ ρ' := env.less (leE_len h) (leE_at h)
/-- a for's loop over data, its word raw: the turn, the slots, the heap, its known part -/
theorem for_D {J : It} {H1 L1 : Hp} {g : TG} {tb : TS} {E : Ends} {σ : L2.St} (it : IterD K J ds H1 L1) (Pv : Nat → L2.St → Hp → Hp → Prop) (L0 : Hp) (l0 : Ex L1 L0) (s0 : Ex L0 H1) (h0 : Pv 0 σ H1 L0)
    (hs : ∀ i d σ H' L', ds[i]? = some d → Ex L1 L' → Ex L' H' → Pv i σ H' L' → ∀ v H2 L2, Go H' L' H2 L2 → Rep K L2 v d →
      g v σ H2 fun σ2 H3 => tb { E with nx := fun σ H => ∃ L', Ex L1 L' ∧ Ex L' H ∧ Pv (i + 1) σ H L', ct := fun σ H => ∃ L', Ex L1 L' ∧ Ex L' H ∧ Pv (i + 1) σ H L', bk := E.nx } σ2 H3)
    (hd : ∀ σ H' L', Ex L1 L' → Ex L' H' → Pv ds.length σ H' L' → E.nx σ H') :
    ∃ W : Nat → Nat → L2.St → Hp → Prop, (∃ m, W 0 m σ H1) ∧ ∀ i m σ H, W i m σ H →
      (J.stop i H ∧ E.nx σ H) ∨ (J.go i H ∧ ∃ N : L2.St → Hp → Prop, (∀ σ' H', N σ' H' → ∃ m', m' < m ∧ W (i + 1) m' σ' H') ∧ ∀ x H', J.yld i H x H' → g x σ H' fun σ2 H2 => tb { E with nx := N, ct := N, bk := E.nx } σ2 H2) := by
  refine ⟨fun i m σ H => m + i = ds.length ∧ ∃ L', Ex L1 L' ∧ Ex L' H ∧ Pv i σ H L', ⟨ds.length, rfl, L0, l0, s0, h0⟩, fun i m σ H' ⟨em, L', gl, gs, hp⟩ => ?_⟩
  by_cases hi : i < ds.length
  · refine .inr ⟨it.go i H' L' hi gl gs, fun σ H => ∃ L', Ex L1 L' ∧ Ex L' H ∧ Pv (i + 1) σ H L', fun σ'' H'' q => ⟨m - 1, by omega, by omega, q⟩, fun v H2 hy => ?_⟩
    obtain ⟨L2, g2, r2⟩ := it.yld i ds[i] H' L' v H2 (List.getElem?_eq_getElem hi) gl gs hy
    exact hs i ds[i] σ H' L' (List.getElem?_eq_getElem hi) gl gs hp v H2 L2 g2 r2
  · have ei : i = ds.length := by omega
    subst ei
    exact .inl ⟨it.stop H' L' gl gs, hd σ H' L' gl gs hp⟩
variable {body : List Stmt}
/-- for x in iter: body, each turn goes on; ρs: the slots ahead of each turn -/
theorem s_for (i : Nat) (ρs : Nat → En) (hN : X.N.Nodup) (hp : PassesOwn (model X.prog X.w) X.A X.env X.xe) (hi : PI X (.Name nm px) iter (tI X.K ρ (ls.map c))) (h0 : leE ρ (ρs 0))
    (hb : ∀ (j : Nat) (a : α), ls[j]? = some a → ∃ ρb, PSs X body (tS X.K ((ρs j).set i (some (c a))) (.nxt ρb)) ∧ leE ρb (ρs (j + 1)))
    (hix : X.N[i]? = some nm := by rfl) (hx : Loc X.env.scope nm := by first | exact .inl rfl | exact .inr rfl) (hf : X.fn nm = true ∨ X.env.scope.names.lookup nm = some .local := by first | exact .inl rfl | exact .inr rfl) (hc : X.calm = true := by rfl) (hs : ∀ x, foldedSetIterable iter X.env x = pure x := by intro _; rfl) :
    PS X (.For (.Name nm px) iter body [] pos) (tS X.K ρ (.nxt (ρs ls.length))) := by
  have hbody : PSs X body (fun E σ H => ∃ q : { q : Nat × α × En // ls[q.1]? = some q.2.1 ∧ leE q.2.2 (ρs (q.1 + 1)) ∧ PSs X body (tS X.K ((ρs q.1).set i (some (c q.2.1))) (.nxt q.2.2)) }, tS X.K ((ρs q.1.1).set i (some (c q.1.2.1))) (.nxt q.1.2.2) E σ H) := PSs.any fun q => q.2.2.2
  refine (ps_for hp hc hi (pg_name hN hix hx hf) hbody hs).imp fun E σ H ⟨L, e, env, k⟩ => ⟨L, e, env, fun J H1 L1 g1 it => ?_⟩
  refine for_D (E := E) (g := gName i) (tb := fun E σ H => ∃ q : { q : Nat × α × En // ls[q.1]? = some q.2.1 ∧ leE q.2.2 (ρs (q.1 + 1)) ∧ PSs X body (tS X.K ((ρs q.1).set i (some (c q.2.1))) (.nxt q.2.2)) }, tS X.K ((ρs q.1.1).set i (some (c q.1.2.1))) (.nxt q.1.2.2) E σ H) it (fun j σ H' L' => Go H1 L1 H' L' ∧ EnvR X.K L' σ (ρs j)) L1 Ex.rf g1.sub ⟨Go.rf g1.sub, (env.ex g1.lx).le h0⟩ (fun j d σ H' L' hd gl gs hpv v H2 L2 g2 r2 => ?_) fun σ H' L' gl gs hpv => ?_
  · obtain ⟨g3, env3⟩ := hpv
    rw [List.getElem?_map] at hd
    cases q : ls[j]? with
    | none => rw [q] at hd; cases hd
    | some a =>
      rw [q] at hd
      cases hd
      obtain ⟨ρb, hb1, hb2⟩ := hb j a q
      exact ⟨⟨(j, a, ρb), q, hb2, hb1⟩, L2, g2.sub, (env3.ex g2.lx).set r2, fun σ4 H4 L4 g4 env4 => ⟨L4, (gl.tr g2.lx).tr g4.lx, g4.sub, (g3.tr g2).tr g4, env4.le hb2⟩⟩
  · rw [List.length_map] at hpv
    exact k σ H' L' (g1.tr hpv.1) hpv.2
end
end K51
end
section
set_option Elab.async false
set_option linter.all false
set_option maxRecDepth 100000
/-! Owned objects (what is changed in place) and the bag; expressions whose value is told by a predicate. -/
namespace K51
open PySem PySem.Spec PyProof.Rows L2
abbrev Mem := List (Addr × D)
abbrev Mem.ks (M : Mem) : List Addr := M.map (·.1)
/-- what stands at q, its items known -/
inductive Sh (K : PySem.W.Frag) (L H : Hp) (q : Addr) : D → Prop
  | lst {xs : List V} {l : List D} : H q = some (.lst xs) → RepL K L xs l → l.length ≤ lim → Sh K L H q (.lst l)
  | dct {kvs : List (Key × V)} {l : List (Str × D)} : H q = some (.dK kvs) → RepK K L kvs l → l.length ≤ lim → Sh K L H q (.dct l)
  | obj {dx : Addr} {fs : List (Str × V)} {c : Str} {l : List (Str × D)} : H q = some (.ins (He.ga K c) dx fs) → RepF K L fs l → Sh K L H q (.obj c l)
/-- the bag -/
def BagOk (L H : Hp) (q : Addr) : Prop := ∃ (b0 b1 b2 : Int) (c : Addr) (ns : List Int), H q = some (.lst [.int b0, .int b1, .int b2, .ref c]) ∧ L c = some (.lst (ns.map V.int)) ∧ ns.length ≤ lim ∧ (∀ n ∈ ns, 0 ≤ n) ∧ 0 ≤ b0 ∧ 0 ≤ b1 ∧ 0 ≤ b2
section
variable {K : PySem.W.Frag} {L L' H H' : Hp} {q : Addr} {d : D}
theorem Sh.ne (h : Sh K L H q d) : H q ≠ none := by cases h with | lst e _ _ => rw [e]; exact nofun | dct e _ _ => rw [e]; exact nofun | obj e _ => rw [e]; exact nofun
theorem Sh.go (x : Ex L L') (e : H' q = H q) (h : Sh K L H q d) : Sh K L' H' q d := by
  cases h with
  | lst h r z => exact .lst (e.trans h) (r.ex x) z
  | dct h r z => exact .dct (e.trans h) (r.ex x) z
  | obj h r => exact .obj (e.trans h) (r.mo x.mo)
theorem BagOk.ne (h : BagOk L H q) : H q ≠ none := by obtain ⟨_, _, _, _, _, e, _⟩ := h; rw [e]; exact nofun
theorem BagOk.go (x : Ex L L') (e : H' q = H q) (h : BagOk L H q) : BagOk L' H' q := by
  obtain ⟨b0, b1, b2, c, ns, h1, h2, r⟩ := h
  exact ⟨b0, b1, b2, c, ns, e.trans h1, x _ _ h2, r⟩
end
/-- what is owned stands, apart from what is known -/
structure Ow (K : PySem.W.Frag) (b : Option Addr) (M : Mem) (L H : Hp) : Prop where
  nd : M.ks.Nodup
  un : ∀ p ∈ M, L p.1 = none
  sh : ∀ p ∈ M, Sh K L H p.1 p.2
  bg : ∀ q, b = some q → L q = none ∧ BagOk L H q ∧ q ∉ M.ks
/-- an expression's way: all but the bag stays -/
structure Gx (b : Option Addr) (H L H' L' : Hp) : Prop where
  ex : ∀ a o, b ≠ some a → H a = some o → H' a = some o
  lx : Ex L L'
  sub : Ex L' H'
  old : ∀ a, H a ≠ none → L' a = L a
  dom : ∀ a, H a ≠ none → H' a ≠ none
/-- a statement's way -/
structure Gs (b : Option Addr) (M : Mem) (H L : Hp) (M' : Mem) (H' L' : Hp) : Prop where
  ex : ∀ a o, b ≠ some a → a ∉ M.ks → H a = some o → H' a = some o
  lx : Ex L L'
  sub : Ex L' H'
  old : ∀ a, H a ≠ none → a ∉ M.ks → L' a = L a
  dom : ∀ a, H a ≠ none → H' a ≠ none
  fr : ∀ a ∈ M'.ks, a ∈ M.ks ∨ H a = none
section
variable {K : PySem.W.Frag} {b : Option Addr} {M M1 M' : Mem} {H L H1 L1 H2 L2 H' L' : Hp}
theorem dom_of (e : Ex H H') : ∀ a, H a ≠ none → H' a ≠ none := fun a h => by
  cases q : H a with
  | none => exact absurd q h
  | some o => rw [e a o q]; exact nofun
theorem Go.gx (g : Go H L H' L') : Gx b H L H' L' := ⟨fun a o _ h => g.ex a o h, g.lx, g.sub, g.old, dom_of g.ex⟩
theorem Gx.go (g : Gx none H L H' L') : Go H L H' L' := ⟨fun a o h => g.ex a o nofun h, g.lx, g.sub, g.old⟩
theorem Gx.rf (e : Ex L H) : Gx b H L H L := (Go.rf e).gx
theorem Gx.tr (g : Gx b H L H1 L1) (h : Gx b H1 L1 H2 L2) : Gx b H L H2 L2 := ⟨fun a o n e => h.ex a o n (g.ex a o n e), g.lx.tr h.lx, h.sub, fun a n => by rw [h.old a (g.dom a n), g.old a n], fun a n => h.dom a (g.dom a n)⟩
theorem Gx.gs (g : Gx b H L H' L') : Gs b M H L M H' L' := ⟨fun a o n _ h => g.ex a o n h, g.lx, g.sub, fun a n _ => g.old a n, g.dom, fun a h => .inl h⟩
theorem Gs.gx (g : Gs b [] H L M' H' L') : Gx b H L H' L' := ⟨fun a o n h => g.ex a o n nofun h, g.lx, g.sub, fun a n => g.old a n nofun, g.dom⟩
theorem Gs.drop (g : Gs b M H L M' H' L') : Gs b M H L [] H' L' := ⟨g.ex, g.lx, g.sub, g.old, g.dom, nofun⟩
theorem Gs.tr (g : Gs b M H L M1 H1 L1) (h : Gs b M1 H1 L1 M' H2 L2) : Gs b M H L M' H2 L2 := by
  have key : ∀ a, H a ≠ none → a ∉ M.ks → a ∉ M1.ks := fun a n m q => (g.fr a q).elim m n
  refine ⟨fun a o n m e => h.ex a o n (key a (by rw [e]; exact nofun) m) (g.ex a o n m e), g.lx.tr h.lx, h.sub, fun a n m => ?_, fun a n => h.dom a (g.dom a n), fun a m => ?_⟩
  · rw [h.old a (g.dom a n) (key a n m), g.old a n m]
  · rcases h.fr a m with q | q
    · exact g.fr a q
    · refine .inr ?_
      cases e : H a with
      | none => rfl
      | some o => exact absurd q (g.dom a (by rw [e]; exact nofun))
theorem Gs.rf (e : Ex L H) : Gs b M H L M H L := (Gx.rf e).gs
theorem Ow.go (o : Ow K b M L H) (g : Go H L H' L') : Ow K b M L' H' := by
  have st : ∀ q, H q ≠ none → H' q = H q := fun q n => by
    cases e : H q with
    | none => exact absurd e n
    | some u => exact g.ex q u e
  refine ⟨o.nd, fun p hp => by rw [g.old _ (o.sh p hp).ne]; exact o.un p hp, fun p hp => (o.sh p hp).go g.lx (st _ (o.sh p hp).ne), fun q e => ?_⟩
  obtain ⟨h1, h2, h3⟩ := o.bg q e
  exact ⟨by rw [g.old _ h2.ne]; exact h1, h2.go g.lx (st _ h2.ne), h3⟩
theorem Ow.nil (o : Ow K b M L H) : Ow K b [] L H := ⟨.nil, nofun, nofun, fun q e => ⟨(o.bg q e).1, (o.bg q e).2.1, nofun⟩⟩
/-- what is owned beside stays owned -/
theorem Ow.back (o : Ow K b M L H) (g : Gx b H L H' L') (o' : Ow K b [] L' H') : Ow K b M L' H' := by
  have st : ∀ p ∈ M, H' p.1 = H p.1 := fun p hp => by
    have n := (o.sh p hp).ne
    cases e : H p.1 with
    | none => exact absurd e n
    | some u => exact g.ex _ u (fun q => (o.bg _ q).2.2 (List.mem_map.mpr ⟨p, hp, rfl⟩)) e
  exact ⟨o.nd, fun p hp => by rw [g.old _ (o.sh p hp).ne]; exact o.un p hp, fun p hp => (o.sh p hp).go g.lx (st p hp), fun q e => ⟨(o'.bg q e).1, (o'.bg q e).2.1, (o.bg q e).2.2⟩⟩
end
/-! ### expressions -/
section
variable (K : PySem.W.Frag) (b : Option Addr) (M : Mem) (ρ : En)
def tE (Φ : D → Prop) : TE := fun σ H Q => ∃ L, Ex L H ∧ EnvR K L σ ρ ∧ Ow K b M L H ∧ ∀ v H' L' d, Φ d → Gx b H L H' L' → Ow K b M L' H' → Rep K L' v d → Q v H'
def tTE (Φ : Bool → Prop) : TT := fun σ H Q => ∃ L, Ex L H ∧ EnvR K L σ ρ ∧ Ow K b M L H ∧ ∀ c H' L', Φ c → Gx b H L H' L' → Ow K b M L' H' → Q c H'
def tAE (Φ : List D → Prop) : TA := fun σ H Q => ∃ L, Ex L H ∧ EnvR K L σ ρ ∧ Ow K b M L H ∧ ∀ vs H' L' ds, Φ ds → Gx b H L H' L' → Ow K b M L' H' → RepL K L' vs ds → Q vs H'
/-- a statement's way out -/
inductive Ou where
  | nxt (ρ : En) (M : Mem)
  | ret (d : D)
  /-- a new list or dict goes out -/
  | rtn (d : D)
  /-- a value goes out, what is owned stays owned -/
  | rem (d : D) (M : Mem)
def OuK (o : Ou) (E : Ends) (H L : Hp) : Prop := match o with
  | .nxt ρ' M' => ∀ σ' H' L', Gs b M H L M' H' L' → Ow K b M' L' H' → EnvR K L' σ' ρ' → E.nx σ' H'
  | .ret d => ∀ v H' L', Gs b M H L [] H' L' → Ow K b [] L' H' → Rep K L' v d → E.rt v H'
  | .rtn d => ∀ a H' L', Gs b M H L [(a, d)] H' L' → Ow K b [(a, d)] L' H' → E.rt (.ref a) H'
  | .rem d M' => ∀ v H' L', Gs b M H L M' H' L' → Ow K b M' L' H' → Rep K L' v d → E.rt v H'
def tW (Ω : Ou → Prop) : TS := fun E σ H => ∃ L, Ex L H ∧ EnvR K L σ ρ ∧ Ow K b M L H ∧ ∀ o, Ω o → OuK K b M o E H L
end
section
variable {X : Cx} {b : Option Addr} {M M1 M' : Mem} {ρ ρ1 ρ' : En} {d x y z : D} {e a a2 : Expr} {es : List Expr} {pos p : Pos} {Φ Ψ Θ : D → Prop} {Ω Ω1 : Ou → Prop} {st : Stmt} {rest body els : List Stmt} {n k : Nat} {H L H1 L1 : Hp} {E : Ends} {o : Ou}
theorem OuK.go {K : PySem.W.Frag} (g : Gs b M H L M1 H1 L1) (k : OuK K b M o E H L) : OuK K b M1 o E H1 L1 := by
  cases o with
  | nxt ρ' M' => exact fun σ2 H2 L2 g2 => k σ2 H2 L2 (g.tr g2)
  | ret d => exact fun v H2 L2 g2 => k v H2 L2 (g.tr g2)
  | rtn d => exact fun v H2 L2 g2 => k v H2 L2 (g.tr g2)
  | rem d M' => exact fun v H2 L2 g2 => k v H2 L2 (g.tr g2)
theorem e_of (h : PE X e (tJ X.K ρ d)) : PE X e (tE X.K b M ρ (· = d)) := h.imp fun σ H Q ⟨L, e, env, ow, k⟩ => ⟨L, e, env, fun v H' L' g r => k v H' L' d rfl g.gx (ow.go g) r⟩
theorem e_im (h : PE X e (tE X.K b M ρ Φ)) (i : ∀ d, Φ d → Ψ d) : PE X e (tE X.K b M ρ Ψ) := h.imp fun σ H Q ⟨L, e, env, ow, k⟩ => ⟨L, e, env, ow, fun v H' L' d h => k v H' L' d (i d h)⟩
theorem te_of {c : Bool} (h : PT X e (tT X.K ρ c)) : PT X e (tTE X.K b M ρ (· = c)) := h.imp fun σ H Q ⟨L, e, env, ow, k⟩ => ⟨L, e, env, fun H' L' g => k c H' L' rfl g.gx (ow.go g)⟩
theorem ae_nil : PA X [] (tAE X.K b M ρ (· = [])) := pa_nil.imp fun σ H Q ⟨L, e, env, ow, k⟩ => k [] H L [] rfl (Gx.rf e) ow .nil
theorem ae_of {ds : List D} (h : PA X es (tJA X.K ρ ds)) : PA X es (tAE X.K b M ρ (· = ds)) := h.imp fun σ H Q ⟨L, e, env, ow, k⟩ => ⟨L, e, env, fun v H' L' g r => k v H' L' ds rfl g.gx (ow.go g) r⟩
theorem ae_cons {Φs : List D → Prop} (ha : PE X e (tE X.K b M ρ Φ)) (hr : PA X es (tAE X.K b M ρ Φs)) (hs : starEach (e :: es) X.env = (false, eval e X.env) :: starEach es X.env := by rfl) : PA X (e :: es) (tAE X.K b M ρ fun ds => ∃ d r, ds = d :: r ∧ Φ d ∧ Φs r) :=
  (pa_cons ha hr hs).imp fun σ H Q ⟨L, e, env, ow, k⟩ => ⟨L, e, env, ow, fun v H1 L1 d h1 g1 o1 r1 => ⟨L1, g1.sub, env.ex g1.lx, o1, fun vs H2 L2 ds h2 g2 o2 r2 => k _ H2 L2 _ ⟨d, ds, rfl, h1, h2⟩ (g1.tr g2) o2 (.cons (r1.ex g2.lx) r2)⟩⟩
/-- an operation -/
theorem e_op {op : Operator} {r : R2} (ho : OpR X (binaryOp op) r) (ha : PE X a (tE X.K b M ρ Φ)) (hb : PE X a2 (tE X.K b M ρ Ψ)) (hd : ∀ x y, Φ x → Ψ y → ∃ z, OpD X.K r x y z ∧ Θ z) : PE X (.BinOp a op a2 pos) (tE X.K b M ρ Θ) :=
  (pe_op ho ha hb).imp fun σ H Q ⟨L, e, env, ow, k⟩ => ⟨L, e, env, ow, fun v H1 L1 d1 h1 g1 o1 r1 => ⟨L1, g1.sub, env.ex g1.lx, o1, fun w H2 L2 d2 h2 g2 o2 r2 => by
    obtain ⟨z, hz, ht⟩ := hd d1 d2 h1 h2
    exact hz v w H2 L2 Q g2.sub (r1.ex g2.lx) r2 fun u H3 L3 g3 r3 => k u H3 L3 z ht ((g1.tr g2).tr g3.gx) (o2.go g3) r3⟩⟩
theorem te_cmp {op : CmpOp} {r : R2} {Θ : Bool → Prop} (ho : OpR X (compareOp op) r) (ha : PE X a (tE X.K b M ρ Φ)) (hb : PE X a2 (tE X.K b M ρ Ψ)) (hd : ∀ x y, Φ x → Ψ y → ∃ z, OpD X.K r x y (.bl z) ∧ Θ z) (hm : behindInMarks op a2 = false := by first | exact nomark _ | rfl) : PT X (.Compare a [op] [a2] pos) (tTE X.K b M ρ Θ) :=
  (pt_cmpR ho ha hb hm).imp fun σ H Q ⟨L, e, env, ow, k⟩ => ⟨L, e, env, ow, fun v H1 L1 d1 h1 g1 o1 r1 => ⟨L1, g1.sub, env.ex g1.lx, o1, fun w H2 L2 d2 h2 g2 o2 r2 => by
    obtain ⟨z, hz, ht⟩ := hd d1 d2 h1 h2
    exact hz v w H2 L2 _ g2.sub (r1.ex g2.lx) r2 fun u H3 L3 g3 r3 => ⟨z, r3.bl_, k z H3 L3 ht ((g1.tr g2).tr g3.gx) (o2.go g3)⟩⟩⟩
/-- l[i] of a list -/
theorem e_ix (ha : PE X a (tE X.K b M ρ Φ)) (hb : PE X a2 (tE X.K b M ρ Ψ)) (hd : ∀ x y, Φ x → Ψ y → ∃ (l : List D) (i : Int) (z : D), x = .lst l ∧ y = .int i ∧ atI l i = some z ∧ Θ z) (hs : PlainIx a2 := by exact fun _ _ => rfl) : PE X (.Subscript a a2 pos) (tE X.K b M ρ Θ) :=
  (pe_ix ix_list ha hb hs).imp fun σ H Q ⟨L, e, env, ow, k⟩ => ⟨L, e, env, ow, fun v H1 L1 d1 h1 g1 o1 r1 => ⟨L1, g1.sub, env.ex g1.lx, o1, fun w H2 L2 d2 h2 g2 o2 r2 => by
    obtain ⟨l, i, z, rfl, rfl, hz, ht⟩ := hd d1 d2 h1 h2
    obtain ⟨q, xs, rfl, hq, rl, _⟩ := r1.lst_
    obtain rfl := r2.int_
    obtain ⟨u, hu, ru⟩ := at_rep rl hz
    refine ⟨q, xs, i, u, rfl, rfl, .inl ?_, hu, k u H2 L2 z ht (g1.tr g2) o2 (ru.ex g2.lx)⟩
    exact .inl (g2.sub _ _ (g2.lx _ _ hq))⟩⟩
theorem e_tup {x1 : Nat} {Φs : List D → Prop} (h : PA X es (tAE X.K b M ρ Φs)) (hl : ∀ ds, Φs ds → ds.length ≤ lim) : PE X (.Tuple es x1 pos) (tE X.K b M ρ fun d => ∃ ds, d = .tup ds ∧ Φs ds) :=
  (pe_tup h).imp fun σ H Q ⟨L, e, env, ow, k⟩ => ⟨L, e, env, ow, fun vs H1 L1 ds h1 g1 o1 r1 => ⟨by rw [r1.len]; exact lim_le (hl ds h1), fun p hp => by
    have g2 := Go.new (o := .tup vs) g1.sub hp
    exact k _ _ _ _ ⟨ds, rfl, h1⟩ (g1.tr g2.gx) (o1.go g2) (.tup upd_same (r1.ex g2.lx) (hl ds h1))⟩⟩
theorem e_lst {Φs : List D → Prop} (h : PA X es (tAE X.K b M ρ Φs)) (hl : ∀ ds, Φs ds → ds.length ≤ lim) : PE X (.List es pos) (tE X.K b M ρ fun d => ∃ ds, d = .lst ds ∧ Φs ds) :=
  (pe_lst h).imp fun σ H Q ⟨L, e, env, ow, k⟩ => ⟨L, e, env, ow, fun vs H1 L1 ds h1 g1 o1 r1 => ⟨by rw [r1.len]; exact lim_le (hl ds h1), fun p hp => by
    have g2 := Go.new (o := .lst vs) g1.sub hp
    exact k _ _ _ _ ⟨ds, rfl, h1⟩ (g1.tr g2.gx) (o1.go g2) (.lst upd_same (r1.ex g2.lx) (hl ds h1))⟩⟩
/-- a built-in's call -/
theorem e_f {x : Str} {id : String} {r : List V → Hp → VK → Prop} {Φs : List D → Prop} (hc : CallR X (.builtin id) r) (hv : bootBuiltins x = some (.builtin id)) (hm : X.mg x = none) (ha : PA X (e :: es) (tAE X.K b M ρ Φs)) (hd : ∀ ds, Φs ds → ∃ z, CallD X.K r ds z ∧ Θ z) (hg : Gl X x := by rfl) (hn : x ≠ "__name__" := by decide) (hdb : (x == ("__debug__" : Str)) = false := by decide)
    (he : starEach (e :: es) X.env = (false, eval e X.env) :: starEach es X.env := by rfl) (hpl : (backTo pos (starEach es X.env)).any (·.1) = false := by rfl) : PE X (.Call (.Name x p) (e :: es) [] pos) (tE X.K b M ρ Θ) :=
  (pe_callB hc hg hm hv ha hn hdb he hpl).imp fun σ H Q ⟨L, e, env, ow, k⟩ => ⟨L, e, env, ow, fun vs H1 L1 ds h1 g1 o1 r1 => by
    obtain ⟨z, hz, ht⟩ := hd ds h1
    exact hz vs H1 L1 Q g1.sub r1 fun u H2 L2 g2 r2 => k u H2 L2 z ht (g1.tr g2.gx) (o1.go g2) r2⟩
theorem e_ty {x : Str} {id : String} {r : List V → Hp → VK → Prop} {Φs : List D → Prop} (hc : CallR X (.type id) r) (hv : bootBuiltins x = some (.type id)) (hm : X.mg x = none) (ha : PA X (e :: es) (tAE X.K b M ρ Φs)) (hd : ∀ ds, Φs ds → ∃ z, CallD X.K r ds z ∧ Θ z) (hg : Gl X x := by rfl) (hn : x ≠ "__name__" := by decide) (hdb : (x == ("__debug__" : Str)) = false := by decide)
    (he : starEach (e :: es) X.env = (false, eval e X.env) :: starEach es X.env := by rfl) (hpl : (backTo pos (starEach es X.env)).any (·.1) = false := by rfl) : PE X (.Call (.Name x p) (e :: es) [] pos) (tE X.K b M ρ Θ) :=
  (pe_callTy hc hg hm hv ha hn hdb he hpl).imp fun σ H Q ⟨L, e, env, ow, k⟩ => ⟨L, e, env, ow, fun vs H1 L1 ds h1 g1 o1 r1 => by
    obtain ⟨z, hz, ht⟩ := hd ds h1
    exact hz vs H1 L1 Q g1.sub r1 fun u H2 L2 g2 r2 => k u H2 L2 z ht (g1.tr g2.gx) (o1.go g2) r2⟩
/-! tests -/
variable {Φb Ψb : Bool → Prop}
theorem te_im (h : PT X e (tTE X.K b M ρ Φb)) (i : ∀ c, Φb c → Ψb c) : PT X e (tTE X.K b M ρ Ψb) := h.imp fun σ H Q ⟨L, e, env, ow, k⟩ => ⟨L, e, env, ow, fun v H' L' h => k v H' L' (i v h)⟩
theorem te_v (h : PE X a (tE X.K b M ρ Φ)) (hb : ∀ d, Φ d → ∃ c, d = .bl c ∧ Φb c) (he : ∀ whole, isTrue a X.env whole = (do let v ← whole; standAt a.pos; holding [v] (truthy v)) := by intro _; rfl) : PT X a (tTE X.K b M ρ Φb) :=
  (pt_val h he).imp fun σ H Q ⟨L, e, env, ow, k⟩ => ⟨L, e, env, ow, fun v H' L' d hd g o r => by
    obtain ⟨c, rfl, hc⟩ := hb d hd
    exact ⟨c, r.bl_, k c H' L' hc g o⟩⟩
theorem te_not (h : PT X a (tTE X.K b M ρ Φb)) : PT X (.UnaryOp .Not a pos) (tTE X.K b M ρ fun c => Φb (!c)) := (pt_not h).imp fun σ H Q ⟨L, e, env, ow, k⟩ => ⟨L, e, env, ow, fun c H' L' hc g o => k (!c) H' L' (show Φb (!!c) by rw [Bool.not_not]; exact hc) g o⟩
theorem we_and1 (h : PT X a (tTE X.K b M ρ Φb)) : PW X (.BoolOp .And [a] pos) (tTE X.K b M ρ Φb) := pw_and1 h
theorem we_or1 (h : PT X a (tTE X.K b M ρ Φb)) : PW X (.BoolOp .Or [a] pos) (tTE X.K b M ρ Φb) := pw_or1 h
theorem we_and {q : List Expr} {a3 : Expr} (h : PT X a (tTE X.K b M ρ Φb)) (h2 : PW X (.BoolOp .And (a3 :: q) pos) (tTE X.K b M ρ Ψb)) : PW X (.BoolOp .And (a :: a3 :: q) pos) (tTE X.K b M ρ fun c => (Φb false ∧ c = false) ∨ (Φb true ∧ Ψb c)) :=
  (pw_and h h2).imp fun σ H Q ⟨L, e, env, ow, k⟩ => ⟨L, e, env, ow, fun c H1 L1 hc g1 o1 => by
    cases c with
    | true => exact iteT ⟨L1, g1.sub, env.ex g1.lx, o1, fun c2 H2 L2 h2 g2 o2 => k c2 H2 L2 (.inr ⟨hc, h2⟩) (g1.tr g2) o2⟩
    | false => exact iteF (k false H1 L1 (.inl ⟨hc, rfl⟩) g1 o1)⟩
theorem we_or {q : List Expr} {a3 : Expr} (h : PT X a (tTE X.K b M ρ Φb)) (h2 : PW X (.BoolOp .Or (a3 :: q) pos) (tTE X.K b M ρ Ψb)) : PW X (.BoolOp .Or (a :: a3 :: q) pos) (tTE X.K b M ρ fun c => (Φb true ∧ c = true) ∨ (Φb false ∧ Ψb c)) :=
  (pw_or h h2).imp fun σ H Q ⟨L, e, env, ow, k⟩ => ⟨L, e, env, ow, fun c H1 L1 hc g1 o1 => by
    cases c with
    | false => exact iteF ⟨L1, g1.sub, env.ex g1.lx, o1, fun c2 H2 L2 h2 g2 o2 => k c2 H2 L2 (.inr ⟨hc, h2⟩) (g1.tr g2) o2⟩
    | true => exact iteT (k true H1 L1 (.inl ⟨hc, rfl⟩) g1 o1)⟩
theorem e_if {c0 : Expr} (h : PT X c0 (tTE X.K b M ρ Φb)) (h1 : Φb true → PE X a (tE X.K b M ρ Φ)) (h2 : Φb false → PE X a2 (tE X.K b M ρ Φ)) : PE X (.IfExp c0 a a2 pos) (tE X.K b M ρ Φ) := by
  have w1 : PE X a (fun σ H Q => Φb true ∧ tE X.K b M ρ Φ σ H Q) := PE.onlyif h1
  have w2 : PE X a2 (fun σ H Q => Φb false ∧ tE X.K b M ρ Φ σ H Q) := PE.onlyif h2
  refine (pe_ifExp h w1 w2).imp fun σ H Q ⟨L, e, env, ow, k⟩ => ⟨L, e, env, ow, fun c H1 L1 hc g1 o1 => ?_⟩
  cases c with
  | true => exact iteT ⟨hc, L1, g1.sub, env.ex g1.lx, o1, fun v H2 L2 d h2 g2 => k v H2 L2 d h2 (g1.tr g2)⟩
  | false => exact iteF ⟨hc, L1, g1.sub, env.ex g1.lx, o1, fun v H2 L2 d h2 g2 => k v H2 L2 d h2 (g1.tr g2)⟩
/-! ### statements -/
theorem c_im (h : PSs X rest (tW X.K b M ρ Ω)) (i : ∀ o, Ω o → Ω1 o) : PSs X rest (tW X.K b M ρ Ω1) := h.imp fun E σ H ⟨L, e, env, ow, k⟩ => ⟨L, e, env, ow, fun o h => k o (i o h)⟩
theorem c_imS (h : PS X st (tW X.K b M ρ Ω)) (i : ∀ o, Ω o → Ω1 o) : PS X st (tW X.K b M ρ Ω1) := h.imp fun E σ H ⟨L, e, env, ow, k⟩ => ⟨L, e, env, ow, fun o h => k o (i o h)⟩
theorem c_nil (h : Ω (.nxt ρ M)) : PSs X [] (tW X.K b M ρ Ω) := pss_nil.imp fun E σ H ⟨L, e, env, ow, k⟩ => k _ h σ H L (Gs.rf e) ow env
/-- a pure statement -/
theorem w_p (h : PS X st (tS X.K ρ (.nxt ρ1))) : PS X st (tW X.K b M ρ (· = .nxt ρ1 M)) := h.imp fun E σ H ⟨L, e, env, ow, k⟩ => ⟨L, e, env, fun σ1 H1 L1 g env1 => k _ rfl σ1 H1 L1 g.gx.gs (ow.go g) env1⟩
theorem w_pr (h : PS X st (tS X.K ρ (.ret d))) : PS X st (tW X.K b M ρ (· = .ret d)) := h.imp fun E σ H ⟨L, e, env, ow, k⟩ => ⟨L, e, env, fun v H1 L1 g r => k _ rfl v H1 L1 g.gx.gs.drop (ow.go g).nil r⟩
theorem w_ps (h : PSs X rest (tS X.K ρ (.nxt ρ1))) : PSs X rest (tW X.K b M ρ (· = .nxt ρ1 M)) := h.imp fun E σ H ⟨L, e, env, ow, k⟩ => ⟨L, e, env, fun σ1 H1 L1 g env1 => k _ rfl σ1 H1 L1 g.gx.gs (ow.go g) env1⟩
theorem w_prs (h : PSs X rest (tS X.K ρ (.ret d))) : PSs X rest (tW X.K b M ρ (· = .ret d)) := h.imp fun E σ H ⟨L, e, env, ow, k⟩ => ⟨L, e, env, fun v H1 L1 g r => k _ rfl v H1 L1 g.gx.gs.drop (ow.go g).nil r⟩
theorem c_cons (h : PS X st (tW X.K b M ρ Ω1)) (h2 : ∀ ρ1 M1, Ω1 (.nxt ρ1 M1) → PSs X rest (tW X.K b M1 ρ1 Ω)) (h3 : ∀ o, (∀ ρ1 M1, o ≠ .nxt ρ1 M1) → Ω1 o → Ω o) : PSs X (st :: rest) (tW X.K b M ρ Ω) := by
  have w : PSs X rest (fun E σ H => ∃ q : { q : En × Mem // Ω1 (.nxt q.1 q.2) }, tW X.K b q.1.2 q.1.1 Ω E σ H) := PSs.any fun q => h2 _ _ q.2
  refine (pss_cons h w).imp fun E σ H ⟨L, e, env, ow, k⟩ => ⟨L, e, env, ow, fun o ho => ?_⟩
  cases o with
  | nxt ρ1 M1 => exact fun σ1 H1 L1 g1 o1 env1 => ⟨⟨(ρ1, M1), ho⟩, L1, g1.sub, env1, o1, fun o2 h => OuK.go g1 (k o2 h)⟩
  | ret d => exact k _ (h3 _ (fun _ _ e => by cases e) ho)
  | rtn d => exact k _ (h3 _ (fun _ _ e => by cases e) ho)
  | rem d M' => exact k _ (h3 _ (fun _ _ e => by cases e) ho)
/-- a statement that goes on for sure -/
theorem c1 (h : PS X st (tW X.K b M ρ (· = .nxt ρ1 M1))) (h2 : PSs X rest (tW X.K b M1 ρ1 Ω)) : PSs X (st :: rest) (tW X.K b M ρ Ω) := c_cons h (fun _ _ e => by cases e; exact h2) (fun _ n e => absurd e (n _ _))
theorem c_p (h : PS X st (tS X.K ρ (.nxt ρ1))) (h2 : PSs X rest (tW X.K b M ρ1 Ω)) : PSs X (st :: rest) (tW X.K b M ρ Ω) := c1 (w_p h) h2
theorem c_last (h : PS X st (tW X.K b M ρ Ω)) (h1 : ∀ ρ1 M1, ¬ Ω (.nxt ρ1 M1)) : PSs X (st :: rest) (tW X.K b M ρ Ω) := c_cons h (fun _ _ e => absurd e (h1 _ _)) (fun _ _ e => e)
theorem c_one (h : PS X st (tW X.K b M ρ Ω)) : PSs X [st] (tW X.K b M ρ Ω) := pss_one h
theorem w_ret (h : PE X e (tE X.K b M ρ Φ)) : PS X (.Return (some e) pos) (tW X.K b M ρ fun o => ∃ d, Φ d ∧ o = .ret d) := (ps_ret h).imp fun E σ H ⟨L, e, env, ow, k⟩ => ⟨L, e, env, ow, fun v H1 L1 d h g o r => k _ ⟨d, h, rfl⟩ v H1 L1 g.gs.drop o.nil r⟩
theorem w_expr (h : PE X e (tE X.K b M ρ Φ)) (hs : swapsWith e none pos.line X.env = pure false := by rfl) : PS X (.Expr e pos) (tW X.K b M ρ (· = .nxt ρ M)) := (ps_expr h hs).imp fun E σ H ⟨L, e, env, ow, k⟩ => ⟨L, e, env, ow, fun v H1 L1 d h g o _ => k _ rfl σ H1 L1 g.gs o (env.ex g.lx)⟩
theorem w_set (i : Nat) {x : Str} {pos' : Pos} (hN : X.N.Nodup) (h : PE X e (tE X.K b M ρ Φ)) (hi : X.N[i]? = some x := by rfl) (hx : Loc X.env.scope x := by first | exact .inl rfl | exact .inr rfl) (hs : swapsWith e (some (.Name x pos')) pos.line X.env = pure false := by rfl) (hf : X.fn x = true ∨ X.env.scope.names.lookup x = some .local := by first | exact .inl rfl | exact .inr rfl | assumption) :
    PS X (.Assign [.Name x pos'] e pos) (tW X.K b M ρ fun o => ∃ d, Φ d ∧ o = .nxt (ρ.set i (some d)) M) := (ps_set hN hi hx h hs hf).imp fun E σ H ⟨L, e, env, ow, k⟩ => ⟨L, e, env, ow, fun v H1 L1 d h g o r => k _ ⟨d, h, rfl⟩ _ H1 L1 g.gs o ((env.ex g.lx).set r)⟩
/-- x = e, then the rest, by the value -/
theorem c_set (i : Nat) {x : Str} {pos' : Pos} (hN : X.N.Nodup) (h : PE X e (tE X.K b M ρ Φ)) (h2 : ∀ d, Φ d → PSs X rest (tW X.K b M (ρ.set i (some d)) Ω)) (hi : X.N[i]? = some x := by rfl) (hx : Loc X.env.scope x := by first | exact .inl rfl | exact .inr rfl) (hs : swapsWith e (some (.Name x pos')) pos.line X.env = pure false := by rfl) (hf : X.fn x = true ∨ X.env.scope.names.lookup x = some .local := by first | exact .inl rfl | exact .inr rfl | assumption) :
    PSs X (.Assign [.Name x pos'] e pos :: rest) (tW X.K b M ρ Ω) := c_cons (w_set i hN h hi hx hs hf) (fun _ _ ⟨d, hd, e⟩ => by cases e; exact h2 d hd) (fun o n h => by obtain ⟨d, hd, e⟩ := h; exact absurd e (n _ _))
theorem w_if (h : PT X a (tTE X.K b M ρ Φb)) (h1 : Φb true → PSs X body (tW X.K b M ρ Ω)) (h2 : Φb false → PSs X els (tW X.K b M ρ Ω)) : PS X (.If a body els pos) (tW X.K b M ρ Ω) := by
  have w1 : PSs X body (fun E σ H => Φb true ∧ tW X.K b M ρ Ω E σ H) := PSs.onlyif h1
  have w2 : PSs X els (fun E σ H => Φb false ∧ tW X.K b M ρ Ω E σ H) := PSs.onlyif h2
  refine (ps_if h w1 w2).imp fun E σ H ⟨L, e, env, ow, k⟩ => ⟨L, e, env, ow, fun c H1 L1 hc g1 o1 => ?_⟩
  cases c with
  | true => exact iteT ⟨hc, L1, g1.sub, env.ex g1.lx, o1, fun o ho => OuK.go g1.gs (k o ho)⟩
  | false => exact iteF ⟨hc, L1, g1.sub, env.ex g1.lx, o1, fun o ho => OuK.go g1.gs (k o ho)⟩
/-- if c: (leaves), then the rest -/
theorem c_grd (h : PT X a (tTE X.K b M ρ Φb)) (h1 : Φb true → PSs X body (tW X.K b M ρ Ω)) (h2 : Φb false → PSs X rest (tW X.K b M ρ Ω)) (hn : ∀ ρ1 M1, ¬ Ω (.nxt ρ1 M1)) : PSs X (.If a body [] pos :: rest) (tW X.K b M ρ Ω) :=
  c_cons (Ω1 := fun o => ((∀ ρ1 M1, o ≠ .nxt ρ1 M1) ∧ Ω o) ∨ (Φb false ∧ o = .nxt ρ M)) (w_if h (fun q => c_im (h1 q) fun o ho => .inl ⟨fun ρ1 M1 e => hn _ _ (e ▸ ho), ho⟩) fun q => c_nil (.inr ⟨q, rfl⟩)) (fun _ _ q => by
      rcases q with ⟨e, _⟩ | ⟨q, e⟩
      · exact absurd rfl (e _ _)
      · cases e; exact h2 q) (fun o n q => by
      rcases q with ⟨e, h⟩ | ⟨q, e⟩
      · exact h
      · exact absurd e (n _ _))
end
end K51
end
section
set_option Elab.async false
set_option linter.all false
set_option maxRecDepth 100000
/-! Owned objects: new ones, changes, release, borrow; loops; defs of this world. -/
namespace K51
open PySem PySem.Spec PyProof.Rows L2
section
variable {K : PySem.W.Frag} {b : Option Addr} {M M1 M' : Mem} {H L H1 L1 H2 H' L' : Hp} {q : Addr} {d d' : D} {j : Nat} {u : HO}
theorem set_self {α : Type} {l : List α} {i : Nat} {v : α} (h : l[i]? = some v) : l.set i v = l := by
  apply List.ext_getElem?
  intro j
  rw [List.getElem?_set]
  split
  · next e =>
    subst e
    rw [if_pos (List.getElem?_eq_some_iff.mp h).1, h]
  · rfl
theorem mem_ks {p : Addr × D} (h : p ∈ M) : p.1 ∈ M.ks := List.mem_map.mpr ⟨p, h, rfl⟩
theorem ks_set (hj : M[j]? = some (q, d)) : Mem.ks (M.set j (q, d')) = M.ks := by
  unfold Mem.ks
  rw [List.map_set]
  apply List.ext_getElem?
  intro i
  rw [List.getElem?_set]
  split
  · next e =>
    subst e
    rw [List.getElem?_map, hj, List.length_map]
    split
    · rfl
    · next n => exact absurd (List.getElem?_eq_some_iff.mp hj).1 n
  · rfl
theorem mem_set {p : Addr × D} (h : p ∈ M.set j (q, d')) : p = (q, d') ∨ ∃ i, i ≠ j ∧ M[i]? = some p := by
  obtain ⟨i, hi⟩ := List.getElem?_of_mem h
  rw [List.getElem?_set] at hi
  split at hi
  · split at hi
    · exact .inl (Option.some.inj hi).symm
    · cases hi
  · next n => exact .inr ⟨i, fun e => n e.symm, hi⟩
theorem nd_ne (o : Ow K b M L H) {i : Nat} {p : Addr × D} (hj : M[j]? = some (q, d)) (hi : M[i]? = some p) (n : i ≠ j) : p.1 ≠ q := fun e => by
  have h1 : M.ks[i]? = some q := by unfold Mem.ks; rw [List.getElem?_map, hi, ← e]; rfl
  have h2 : M.ks[j]? = some q := by unfold Mem.ks; rw [List.getElem?_map, hj]; rfl
  have hi' : i < M.ks.length := (List.getElem?_eq_some_iff.mp h1).1
  exact n ((List.getElem?_inj hi' o.nd).mp (h1.trans h2.symm))
/-- what is owned is changed -/
theorem Ow.put (e : Ex L H) (o : Ow K b M L H) (hj : M[j]? = some (q, d)) (hs : Sh K L (upd H q u) q d') : Ow K b (M.set j (q, d')) L (upd H q u) ∧ Gs b M H L (M.set j (q, d')) (upd H q u) L ∧ Ex L (upd H q u) := by
  have hm : (q, d) ∈ M := List.mem_of_getElem? hj
  have lq : L q = none := o.un _ hm
  have hq : H q ≠ none := (o.sh _ hm).ne
  have ex : Ex L (upd H q u) := fun a v h => by rw [upd_ne (ne_of_none h lq)]; exact e a v h
  refine ⟨⟨by rw [ks_set hj]; exact o.nd, fun p hp => ?_, fun p hp => ?_, fun c hc => ?_⟩, ⟨fun a v _ n h => ?_, Ex.rf, ex, fun _ _ _ => rfl, fun a n => ?_, fun a h => ?_⟩, ex⟩
  · rcases mem_set hp with e | ⟨i, n, hi⟩
    · rw [e]; exact lq
    · exact o.un _ (List.mem_of_getElem? hi)
  · rcases mem_set hp with e | ⟨i, n, hi⟩
    · rw [e]; exact hs
    · exact (o.sh _ (List.mem_of_getElem? hi)).go Ex.rf (upd_ne (nd_ne o hj hi n))
  · obtain ⟨h1, h2, h3⟩ := o.bg c hc
    exact ⟨h1, h2.go Ex.rf (upd_ne fun z => h3 (z ▸ mem_ks hm)), by rw [ks_set hj]; exact h3⟩
  · rw [upd_ne (show a ≠ q from fun z => n (z ▸ mem_ks hm))]; exact h
  · by_cases z : a = q
    · rw [z, upd_same]; exact nofun
    · rw [upd_ne z]; exact n
  · rw [ks_set hj] at h; exact .inl h
/-- a new one is owned -/
theorem Ow.add (o : Ow K b M L' H') (g : Gx b H L H' L') (hn : H q = none) (lq : L' q = none) (ob : ∀ p ∈ M, H p.1 ≠ none) (obb : ∀ c, b = some c → H c ≠ none) (hs : Sh K L' H' q d) : Ow K b ((q, d) :: M) L' H' ∧ Gs b M H L ((q, d) :: M) H' L' := by
  have nq : q ∉ M.ks := fun z => by
    obtain ⟨p, hp, e⟩ := List.mem_map.mp z
    exact ob p hp (e ▸ hn)
  refine ⟨⟨List.nodup_cons.mpr ⟨nq, o.nd⟩, fun p hp => ?_, fun p hp => ?_, fun c hc => ?_⟩, ⟨fun a v n _ h => g.ex a v n h, g.lx, g.sub, fun a n _ => g.old a n, g.dom, fun a h => ?_⟩⟩
  · rcases List.mem_cons.mp hp with e | e
    · rw [e]; exact lq
    · exact o.un p e
  · rcases List.mem_cons.mp hp with e | e
    · rw [e]; exact hs
    · exact o.sh p e
  · obtain ⟨h1, h2, h3⟩ := o.bg c hc
    exact ⟨h1, h2, fun z => (List.mem_cons.mp z).elim (fun e => obb c hc (e ▸ hn)) h3⟩
  · rcases List.mem_cons.mp h with e | e
    · exact .inr (e ▸ hn)
    · exact .inl e
theorem Ow.there (o : Ow K b M L H) : (∀ p ∈ M, H p.1 ≠ none) ∧ ∀ c, b = some c → H c ≠ none := ⟨fun p hp => (o.sh p hp).ne, fun c hc => (o.bg c hc).2.1.ne⟩
/-- what is owned becomes known -/
theorem Ow.rel {v : HO} (e : Ex L H) (o : Ow K b M L H) (hj : M[j]? = some (q, d)) : Ow K b (M.eraseIdx j) (upd L q v) (upd H q v) ∧ Gs b M H L (M.eraseIdx j) (upd H q v) (upd L q v) := by
  have hm : (q, d) ∈ M := List.mem_of_getElem? hj
  have lq : L q = none := o.un _ hm
  have sb : ∀ p ∈ M.eraseIdx j, p ∈ M ∧ p.1 ≠ q := fun p hp => by
    refine ⟨List.mem_of_mem_eraseIdx hp, fun z => ?_⟩
    have hj' : j < M.length := (List.getElem?_eq_some_iff.mp hj).1
    obtain ⟨i, hi⟩ := List.getElem?_of_mem hp
    rw [List.getElem?_eraseIdx] at hi
    split at hi
    · exact nd_ne o hj hi (by omega) z
    · exact nd_ne o hj hi (by omega) z
  have lx : Ex L (upd L q v) := ex_new lq
  refine ⟨⟨?_, fun p hp => ?_, fun p hp => ?_, fun c hc => ?_⟩, ⟨fun a x _ n h => ?_, lx, sub_new e, fun a _ n => ?_, fun a n => ?_, fun a h => ?_⟩⟩
  · exact List.Nodup.sublist ((List.eraseIdx_sublist M j).map _) o.nd
  · rw [upd_ne (sb p hp).2]; exact o.un p (sb p hp).1
  · exact (o.sh p (sb p hp).1).go lx (upd_ne (sb p hp).2)
  · obtain ⟨h1, h2, h3⟩ := o.bg c hc
    have cq : c ≠ q := fun z => h3 (z ▸ mem_ks hm)
    exact ⟨by rw [upd_ne cq]; exact h1, h2.go lx (upd_ne cq), fun z => by
      obtain ⟨p, hp, e⟩ := List.mem_map.mp z
      exact h3 (e ▸ mem_ks (sb p hp).1)⟩
  · rw [upd_ne (show a ≠ q from fun z => n (z ▸ mem_ks hm))]; exact h
  · rw [upd_ne (show a ≠ q from fun z => n (z ▸ mem_ks hm))]
  · by_cases z : a = q
    · rw [z, upd_same]; exact nofun
    · rw [upd_ne z]; exact n
  · obtain ⟨p, hp, e⟩ := List.mem_map.mp h
    exact .inl (e ▸ mem_ks (sb p hp).1)
end
section
variable {X : Cx} {b : Option Addr} {M M1 M' : Mem} {ρ ρ1 ρ' : En} {d x y z : D} {e a a2 : Expr} {es : List Expr} {pos p : Pos} {Φ Ψ Θ : D → Prop} {Ω Ω1 : Ou → Prop} {st : Stmt} {rest body els : List Stmt} {n k : Nat} {H L H1 L1 : Hp} {E : Ends} {o : Ou} {q : Addr}
/-! ### new ones -/
/-- an expression that makes a new list or dict -/
def tN (K : PySem.W.Frag) (b : Option Addr) (M : Mem) (ρ : En) (Φ : D → Prop) : TE := fun σ H Q => ∃ L, Ex L H ∧ EnvR K L σ ρ ∧ Ow K b M L H ∧ ∀ a H' L' d, Φ d → Gx b H L H' L' → Ow K b M L' H' → H a = none → L' a = none → Sh K L' H' a d → Q (.ref a) H'
theorem n_dict {t : List (Str × D)} (h : PE X e (tF X.K ρ t)) : PE X e (tN X.K b M ρ (· = .dct t)) := h.imp fun σ H Q ⟨L, e, env, ow, k⟩ => ⟨L, e, env, fun a H' L' kvs g ha la h1 r z => k a H' L' _ rfl g.gx (ow.go g) ha la (.dct h1 r z)⟩
theorem n_nil : PE X (.List [] pos) (tN X.K b M ρ (· = .lst [])) :=
  (pe_lst pa_nil).imp fun σ H Q ⟨L, e, env, ow, k⟩ => ⟨Nat.zero_le _, fun p hp => by
    have e2 : Ex L (upd H p (.lst [])) := fun a o h => by rw [upd_ne (ne_of_none (e a o h) hp)]; exact e a o h
    have g : Go H L (upd H p (.lst [])) L := ⟨ex_new hp, Ex.rf, e2, fun _ _ => rfl⟩
    exact k p _ L _ rfl g.gx (ow.go g) hp (free_sub e hp) (.lst upd_same .nil (Nat.zero_le _))⟩
/-- x = a new one, then the rest -/
theorem c_new (i : Nat) {x : Str} {pos' : Pos} (hN : X.N.Nodup) (h : PE X e (tN X.K b M ρ Φ)) (h2 : ∀ q d, Φ d → PSs X rest (tW X.K b ((q, d) :: M) (ρ.set i (some (.own q))) Ω)) (hi : X.N[i]? = some x := by rfl) (hx : Loc X.env.scope x := by first | exact .inl rfl | exact .inr rfl) (hs : swapsWith e (some (.Name x pos')) pos.line X.env = pure false := by rfl) (hf : X.fn x = true ∨ X.env.scope.names.lookup x = some .local := by first | exact .inl rfl | exact .inr rfl | assumption) :
    PSs X (.Assign [.Name x pos'] e pos :: rest) (tW X.K b M ρ Ω) :=
  c_cons (Ω1 := fun o => ∃ q d, Φ d ∧ o = .nxt (ρ.set i (some (.own q))) ((q, d) :: M)) ((ps_set hN hi hx h hs hf).imp fun E σ H ⟨L, e, env, ow, k⟩ => ⟨L, e, env, ow, fun a H1 L1 d hd g o1 ha la sh => by
    obtain ⟨o2, g2⟩ := o1.add g ha la ow.there.1 ow.there.2 sh
    exact k _ ⟨a, d, hd, rfl⟩ _ H1 L1 g2 o2 ((env.ex g.lx).set (.own a))⟩) (fun _ _ ⟨q, d, hd, e⟩ => by cases e; exact h2 q d hd) (fun o n h => by obtain ⟨q, d, hd, e⟩ := h; exact absurd e (n _ _))
/-- x, y = a new one, data -/
theorem c_parN (i j : Nat) {x y : Str} {px py pt : Pos} {kt k2 pt2} {d2 : D} (hN : X.N.Nodup) (h1 : PE X a (tN X.K b M ρ Φ)) (h2 : PE X a2 (tJ X.K ρ d2)) (h3 : ∀ q d, Φ d → PSs X rest (tW X.K b ((q, d) :: M) ((ρ.set i (some (.own q))).set j (some d2)) Ω))
    (hc : X.calm = true := by rfl) (hi : X.N[i]? = some x := by rfl) (hj : X.N[j]? = some y := by rfl) (hij : i ≠ j := by decide) (hx : X.env.scope.names.lookup x = some .local := by rfl) (hy : X.env.scope.names.lookup y = some .local := by rfl)
    (hw : swappedStores [.Tuple [.Name x px, .Name y py] kt pt] (.Tuple [a, a2] k2 pt2) X.env = pure (some [x, y]) := by rfl)
    (hs : swapsWithSole [.Tuple [.Name x px, .Name y py] kt pt] (.Tuple [a, a2] k2 pt2) pos.line X.env = pure false := by rfl)
    (he : starEach [a, a2] X.env = (false, eval a X.env) :: starEach [a2] X.env := by rfl) (he2 : starEach [a2] X.env = (false, eval a2 X.env) :: starEach [] X.env := by rfl) :
    PSs X (.Assign [.Tuple [.Name x px, .Name y py] kt pt] (.Tuple [a, a2] k2 pt2) pos :: rest) (tW X.K b M ρ Ω) :=
  c_cons (Ω1 := fun o => ∃ q d, Φ d ∧ o = .nxt ((ρ.set i (some (.own q))).set j (some d2)) ((q, d) :: M)) ((ps_par hc hN hi hj hij hx hy (pa_cons h1 (ja_cons h2 ja_nil he2) he) hw hs).imp fun E σ H ⟨L, e, env, ow, k⟩ => ⟨L, e, env, ow, fun v H1 L1 d hd g o1 hv la sh => ⟨L1, g.sub, env.ex g.lx, fun vs H2 L2 g2 r => by
    obtain ⟨w, vs3, rfl, r3, r4⟩ := r.cons_
    obtain rfl := r4.nil_
    have hv1 : H1 v ≠ none := sh.ne
    have sh2 : Sh X.K L2 H2 v d := sh.go g2.lx (by
      cases q : H1 v with
      | none => exact absurd q hv1
      | some u => exact g2.ex v u q)
    have la2 : L2 v = none := by rw [g2.old v hv1]; exact la
    obtain ⟨o2, g3⟩ := (o1.go g2).add (g.tr g2.gx) hv la2 ow.there.1 ow.there.2 sh2
    exact ⟨_, w, rfl, k _ ⟨v, d, hd, rfl⟩ _ H2 L2 g3 o2 ((((env.ex g.lx).ex g2.lx).set (.own v)).set r3)⟩⟩⟩) (fun _ _ ⟨q, d, hd, e⟩ => by cases e; exact h3 q d hd) (fun o n h => by obtain ⟨q, d, hd, e⟩ := h; exact absurd e (n _ _))
/-- x, y = data, a new one -/
theorem c_parM (i j : Nat) {x y : Str} {px py pt : Pos} {kt k2 pt2} {d1 : D} (hN : X.N.Nodup) (h1 : PE X a (tJ X.K ρ d1)) (h2 : PE X a2 (tN X.K b M ρ Φ)) (h3 : ∀ q d, Φ d → PSs X rest (tW X.K b ((q, d) :: M) ((ρ.set i (some d1)).set j (some (.own q))) Ω))
    (hc : X.calm = true := by rfl) (hi : X.N[i]? = some x := by rfl) (hj : X.N[j]? = some y := by rfl) (hij : i ≠ j := by decide) (hx : X.env.scope.names.lookup x = some .local := by rfl) (hy : X.env.scope.names.lookup y = some .local := by rfl)
    (hw : swappedStores [.Tuple [.Name x px, .Name y py] kt pt] (.Tuple [a, a2] k2 pt2) X.env = pure (some [x, y]) := by rfl)
    (hs : swapsWithSole [.Tuple [.Name x px, .Name y py] kt pt] (.Tuple [a, a2] k2 pt2) pos.line X.env = pure false := by rfl)
    (he : starEach [a, a2] X.env = (false, eval a X.env) :: starEach [a2] X.env := by rfl) (he2 : starEach [a2] X.env = (false, eval a2 X.env) :: starEach [] X.env := by rfl) :
    PSs X (.Assign [.Tuple [.Name x px, .Name y py] kt pt] (.Tuple [a, a2] k2 pt2) pos :: rest) (tW X.K b M ρ Ω) :=
  c_cons (Ω1 := fun o => ∃ q d, Φ d ∧ o = .nxt ((ρ.set i (some d1)).set j (some (.own q))) ((q, d) :: M)) ((ps_par hc hN hi hj hij hx hy (pa_cons h1 (pa_cons h2 pa_nil he2) he) hw hs).imp fun E σ H ⟨L, e, env, ow, k⟩ => ⟨L, e, env, fun w H1 L1 g r => ⟨L1, g.sub, env.ex g.lx, ow.go g, fun v H2 L2 d hd g2 o1 hv la sh => by
    have hv0 : H v = none := by
      cases q : H v with
      | none => rfl
      | some u => rw [g.ex v u q] at hv; cases hv
    obtain ⟨o2, g3⟩ := o1.add (g.gx.tr g2) hv0 la ow.there.1 ow.there.2 sh
    exact ⟨w, _, rfl, k _ ⟨v, d, hd, rfl⟩ _ H2 L2 g3 o2 ((((env.ex g.lx).ex g2.lx).set (r.ex g2.lx)).set (.own v))⟩⟩⟩) (fun _ _ ⟨q, d, hd, e⟩ => by cases e; exact h3 q d hd) (fun o n h => by obtain ⟨q, d, hd, e⟩ := h; exact absurd e (n _ _))
/-! ### changes -/
variable {apos : Pos} {j : Nat} {l : List D} {t : List (Str × D)}
/-- found.m(..) of an owned list, what it leaves told by R -/
theorem w_lm (i j : Nat) {m : Str} {id : String} {r : V → List V → Hp → VK → Prop} {Φs : List D → Prop} {R : D → Prop} (pa : PlainAttrs "list") (slot : Slot "list" m id) (hty : typeOf (.builtin id) = pure (.type "method_descriptor")) (hm : MtR X id r)
    (ho : PE X a (tJ X.K ρ (.own q))) (hM : M[j]? = some (q, .lst l)) (ha : PA X (e :: es) (tAE X.K b M ρ Φs)) (hd : ∀ ds, Φs ds → ∀ (vs : List V) (xs : List V) (H L : Hp) (Q : VK), Ex L H → L q = none → RepL X.K L vs ds → H q = some (.lst xs) → RepL X.K L xs l → (∀ u d, Sh X.K L (upd H q u) q d → R d → Q .non (upd H q u)) → r (.ref q) vs H Q)
    (hbase : attributeBase a m X.env (eval a X.env) = eval a X.env := by rfl)
    (hfew : ((backTo pos (starEach (e :: es) X.env)).all (fun x => !x.1) && (backToKw pos (keywordEach [] X.env)).all (fun x => x.1.isSome)
      && decide ((e :: es).length + ([] : List Keyword).length + (if ([] : List Keyword).isEmpty then 0 else 1) < 30)) = true := by rfl)
    (hline : (apos.endLine == pos.line) = true := by rfl) (hs : starEach (e :: es) X.env = (false, eval e X.env) :: starEach es X.env := by rfl) (hplain : (backTo pos (starEach es X.env)).any (·.1) = false := by rfl) {sp : Pos} (hsw : swapsWith (.Call (.Attribute a m apos) (e :: es) [] pos) none sp.line X.env = pure false := by rfl) :
    PS X (.Expr (.Call (.Attribute a m apos) (e :: es) [] pos) sp) (tW X.K b M ρ fun o => ∃ d, R d ∧ o = .nxt ρ (M.set j (q, d))) :=
  (ps_expr (pe_bm pa slot hty hm ho ha hbase hfew hline hs hplain) hsw).imp fun E σ H ⟨L, e, env, ow, k⟩ => ⟨L, e, env, fun v H1 L1 g1 r1 => by
    obtain rfl := r1.own_
    have ow1 := ow.go g1
    have sq : ∀ {L H : Hp}, Ow X.K b M L H → ∃ xs, H q = some (.lst xs) ∧ RepL X.K L xs l := fun o => by
      cases o.sh _ (List.mem_of_getElem? hM) with
      | lst h r z => exact ⟨_, h, r⟩
    obtain ⟨xs, hx, _⟩ := sq ow1
    refine ⟨.inl ⟨rfl, xs, SqL.of hx⟩, L1, g1.sub, env.ex g1.lx, ow1, fun vs H2 L2 ds hds g2 o2 r2 => ?_⟩
    obtain ⟨ys, hy, ry⟩ := sq o2
    refine hd ds hds vs ys H2 L2 _ g2.sub (o2.un _ (List.mem_of_getElem? hM)) r2 hy ry fun u d hs hR => ?_
    obtain ⟨o3, g3, _⟩ := o2.put g2.sub hM hs
    exact k _ ⟨d, hR, rfl⟩ σ _ L2 ((g1.gx.tr g2).gs.tr g3) o3 ((env.ex g1.lx).ex g2.lx)⟩
theorem repL_upd {K : PySem.W.Frag} {vs : List V} (r : RepL K L vs l) : RepL K L vs l := r
/-- found.append(e) -/
theorem w_app (i j : Nat) (ho : PE X a (tJ X.K ρ (.own q))) (hM : M[j]? = some (q, .lst l)) (ha : PE X e (tE X.K b M ρ Φ)) (hz : l.length + 1 ≤ lim)
    (hbase : attributeBase a "append" X.env (eval a X.env) = eval a X.env := by rfl)
    (hfew : ((backTo pos (starEach [e] X.env)).all (fun x => !x.1) && (backToKw pos (keywordEach [] X.env)).all (fun x => x.1.isSome)
      && decide ([e].length + ([] : List Keyword).length + (if ([] : List Keyword).isEmpty then 0 else 1) < 30)) = true := by rfl)
    (hline : (apos.endLine == pos.line) = true := by rfl) (hs : starEach [e] X.env = (false, eval e X.env) :: starEach [] X.env := by rfl) (hplain : (backTo pos (starEach [] X.env)).any (·.1) = false := by rfl) {sp : Pos} (hsw : swapsWith (.Call (.Attribute a "append" apos) [e] [] pos) none sp.line X.env = pure false := by rfl) :
    PS X (.Expr (.Call (.Attribute a "append" apos) [e] [] pos) sp) (tW X.K b M ρ fun o => ∃ d, (∃ w, Φ w ∧ d = .lst (l ++ [w])) ∧ o = .nxt ρ (M.set j (q, d))) :=
  w_lm i j PySem.F.plainAttrs_list PySem.F.slot_list_append PySem.F.type_list_append mt_append ho hM (ae_cons ha ae_nil hs) (fun ds ⟨w, r, e, hw, hr⟩ vs xs H L Q ex lq rv hx rx k => by
    subst e; subst hr
    obtain ⟨v, vs2, rfl, r1, r2⟩ := rv.cons_
    obtain rfl := r2.nil_
    refine ⟨q, xs, v, rfl, rfl, hx, by rw [rx.len]; exact lim_lt (by omega), k _ _ (.lst upd_same (rx.app (.one r1)) (by rw [List.length_append, List.length_singleton]; exact hz)) ⟨w, hw, rfl⟩⟩) hbase hfew hline hs hplain hsw
/-- found.extend(e), e a list -/
theorem w_ext (i j : Nat) {m : List D} (ho : PE X a (tJ X.K ρ (.own q))) (hM : M[j]? = some (q, .lst l)) (ha : PE X e (tJ X.K ρ (.lst m))) (hz : l.length + m.length ≤ lim)
    (hbase : attributeBase a "extend" X.env (eval a X.env) = eval a X.env := by rfl)
    (hfew : ((backTo pos (starEach [e] X.env)).all (fun x => !x.1) && (backToKw pos (keywordEach [] X.env)).all (fun x => x.1.isSome)
      && decide ([e].length + ([] : List Keyword).length + (if ([] : List Keyword).isEmpty then 0 else 1) < 30)) = true := by rfl)
    (hline : (apos.endLine == pos.line) = true := by rfl) (hs : starEach [e] X.env = (false, eval e X.env) :: starEach [] X.env := by rfl) (hplain : (backTo pos (starEach [] X.env)).any (·.1) = false := by rfl) {sp : Pos} (hsw : swapsWith (.Call (.Attribute a "extend" apos) [e] [] pos) none sp.line X.env = pure false := by rfl) :
    PS X (.Expr (.Call (.Attribute a "extend" apos) [e] [] pos) sp) (tW X.K b M ρ (· = .nxt ρ (M.set j (q, .lst (l ++ m))))) :=
  c_imS (w_lm i j (R := fun d => d = .lst (l ++ m)) PySem.F.plainAttrs_list PySem.F.slot_list_extend PySem.F.type_list_extend mt_extend ho hM (ae_of (ja_cons ha ja_nil hs)) (fun ds e vs xs H L Q ex lq rv hx rx k => by
    subst e
    obtain ⟨v, vs2, rfl, r1, r2⟩ := rv.cons_
    obtain rfl := r2.nil_
    obtain ⟨c, ys, rfl, hc, ry, _⟩ := r1.lst_
    refine ⟨q, c, xs, ys, rfl, rfl, hx, ex _ _ hc, by rw [rx.len, ry.len]; exact lim_le hz, k _ _ (.lst upd_same (rx.app ry) (by rw [List.length_append]; exact hz)) rfl⟩) hbase hfew hline hs hplain hsw) fun o ⟨d, e, h⟩ => by rw [h, e]
/-- found.insert(i, e) -/
theorem w_ins (i j : Nat) {Ψi : D → Prop} (ho : PE X a (tJ X.K ρ (.own q))) (hM : M[j]? = some (q, .lst l)) (h1 : PE X e (tE X.K b M ρ Ψi)) (h2 : PE X a2 (tE X.K b M ρ Φ)) (hi : ∀ d, Ψi d → ∃ n : Nat, d = .int n ∧ n ≤ lim) (hz : l.length + 1 ≤ lim)
    (hbase : attributeBase a "insert" X.env (eval a X.env) = eval a X.env := by rfl)
    (hfew : ((backTo pos (starEach [e, a2] X.env)).all (fun x => !x.1) && (backToKw pos (keywordEach [] X.env)).all (fun x => x.1.isSome)
      && decide ([e, a2].length + ([] : List Keyword).length + (if ([] : List Keyword).isEmpty then 0 else 1) < 30)) = true := by rfl)
    (hline : (apos.endLine == pos.line) = true := by rfl) (hs : starEach [e, a2] X.env = (false, eval e X.env) :: starEach [a2] X.env := by rfl) (hs2 : starEach [a2] X.env = (false, eval a2 X.env) :: starEach [] X.env := by rfl) (hplain : (backTo pos (starEach [a2] X.env)).any (·.1) = false := by rfl) {sp : Pos} (hsw : swapsWith (.Call (.Attribute a "insert" apos) [e, a2] [] pos) none sp.line X.env = pure false := by rfl) :
    PS X (.Expr (.Call (.Attribute a "insert" apos) [e, a2] [] pos) sp) (tW X.K b M ρ fun o => ∃ (n : Nat) (w : D), Ψi (.int n) ∧ Φ w ∧ o = .nxt ρ (M.set j (q, .lst (l.take n ++ [w] ++ l.drop n)))) :=
  c_imS (w_lm i j (R := fun d => ∃ (n : Nat) (w : D), Ψi (.int n) ∧ Φ w ∧ d = .lst (l.take n ++ [w] ++ l.drop n)) PySem.F.plainAttrs_list PySem.F.slot_list_insert PySem.F.type_list_insert mt_insert ho hM (ae_cons h1 (ae_cons h2 ae_nil hs2) hs) (fun ds ⟨dn, r, e, hn, w, r', e', hw, hr⟩ vs xs H L Q ex lq rv hx rx k => by
    subst e; subst e'; subst hr
    obtain ⟨n, rfl, hnl⟩ := hi dn hn
    obtain ⟨v, vs2, rfl, r1, r2⟩ := rv.cons_
    obtain ⟨v2, vs3, rfl, r3, r4⟩ := r2.cons_
    obtain rfl := r4.nil_
    obtain rfl := r1.int_
    refine ⟨q, xs, n, v2, rfl, rfl, hx, by rw [rx.len]; exact lim_lt (by omega), Int.natCast_nonneg n, Int.lt_of_le_of_lt (Int.ofNat_le.mpr hnl) (by decide), k _ _ (.lst upd_same (((rx.take n).app (.one r3)).app (rx.drop n)) ?_) ⟨n, w, hn, hw, rfl⟩⟩
    rw [List.length_append, List.length_append, List.length_take, List.length_drop, List.length_singleton]; omega) hbase hfew hline hs hplain hsw) fun o ⟨d, ⟨n, w, h1, h2, e⟩, h⟩ => ⟨n, w, h1, h2, by rw [h, e]⟩
/-- the entry of a key, stored -/
def dput (t : List (Str × D)) (k : Str) (d : D) : List (Str × D) := if (t.any fun p => decide (p.1 = k)) = true then t.map (fun p => if p.1 = k then (p.1, d) else p) else t ++ [(k, d)]
theorem repK_app {K : PySem.W.Frag} : ∀ {kvs : List (Key × V)} {t : List (Str × D)} {x : Str} {v : V} {d : D}, RepK K L kvs t → Rep K L v d → RepK K L (kvs ++ [(.inr x, v)]) (t ++ [(x, d)])
  | _, _, _, _, _, .nil, r => .cons r .nil
  | _, _, _, _, _, .cons h r, q => .cons h (repK_app r q)
theorem repK_map {K : PySem.W.Frag} {k : Str} {v : V} {d : D} (hv : Rep K L v d) : ∀ {kvs : List (Key × V)} {t : List (Str × D)}, RepK K L kvs t → RepK K L (kvs.map fun kv => if kv.1 = .inr k then (kv.1, v) else kv) (t.map fun p => if p.1 = k then (p.1, d) else p)
  | _, _, .nil => .nil
  | _, _, .cons (x := x) h r => by
    rw [List.map_cons, List.map_cons]
    by_cases q : x = k
    · rw [if_pos (show (Sum.inr x : Key) = .inr k from congrArg _ q), if_pos q]
      exact .cons hv (repK_map hv r)
    · rw [if_neg (show ¬ (Sum.inr x : Key) = .inr k from fun z => q (Sum.inr.inj z)), if_neg q]
      exact .cons h (repK_map hv r)
theorem repK_any {K : PySem.W.Frag} {k : Str} : ∀ {kvs : List (Key × V)} {t : List (Str × D)}, RepK K L kvs t → (kvs.any fun kv => decide (kv.1 = .inr k)) = t.any fun p => decide (p.1 = k)
  | _, _, .nil => rfl
  | _, _, .cons (x := x) h r => by
    rw [List.any_cons, List.any_cons, repK_any r]
    congr 1
    by_cases q : x = k
    · rw [decide_eq_true q, decide_eq_true (show (Sum.inr x : Key) = .inr k from congrArg _ q)]
    · rw [decide_eq_false q, decide_eq_false (show ¬ (Sum.inr x : Key) = .inr k from fun z => q (Sum.inr.inj z))]
theorem repK_put {K : PySem.W.Frag} {k : Str} {v : V} {d : D} {kvs : List (Key × V)} (r : RepK K L kvs t) (hv : Rep K L v d) : RepK K L (putK kvs (.inr k) v) (dput t k d) := by
  unfold putK dput
  rw [repK_any r]
  split
  · exact repK_map hv r
  · exact repK_app r hv
theorem dput_len (k : Str) (d : D) : (dput t k d).length ≤ t.length + 1 := by
  unfold dput
  split
  · rw [List.length_map]; omega
  · rw [List.length_append, List.length_singleton]; omega
/-- found[k] = e of an owned dict -/
theorem w_dput (i j : Nat) {s : Str} {pos' : Pos} (hr : Room n X.A) (ho : PE X a (tJ X.K ρ (.own q))) (hk : PE X a2 (tJ X.K ρ (.str s))) (hM : M[j]? = some (q, .dct t)) (ha : PE X e (tE X.K b M ρ Φ)) (hz : t.length + 1 ≤ lim)
    (hs : swapsWith e (some (.Subscript a a2 pos')) pos.line X.env = pure false := by rfl) :
    PS X (.Assign [.Subscript a a2 pos'] e pos) (tW X.K b M ρ fun o => ∃ w, Φ w ∧ o = .nxt ρ (M.set j (q, .dct (dput t s w)))) :=
  (ps_dput (hu_of hr) ho hk ha hs).imp fun E σ H ⟨L, e, env, ow, k⟩ => ⟨L, e, env, ow, fun v H1 L1 w hw g1 o1 r1 => ⟨L1, g1.sub, env.ex g1.lx, fun u H2 L2 g2 r2 => ⟨L2, g2.sub, (env.ex g1.lx).ex g2.lx, fun y H3 L3 g3 r3 => by
    obtain rfl := r2.own_
    obtain rfl := r3.str_
    have o3 := (o1.go g2).go g3
    have hm := List.mem_of_getElem? hM
    have lq := o3.un _ hm
    cases o3.sh _ hm with
    | dct h r z =>
      have rw_ := (r1.ex g2.lx).ex g3.lx
      have nz := dput_len (t := t) s w
      obtain ⟨o4, g4, _⟩ := o3.put (u := .dK (putK _ (.inr s) v)) g3.sub hM (.dct upd_same (repK_put (k := s) r rw_) (by omega))
      exact ⟨q, _, rfl, DPut.k (k := .inr s) h (by rw [r.len]; exact lim_lt (by omega)), k _ ⟨w, hw, rfl⟩ σ _ L3 (((g1.tr g2.gx).tr g3.gx).gs.tr g4) o4 (((env.ex g1.lx).ex g2.lx).ex g3.lx)⟩⟩⟩⟩
/-! ### release -/
theorem _root_.L2.PSs.fz {t : TS} (h : PSs X rest t) : PSs X rest (fun E σ H => ∃ d u, H d = some u ∧ Mut (some u) ∧ ∀ od, t E σ (upd H d (.frz od u))) := ⟨fun pins s σ H E I ⟨d, u, hd, mu, q⟩ => by
  obtain ⟨od, I2⟩ := I.lock hd mu
  exact h.run pins s σ _ E I2 (q od)⟩
theorem upd_id {p : Addr} {u : HO} (h : H p = some u) : upd H p u = H := funext fun c => by
  by_cases z : c = p
  · rw [z, upd_same, h]
  · rw [upd_ne z]
/-- an owned list is data from here on -/
theorem c_relL (i j : Nat) (h : PSs X rest (tW X.K b (M.eraseIdx j) (ρ.set i (some (.lst l))) Ω)) (hi : ρ[i]? = some (some (.own q)) := by rfl) (hM : M[j]? = some (q, .lst l) := by rfl) : PSs X rest (tW X.K b M ρ Ω) := h.imp fun E σ H ⟨L, e, env, ow, k⟩ => by
  have hm := List.mem_of_getElem? hM
  cases ow.sh _ hm with
  | lst h1 r z =>
    obtain ⟨o2, g2⟩ := ow.rel (v := .lst _) e hM
    rw [upd_id h1] at o2 g2
    obtain ⟨v, hv, rv⟩ := env.at_ i _ hi
    obtain rfl := rv.own_
    refine ⟨_, g2.sub, ?_, o2, fun o ho => OuK.go g2 (k o ho)⟩
    have e2 := env.ex g2.lx
    have e3 := e2.set (i := i) (v := .ref q) (d := .lst l) (.lst upd_same (r.ex g2.lx) z)
    rwa [set_self hv] at e3
/-- an owned dict is data from here on -/
theorem c_relD (i j : Nat) (h : PSs X rest (tW X.K b (M.eraseIdx j) (ρ.set i (some (.dct t))) Ω)) (hi : ρ[i]? = some (some (.own q)) := by rfl) (hM : M[j]? = some (q, .dct t) := by rfl) : PSs X rest (tW X.K b M ρ Ω) := (PSs.fz h).imp fun E σ H ⟨L, e, env, ow, k⟩ => by
  have hm := List.mem_of_getElem? hM
  cases ow.sh _ hm with
  | dct h1 r z =>
    refine ⟨q, _, h1, trivial, fun od => ?_⟩
    obtain ⟨o2, g2⟩ := ow.rel (v := .frz od (.dK _)) e hM
    obtain ⟨v, hv, rv⟩ := env.at_ i _ hi
    obtain rfl := rv.own_
    refine ⟨_, g2.sub, ?_, o2, fun o ho => OuK.go g2 (k o ho)⟩
    have e2 := env.ex g2.lx
    have e3 := e2.set (i := i) (v := .ref q) (d := .dct t) (.dct ⟨od, upd_same⟩ (r.ex g2.lx) z)
    rwa [set_self hv] at e3
end
end K51
end
section
set_option Elab.async false
set_option linter.all false
set_option maxRecDepth 100000
/-! Borrowing, loops, defs of the world with owned objects and the bag. -/
namespace K51
open PySem PySem.Spec PyProof.Rows L2
section
variable {X : Cx} {b : Option Addr} {M M1 M' : Mem} {ρ ρ1 ρ' : En} {d x y z : D} {e a a2 : Expr} {es : List Expr} {pos p : Pos} {Φ Ψ Θ : D → Prop} {Ω Ω1 : Ou → Prop} {st : Stmt} {rest body els : List Stmt} {n k : Nat} {H L H1 L1 : Hp} {E : Ends} {o : Ou} {q : Addr} {l : List D} {t : List (Str × D)} {u : V} {i j : Nat}
/-! ### an owned thing read -/
theorem Sh.dct_ {K : PySem.W.Frag} (h : Sh K L H q (.dct t)) : ∃ kvs, H q = some (.dK kvs) ∧ RepK K L kvs t ∧ t.length ≤ lim := by cases h with | dct h r z => exact ⟨_, h, r, z⟩
theorem Sh.lst_ {K : PySem.W.Frag} (h : Sh K L H q (.lst l)) : ∃ xs, H q = some (.lst xs) ∧ RepL K L xs l ∧ l.length ≤ lim := by cases h with | lst h r z => exact ⟨_, h, r, z⟩
theorem flt_any {K : PySem.W.Frag} {v : V} (h : flt d = some u) (r : Rep K L v d) : Rep K H v d := by
  have := flt_rep h r
  subst this
  cases d <;> first | (cases h; constructor) | cases h
theorem rep_flt {K : PySem.W.Frag} (h : flt d = some u) : Rep K L u d := by
  cases d <;> first | (cases h; constructor) | cases h
theorem repL_flts {K : PySem.W.Frag} {us : List V} (h : Flts l us) : RepL K L us l := by
  induction h with
  | nil => exact .nil
  | cons h1 _ ih => exact .cons (rep_flt h1) ih
theorem env_bor {K : PySem.W.Frag} {σ : L2.St} (env : EnvR K L σ ρ) (hi : ρ[i]? = some (some (.own q))) (r : Rep K L (.ref q) d) : EnvR K L σ (ρ.set i (some d)) := by
  obtain ⟨v, hv, rv⟩ := env.at_ i _ hi
  obtain rfl := rv.own_
  have e3 := env.set (i := i) r
  rwa [set_self hv] at e3
theorem e_borL' (h : PE X e (tJ X.K (ρ.set i (some (.lst l))) z)) (hz : flt z = some u) (hi : ρ[i]? = some (some (.own q)) := by rfl) (hM : M[j]? = some (q, .lst l) := by rfl) : PE X e (tE X.K b M ρ (· = z)) := h.imp fun σ H Q ⟨L, e, env, ow, k⟩ => by
  have hm := List.mem_of_getElem? hM
  obtain ⟨xs, h1, r, zl⟩ := (ow.sh _ hm).lst_
  · show _
    have lx : Ex L (upd L q (.lst xs)) := ex_new (ow.un _ hm)
    refine ⟨_, fun c o hc => ?_, env_bor (env.ex lx) hi (.lst upd_same (r.ex lx) zl), fun v H' L' g rz => ?_⟩
    · by_cases w : c = q
      · rw [w, upd_same] at hc; rw [w, h1]; exact hc
      · rw [upd_ne w] at hc; exact e c o hc
    · have g2 : Go H L H' L := ⟨g.ex, Ex.rf, e.tr g.ex, fun _ _ => rfl⟩
      exact k v H' L z rfl g2.gx (ow.go g2) (flt_any hz rz)
theorem te_borL {c : Bool} (h : PT X e (tT X.K (ρ.set i (some (.lst l))) c)) (hi : ρ[i]? = some (some (.own q)) := by rfl) (hM : M[j]? = some (q, .lst l) := by rfl) : PT X e (tTE X.K b M ρ (· = c)) := h.imp fun σ H Q ⟨L, e, env, ow, k⟩ => by
  have hm := List.mem_of_getElem? hM
  obtain ⟨xs, h1, r, zl⟩ := (ow.sh _ hm).lst_
  · show _
    have lx : Ex L (upd L q (.lst xs)) := ex_new (ow.un _ hm)
    refine ⟨_, fun c o hc => ?_, env_bor (env.ex lx) hi (.lst upd_same (r.ex lx) zl), fun H' L' g => ?_⟩
    · by_cases w : c = q
      · rw [w, upd_same] at hc; rw [w, h1]; exact hc
      · rw [upd_ne w] at hc; exact e c o hc
    · have g2 : Go H L H' L := ⟨g.ex, Ex.rf, e.tr g.ex, fun _ _ => rfl⟩
      exact k c H' L rfl g2.gx (ow.go g2)
/-- of a dict: it is locked meanwhile -/
theorem go_lock {σ : L2.St} {K : PySem.W.Frag} {kvs : List (Key × V)} {od : Obj} (e : Ex L H) (ow : Ow K b M L H) (hM : M[j]? = some (q, .dct t)) (h1 : H q = some (.dK kvs)) {H' L' : Hp} (g : Go (upd H q (.frz od (.dK kvs))) (upd L q (.frz od (.dK kvs))) H' L') :
    H' q = some (.frz od (.dK kvs)) ∧ Ex H (upd H' q (.dK kvs)) := ⟨g.ex _ _ upd_same, fun c o hc => by
  by_cases w : c = q
  · rw [w] at hc ⊢; rw [upd_same, ← h1]; exact hc
  · rw [upd_ne w]; exact g.ex c o (by rw [upd_ne w]; exact hc)⟩
theorem e_borD (h : PE X e (tJ X.K (ρ.set i (some (.dct t))) z)) (hz : flt z = some u) (hi : ρ[i]? = some (some (.own q)) := by rfl) (hM : M[j]? = some (q, .dct t) := by rfl) : PE X e (tE X.K b M ρ (· = z)) := (pe_lock h).imp fun σ H Q ⟨L, e, env, ow, k⟩ => by
  have hm := List.mem_of_getElem? hM
  obtain ⟨kvs, h1, r, zl⟩ := (ow.sh _ hm).dct_
  · show _
    refine ⟨q, _, h1, trivial, fun od => ?_⟩
    have lx : Ex L (upd L q (.frz od (.dK kvs))) := ex_new (ow.un _ hm)
    refine ⟨_, sub_new e, env_bor (env.ex lx) hi (.dct ⟨od, upd_same⟩ (r.ex lx) zl), fun v H' L' g rz => ?_⟩
    obtain ⟨w1, w2⟩ := go_lock (σ := σ) e ow hM h1 g
    have g2 : Go H L (upd H' q (.dK kvs)) L := ⟨w2, Ex.rf, e.tr w2, fun _ _ => rfl⟩
    exact ⟨w1, k v _ L z rfl g2.gx (ow.go g2) (flt_any hz rz)⟩
/-- a new list of plain values, made of an owned dict -/
theorem e_borS {us : List V} (h : PE X e (tJ X.K (ρ.set i (some (.dct t))) (.lst l))) (hl : Flts l us) (hi : ρ[i]? = some (some (.own q)) := by rfl) (hM : M[j]? = some (q, .dct t) := by rfl) : PE X e (tE X.K b M ρ (· = .lst l)) := (pe_lock h).imp fun σ H Q ⟨L, e, env, ow, k⟩ => by
  have hm := List.mem_of_getElem? hM
  obtain ⟨kvs, h1, r, zl⟩ := (ow.sh _ hm).dct_
  · show _
    refine ⟨q, _, h1, trivial, fun od => ?_⟩
    have lx : Ex L (upd L q (.frz od (.dK kvs))) := ex_new (ow.un _ hm)
    refine ⟨_, sub_new e, env_bor (env.ex lx) hi (.dct ⟨od, upd_same⟩ (r.ex lx) zl), fun v H' L' g rz => ?_⟩
    obtain ⟨w1, w2⟩ := go_lock (σ := σ) e ow hM h1 g
    obtain ⟨c, xs, rfl, hc, rc, zc⟩ := rz.lst_
    have cq : c ≠ q := fun w => by
      have := g.lx q _ upd_same
      rw [← w, hc] at this; cases this
    have hx : Ex L' H' := g.sub
    refine ⟨w1, ?_⟩
    have lc : ∀ o, L c = some o → o = .lst xs := fun o ho => by
      have := g.lx c o (by rw [upd_ne cq]; exact ho)
      rw [hc] at this; cases this; rfl
    have g2 : Go H L (upd H' q (.dK kvs)) (upd L c (.lst xs)) := ⟨w2, fun c' o ho => by
      by_cases w : c' = c
      · rw [w] at ho ⊢; rw [upd_same, lc o ho]
      · rw [upd_ne w]; exact ho, fun c' o ho => by
      by_cases w : c' = c
      · rw [w, upd_same] at ho; rw [w, upd_ne cq, ← ho]; exact hx _ _ hc
      · rw [upd_ne w] at ho; exact w2 c' o (e c' o ho), fun c' n => by
      by_cases w : c' = c
      · rw [w, upd_same]
        have := g.old c (by rw [upd_ne cq]; rw [w] at n; exact n)
        rw [upd_ne cq, hc] at this
        exact this
      · rw [upd_ne w]⟩
    refine k _ _ _ _ rfl g2.gx (ow.go g2) (.lst upd_same ?_ zc)
    have := reps_strs hl rc
    subst this
    exact repL_flts hl
end
end K51
end
section
set_option Elab.async false
set_option linter.all false
set_option maxRecDepth 100000
/-! Loops and defs of the world with owned objects and the bag. -/
namespace K51
open PySem PySem.Spec PyProof.Rows L2
section
variable {X : Cx} {b : Option Addr} {M M1 M' : Mem} {ρ ρ1 ρ' : En} {d x y z : D} {e a a2 : Expr} {es : List Expr} {pos p : Pos} {Φ Ψ Θ : D → Prop} {Ω Ω1 : Ou → Prop} {st : Stmt} {rest body els : List Stmt} {n k : Nat} {H L H1 L1 : Hp} {E : Ends} {o : Ou} {q : Addr} {l : List D} {t : List (Str × D)} {u : V} {i j : Nat} {tg iter : Expr}
/-! ### what is walked -/
def tIE (K : PySem.W.Frag) (b : Option Addr) (M : Mem) (ρ : En) (Φ : List D → Prop) : TI := fun σ H R => ∃ L, Ex L H ∧ EnvR K L σ ρ ∧ Ow K b M L H ∧ ∀ J H1 L1 ds, Φ ds → Gx b H L H1 L1 → Ow K b M L1 H1 → IterD K J ds H1 L1 → R J H1
theorem ie_of {ds : List D} (h : PI X tg e (tI X.K ρ ds)) : PI X tg e (tIE X.K b M ρ (· = ds)) := h.imp fun σ H R ⟨L, e, env, ow, k⟩ => ⟨L, e, env, fun J H1 L1 g it => k J H1 L1 ds rfl g.gx (ow.go g) it⟩
theorem ie_list {Φ : List D → Prop} (h : PE X e (tE X.K b M ρ fun d => ∃ ds, d = .lst ds ∧ Φ ds)) : PI X tg e (tIE X.K b M ρ Φ) := (pi_list h).imp fun σ H R ⟨L, e, env, ow, k⟩ => ⟨L, e, env, ow, fun v H1 L1 d ⟨ds, hd, hp⟩ g1 o1 r1 => by
  subst hd
  obtain ⟨a, xs, rfl, ha, rl, z⟩ := r1.lst_
  exact ⟨a, rfl, ⟨xs, SqL.of (g1.sub _ _ ha)⟩, k _ H1 L1 ds hp g1 o1 (iter_list g1.sub ha rl z)⟩⟩
/-! ### for, while -/
theorem tW_le {K : PySem.W.Frag} {ρ3 : En} {σ : L2.St} (env : EnvR K L σ ρ) (h : leE ρ ρ3) : EnvR K L σ ρ3 := env.le h
/-- for x in iter; S: what each turn starts from -/
theorem w_for {nm : Str} {px : Pos} (i : Nat) {Φ : List D → Prop} (Pv : List D → Nat → En → Mem → Prop) (hN : X.N.Nodup) (hp : PassesOwn (model X.prog X.w) X.A X.env X.xe) (hi : PI X (.Name nm px) iter (tIE X.K b M ρ Φ)) (h0 : ∀ ds, Φ ds → ∃ ρ3, leE ρ ρ3 ∧ Pv ds 0 ρ3 M)
    (hb : ∀ ds, Φ ds → ∀ j d, ds[j]? = some d → ∀ ρ1 M1, Pv ds j ρ1 M1 → PSs X body (tW X.K b M1 (ρ1.set i (some d)) fun o => ∃ ρ2 M2 ρ3, o = .nxt ρ2 M2 ∧ leE ρ2 ρ3 ∧ Pv ds (j + 1) ρ3 M2))
    (hix : X.N[i]? = some nm := by rfl) (hx : Loc X.env.scope nm := by first | exact .inl rfl | exact .inr rfl) (hf : X.fn nm = true ∨ X.env.scope.names.lookup nm = some .local := by first | exact .inl rfl | exact .inr rfl) (hc : X.calm = true := by rfl) (hs : ∀ x, foldedSetIterable iter X.env x = pure x := by intro _; rfl) :
    PS X (.For (.Name nm px) iter body [] pos) (tW X.K b M ρ fun o => ∃ ds ρ' M', Φ ds ∧ Pv ds ds.length ρ' M' ∧ o = .nxt ρ' M') := by
  have hbody : PSs X body (fun E σ H => ∃ q : { q : List D × Nat × D × En × Mem // Φ q.1 ∧ q.1[q.2.1]? = some q.2.2.1 ∧ Pv q.1 q.2.1 q.2.2.2.1 q.2.2.2.2 }, tW X.K b q.1.2.2.2.2 (q.1.2.2.2.1.set i (some q.1.2.2.1)) (fun o => ∃ ρ2 M2 ρ3, o = .nxt ρ2 M2 ∧ leE ρ2 ρ3 ∧ Pv q.1.1 (q.1.2.1 + 1) ρ3 M2) E σ H) := PSs.any fun q => hb _ q.2.1 _ _ q.2.2.1 _ _ q.2.2.2
  refine (ps_for hp hc hi (pg_name hN hix hx hf) hbody hs).imp fun E σ H ⟨L, e, env, ow, k⟩ => ⟨L, e, env, ow, fun J H1 L1 ds hds g1 o1 it => ?_⟩
  obtain ⟨ρ0, hle, hpv⟩ := h0 ds hds
  refine for_D (E := E) (g := gName i) (tb := fun E σ H => ∃ q : { q : List D × Nat × D × En × Mem // Φ q.1 ∧ q.1[q.2.1]? = some q.2.2.1 ∧ Pv q.1 q.2.1 q.2.2.2.1 q.2.2.2.2 }, tW X.K b q.1.2.2.2.2 (q.1.2.2.2.1.set i (some q.1.2.2.1)) (fun o => ∃ ρ2 M2 ρ3, o = .nxt ρ2 M2 ∧ leE ρ2 ρ3 ∧ Pv q.1.1 (q.1.2.1 + 1) ρ3 M2) E σ H) it (fun j σ H' L' => ∃ ρ1 M1, Pv ds j ρ1 M1 ∧ Gs b M H1 L1 M1 H' L' ∧ EnvR X.K L' σ ρ1 ∧ Ow X.K b M1 L' H') L1 Ex.rf g1.sub ⟨ρ0, M, hpv, Gs.rf g1.sub, (env.ex g1.lx).le hle, o1⟩ (fun j d σ H' L' hd gl gs ⟨ρ1, M1, hpv, g3, env3, o3⟩ v H2 L2 g2 r2 => ?_) fun σ H' L' gl gs ⟨ρ1, M1, hpv, g3, env3, o3⟩ => ?_
  · refine ⟨⟨(ds, j, d, ρ1, M1), hds, hd, hpv⟩, L2, g2.sub, (env3.ex g2.lx).set r2, o3.go g2, fun o ⟨ρ2, M2, ρ3, ho, hle, hpv⟩ => ?_⟩
    subst ho
    exact fun σ4 H4 L4 g4 o4 env4 => ⟨L4, (gl.tr g2.lx).tr g4.lx, g4.sub, ρ3, M2, hpv, (g3.tr g2.gx.gs).tr g4, env4.le hle, o4⟩
  · exact k _ ⟨ds, ρ1, M1, hds, hpv, rfl⟩ σ H' L' (g1.gs.tr g3) o3 env3
/-- while c: body; by a state -/
theorem w_while {S : Type} (ρf : S → En) (Mf : S → Mem) (cf : S → Bool) (μ : S → Nat) (Iv : S → Prop) {c0 : Expr} (hp : PassesOwn (model X.prog X.w) X.A X.env X.xe) (s0 : S) (h0 : leE ρ (ρf s0)) (hM : M = Mf s0) (i0 : Iv s0)
    (hc : ∀ s, Iv s → PT X c0 (tTE X.K b (Mf s) (ρf s) (· = cf s)))
    (hb : ∀ s, Iv s → cf s = true → PSs X body (tW X.K b (Mf s) (ρf s) fun o => ∃ ρ2 s', o = .nxt ρ2 (Mf s') ∧ leE ρ2 (ρf s') ∧ Iv s' ∧ μ s' < μ s)) :
    PS X (.While c0 body [] pos) (tW X.K b M ρ fun o => ∃ s, Iv s ∧ cf s = false ∧ o = .nxt (ρf s) (Mf s)) := by
  subst hM
  have hcond : PT X c0 (fun σ H Q => ∃ s : { s : S // Iv s }, tTE X.K b (Mf s.1) (ρf s.1) (· = cf s.1) σ H Q) := ⟨fun pins s σ H Q I ⟨a, q⟩ => (hc a.1 a.2).run pins s σ H Q I q⟩
  have hbody : PSs X body (fun E σ H => ∃ s : { s : S // Iv s ∧ cf s = true }, tW X.K b (Mf s.1) (ρf s.1) (fun o => ∃ ρ2 s', o = .nxt ρ2 (Mf s') ∧ leE ρ2 (ρf s') ∧ Iv s' ∧ μ s' < μ s.1) E σ H) := PSs.any fun s => hb s.1 s.2.1 s.2.2
  refine (ps_whileE hp hcond hbody pss_nil).imp fun E σ H ⟨L, e, env, ow, k⟩ => ?_
  refine ⟨fun m σ H' => ∃ s L', m = μ s ∧ Iv s ∧ Gs b (Mf s0) H L (Mf s) H' L' ∧ EnvR X.K L' σ (ρf s) ∧ Ow X.K b (Mf s) L' H', ⟨μ s0, s0, L, rfl, i0, Gs.rf e, env.le h0, ow⟩, fun m σ1 H1 ⟨s, L1, em, iv, g1, env1, o1⟩ => ?_⟩
  refine ⟨⟨s, iv⟩, L1, g1.sub, env1, o1, fun c H2 L2 ec g2 o2 => ?_⟩
  subst ec
  show if cf s = true then _ else _
  by_cases hcf : cf s = true
  · rw [if_pos hcf]
    refine ⟨fun σ3 H3 => ∃ s' L3, μ s' < μ s ∧ Iv s' ∧ Gs b (Mf s0) H L (Mf s') H3 L3 ∧ EnvR X.K L3 σ3 (ρf s') ∧ Ow X.K b (Mf s') L3 H3, fun σ3 H3 ⟨s', L3, hm, r⟩ => ⟨μ s', by rw [em]; exact hm, s', L3, rfl, r⟩, ⟨s, iv, hcf⟩, L2, g2.sub, env1.ex g2.lx, o2, fun o ⟨ρ2, s', ho, hle, iv', hm⟩ => ?_⟩
    subst ho
    exact fun σ3 H3 L3 g3 o3 env3 => ⟨s', L3, hm, iv', (g1.tr g2.gs).tr g3, env3.le hle, o3⟩
  · rw [if_neg hcf]
    have hf : cf s = false := by cases q : cf s with | true => exact absurd q hcf | false => rfl
    exact k _ ⟨s, iv, hf, rfl⟩ σ1 H2 L2 (g1.tr g2.gs) o2 (env1.ex g2.lx)
/-! ### list comprehensions that draw -/
inductive LcR (Ft : D → Bool → Prop) (Fe : D → D → Prop) : List D → List D → Prop
  | nil : LcR Ft Fe [] []
  | skip {l ds : List D} {a : D} : LcR Ft Fe l ds → Ft a false → LcR Ft Fe (l ++ [a]) ds
  | take {l ds : List D} {a d : D} : LcR Ft Fe l ds → Ft a true → Fe a d → LcR Ft Fe (l ++ [a]) (ds ++ [d])
theorem lce_gen {K : PySem.W.Frag} {wi : TI} {g : TG} {tt : TT} {te : TE} {vs : List Nat} {Φ : List D → Prop} {Ft : D → Bool → Prop} {Fe : D → D → Prop} {ρ' : D → En} (hw : ∀ σ H R, tIE K b M ρ Φ σ H R → wi σ H R)
    (hg : ∀ a, ∀ v σ H1 L1 (Q : L2.St → Hp → Prop), EnvR K L1 σ ρ → Ex L1 H1 → Rep K L1 v a → (∀ σ2, EnvR K L1 σ2 (ρ' a) → wipe σ2 vs = wipe σ vs → Q σ2 H1) → g v (wipe σ vs) H1 Q)
    (ht : ∀ ds, Φ ds → ∀ a ∈ ds, ∀ σ H Q, tTE K b M (ρ' a) (Ft a) σ H Q → tt σ H Q) (he : ∀ ds, Φ ds → ∀ a ∈ ds, Ft a true → ∀ σ H Q, tE K b M (ρ' a) (Fe a) σ H Q → te σ H Q) :
    ∀ σ H Q, tE K b M ρ (fun d => ∃ ds rs, Φ ds ∧ LcR Ft Fe ds rs ∧ d = .lst rs) σ H Q → tLc wi g tt te vs σ H Q := fun σ H Q ⟨L, e, env, ow, k⟩ => by
  refine hw σ H _ ⟨L, e, env, ow, fun J H1 L1 ls hls g1 o1 it Dn hD => ?_⟩
  have lD : L1 Dn = none := free_sub g1.sub hD
  have bD : ∀ c, b = some c → c ≠ Dn := fun c hc z => (o1.there.2 c hc) (z ▸ hD)
  have mD : ∀ p ∈ M, p.1 ≠ Dn := fun p hp z => (o1.there.1 p hp) (z ▸ hD)
  have keepD : ∀ {H' L' H'' L'' : Hp} {u : HO}, Gx b H' L' H'' L'' → H' Dn = some u → L' Dn = none → H'' Dn = some u ∧ L'' Dn = none := fun g h l => ⟨g.ex _ _ (fun z => bD _ z rfl) h, by rw [g.old _ (by rw [h]; exact nofun)]; exact l⟩
  have owD : ∀ {H' L' : Hp} {u : HO}, Ow K b M L' H' → Ow K b M L' (upd H' Dn u) := fun o => ⟨o.nd, o.un, fun p hp => (o.sh p hp).go Ex.rf (upd_ne (mD p hp)), fun c hc => ⟨(o.bg c hc).1, (o.bg c hc).2.1.go Ex.rf (upd_ne (bD c hc)), (o.bg c hc).2.2⟩⟩
  have gxD : ∀ {H' L' : Hp} {u : HO}, Gx b H1 L1 H' L' → L' Dn = none → Gx b H1 L1 (upd H' Dn u) L' := fun g l => ⟨fun c o n h => by rw [upd_ne (ne_of_none h hD)]; exact g.ex c o n h, g.lx, fun c o h => by rw [upd_ne (ne_of_none h l)]; exact g.sub c o h, g.old, fun c n => by
    by_cases z : c = Dn
    · rw [z, upd_same]; exact nofun
    · rw [upd_ne z]; exact g.dom c n⟩
  refine ⟨fun i m H' => m + i = ls.length ∧ ∃ L' acc rs, Gx b H1 L1 H' L' ∧ Ow K b M L' H' ∧ L' Dn = none ∧ H' Dn = some (.lst acc) ∧ RepL K L' acc rs ∧ LcR Ft Fe (ls.take i) rs ∧ acc.length ≤ i, ⟨ls.length, rfl, L1, [], [], gxD (Gx.rf g1.sub) lD, owD o1, lD, upd_same, .nil, .nil, Nat.le_refl _⟩, fun i m H' ⟨em, L', acc, rs, g2, o2, lD2, hD2, ra, lr, za⟩ => ?_⟩
  have sz := it.sz
  by_cases hi : i < ls.length
  · have hl : ls[i]? = some ls[i] := List.getElem?_eq_getElem hi
    have hm : ls[i] ∈ ls := List.getElem_mem hi
    have tk : ls.take (i + 1) = ls.take i ++ [ls[i]] := by rw [List.take_add_one, hl]; rfl
    refine .inr ⟨it.go i H' L' hi g2.lx g2.sub, fun H' => ∃ L' acc rs, Gx b H1 L1 H' L' ∧ Ow K b M L' H' ∧ L' Dn = none ∧ H' Dn = some (.lst acc) ∧ RepL K L' acc rs ∧ LcR Ft Fe (ls.take (i + 1)) rs ∧ acc.length ≤ i + 1, fun H'' q => ⟨m - 1, by omega, by omega, q⟩, fun v H3 hy => ?_⟩
    obtain ⟨L3, g3, r3⟩ := it.yld i ls[i] H' L' v H3 hl g2.lx g2.sub hy
    obtain ⟨hD3, lD3⟩ := keepD g3.gx hD2 lD2
    have o3 := o2.go g3
    refine hg ls[i] v σ H3 L3 _ (((env.ex g1.lx).ex g2.lx).ex g3.lx) g3.sub r3 fun σ2 env2 hw2 => ⟨hw2, ht ls hls ls[i] hm σ2 H3 _ ⟨L3, g3.sub, env2, o3, fun c H4 L4 hc g4 o4 => ?_⟩⟩
    obtain ⟨hD4, lD4⟩ := keepD g4 hD3 lD3
    cases c with
    | true =>
      refine iteT (he ls hls ls[i] hm hc σ2 H4 _ ⟨L4, g4.sub, env2.ex g4.lx, o4, fun w H5 L5 d hd g5 o5 r5 => ?_⟩)
      obtain ⟨hD5, lD5⟩ := keepD g5 hD4 lD4
      have gg := ((g2.tr g3.gx).tr g4).tr g5
      exact ⟨acc, hD5, lim_lt (by omega), L5, acc ++ [w], rs ++ [d], gxD gg lD5, owD o5, lD5, upd_same, (((ra.ex g3.lx).ex g4.lx).ex g5.lx).app (.one r5), by rw [tk]; exact .take lr hc hd, by rw [List.length_append, List.length_singleton]; omega⟩
    | false => exact iteF ⟨L4, acc, rs, (g2.tr g3.gx).tr g4, o4, lD4, hD4, (ra.ex g3.lx).ex g4.lx, by rw [tk]; exact .skip lr hc, by omega⟩
  · have ei : i = ls.length := by omega
    subst ei
    refine .inl ⟨it.stop H' L' g2.lx g2.sub, ?_⟩
    rw [List.take_length] at lr
    have gg : Gx b H1 L1 H' (upd L' Dn (.lst acc)) := ⟨g2.ex, fun c o h => by rw [upd_ne (ne_of_none h lD)]; exact g2.lx c o h, fun c o h => by
      by_cases q : c = Dn
      · rw [q, upd_same] at h; rw [q, hD2]; exact h
      · rw [upd_ne q] at h; exact g2.sub c o h, fun c hb => by rw [upd_ne (show c ≠ Dn from fun q => hb (q ▸ hD))]; exact g2.old c hb, g2.dom⟩
    have lx2 : Ex L' (upd L' Dn (.lst acc)) := ex_new lD2
    have ow2 : Ow K b M (upd L' Dn (.lst acc)) H' := ⟨o2.nd, fun p hp => by rw [upd_ne (mD p hp)]; exact o2.un p hp, fun p hp => (o2.sh p hp).go lx2 rfl, fun c hc => ⟨by rw [upd_ne (bD c hc)]; exact (o2.bg c hc).1, (o2.bg c hc).2.1.go lx2 rfl, (o2.bg c hc).2.2⟩⟩
    exact k _ _ _ _ ⟨ls, rs, hls, lr, rfl⟩ (g1.tr gg) ow2 (.lst upd_same (ra.ex lx2) (by rw [← ra.len]; omega))
variable {elt : Expr} {ifs : List Expr} {scope : Scope} {px : Pos} {nm : Str}
theorem e_lc (i : Nat) {Φ : List D → Prop} {Ft : D → Bool → Prop} {Fe : D → D → Prop} (hN : X.N.Nodup) (hi : PI X (.Name nm px) iter (tIE X.K b M ρ Φ))
    (ht : ∀ ds, Φ ds → ∀ a ∈ ds, Blk X scope fun Y => PTs Y ifs (tTE X.K b M (ρ.set i (some a)) (Ft a))) (he : ∀ ds, Φ ds → ∀ a ∈ ds, Ft a true → Blk X scope fun Y => PE Y elt (tE X.K b M (ρ.set i (some a)) (Fe a)))
    (ok : BlkOk X.N X.env.scope scope [(nm, i)] := by exact blkOk_by (by first | decide +kernel | kernel_rfl)) (hc : X.calm = true := by rfl)
    (hg : Blk X scope fun Y => PG Y (.Name nm px) (gName i) := by exact fun _ _ _ _ _ => pg_name ‹_› rfl (.inl rfl)) (hs : ∀ x, foldedSetIterable iter X.env x = pure x := by intro _; rfl) :
    PE X (.ListComp elt [⟨.Name nm px, iter, ifs, 0⟩] scope pos) (tE X.K b M ρ fun d => ∃ ds rs, Φ ds ∧ LcR Ft Fe ds rs ∧ d = .lst rs) :=
  (pe_lc (own := [(nm, i)]) (g := gName i) (tt := fun σ H Q => ∃ q : List D × D, (Φ q.1 ∧ q.2 ∈ q.1) ∧ tTE X.K b M (ρ.set i (some q.2)) (Ft q.2) σ H Q) (te := fun σ H Q => ∃ q : List D × D, (Φ q.1 ∧ q.2 ∈ q.1 ∧ Ft q.2 true) ∧ tE X.K b M (ρ.set i (some q.2)) (Fe q.2) σ H Q) hc hN hi ok hg
    (fun s H C cl fp => PTs.any fun q => PTs.onlyif fun ha => ht q.1 ha.1 q.2 ha.2 s H C cl fp) (fun s H C cl fp => PE.any fun q => PE.onlyif fun ha => he q.1 ha.1 q.2 ha.2.1 ha.2.2 s H C cl fp) hs).imp
    (lce_gen (ρ' := fun a => ρ.set i (some a)) (fun _ _ _ q => q) (fun a v σ H1 L1 Q env _ r q => q _ (env_wipe1 env r) wipe_set1) (fun ds hds a ha σ H Q q => ⟨(ds, a), ⟨hds, ha⟩, q⟩) (fun ds hds a ha hp σ H Q q => ⟨(ds, a), ⟨hds, ha, hp⟩, q⟩))
theorem c_setLc (j i : Nat) {y : Str} {py : Pos} {spos : Pos} {Φ : List D → Prop} {Ft : D → Bool → Prop} {Fe : D → D → Prop} (hN : X.N.Nodup) (hi : PI X (.Name nm px) iter (tIE X.K b M ρ Φ))
    (ht : ∀ ds, Φ ds → ∀ a ∈ ds, Blk X scope fun Y => PTs Y ifs (tTE X.K b M (ρ.set i (some a)) (Ft a))) (he : ∀ ds, Φ ds → ∀ a ∈ ds, Ft a true → Blk X scope fun Y => PE Y elt (tE X.K b M (ρ.set i (some a)) (Fe a)))
    (h2 : ∀ ds rs, Φ ds → LcR Ft Fe ds rs → PSs X rest (tW X.K b M (ρ.set j (some (.lst rs))) Ω))
    (hy : X.N[j]? = some y := by rfl) (hyl : X.env.scope.names.lookup y = some .local := by rfl) (hsw : swapsWith (.ListComp elt [⟨.Name nm px, iter, ifs, 0⟩] scope pos) (some (.Name y py)) spos.line X.env = pure true := by exact sw_true rfl rfl rfl (by first | decide +kernel | kernel_rfl))
    (ok : BlkOk X.N X.env.scope scope [(nm, i)] := by exact blkOk_by (by first | decide +kernel | kernel_rfl)) (hc : X.calm = true := by rfl)
    (hg : Blk X scope fun Y => PG Y (.Name nm px) (gName i) := by exact fun _ _ _ _ _ => pg_name ‹_› rfl (.inl rfl)) (hs : ∀ x, foldedSetIterable iter X.env x = pure x := by intro _; rfl) :
    PSs X (.Assign [.Name y py] (.ListComp elt [⟨.Name nm px, iter, ifs, 0⟩] scope pos) spos :: rest) (tW X.K b M ρ Ω) :=
  c_cons (Ω1 := fun o => ∃ ds rs, Φ ds ∧ LcR Ft Fe ds rs ∧ o = .nxt (ρ.set j (some (.lst rs))) M) ((ps_setLc (i := j) (own := [(nm, i)]) (g := gName i) (tt := fun σ H Q => ∃ q : List D × D, (Φ q.1 ∧ q.2 ∈ q.1) ∧ tTE X.K b M (ρ.set i (some q.2)) (Ft q.2) σ H Q) (te := fun σ H Q => ∃ q : List D × D, (Φ q.1 ∧ q.2 ∈ q.1 ∧ Ft q.2 true) ∧ tE X.K b M (ρ.set i (some q.2)) (Fe q.2) σ H Q) hc hN hy hyl hsw hi ok hg
    (fun s H C cl fp => PTs.any fun q => PTs.onlyif fun ha => ht q.1 ha.1 q.2 ha.2 s H C cl fp) (fun s H C cl fp => PE.any fun q => PE.onlyif fun ha => he q.1 ha.1 q.2 ha.2.1 ha.2.2 s H C cl fp) hs).imp
    fun E σ H ⟨L, e, env, ow, k⟩ => lce_gen (ρ' := fun a => ρ.set i (some a)) (fun _ _ _ q => q) (fun a v σ H1 L1 Q env _ r q => q _ (env_wipe1 env r) wipe_set1) (fun ds hds a ha σ H Q q => ⟨(ds, a), ⟨hds, ha⟩, q⟩) (fun ds hds a ha hp σ H Q q => ⟨(ds, a), ⟨hds, ha, hp⟩, q⟩) σ H _ ⟨L, e, env, ow, fun v H1 L1 d ⟨ds, rs, h1, h2, hd⟩ g o r => k _ ⟨ds, rs, h1, h2, rfl⟩ _ H1 L1 g.gs o ((env.ex g.lx).set (hd ▸ r))⟩)
    (fun _ _ ⟨ds, rs, h1, h3, e⟩ => by cases e; exact h2 ds rs h1 h3) (fun o n h => by obtain ⟨ds, rs, h1, h3, e⟩ := h; exact absurd e (n _ _))
theorem tte_nil : PTs X [] (tTE X.K b M ρ (· = true)) := pts_nil.imp fun σ H Q ⟨L, e, env, ow, k⟩ => k true H L rfl (Gx.rf e) ow
theorem tte_one {Φb : Bool → Prop} (h : PT X a (tTE X.K b M ρ Φb)) : PTs X [a] (tTE X.K b M ρ Φb) := pts_one h
/-! ### a new one goes out -/
theorem w_rtn (i j : Nat) {x : Str} (he : PE X e (tJ X.K ρ (.own q))) (hM : M[j]? = some (q, d) := by rfl) : PS X (.Return (some e) pos) (tW X.K b M ρ (· = .rtn d)) := (ps_ret he).imp fun E σ H ⟨L, e, env, ow, k⟩ => ⟨L, e, env, fun v H1 L1 g r => by
  obtain rfl := r.own_
  have hm := List.mem_of_getElem? hM
  have o1 := ow.go g
  refine k _ rfl q H1 L1 ⟨fun a o _ _ h => g.ex a o h, g.lx, g.sub, fun a n _ => g.old a n, dom_of g.ex, fun a ha => ?_⟩ ⟨by simp [Mem.ks], fun p hp => ?_, fun p hp => ?_, fun c hc => ⟨(o1.bg c hc).1, (o1.bg c hc).2.1, fun z => ?_⟩⟩
  · simp [Mem.ks] at ha; subst ha; exact .inl (mem_ks hm)
  · rw [List.mem_singleton] at hp; subst hp; exact o1.un _ hm
  · rw [List.mem_singleton] at hp; subst hp; exact o1.sh _ hm
  · simp [Mem.ks] at z; subst z; exact (o1.bg _ hc).2.2 (mem_ks hm)⟩
theorem w_rtE (he : PE X e (tN X.K b M ρ Φ)) : PS X (.Return (some e) pos) (tW X.K b M ρ fun o => ∃ d, Φ d ∧ o = .rtn d) := (ps_ret he).imp fun E σ H ⟨L, e, env, ow, k⟩ => ⟨L, e, env, ow, fun a H1 L1 d hd g o1 ha la sh => by
  refine k _ ⟨d, hd, rfl⟩ a H1 L1 ⟨g.gs.ex (M := M), g.lx, g.sub, fun a n _ => g.old a n, g.dom, fun c hc => ?_⟩ ⟨by simp [Mem.ks], fun p hp => ?_, fun p hp => ?_, fun c hc => ⟨(o1.bg c hc).1, (o1.bg c hc).2.1, fun z => ?_⟩⟩
  · simp [Mem.ks] at hc; subst hc; exact .inr ha
  · rw [List.mem_singleton] at hp; subst hp; exact la
  · rw [List.mem_singleton] at hp; subst hp; exact sh
  · simp [Mem.ks] at z; subst z; exact ow.there.2 _ hc ha⟩
end
/-! ### defs -/
/-- a def that hands out a new list or dict -/
def spN (K : PySem.W.Frag) (R : List D → D → Prop) : Sp := fun vs H Q _ => ∃ L ds d, Ex L H ∧ RepL K L vs ds ∧ R ds d ∧ ∀ a H' L', Go H L H' L' → H a = none → L' a = none → Sh K L' H' a d → Q (.ref a) H'
/-- a def that draws from the bag, its first parameter: Pr of the others ahead, R of them and what it hands back -/
def spB (K : PySem.W.Frag) (Pr : List D → Prop) (R : List D → D → Prop) : Sp := fun vs H Q _ => ∃ L q us ds, Ex L H ∧ vs = .ref q :: us ∧ RepL K L us ds ∧ Ow K (some q) [] L H ∧ Pr ds ∧ ∀ v H' L' d, R ds d → Gx (some q) H L H' L' → Ow K (some q) [] L' H' → Rep K L' v d → Q v H'
section
variable {P : Program} {w : World} {K : PySem.W.Frag} {mg : Str → Option Value} {base : Heap}
variable {x qual : Str} {params : Arguments} {body : List Stmt} {scope : Scope} {f : Addr} {fd : FuncData} {N ps : List Str} {k : Nat} {R : List D → D → Prop} {Pr : List D → Prop}
theorem ow0 {L H : Hp} : Ow K none [] L H := ⟨.nil, nofun, nofun, nofun⟩
/-- a def with owned things of its own -/
theorem fn_W (F : FunD K x qual params body scope [] [] f fd) (S : FnScope N ps scope)
    (len : ∀ ds d, R ds d → ds.length = ps.length)
    (hb : ∀ (kV doc pm : Value) (an : Option Addr) (cdv ct : Value) (us : List Value), us.length = ps.length → bindArgs (PySem.W.fnOf x qual params body scope .none kV doc pm an cdv ct) ⟨us, []⟩ = pure (ps.zip us))
    (hbody : ∀ (ds : List D) (d : D), R ds d → ∀ (cdv : Value) (A : Around) (outer : List Env) (s : Shared) (H : Hp) (E : XK), Room k (A.deeper (envOfC qual scope s.heap.objs.size f cdv)) →
      PSs (cxOf CX0 P w K mg base N qual scope f cdv A outer s H E).nox body (tW K none [] (ds.map some ++ List.replicate (N.length - ds.length) none) fun o => o = .ret d ∨ (d = .non ∧ ∃ ρ M, o = .nxt ρ M))) :
    Ok0 P w K mg base (k + 1) f ps (spD K R) := by
  refine ⟨⟨fd, F.ok S (fun vs H Q E ⟨L, ds, d, _, r, h, _⟩ => r.len.trans (len ds d h)) fun cdv A outer s H vs Q E hr ⟨L, ds, d, e, r, h, q⟩ => ?_, F.bindsN hb⟩, F.kp⟩
  refine ⟨_, (hbody ds d h cdv A outer s H E hr).nox, L, e, start_env r, ow0, fun o ho => ?_⟩
  rcases ho with ho | ⟨hd, ρ, M, ho⟩
  · subst ho
    exact fun v H' L' g _ rv => q v H' L' g.gx.go rv
  · subst ho; subst hd
    exact fun σ' H' L' g _ _ => q .non H' L' g.gx.go .non
/-- .. that hands out a new one -/
theorem fn_N (F : FunD K x qual params body scope [] [] f fd) (S : FnScope N ps scope)
    (len : ∀ ds d, R ds d → ds.length = ps.length)
    (hb : ∀ (kV doc pm : Value) (an : Option Addr) (cdv ct : Value) (us : List Value), us.length = ps.length → bindArgs (PySem.W.fnOf x qual params body scope .none kV doc pm an cdv ct) ⟨us, []⟩ = pure (ps.zip us))
    (hbody : ∀ (ds : List D) (d : D), R ds d → ∀ (cdv : Value) (A : Around) (outer : List Env) (s : Shared) (H : Hp) (E : XK), Room k (A.deeper (envOfC qual scope s.heap.objs.size f cdv)) →
      PSs (cxOf CX0 P w K mg base N qual scope f cdv A outer s H E).nox body (tW K none [] (ds.map some ++ List.replicate (N.length - ds.length) none) (· = .rtn d))) :
    Ok0 P w K mg base (k + 1) f ps (spN K R) := by
  refine ⟨⟨fd, F.ok S (fun vs H Q E ⟨L, ds, d, _, r, h, _⟩ => r.len.trans (len ds d h)) fun cdv A outer s H vs Q E hr ⟨L, ds, d, e, r, h, q⟩ => ?_, F.bindsN hb⟩, F.kp⟩
  refine ⟨_, (hbody ds d h cdv A outer s H E hr).nox, L, e, start_env r, ow0, fun o ho => ?_⟩
  subst ho
  intro a H' L' g o
  have ha : H a = none := (g.fr a (by simp [Mem.ks])).elim nofun id
  exact q a H' L' g.gx.go ha (o.un (a, d) (by simp)) (o.sh (a, d) (by simp))
/-- a def that draws -/
theorem fn_B (F : FunD K x qual params body scope [] [] f fd) (S : FnScope N ps scope)
    (len : ∀ ds, Pr ds → ds.length + 1 = ps.length)
    (hb : ∀ (kV doc pm : Value) (an : Option Addr) (cdv ct : Value) (us : List Value), us.length = ps.length → bindArgs (PySem.W.fnOf x qual params body scope .none kV doc pm an cdv ct) ⟨us, []⟩ = pure (ps.zip us))
    (hbody : ∀ (q : Addr) (ds : List D), Pr ds → ∀ (cdv : Value) (A : Around) (outer : List Env) (s : Shared) (H : Hp) (E : XK), Room k (A.deeper (envOfC qual scope s.heap.objs.size f cdv)) →
      PSs (cxOf CX0 P w K mg base N qual scope f cdv A outer s H E).nox body (tW K (some q) [] ((.own q :: ds).map some ++ List.replicate (N.length - (D.own q :: ds).length) none) fun o => ∃ d, o = .ret d ∧ R ds d)) :
    Ok0 P w K mg base (k + 1) f ps (spB K Pr R) := by
  refine ⟨⟨fd, F.ok S (fun vs H Q E ⟨L, q, us, ds, _, ev, r, _, h, _⟩ => by rw [ev, List.length_cons, r.len]; exact len ds h) fun cdv A outer s H vs Q E hr ⟨L, q, us, ds, e, ev, r, ow, h, k⟩ => ?_, F.bindsN hb⟩, F.kp⟩
  subst ev
  refine ⟨_, (hbody q ds h cdv A outer s H E hr).nox, L, e, start_env (.cons (.own q) r), ow, fun o ⟨d, ho, hd⟩ => ?_⟩
  subst ho
  exact fun v H' L' g o rv => k v H' L' d hd g.gx o rv
end
section
variable {X : Cx} {b : Option Addr} {M : Mem} {ρ : En} {d : D} {e : Expr} {es : List Expr} {pos p : Pos} {Φ Θ : D → Prop} {n k : Nat} {q : Addr} {t : List (Str × D)} {ds : List D}
/-- the call of a def that hands out a new dict -/
theorem f_call {f : Str} {ps : List Str} {R : List D → D → Prop} (G : OkG X.prog X.w X.K X.mg X.base k f ps (spN X.K R)) (hr : Room n X.A) (ha : PA X (e :: es) (tJA X.K ρ ds)) (h : R ds (.dct t)) (hk : k ≤ n := by decide) (hg : Gl X f := by rfl)
    (hdb : (f == ("__debug__" : Str)) = false := by decide) (he : starEach (e :: es) X.env = (false, eval e X.env) :: starEach es X.env := by rfl) (hpl : (backTo pos (starEach es X.env)).any (·.1) = false := by rfl) :
    PE X (.Call (.Name f p) (e :: es) [] pos) (tF X.K ρ t) := by
  obtain ⟨fa, hm, ⟨fd, F, B⟩, kp⟩ := G.ex
  refine (pe_call F (hr.mono hk) hg hm kp B .nil pass0 ha hdb he hpl).imp fun σ H Q ⟨L, e, env, k⟩ => ⟨L, e, env, fun vs H1 L1 g1 r1 => ⟨L1, ds, _, g1.sub, by rw [List.append_nil]; exact r1, h, fun a H2 L2 g2 ha la sh => ?_⟩⟩
  have ha0 : H a = none := by
    cases hh : H a with
    | none => rfl
    | some o => rw [g1.ex a o hh] at ha; cases ha
  cases sh with
  | dct h1 r z => exact k a H2 L2 _ (g1.tr g2) ha0 la h1 r z
/-- the call of a def that draws -/
theorem e_callB {f : Str} {ps : List Str} {Pr : List D → Prop} {R : List D → D → Prop} {Φs : List D → Prop} (G : OkG X.prog X.w X.K X.mg X.base k f ps (spB X.K Pr R)) (hr : Room n X.A) (ha : PA X (e :: es) (tAE X.K (some q) M ρ Φs)) (h : ∀ ds, Φs ds → ∃ r, ds = .own q :: r ∧ Pr r ∧ ∀ d, R r d → Θ d) (hk : k ≤ n := by decide) (hg : Gl X f := by rfl)
    (hdb : (f == ("__debug__" : Str)) = false := by decide) (he : starEach (e :: es) X.env = (false, eval e X.env) :: starEach es X.env := by rfl) (hpl : (backTo pos (starEach es X.env)).any (·.1) = false := by rfl) :
    PE X (.Call (.Name f p) (e :: es) [] pos) (tE X.K (some q) M ρ Θ) := by
  obtain ⟨fa, hm, ⟨fd, F, B⟩, kp⟩ := G.ex
  refine (pe_call F (hr.mono hk) hg hm kp B .nil pass0 ha hdb he hpl).imp fun σ H Q ⟨L, e, env, ow, k⟩ => ⟨L, e, env, ow, fun vs H1 L1 ds hds g1 o1 r1 => ?_⟩
  obtain ⟨r, rfl, hp, hR⟩ := h ds hds
  obtain ⟨v, us, rfl, r2, r3⟩ := r1.cons_
  obtain rfl := r2.own_
  exact ⟨L1, q, us, r, g1.sub, by rw [List.append_nil], r3, o1.nil, hp, fun v H2 L2 d hd g2 o2 r2 => k v H2 L2 d (hR d hd) (g1.tr g2) (o1.back g2 o2) r2⟩
end
end K51
end
section
set_option Elab.async false
set_option linter.all false
set_option maxRecDepth 100000
/-! The plans as plain data, what the program computes of them. -/
namespace K51
open PySem PySem.Spec PyProof.Rows L2
inductive Tr where
  | at (a b : Int)
  | jn (w : Bool) (l r : Tr)
def trD : Tr → D
  | .at a b => .tup [.str "at", .int a, .int b]
  | .jn w l r => .tup [.str (if w then "or" else "and"), trD l, trD r]
def thr : Tr → Int
  | .at a b => max a b
  | .jn w l r => if w then min (thr l) (thr r) else max (thr l) (thr r)
/-- at most n joins deep, its numbers as they must be -/
def okT : Nat → Tr → Prop
  | _, .at a b => 1 ≤ a ∧ 1 ≤ b ∧ b ≤ 6
  | 0, .jn _ _ _ => False
  | n + 1, .jn _ l r => okT n l ∧ okT n r
def atn : Tr → Nat
  | .at _ _ => 1
  | .jn _ l r => atn l + atn r
theorem atn_le : ∀ {n : Nat} {t : Tr}, okT n t → atn t ≤ 2 ^ n
  | n, .at _ _, _ => Nat.one_le_two_pow
  | n + 1, .jn _ l r, h => by
    have h1 := atn_le (t := l) h.1
    have h2 := atn_le (t := r) h.2
    show atn l + atn r ≤ 2 ^ (n + 1)
    omega
def ruleD (t : Tr) : D := .obj "Rule" [("its_tree", trD t)]
structure Pl where
  c : Int
  t : Tr
  m : Str
structure Gr where
  p : Pl
  a : Option Str
structure Sm where
  c : Int
  t : Tr
  q : Option Int
  h : Option Str
  k : Option Str
  g : Option Str
abbrev Tb (α : Type) := List (Str × α)
abbrev keys {α : Type} (l : Tb α) : List Str := l.map (·.1)
def gt {α : Type} (l : Tb α) (k : Str) : Option α := (l.find? fun p => decide (p.1 = k)).map (·.2)
def dT {α : Type} (f : α → D) (l : Tb α) : List (Str × D) := l.map fun p => (p.1, f p.2)
structure Pa where
  pipe : Pl
  st : Tb Sm
  ho : Tb Gr
  ki : Tb Gr
def ofI : Option Int → D
  | none => .non
  | some i => .int i
def plD (g : Tr → D) (p : Pl) : D := .tup [.int p.c, g p.t, .str p.m]
def grD (g : Tr → D) (x : Gr) : D := .tup [.int x.p.c, g x.p.t, .str x.p.m, ofO x.a]
def smD (g : Tr → D) (x : Sm) : D := .tup [.int x.c, g x.t, ofI x.q, ofO x.h, ofO x.k, ofO x.g]
/-! tables -/
section
variable {α : Type} {f : α → D} {l : Tb α} {k x : Str} {a : α}
theorem gt_nil : gt ([] : Tb α) k = none := rfl
theorem gt_cons : gt ((x, a) :: l) k = if x = k then some a else gt l k := by
  unfold gt
  by_cases h : x = k
  · rw [if_pos h, List.find?_cons, show decide ((x, a).1 = k) = true from decide_eq_true h]; rfl
  · rw [if_neg h, List.find?_cons, show decide ((x, a).1 = k) = false from decide_eq_false h]
theorem dget_dT : dget (dT f l) k = (gt l k).map f := by
  induction l with
  | nil => rfl
  | cons p r ih =>
    obtain ⟨x, a⟩ := p
    show dget ((x, f a) :: dT f r) k = _
    rw [dget_cons, gt_cons, ih]
    split <;> rfl
theorem dT_keys : (dT f l).map (·.1) = keys l := by
  unfold dT keys
  rw [List.map_map]
  rfl
theorem dT_len : (dT f l).length = l.length := List.length_map _
theorem gt_mem (h : gt l k = some a) : (k, a) ∈ l := by
  induction l with
  | nil => cases h
  | cons p r ih =>
    obtain ⟨x, b⟩ := p
    rw [gt_cons] at h
    split at h
    · next e => cases h; rw [← e]; exact List.mem_cons_self
    · exact List.mem_cons_of_mem _ (ih h)
theorem gt_some : (gt l k).isSome = decide (k ∈ keys l) := by
  induction l with
  | nil => rfl
  | cons p r ih =>
    obtain ⟨x, b⟩ := p
    rw [gt_cons]
    by_cases e : x = k
    · rw [if_pos e]
      exact (decide_eq_true (by rw [← e]; exact List.mem_cons_self)).symm
    · rw [if_neg e, ih]
      refine decide_eq_decide.mpr ⟨fun h => List.mem_cons_of_mem _ h, fun h => (List.mem_cons.mp h).elim (fun z => absurd z.symm e) id⟩
theorem gt_in (h : k ∈ keys l) : ∃ a, gt l k = some a := by
  cases e : gt l k with
  | some a => exact ⟨a, rfl⟩
  | none =>
    have := gt_some (l := l) (k := k)
    rw [e, decide_eq_true h] at this
    cases this
theorem gt_out (h : k ∉ keys l) : gt l k = none := by
  cases e : gt l k with
  | none => rfl
  | some a => exact absurd (List.mem_map.mpr ⟨_, gt_mem e, rfl⟩) h
theorem gt_of_mem (nd : (keys l).Nodup) (h : (k, a) ∈ l) : gt l k = some a := by
  induction l with
  | nil => cases h
  | cons p r ih =>
    obtain ⟨x, b⟩ := p
    rw [gt_cons]
    have nd' := List.nodup_cons.mp nd
    rcases List.mem_cons.mp h with e | e
    · cases e; rw [if_pos rfl]
    · rw [if_neg fun z : x = k => nd'.1 (z ▸ List.mem_map.mpr ⟨_, e, rfl⟩)]
      exact ih nd'.2 e
/-- by ascending keys -/
def insP (p : Str × α) : Tb α → Tb α
  | [] => [p]
  | q :: r => if leS p.1 q.1 then p :: q :: r else q :: insP p r
def asc : Tb α → Tb α
  | [] => []
  | p :: r => insP p (asc r)
theorem insP_keys (p : Str × α) : ∀ l : Tb α, keys (insP p l) = insS p.1 (keys l)
  | [] => rfl
  | q :: r => by
    unfold insP
    show _ = insS p.1 (q.1 :: keys r)
    unfold insS
    split
    · rfl
    · show q.1 :: keys (insP p r) = _
      rw [insP_keys p r]
theorem asc_keys : ∀ l : Tb α, keys (asc l) = srt (keys l)
  | [] => rfl
  | p :: r => by
    show keys (insP p (asc r)) = insS p.1 (srt (keys r))
    rw [insP_keys, asc_keys r]
theorem insP_perm (p : Str × α) : ∀ l : Tb α, (insP p l).Perm (p :: l)
  | [] => .refl _
  | q :: r => by
    unfold insP
    split
    · exact .refl _
    · exact ((insP_perm p r).cons q).trans (List.Perm.swap p q r)
theorem asc_perm : ∀ l : Tb α, (asc l).Perm l
  | [] => .refl _
  | p :: r => (insP_perm p (asc r)).trans ((asc_perm r).cons p)
theorem asc_nd (nd : (keys l).Nodup) : (keys (asc l)).Nodup := ((asc_perm l).map _).nodup_iff.mpr nd
theorem asc_len : (asc l).length = l.length := (asc_perm l).length_eq
theorem asc_gt (nd : (keys l).Nodup) : gt (asc l) k = gt l k := by
  cases e : gt l k with
  | some a => exact gt_of_mem (asc_nd nd) ((asc_perm l).mem_iff.mpr (gt_mem e))
  | none =>
    refine gt_out fun h => ?_
    have h2 : k ∈ keys l := ((asc_perm l).map _).mem_iff.mp h
    obtain ⟨a, ha⟩ := gt_in h2
    rw [e] at ha; cases ha
/-- a table of its keys and entries -/
theorem tab_of : ∀ {l : Tb α} {F : Str → α}, (∀ p ∈ l, F p.1 = p.2) → l = (keys l).map fun k => (k, F k)
  | [], _, _ => rfl
  | (x, a) :: r, F, h => by
    show (x, a) :: r = (x, F x) :: (keys r).map _
    rw [show F x = a from h (x, a) List.mem_cons_self]
    exact congrArg _ (tab_of fun p hp => h p (List.mem_cons_of_mem _ hp))
end
def planD (p : Pa) : D := .obj "Plan" [("its_pipe", plD ruleD p.pipe), ("its_houses", .dct (dT (grD ruleD) (asc p.ho))), ("its_kinds", .dct (dT (grD ruleD) (asc p.ki))), ("its_streams", .dct (dT (smD ruleD) (asc p.st)))]
def partsD (p : Pa) : D := .dct [("pipe", plD trD p.pipe), ("streams", .dct (dT (smD trD) p.st)), ("houses", .dct (dT (grD trD) p.ho)), ("kinds", .dct (dT (grD trD) p.ki))]
/-- the groups around, nearest first; over the drawn groups, last first -/
def chn : Tb Gr → Option Str → List Str
  | [], _ => []
  | (x, g) :: r, o => if o = some x then x :: chn r g.a else chn r o
def WR : Tb Gr → Prop
  | [] => True
  | (x, g) :: r => x ∉ keys r ∧ (∀ y, g.a = some y → y ∈ keys r) ∧ WR r
theorem chn_none : ∀ l : Tb Gr, chn l none = []
  | [] => rfl
  | (x, g) :: r => by
    unfold chn
    rw [if_neg nofun]
    exact chn_none r
theorem chn_sub : ∀ (l : Tb Gr) (o : Option Str), ∀ x ∈ chn l o, x ∈ keys l
  | [], _, _, h => by cases h
  | (x, g) :: r, o, y, h => by
    unfold chn at h
    split at h
    · rcases List.mem_cons.mp h with e | e
      · rw [e]; exact List.mem_cons_self
      · exact List.mem_cons_of_mem _ (chn_sub r _ y e)
    · exact List.mem_cons_of_mem _ (chn_sub r _ y h)
def over (p : Pa) (s : Str) : List Str := match gt p.st s with
  | some m => s :: (chn p.ho.reverse m.h ++ chn p.ki.reverse m.k ++ [("pipe" : Str)])
  | none => []
def under (p : Pa) (n : Str) : List Str := (srt (keys p.st)).filter fun s => decide (n ∈ over p s)
def shared (p : Pa) : List Str := srt (keys p.ho ++ keys p.ki ++ [("pipe" : Str)])
def pool (p : Pa) (n : Str) : Option Pl := if n = "pipe" then some p.pipe else match gt p.st n with
  | some m => some ⟨m.c, m.t, "read"⟩
  | none => match gt p.ho n with
    | some g => some g.p
    | none => (gt p.ki n).map (·.p)
def cr (p : Pa) (n : Str) : Int := match pool p n with
  | some l => l.c
  | none => 0
def isRead (p : Pa) (n : Str) : Bool := match pool p n with
  | some l => decide (l.m = "read")
  | none => false
def rdp (p : Pa) : List Str := (shared p).filter (isRead p)
def rvl (p : Pa) (n : Str) : List Str := (rdp p).filter fun o => !decide (o = n)
def hold (p : Pa) (slow : List Str) (s : Str) : Int := match gt p.st s with
  | some m => if (decide (s ∈ slow) || m.g.isSome) = true then m.c else match m.q with
    | some q => q - 1
    | none => 0
  | none => 0
def caps (p : Pa) (slow : List Str) (n : Str) : Tb Int := (under p n).map fun s => (s, hold p slow s)
def allp (l : List Str) : List (List Str) := l.foldl (fun f n => f ++ f.map fun r => r ++ [n]) [[]]
def gi (l : Tb Int) (k : Str) : Int := (gt l k).getD 0
def left (p : Pa) (cs : Tb Int) (ps : List Str) : List Str := (srt (keys cs)).filter fun s => decide (0 < gi cs s) && (ps.filter fun n => decide (n ∈ over p s)).isEmpty
abbrev Cut := List Str × List Str
def csum (p : Pa) (cs : Tb Int) (k : Cut) : Int := (k.1.map (cr p)).sum + (k.2.map (gi cs)).sum
def cuts (p : Pa) (cs : Tb Int) (os : List Str) : List Cut := (allp os).map fun ps => (ps, left p cs ps)
def guides (p : Pa) : List Str := (srt (keys p.st)).filter fun s => decide (some s ∈ p.st.map fun x => x.2.g)
/-- the signs of names -/
def okN (x : Str) : Prop := 1 ≤ x.length ∧ x.length ≤ 8 ∧ ∀ c ∈ x.cps.toList, 97 ≤ c ∧ c ≤ 122
def big : Int := 10 ^ 40
def okP (l : Pl) : Prop := 1 ≤ l.c ∧ l.c ≤ big ∧ okT 1 l.t ∧ (l.m = "read" ∨ (l.m = "come" ∧ thr l.t ≤ l.c))
structure WP (p : Pa) : Prop where
  nm : ∀ x ∈ keys p.st ++ keys p.ho ++ keys p.ki, okN x ∧ x ≠ "pipe"
  nd : (keys p.st ++ keys p.ho ++ keys p.ki).Nodup
  s1 : 1 ≤ p.st.length
  s6 : p.st.length ≤ 6
  h3 : p.ho.length ≤ 3
  k3 : p.ki.length ≤ 3
  wh : WR p.ho.reverse
  wk : WR p.ki.reverse
  pp : okP p.pipe
  ph : ∀ x ∈ p.ho, okP x.2.p
  pk : ∀ x ∈ p.ki, okP x.2.p
  so : ∀ x ∈ p.st, okT 1 x.2.t ∧ 1 ≤ x.2.c ∧ x.2.c ≤ big ∧ (∀ q, x.2.q = some q → 1 ≤ q ∧ q ≤ big) ∧ thr x.2.t + x.2.q.getD 1 - 1 ≤ x.2.c
  sh : ∀ x ∈ p.st, ∀ y, x.2.h = some y → y ∈ keys p.ho
  sk : ∀ x ∈ p.st, ∀ y, x.2.k = some y → y ∈ keys p.ki
  sg : ∀ x ∈ p.st, ∀ y, x.2.g = some y → ∃ m, gt p.st y = some m ∧ m.g = none ∧ m.h = x.2.h ∧ m.k = x.2.k
/-- which streams are slow: a list or a tuple of names -/
def sqD (b : Bool) (l : List Str) : D := if b then .tup (l.map D.str) else .lst (l.map D.str)
structure WS (p : Pa) (l : List Str) : Prop where
  mem : ∀ s ∈ l, s ∈ keys p.st ∧ s ∉ guides p
  nd : l.Nodup
  len : l.length < p.st.length
end K51
end
section
set_option Elab.async false
set_option linter.all false
set_option maxRecDepth 100000
/-! Rules: dicts walked, own containment and subscription, least of tuples, dict comprehensions, made objects, properties. -/
namespace K51
open PySem PySem.Spec PyProof.Rows L2
section
variable {X : Cx} {ρ : En} {d x y z : D} {e a b : Expr} {es : List Expr} {pos p : Pos} {n k : Nat} {l ds : List D} {K : PySem.W.Frag} {H L : Hp} {tg : Expr} {t : List (Str × D)}
/-! ### dicts walked: they are locked -/
theorem repK_at : ∀ {kvs : List (Key × V)} {t : List (Str × D)}, RepK K L kvs t → ∀ {i : Nat} {kv : Str × D}, t[i]? = some kv → ∃ v, kvs[i]? = some (.inr kv.1, v) ∧ Rep K L v kv.2
  | _, _, .nil, _, _, h => by simp at h
  | _, _, .cons h1 _, 0, _, h => by cases h; exact ⟨_, rfl, h1⟩
  | _, _, .cons _ h2, i + 1, _, h => repK_at h2 (i := i) h
theorem i_keys (h : PE X e (tJ X.K ρ (.dct t))) : PI X tg e (tI X.K ρ ((t.map (·.1)).map D.str)) := (pi_keys h).imp fun σ H R ⟨L, e, env, k⟩ => ⟨L, e, env, fun v H1 L1 g1 r1 => by
  obtain ⟨a, o, kvs, rfl, ha, rl, z⟩ := r1.dctF_
  refine ⟨a, o, rfl, .inl ⟨kvs, g1.sub _ _ ha, k _ H1 L1 g1 ⟨by rw [List.length_map, List.length_map]; exact z, fun i H' L' hi gl gs => ⟨gs _ _ (gl _ _ ha), ?_⟩, fun H' L' gl gs => ⟨gs _ _ (gl _ _ ha), ?_⟩, fun i d H' L' v H'' hd gl gs hy => ?_⟩⟩⟩
  · rw [List.length_map, List.length_map] at hi; rw [rl.len]; exact hi
  · rw [List.length_map, List.length_map, rl.len]; exact Nat.le_refl _
  · obtain ⟨rfl, kk, vv, hk, rfl⟩ := hy
    rw [List.getElem?_map, List.getElem?_map] at hd
    cases q : t[i]? with
    | none => rw [q] at hd; cases hd
    | some kv =>
      rw [q] at hd
      cases hd
      obtain ⟨w, hw, _⟩ := repK_at rl q
      rw [hw] at hk
      cases hk
      exact ⟨L', Go.rf gs, .str _⟩⟩
theorem i_vals {apos cpos : Pos} (h : PE X e (tJ X.K ρ (.dct t))) (hbase : attributeBase e "values" X.env (eval e X.env) = eval e X.env := by rfl) (hline : (apos.endLine == cpos.line) = true := by rfl) : PI X tg (.Call (.Attribute e "values" apos) [] [] cpos) (tI X.K ρ (t.map (·.2))) := (pi_values h hbase hline).imp fun σ H R ⟨L, e, env, k⟩ => ⟨L, e, env, fun v H1 L1 g1 r1 => by
  obtain ⟨a, o, kvs, rfl, ha, rl, z⟩ := r1.dctF_
  refine ⟨a, o, kvs, rfl, g1.sub _ _ ha, k _ H1 L1 g1 ⟨by rw [List.length_map]; exact z, fun i H' L' hi gl gs => ⟨gs _ _ (gl _ _ ha), ?_⟩, fun H' L' gl gs => ⟨gs _ _ (gl _ _ ha), ?_⟩, fun i d H' L' v H'' hd gl gs hy => ?_⟩⟩
  · rw [List.length_map] at hi; rw [rl.len]; exact hi
  · rw [List.length_map, rl.len]; exact Nat.le_refl _
  · obtain ⟨rfl, kk, hk⟩ := hy
    rw [List.getElem?_map] at hd
    cases q : t[i]? with
    | none => rw [q] at hd; cases hd
    | some kv =>
      rw [q] at hd
      cases hd
      obtain ⟨w, hw, rw_⟩ := repK_at rl q
      rw [hw] at hk
      cases hk
      exact ⟨L', Go.rf gs, rw_.ex gl⟩⟩
theorem i_items {elts : List Expr} {kk : Nat} {tpos : Pos} {apos cpos : Pos} (h : PE X e (tJ X.K ρ (.dct t))) (hbase : attributeBase e "items" X.env (eval e X.env) = eval e X.env := by rfl) (hline : (apos.endLine == cpos.line) = true := by rfl) :
    PI X (.Tuple elts kk tpos) (.Call (.Attribute e "items" apos) [] [] cpos) (tI X.K ρ (t.map fun kv => .tup [.str kv.1, kv.2])) := (pi_items h hbase hline).imp fun σ H R ⟨L, e, env, k⟩ => ⟨L, e, env, fun v H1 L1 g1 r1 => by
  obtain ⟨a, o, kvs, rfl, ha, rl, z⟩ := r1.dctF_
  refine ⟨a, o, kvs, rfl, g1.sub _ _ ha, k _ H1 L1 g1 ⟨by rw [List.length_map]; exact z, fun i H' L' hi gl gs => ⟨gs _ _ (gl _ _ ha), ?_⟩, fun H' L' gl gs => ⟨gs _ _ (gl _ _ ha), ?_⟩, fun i d H' L' v H'' hd gl gs hy => ?_⟩⟩
  · rw [List.length_map] at hi; rw [rl.len]; exact hi
  · rw [List.length_map, rl.len]; exact Nat.le_refl _
  · obtain ⟨T, kk, vv, hk, rfl, hT, rfl⟩ := hy
    rw [List.getElem?_map] at hd
    cases q : t[i]? with
    | none => rw [q] at hd; cases hd
    | some kv =>
      rw [q] at hd
      cases hd
      obtain ⟨w, hw, rw_⟩ := repK_at rl q
      rw [hw] at hk
      cases hk
      have g2 := Go.new (o := .tup [kV (.inr kv.1), vv]) gs hT
      exact ⟨_, g2, .tup upd_same (.cons (.str _) (.cons ((rw_.ex gl).ex g2.lx) .nil)) (show 2 ≤ 100000 by decide)⟩⟩
/-! ### in over a module's tuple of texts -/
theorem cd_inG {a : Addr} {s : Str} {vs : List Str} (h : ∀ H, SqT X.K H a (vs.map V.str)) : CD X .In (.str s) (.own a) (decide (s ∈ vs)) := ⟨_, op_in_seq, fun v w H L Q e rv rw k => by
  obtain rfl := rv.str_
  obtain rfl := rw.own_
  exact ⟨a, vs.map V.str, rfl, .inr (h H), rfl, List.all_eq_true.mpr (fun u hu => by obtain ⟨q, _, rfl⟩ := List.mem_map.mp hu; rfl), k _ H L (Go.rf e) (by rw [inV_strs]; exact .bl _)⟩⟩
theorem j_gown {x : Str} {a : Addr} {pos : Pos} (hm : X.mg x = some (.ref a)) (hg : Gl X x := by rfl) (hd : (x == ("__debug__" : Str)) = false := by decide) : PE X (.Name x pos) (tJ X.K ρ (.own a)) :=
  (pe_glob hg hm (v := .ref a) rfl hd).imp fun _ H _ ⟨L, e, _, k⟩ => k _ H L (Go.rf e) (.own a)
/-! ### x or y of ints, None -/
def truI : D → Bool
  | .int i => i != 0
  | _ => false
theorem j_orI {rest : List Expr} {o : Option Int} (ha : PE X a (tJ X.K ρ (ofI o))) (hb : PE X (.BoolOp .Or (b :: rest) pos) (tJ X.K ρ z)) (h : (match o with | some i => i ≠ 0 ∧ D.int i = d | none => z = d)) : PE X (.BoolOp .Or (a :: b :: rest) pos) (tJ X.K ρ d) :=
  (pe_orT ha hb).imp fun σ H Q ⟨L, e, env, k⟩ => ⟨L, e, env, fun v H1 L1 g1 r1 => by
    cases o with
    | none =>
      obtain rfl := r1.non_
      obtain rfl : z = d := h
      exact ⟨false, rfl, iteF ⟨L1, g1.sub, env.ex g1.lx, fun w H2 L2 g2 r2 => k w H2 L2 (g1.tr g2) r2⟩⟩
    | some i =>
      obtain rfl := r1.int_
      obtain ⟨h1, rfl⟩ := h
      exact ⟨true, (show true = (i != 0) from (bne_iff_ne.mpr h1).symm), iteT (k _ H1 L1 g1 (.int i))⟩⟩
/-! ### the least of tuples -/
theorem pyL_getD : ∀ {l : List D} {ps : List PyData}, pyL l = some ps → ∀ {i : Nat} {d : D}, l[i]? = some d → ∃ p, ps[i]? = some p ∧ py d = some p
  | [], _, _, _, _, e => by simp at e
  | d0 :: r, ps, h, i, d, e => by
    obtain ⟨p, q, rfl, h1, h2⟩ := pyL_cons h
    cases i with
    | zero => cases e; exact ⟨p, rfl, h1⟩
    | succ i => exact pyL_getD h2 (i := i) e
/-- min of a list of alike data -/
def rMinP (X : Cx) (x : PyData) (xs : List PyData) : List V → Hp → VK → Prop := fun us H Q => ∃ (a : Addr) (vs : List V), us = [.ref a] ∧ H a = some (.lst vs) ∧ DpAll X.K H vs (x :: xs) ∧ ∀ (i : Nat) (v : V) (p : PyData), vs[i]? = some v → (x :: xs)[i]? = some p → p = PySem.W.minD x xs → Q v H
theorem call_minP {x : PyData} {xs : List PyData} (hr : Room n X.A) (ha : PySem.W.AlikeAll (x :: xs)) (hl : ∀ p ∈ x :: xs, p.canLay0 = true) (hz : PyData.depthAll (x :: xs) ≤ 60) : CallR X (.builtin "min") (rMinP X x xs) := by
  intro pins s σ H vs us Q I r q
  obtain ⟨a, ws, rfl, hq, hd, q⟩ := q
  obtain ⟨u, rfl, ru⟩ := r.one
  obtain rfl : u = .ref a := ru
  obtain ⟨its, m, rv, e, z⟩ := I.lst hq
  obtain ⟨as, ra⟩ := Dp.readsAll I _ _ _ hd rv
  have un := hr.un
  refine PySem.W.min_list_data (vs := its.toArray) hr.hd ⟨_, e, rfl, _, rfl⟩ (by exact ra) ha (by omega) fun i v h' tk bs hv hrd keep => ?_
  have hv' : its[i]? = some v := by simpa using hv
  have hi : i < ws.length := by rw [rv.length]; exact (List.getElem?_eq_some_iff.mp hv').1
  obtain ⟨v', h1, h2⟩ := Vals.get rv (List.getElem?_eq_getElem hi)
  rw [hv'] at h1
  cases h1
  obtain ⟨bs2, hb2, hb3, hb4, _⟩ := PySem.W.readsAll_at ra i v hv'
  have hb2' := PySem.W.reads_keeps keep hb2
  have eq : (x :: xs).getD i .none = PySem.W.minD x xs := PySem.SeqAt.Reads.unique _ _ _ _ _ (hl _ hb4) hb2' hrd
  refine ⟨ws[i], H, I.kept keep, h2, q i ws[i] _ (List.getElem?_eq_getElem hi) ?_ rfl⟩
  rw [← eq, List.getD_eq_getElem?_getD, List.getElem?_eq_getElem hb3]
  rfl
/-! triples: a number, two tuples of texts -/
abbrev T3 := Int × List Str × List Str
def t3D (t : T3) : D := .tup [.int t.1, .tup (t.2.1.map D.str), .tup (t.2.2.map D.str)]
def t3P (t : T3) : PyData := .tuple [.int t.1, .tuple (t.2.1.map PyData.str), .tuple (t.2.2.map PyData.str)]
theorem py_t3 (t : T3) : py (t3D t) = some (t3P t) := by
  unfold t3D t3P
  simp [py, pyL, pyL_strs]
theorem mapstr_inj : ∀ {l m : List Str}, l.map PyData.str = m.map PyData.str → l = m
  | [], [], _ => rfl
  | [], _ :: _, h => by simp at h
  | _ :: _, [], h => by simp at h
  | x :: l, y :: m, h => by
    simp only [List.map_cons, List.cons.injEq, PyData.str.injEq] at h
    rw [h.1, mapstr_inj h.2]
theorem t3P_inj {t u : T3} (h : t3P t = t3P u) : t = u := by
  obtain ⟨a, b, c⟩ := t
  obtain ⟨a', b', c'⟩ := u
  simp only [t3P, PyData.tuple.injEq, List.cons.injEq, PyData.int.injEq, and_true] at h
  rw [h.1, mapstr_inj h.2.1, mapstr_inj h.2.2]
/-- the first of the least -/
def min3 (t : T3) (l : List T3) : T3 := l.foldl (fun a y => if PySem.W.dataLt (t3P y) (t3P a) then y else a) t
theorem minD_t3 (t : T3) (l : List T3) : PySem.W.minD (t3P t) (l.map t3P) = t3P (min3 t l) := by
  unfold PySem.W.minD min3
  induction l generalizing t with
  | nil => rfl
  | cons u r ih =>
    rw [List.map_cons, List.foldl_cons, List.foldl_cons]
    rw [show (if PySem.W.dataLt (t3P u) (t3P t) = true then t3P u else t3P t) = t3P (if PySem.W.dataLt (t3P u) (t3P t) = true then u else t) by split <;> rfl]
    exact ih _
theorem min3_mem (t : T3) (l : List T3) : min3 t l ∈ t :: l := by
  unfold min3
  induction l generalizing t with
  | nil => exact List.mem_singleton.mpr rfl
  | cons u r ih =>
    rw [List.foldl_cons]
    rcases List.mem_cons.mp (ih (if PySem.W.dataLt (t3P u) (t3P t) = true then u else t)) with e | e
    · rw [e]
      split
      · exact List.mem_cons_of_mem _ List.mem_cons_self
      · exact List.mem_cons_self
    · exact List.mem_cons_of_mem _ (List.mem_cons_of_mem _ e)
theorem t3_dl {t u : T3} (h : t.1 ≠ u.1) : PySem.W.dataLt (t3P t) (t3P u) = decide (t.1 < u.1) := by
  unfold PySem.W.dataLt t3P
  simp only [PySem.W.keyToks, PySem.W.keyToksAll, List.cons_append, List.nil_append]
  rw [PyProof.Rows.lex_self (O := PyProof.Rows.itemOrd), PyProof.Rows.lex_diff (O := PyProof.Rows.itemOrd) (by intro q; exact h (Sum.inl.inj q))]
  rfl
theorem t3_lt {t u : T3} (h : t.1 < u.1) : PySem.W.dataLt (t3P t) (t3P u) = true := by rw [t3_dl (by omega)]; exact decide_eq_true h
theorem min3_le (t : T3) (l : List T3) : ∀ u ∈ t :: l, (min3 t l).1 ≤ u.1 := by
  unfold min3
  induction l generalizing t with
  | nil => intro u hu; rw [List.mem_singleton.mp hu]; exact Int.le_refl _
  | cons v r ih =>
    intro u hu
    rw [List.foldl_cons]
    have key : (if PySem.W.dataLt (t3P v) (t3P t) = true then v else t).1 ≤ t.1 ∧ (if PySem.W.dataLt (t3P v) (t3P t) = true then v else t).1 ≤ v.1 := by
      split
      · next q =>
        refine ⟨Int.not_lt.mp fun z => ?_, Int.le_refl _⟩
        rw [t3_dl (by omega), decide_eq_true_eq] at q
        omega
      · next q => exact ⟨Int.le_refl _, Int.not_lt.mp fun z => q (t3_lt z)⟩
    have h0 := ih (if PySem.W.dataLt (t3P v) (t3P t) = true then v else t) _ List.mem_cons_self
    rcases List.mem_cons.mp hu with e | e
    · rw [e]; exact Int.le_trans h0 key.1
    · rcases List.mem_cons.mp e with e | e
      · rw [e]; exact Int.le_trans h0 key.2
      · exact ih _ u (List.mem_cons_of_mem _ e)
theorem bf_min3 {t : T3} {l : List T3} (hr : Room n X.A) (ok : ∀ u ∈ t :: l, okS u.2.1 ∧ okS u.2.2) : BF X "min" [.lst ((t :: l).map t3D)] (t3D (min3 t l)) := by
  have al : ∀ l m : List Str, PySem.W.alikeAll (l.map PyData.str) (m.map PyData.str) = true := fun l => by
    induction l with
    | nil => intro m; rfl
    | cons x r ih =>
      intro m
      cases m with
      | nil => rfl
      | cons y s => show (true && PySem.W.alikeAll _ _) = true; rw [ih]; rfl
  have cl : ∀ u ∈ t :: l, (t3P u).canLay0 = true := fun u hu => by
    have h1 := lay_strs _ (ok u hu).1
    have h2 := lay_strs _ (ok u hu).2
    unfold t3P
    show (true && (_ && (_ && true))) = true
    rw [show (PyData.tuple (u.2.1.map PyData.str)).canLay0 = true from h1, show (PyData.tuple (u.2.2.map PyData.str)).canLay0 = true from h2]
    rfl
  have dp : ∀ l : List T3, PyData.depthAll (l.map t3P) ≤ 2 := fun l => by
    induction l with
    | nil => exact Nat.zero_le _
    | cons u r ih =>
      rw [List.map_cons, PyData.depthAll]
      refine Nat.max_le.mpr ⟨?_, ih⟩
      unfold t3P
      simp [PyData.depth, PyData.depthAll, dep_strs]
  have pl : ∀ l : List T3, pyL (l.map t3D) = some (l.map t3P) := fun l => by
    induction l with
    | nil => rfl
    | cons u r ih => rw [List.map_cons, pyL, py_t3, ih]; rfl
  refine ⟨_, .inl ⟨_, boot_min, call_minP (x := t3P t) (xs := l.map t3P) hr ⟨fun a ha b hb => ?_, fun a ha => ?_⟩ (fun p hp => ?_) ?_⟩, cd1 fun v H L Q e r k => ?_⟩
  · rw [← List.map_cons] at ha hb
    obtain ⟨u, _, rfl⟩ := List.mem_map.mp ha
    obtain ⟨v, _, rfl⟩ := List.mem_map.mp hb
    show (true && (PySem.W.alikeAll _ _ && (PySem.W.alikeAll _ _ && true))) = true
    rw [al, al]
    rfl
  · rw [← List.map_cons] at ha
    obtain ⟨u, _, rfl⟩ := List.mem_map.mp ha
    exact nofun
  · rw [← List.map_cons] at hp
    obtain ⟨u, hu, rfl⟩ := List.mem_map.mp hp
    exact cl u hu
  · have := dp (t :: l)
    rw [List.map_cons] at this
    omega
  · obtain ⟨a, vs, rfl, ha, rl, z⟩ := r.lst_
    refine ⟨a, vs, rfl, e _ _ ha, ?_, fun i v p hv hp hm => ?_⟩
    · exact pyL_rep e rl (by rw [pl]; rfl)
    · obtain ⟨d, hd, rd⟩ := rl.getV hv
      rw [List.getElem?_map] at hd
      cases q : (t :: l)[i]? with
      | none => rw [q] at hd; cases hd
      | some u =>
        rw [q] at hd
        cases hd
        rw [← List.map_cons, List.getElem?_map, q] at hp
        cases hp
        rw [minD_t3] at hm
        rw [t3P_inj hm] at rd
        exact k v H L (Go.rf e) rd
/-! ### made objects -/
theorem j_make {C : Str} {f : Addr} {ps : List Str} {sp : Sp} {fd : FuncData} (M : Mk X.K (He.ga X.K C) f) (F : FnOk X.prog X.w X.K X.mg X.base CX0 k f fd ps sp) (B : Binds X.K fd ps []) (hr : Room n X.A) (hm : X.mg C = some (.ref (He.ga X.K C))) (ha : PA X (e :: es) (tJA X.K ρ ds))
    (h : ∀ (vs : List V) (H L : Hp) (x dx : Addr) (Q : Hp → Prop), Ex L H → RepL X.K L vs ds → H x = none → H dx = none → dx ≠ x → (∀ H' L', Go H L H' L' → Rep X.K L' (.ref x) d → Q H') → sp (.ref x :: vs) (upd (upd H dx (.own x)) x (.ins (He.ga X.K C) dx [])) (fun v H2 => v = .non ∧ Q H2) (fun _ _ _ => False)) (hk : k + 1 ≤ n := by decide) (hg : Gl X C := by rfl)
    (hdb : (C == ("__debug__" : Str)) = false := by decide) (he : starEach (e :: es) X.env = (false, eval e X.env) :: starEach es X.env := by rfl) (hpl : (backTo pos (starEach es X.env)).any (·.1) = false := by rfl) :
    PE X (.Call (.Name C p) (e :: es) [] pos) (tJ X.K ρ d) :=
  (pe_make M F (hr.mono hk) hg hm B .nil pass0 ha hdb he hpl).imp fun σ H Q ⟨L, e, env, k⟩ => ⟨L, e, env, fun vs H1 L1 g1 r1 x dx hx hdx ne => by
    rw [List.append_nil]
    exact h vs H1 L1 x dx (fun H' => Q (.ref x) H') g1.sub r1 hx hdx ne fun H' L' g2 r2 => k _ H' L' (g1.tr g2) r2⟩
/-! ### a property -/
theorem j_prop {C f : Str} {pa ga : Addr} {t : List (Str × D)} {ps : List Str} {R : List D → D → Prop} (hp : PropOf X.K (He.ga X.K C) f pa ga) (G : Ok0 X.prog X.w X.K X.mg X.base k ga ps (spD X.K R)) (hr : Room n X.A) (cl : Cls X.K (He.ga X.K C)) (ho : PE X e (tJ X.K ρ (.obj C t))) (h : R [.obj C t] d) (hk : k + 1 ≤ n := by decide)
    (hab : attributeBase e f X.env (eval e X.env) = eval e X.env := by rfl) : PE X (.Attribute e f pos) (tJ X.K ρ d) := by
  obtain ⟨fd, F, B⟩ := G.ex
  exact (pe_prop ho cl hp F (hr.mono hk) B .nil pass0 hab).imp fun σ H Q ⟨L, e, env, k⟩ => ⟨L, e, env, fun v H1 L1 g1 r1 => by
    have r1' := r1
    obtain ⟨q, dx, fs, rfl, hq, rf⟩ := r1.obj_
    exact ⟨q, dx, fs, rfl, g1.sub _ _ hq, L1, _, d, g1.sub, .cons r1' .nil, h, fun v H3 L3 g3 r3 => k v H3 L3 (g1.tr g3) r3⟩⟩
/-! ### own containment, subscription -/
/-- y in o, y not in o -/
def rInC (X : Cx) (C : Addr) (sp : Sp) (neg : Bool) : R2 := fun x y H Q => ∃ a dx fs, y = .ref a ∧ H a = some (.ins C dx fs) ∧ sp [.ref a, x] H (fun v H2 => ∃ c, v = .bl c ∧ Q (.bl (if neg then !c else c)) H2) (fun _ _ _ => False)
theorem op_inC {C f : Addr} {ps : List Str} {sp : Sp} {fd : FuncData} (hm : Meth X.K C "__contains__" f) (F : FnOk X.prog X.w X.K X.mg X.base CX0 k f fd ps sp) (B : Binds X.K fd ps []) (hr : Room k X.A) : OpR X (compareOp .In) (rInC X C sp false) := by
  intro pins s σ H x y v u Q I rx ry h
  obtain ⟨a, dx, fs, rfl, hq, h⟩ := h
  obtain rfl : u = .ref a := ry
  obtain ⟨mA, O, _, _, _, _⟩ := ins_get I.hok hq
  obtain ⟨od, J, _⟩ := O.look
  obtain ⟨m, fr⟩ := I.fr
  refine PySem.W.in_K fr I.ok.mod.kin J hm.at_ hm.fn (thn (run_fn F hr B .nil (E := fun _ _ _ => False) (Q := fun v H2 => ∃ c, v = .bl c ∧ Q (.bl (if false then !c else c)) H2) pass0 I (vs := [.ref a, x]) (.cons (show RelV (.ref a) (.ref a) from rfl) (.cons rx .nil)) (by simpa using h)) fun r s2 hq2 => ?_)
  obtain ⟨w, H2, I2, rw_, c, e, q⟩ := hq2
  subst e
  cases rw_
  exact wpAny_truthy_bool ⟨.bl _, H2, I2, rfl, q⟩
theorem op_ninC {C f : Addr} {ps : List Str} {sp : Sp} {fd : FuncData} (hm : Meth X.K C "__contains__" f) (F : FnOk X.prog X.w X.K X.mg X.base CX0 k f fd ps sp) (B : Binds X.K fd ps []) (hr : Room k X.A) : OpR X (compareOp .NotIn) (rInC X C sp true) := by
  intro pins s σ H x y v u Q I rx ry h
  obtain ⟨a, dx, fs, rfl, hq, h⟩ := h
  obtain rfl : u = .ref a := ry
  obtain ⟨mA, O, _, _, _, _⟩ := ins_get I.hok hq
  obtain ⟨od, J, _⟩ := O.look
  obtain ⟨m, fr⟩ := I.fr
  refine PySem.W.notIn_K fr I.ok.mod.kin J hm.at_ hm.fn (thn (run_fn F hr B .nil (E := fun _ _ _ => False) (Q := fun v H2 => ∃ c, v = .bl c ∧ Q (.bl (if true then !c else c)) H2) pass0 I (vs := [.ref a, x]) (.cons (show RelV (.ref a) (.ref a) from rfl) (.cons rx .nil)) (by simpa using h)) fun r s2 hq2 => ?_)
  obtain ⟨w, H2, I2, rw_, c, e, q⟩ := hq2
  subst e
  cases rw_
  exact wpAny_truthy_bool ⟨.bl _, H2, I2, rfl, q⟩
theorem cd_ninC {C : Str} {t : List (Str × D)} {ps : List Str} {R : List D → D → Prop} {c : Bool} (G : OkM X.prog X.w X.K X.mg X.base k C "__contains__" ps (spD X.K R)) (hr : Room n X.A) (h : R [.obj C t, x] (.bl c)) (hk : k ≤ n := by decide) : CD X .NotIn x (.obj C t) (!c) := by
  obtain ⟨f, M, fd, F, B⟩ := G.ex
  exact ⟨_, op_ninC M F B (hr.mono hk), fun v w H L Q e rv rw k => by
    have rw' := rw
    obtain ⟨q, dx, fs, rfl, hq, rf⟩ := rw.obj_
    exact ⟨q, dx, fs, rfl, e _ _ hq, L, _, _, e, .cons rw' (.cons rv .nil), h, fun v H' L' g r => ⟨c, r.bl_, k _ H' L' g (.bl _)⟩⟩⟩
/-- o[i], o of an own class -/
theorem pe_subC {C f : Addr} {ps : List Str} {sp : Sp} {fd : FuncData} {ta ti : TE} (hm : Meth X.K C "__getitem__" f) (hf : PySem.W.fnIn X.K f = true) (F : FnOk X.prog X.w X.K X.mg X.base CX0 k f fd ps sp) (B : Binds X.K fd ps []) (hr : Room (k + 1) X.A) (ho : PE X a ta) (hi : PE X b ti)
    (hs : ∀ q i, subscripted b true (.ref q) i = runValue (.builtin "lifetime.subscript" ⟨[.ref q, i], []⟩) := by with_unfolding_all (intros; rfl)) :
    PE X (.Subscript a b pos) (fun σ H Q => ta σ H fun x H1 => ti σ H1 fun y H2 => ∃ q dx fs, x = .ref q ∧ H2 q = some (.ins C dx fs) ∧ sp [.ref q, y] H2 Q (fun _ _ _ => False)) := by
  refine ⟨fun pins s σ H Q I h => ?_⟩
  refine Subscript_ (thn (ho.run pins s σ H _ I h) fun u s1 ⟨x, H1, I1, rx, q1⟩ => thn (hi.run pins s1 σ H1 _ I1 q1) fun iv s2 ⟨y, H2, I2, ry, q, dx, fs, ex, hq, h⟩ => ?_)
  subst ex
  obtain rfl : u = .ref q := rx
  obtain ⟨mA, O, _, _, _, _⟩ := ins_get I2.hok hq
  obtain ⟨od, J, _⟩ := O.look
  obtain ⟨m, fr⟩ := I2.fr
  have hl : ([Value.ref q, iv] : List Value).length = ps.length := F.len _ _ _ _ h
  refine PySem.W.sub_K fr I2.ok.mod.kin J hm.at_ hf hm.fn (wpAny_call ?_) (hs q iv)
  refine codeAny_mono (F.run X.A.in1 X.stack s2 H2 ⟨[.ref q, iv], []⟩ _ _ Q (fun _ _ _ => False) hr.in1 I2.env0.in1 (B _ [.ref q, iv] I2.kIn (by simpa using hl)) (.cons (show RelV (.ref q) (.ref q) from rfl) (.cons ry .nil)) h) fun r s' hq => ?_
  cases r with
  | error er => exact hq.elim
  | ok fl =>
    cases fl with
    | ret u =>
      exact I2.after hq
    | next => exact False.elim hq
    | brk => exact False.elim hq
    | cont => exact False.elim hq
theorem j_subC {C : Str} {t : List (Str × D)} {ps : List Str} {R : List D → D → Prop} (G : OkM X.prog X.w X.K X.mg X.base k C "__getitem__" ps (spD X.K R)) (hf : ∀ f, Meth X.K (He.ga X.K C) "__getitem__" f → PySem.W.fnIn X.K f = true) (hr : Room n X.A) (ho : PE X a (tJ X.K ρ (.obj C t))) (hi : PE X b (tJ X.K ρ x)) (h : R [.obj C t, x] d) (hk : k + 1 ≤ n := by decide)
    (hs : ∀ q i, subscripted b true (.ref q) i = runValue (.builtin "lifetime.subscript" ⟨[.ref q, i], []⟩) := by with_unfolding_all (intros; rfl)) : PE X (.Subscript a b pos) (tJ X.K ρ d) := by
  obtain ⟨f, M, fd, F, B⟩ := G.ex
  exact (pe_subC M (hf f M) F B (hr.mono hk) ho hi hs).imp fun σ H Q ⟨L, e, env, k⟩ => ⟨L, e, env, fun v H1 L1 g1 r1 => ⟨L1, g1.sub, env.ex g1.lx, fun w H2 L2 g2 r2 => by
    have r1' := r1.ex g2.lx
    obtain ⟨q, dx, fs, rfl, hq, rf⟩ := r1.obj_
    exact ⟨q, dx, fs, rfl, g2.sub _ _ (g2.lx _ _ hq), L2, _, d, g2.sub, .cons r1' (.cons r2 .nil), h, fun v H3 L3 g3 r3 => k v H3 L3 ((g1.tr g2).tr g3) r3⟩⟩⟩
end
end K51
end
section
set_option Elab.async false
set_option linter.all false
set_option maxRecDepth 100000
/-! Small rules that the walks use. -/
namespace K51
open PySem PySem.Spec PyProof.Rows L2
section
variable {X : Cx} {ρ : En} {d x y z : D} {e a b : Expr} {es : List Expr} {pos p : Pos} {n k : Nat} {l ds : List D} {K : PySem.W.Frag} {H L : Hp} {tg : Expr} {t : List (Str × D)}
variable {α : Type} {ls : List α} {c f : α → D} {pr : α → Bool} {elt iter : Expr} {ifs : List Expr} {scope : Scope} {px : Pos} {nm : Str}
theorem hp_nox {X : Cx} : PassesOwn (model X.prog X.w) X.nox.A X.nox.env X.nox.xe := fun _ _ h => h.elim
/-- a comprehension without tests -/
theorem j_lcm (i : Nat) (hN : X.N.Nodup) (hi : PI X (.Name nm px) iter (tI X.K ρ (ls.map c)))
    (he : ∀ a ∈ ls, Blk X scope fun Y => PE Y elt (tJ X.K (ρ.set i (some (c a))) (f a)))
    (ok : BlkOk X.N X.env.scope scope [(nm, i)] := by exact blkOk_by (by first | decide +kernel | kernel_rfl)) (hc : X.calm = true := by rfl)
    (hg : Blk X scope fun Y => PG Y (.Name nm px) (gName i) := by exact fun _ _ _ _ _ => pg_name ‹_› rfl (.inl rfl)) (hs : ∀ x, foldedSetIterable iter X.env x = pure x := by intro _; rfl) :
    PE X (.ListComp elt [⟨.Name nm px, iter, [], 0⟩] scope pos) (tJ X.K ρ (.lst (ls.map f))) :=
  j_is (j_lc (pr := fun _ => true) i hN hi (fun a ha s H C cl fp => tt_nil) (fun a ha _ => he a ha) ok hc hg hs) (by rw [List.filter_eq_self.mpr fun _ _ => rfl])
theorem filter_id {p : α → Bool} (h : ∀ x ∈ ls, p x = false) : ls.filter p = [] := List.filter_eq_nil_iff.mpr fun x hx q => by rw [h x hx] at q; cases q
/-- a comprehension whose test never holds -/
theorem j_lc0 (i : Nat) (hN : X.N.Nodup) (hi : PI X (.Name nm px) iter (tI X.K ρ (ls.map c)))
    (ht : ∀ a ∈ ls, Blk X scope fun Y => PTs Y ifs (tT X.K (ρ.set i (some (c a))) false))
    (ok : BlkOk X.N X.env.scope scope [(nm, i)] := by exact blkOk_by (by first | decide +kernel | kernel_rfl)) (hc : X.calm = true := by rfl)
    (hg : Blk X scope fun Y => PG Y (.Name nm px) (gName i) := by exact fun _ _ _ _ _ => pg_name ‹_› rfl (.inl rfl)) (hs : ∀ x, foldedSetIterable iter X.env x = pure x := by intro _; rfl) :
    PE X (.ListComp elt [⟨.Name nm px, iter, ifs, 0⟩] scope pos) (tJ X.K ρ (.lst [])) :=
  j_is (j_lc (f := c) (pr := fun _ => false) i hN hi ht (fun a ha h => by cases h) ok hc hg hs) (by rw [filter_id fun _ _ => rfl]; rfl)
theorem all_true : ∀ ls : List α, (ls.map fun _ => true).all id = true
  | [] => rfl
  | _ :: r => by rw [List.map_cons, List.all_cons, all_true r]; rfl
/-- all([..]) where each holds -/
theorem j_all1 {p2 : Pos} (i : Nat) (hN : X.N.Nodup) (hm : X.mg "all" = none) (hi : PI X (.Name nm px) iter (tI X.K ρ (ls.map c)))
    (he : ∀ a ∈ ls, Blk X scope fun Y => PE Y elt (tJ X.K (ρ.set i (some (c a))) (.bl true)))
    (ok : BlkOk X.N X.env.scope scope [(nm, i)] := by exact blkOk_by (by first | decide +kernel | kernel_rfl)) (hc : X.calm = true := by rfl)
    (hg : Blk X scope fun Y => PG Y (.Name nm px) (gName i) := by exact fun _ _ _ _ _ => pg_name ‹_› rfl (.inl rfl)) (hs : ∀ x, foldedSetIterable iter X.env x = pure x := by intro _; rfl)
    (hgl : Gl X "all" := by rfl) (hes : starEach [.ListComp elt [⟨.Name nm px, iter, [], 0⟩] scope p2] X.env = (false, eval (.ListComp elt [⟨.Name nm px, iter, [], 0⟩] scope p2) X.env) :: starEach [] X.env := by rfl) (hpl : (backTo pos (starEach [] X.env)).any (·.1) = false := by rfl) :
    PE X (.Call (.Name "all" p) [.ListComp elt [⟨.Name nm px, iter, [], 0⟩] scope p2] [] pos) (tJ X.K ρ (.bl true)) :=
  j_is (j_f (bf_all (bs := ls.map fun _ => true) hc) hm (ja_cons (j_is (j_lcm i hN hi he ok hc hg hs) (by rw [List.map_map]; rfl)) ja_nil hes) hgl (by decide) (by decide) hes hpl) (by rw [all_true])
/-! ### an object being made -/
variable {bq : Option Addr} {M : Mem} {q : Addr} {i j : Nat} {C : Str} {fl : List (Str × D)} {Φ : D → Prop} {u : V}
theorem Sh.obj_ {K : PySem.W.Frag} (h : Sh K L H q (.obj C fl)) : ∃ dx fs, H q = some (.ins (He.ga K C) dx fs) ∧ RepF K L fs fl := by cases h with | obj h r => exact ⟨_, _, h, r⟩
theorem e_borO (h : PE X e (tJ X.K (ρ.set i (some (.obj C fl))) z)) (hz : flt z = some u) (hi : ρ[i]? = some (some (.own q)) := by rfl) (hM : M[j]? = some (q, .obj C fl) := by rfl) : PE X e (tE X.K bq M ρ (· = z)) := h.imp fun σ H Q ⟨L, e, env, ow, k⟩ => by
  have hm := List.mem_of_getElem? hM
  obtain ⟨dx, fs, h1, r⟩ := (ow.sh _ hm).obj_
  have lx : Ex L (upd L q (.ins (He.ga X.K C) dx fs)) := ex_new (ow.un _ hm)
  refine ⟨_, fun c o hc => ?_, env_bor (env.ex lx) hi (.obj upd_same (r.mo lx.mo)), fun v H' L' g rz => ?_⟩
  · by_cases w : c = q
    · rw [w, upd_same] at hc; rw [w, h1]; exact hc
    · rw [upd_ne w] at hc; exact e c o hc
  · have g2 : Go H L H' L := ⟨g.ex, Ex.rf, e.tr g.ex, fun _ _ => rfl⟩
    exact k v H' L z rfl g2.gx (ow.go g2) (flt_any hz rz)
/-- the fields, one stored -/
def fput (f : Str) (d : D) : List (Str × D) → List (Str × D)
  | [] => [(f, d)]
  | p :: r => if p.1 = f then (f, d) :: r else p :: fput f d r
theorem repF_put {K : PySem.W.Frag} {f : Str} {v : V} {d : D} (hv : Rep K L v d) : ∀ {fs : List (Str × V)} {l : List (Str × D)}, RepF K L fs l → RepF K L (putF f v fs) (fput f d l)
  | _, _, .nil => .cons hv .nil
  | _, _, .cons (x := x) h r => by
    unfold putF fput
    by_cases w : x = f
    · subst w
      simp
      exact .cons hv r
    · simp [w]
      exact .cons h (repF_put hv r)
theorem RepF.len {K : PySem.W.Frag} : ∀ {fs : List (Str × V)} {l : List (Str × D)}, RepF K L fs l → fs.length = l.length
  | _, _, .nil => rfl
  | _, _, .cons _ r => congrArg (· + 1) r.len
/-- o.f = e, o being made -/
theorem w_fld (j : Nat) {f : Str} {pos' : Pos} (ho : PE X a (tJ X.K ρ (.own q))) (hM : M[j]? = some (q, .obj C fl)) (cl : Cls X.K (He.ga X.K C)) (na : NoAttr X.K (He.ga X.K C) f) (ha : PE X e (tE X.K bq M ρ Φ)) (hz : fl.length < 1000)
    (hs : swapsWith e (some (.Attribute a f pos')) pos.line X.env = pure false := by rfl) :
    PS X (.Assign [.Attribute a f pos'] e pos) (tW X.K bq M ρ fun o => ∃ w, Φ w ∧ o = .nxt ρ (M.set j (q, .obj C (fput f w fl)))) :=
  (ps_fld ho ha hs).imp fun E σ H ⟨L, e, env, ow, k⟩ => ⟨L, e, env, ow, fun v H1 L1 w hw g1 o1 r1 => ⟨L1, g1.sub, env.ex g1.lx, fun y H2 L2 g2 r2 => by
    obtain rfl := r2.own_
    have o2 := o1.go g2
    have hm := List.mem_of_getElem? hM
    obtain ⟨dx, fs, h1, r⟩ := (o2.sh _ hm).obj_
    obtain ⟨o3, g3, _⟩ := o2.put (u := .ins (He.ga X.K C) dx (putF f v fs)) (d' := .obj C (fput f w fl)) g2.sub hM (.obj upd_same (repF_put (r1.ex g2.lx) r))
    exact ⟨q, _, dx, fs, rfl, h1, cl, na, by rw [r.len]; exact hz, k _ ⟨w, hw, rfl⟩ σ _ L2 ((g1.tr g2.gx).gs.tr g3) o3 ((env.ex g1.lx).ex g2.lx)⟩⟩⟩
end
/-! ### __init__ -/
/-- an __init__'s promise: R of the arguments and the object's fields -/
def spI (K : PySem.W.Frag) (C : Str) (R : List D → List (Str × D) → Prop) : Sp := fun vs H Q _ => ∃ L x us ds l, Ex L H ∧ vs = .ref x :: us ∧ RepL K L us ds ∧ Ow K none [(x, .obj C [])] L H ∧ R ds l ∧ ∀ H' L', Gs none [(x, .obj C [])] H L [(x, .obj C l)] H' L' → Ow K none [(x, .obj C l)] L' H' → Q .non H'
section
variable {P : Program} {w : World} {K : PySem.W.Frag} {mg : Str → Option Value} {base : Heap}
variable {x qual : Str} {params : Arguments} {body : List Stmt} {scope : Scope} {f : Addr} {fd : FuncData} {N ps : List Str} {k : Nat} {C : Str} {R : List D → List (Str × D) → Prop}
theorem fn_I (F : FunD K x qual params body scope [] [] f fd) (S : FnScope N ps scope)
    (len : ∀ ds l, R ds l → ds.length + 1 = ps.length)
    (hb : ∀ (kV doc pm : Value) (an : Option Addr) (cdv ct : Value) (us : List Value), us.length = ps.length → bindArgs (PySem.W.fnOf x qual params body scope .none kV doc pm an cdv ct) ⟨us, []⟩ = pure (ps.zip us))
    (hbody : ∀ (q : Addr) (ds : List D) (l : List (Str × D)), R ds l → ∀ (cdv : Value) (A : Around) (outer : List Env) (s : Shared) (H : Hp) (E : XK), Room k (A.deeper (envOfC qual scope s.heap.objs.size f cdv)) →
      PSs (cxOf CX0 P w K mg base N qual scope f cdv A outer s H E).nox body (tW K none [(q, .obj C [])] ((.own q :: ds).map some ++ List.replicate (N.length - (D.own q :: ds).length) none) fun o => ∃ ρ, o = .nxt ρ [(q, .obj C l)])) :
    Ok0 P w K mg base (k + 1) f ps (spI K C R) := by
  refine ⟨⟨fd, F.ok S (fun vs H Q E ⟨L, q, us, ds, l, _, ev, r, _, h, _⟩ => by rw [ev, List.length_cons, r.len]; exact len ds l h) fun cdv A outer s H vs Q E hr ⟨L, q, us, ds, l, e, ev, r, ow, h, k⟩ => ?_, F.bindsN hb⟩, F.kp⟩
  subst ev
  refine ⟨_, (hbody q ds l h cdv A outer s H E hr).nox, L, e, start_env (.cons (.own q) r), ow, fun o ⟨ρ, ho⟩ => ?_⟩
  subst ho
  exact fun σ' H' L' g o _ => k H' L' g o
end
section
variable {X : Cx} {ρ : En} {d : D} {e : Expr} {es : List Expr} {pos p : Pos} {n k : Nat} {ds : List D}
/-- C(..) by the promise of its __init__ -/
theorem j_makeI {C : Str} {f : Addr} {ps : List Str} {R : List D → List (Str × D) → Prop} {l : List (Str × D)} (M : Mk X.K (He.ga X.K C) f) (G : Ok0 X.prog X.w X.K X.mg X.base k f ps (spI X.K C R)) (hr : Room n X.A) (hm : X.mg C = some (.ref (He.ga X.K C))) (ha : PA X (e :: es) (tJA X.K ρ ds)) (h : R ds l) (hk : k + 1 ≤ n := by decide) (hg : Gl X C := by rfl)
    (hdb : (C == ("__debug__" : Str)) = false := by decide) (he : starEach (e :: es) X.env = (false, eval e X.env) :: starEach es X.env := by rfl) (hpl : (backTo pos (starEach es X.env)).any (·.1) = false := by rfl) :
    PE X (.Call (.Name C p) (e :: es) [] pos) (tJ X.K ρ (.obj C l)) := by
  obtain ⟨fd, F, B⟩ := G.ex
  refine j_make M F B hr hm ha (fun vs H L x dx Q ex r hx hdx ne q => ?_) hk hg hdb he hpl
  have lx : L x = none := free_sub ex hx
  have ex2 : Ex H (upd (upd H dx (.own x)) x (.ins (He.ga X.K C) dx [])) := fun b o hb => by rw [upd_ne (ne_of_none hb hx), upd_ne (ne_of_none hb hdx)]; exact hb
  refine ⟨L, x, vs, ds, l, ex.tr ex2, rfl, r, ⟨by simp [Mem.ks], fun p hp => ?_, fun p hp => ?_, nofun⟩, h, fun H' L' g o => ⟨rfl, ?_⟩⟩
  · rw [List.mem_singleton] at hp; subst hp; exact lx
  · rw [List.mem_singleton] at hp; subst hp; exact .obj upd_same .nil
  · obtain ⟨dx', fs, h1, rf⟩ := (o.sh (x, .obj C l) (by simp)).obj_
    have lx' : L' x = none := o.un (x, .obj C l) (by simp)
    have lx2 : Ex L' (upd L' x (.ins (He.ga X.K C) dx' fs)) := ex_new lx'
    refine q H' _ ⟨fun b u hb => g.ex b u nofun (by simp [Mem.ks]; exact ne_of_none hb hx) (ex2 b u hb), g.lx.tr lx2, fun b u hb => ?_, fun b hb => ?_⟩ (.obj upd_same (rf.mo lx2.mo))
    · by_cases w : b = x
      · rw [w, upd_same] at hb; rw [w, h1]; exact hb
      · rw [upd_ne w] at hb; exact g.sub b u hb
    · have bx : b ≠ x := fun w => hb (w ▸ hx)
      rw [upd_ne bx]
      exact g.old b (dom_of ex2 b hb) (by simp [Mem.ks]; exact bx)
end
end K51
end
section
set_option Elab.async false
set_option linter.all false
set_option maxRecDepth 100000
/-! Rules: list.count of texts, zip, dict comprehensions, targets that are pairs. -/
namespace K51
open PySem PySem.Spec PyProof.Rows L2
/-! ### list.count of texts -/
def eqt (k : Str) (v : Value) : Bool := match v with
  | .str n _ => n == k
  | _ => false
theorem eqt_at {k : Str} {t : Tok} {A : Around} {s : Shared} : ∀ {us : List Value} {ns : List Str}, Vals (ns.map V.str) us → ∀ y ∈ us, SeqAt.EqAt A s y (.str k t) (eqt k y)
  | _, [], .nil => fun y hy => by cases hy
  | _, n :: _, .cons h r => fun y hy => by
    obtain ⟨t', rfl⟩ := h
    rcases List.mem_cons.mp hy with e | e
    · rw [e]
      exact SeqAt.EqAt.str_str n t' k t
    · exact eqt_at r y e
theorem eqt_count {k : Str} : ∀ {us : List Value} {ns : List Str}, Vals (ns.map V.str) us → us.countP (eqt k) = ns.countP fun n => n == k
  | _, [], .nil => rfl
  | _, n :: _, .cons h r => by
    obtain ⟨t', rfl⟩ := h
    rw [List.countP_cons, List.countP_cons, eqt_count r]
    rfl
section
variable {X : Cx}
def rCntS (K : PySem.W.Frag) : V → List V → Hp → VK → Prop := fun x xs H Q => ∃ (p : Addr) (ns : List Str) (k : Str), x = .ref p ∧ xs = [.str k] ∧ SqL K H p (ns.map V.str) ∧ Q (.int (ns.countP (fun n => n == k) : Nat)) H
theorem mt_scount : MtR X "list.count" (rCntS X.K) := by
  intro pins s σ H x xs v us Q I rx rxs h
  obtain ⟨p, ns, k, rfl, rfl, hs, q⟩ := h
  cases rx
  obtain ⟨u, rfl, ru⟩ := rxs.one
  obtain ⟨t, rfl⟩ := ru
  obtain ⟨its, rv, ⟨⟨cls, dd, data, sl⟩, n, ho, hc, hdn, hd⟩, hlen⟩ := I.list hs
  simp only at hc hd
  subst hc hd
  refine call_meets PySem.F.slot_list_count ⟨_, ho, rfl⟩ PySem.F.entry_list_count (PySem.F.args_list_count_2 _ _)
    (SeqAt.list_countAt p its.toArray n dd sl (.str k t) (eqt k)) ⟨ho, fun y hy => eqt_at rv y (by simpa using hy), ?_⟩
  have ec : its.toArray.toList.countP (eqt k) = ns.countP fun n => n == k := eqt_count rv
  refine ⟨.int (ns.countP (fun n => n == k) : Nat), H, I.tok _, ⟨s.toks, ?_⟩, q⟩
  rw [ec]
end
section
variable {X : Cx} {ρ : En} {d x y z : D} {e e2 a b : Expr} {es : List Expr} {pos p apos : Pos} {n k : Nat} {l l2 ds : List D} {K : PySem.W.Frag} {H L : Hp} {tg : Expr} {t : List (Str × D)}
theorem j_count {ns : List Str} {s : Str} (ho : PE X a (tJ X.K ρ (.lst (ns.map D.str)))) (ha : PE X e (tJ X.K ρ (.str s)))
    (hbase : attributeBase a "count" X.env (eval a X.env) = eval a X.env := by rfl)
    (hfew : ((backTo pos (starEach [e] X.env)).all (fun x => !x.1) && (backToKw pos (keywordEach [] X.env)).all (fun x => x.1.isSome)
      && decide ([e].length + ([] : List Keyword).length + (if ([] : List Keyword).isEmpty then 0 else 1) < 30)) = true := by rfl)
    (hline : (apos.endLine == pos.line) = true := by rfl) (hs : starEach [e] X.env = (false, eval e X.env) :: starEach [] X.env := by rfl) (hplain : (backTo pos (starEach [] X.env)).any (·.1) = false := by rfl) :
    PE X (.Call (.Attribute a "count" apos) [e] [] pos) (tJ X.K ρ (.int (ns.countP (fun n => n == s) : Nat))) :=
  (pe_bm PySem.F.plainAttrs_list PySem.F.slot_list_count PySem.F.type_list_count mt_scount ho (ja_cons ha ja_nil hs) hbase hfew hline hs hplain).imp fun σ H Q ⟨L, e, env, k⟩ => ⟨L, e, env, fun v H1 L1 g1 r1 => by
    obtain ⟨q, xs, rfl, hq, rl, _⟩ := r1.lst_
    have ex := rl.strs
    subst ex
    refine ⟨.inl ⟨rfl, _, SqL.of (g1.sub _ _ hq)⟩, L1, g1.sub, env.ex g1.lx, fun vs H2 L2 g2 r2 => ?_⟩
    obtain ⟨w, vs2, rfl, r3, r4⟩ := r2.cons_
    obtain rfl := r4.nil_
    obtain rfl := r3.str_
    exact ⟨q, ns, s, rfl, rfl, SqL.of (g2.sub _ _ (g2.lx _ _ hq)), k _ H2 L2 (g1.tr g2) (.int _)⟩⟩
/-! ### zip of two tuples -/
theorem i_zipT {elts : List Expr} {kk : Nat} {tpos : Pos} (h1 : PE X e (tJ X.K ρ (.tup l))) (h2 : PE X e2 (tJ X.K ρ (.tup l2))) (hl : l.length = l2.length) (hm : X.mg "zip" = none) (hg : Gl X "zip" := by rfl)
    (hs : starEach [e, e2] X.env = (false, eval e X.env) :: starEach [e2] X.env := by rfl) (hs2 : starEach [e2] X.env = (false, eval e2 X.env) :: starEach [] X.env := by rfl) (hpl : (backTo pos (starEach [e2] X.env)).any (·.1) = false := by rfl) :
    PI X (.Tuple elts kk tpos) (.Call (.Name "zip" p) [e, e2] [] pos) (tI X.K ρ ((l.zip l2).map fun q => .tup [q.1, q.2])) := (RZ.pi_zipA hg hm (ja_cons h1 (ja_cons h2 ja_nil hs2) hs) hs hpl).imp fun σ H R ⟨L, e, env, k⟩ => ⟨L, e, env, fun vs H1 L1 g1 r1 => by
  obtain ⟨v, vs2, rfl, ra, r2⟩ := r1.cons_
  obtain ⟨w, vs3, rfl, rb, r3⟩ := r2.cons_
  obtain rfl := r3.nil_
  obtain ⟨a, xs, rfl, ha, rl, z⟩ := ra.tup_
  obtain ⟨b, ys, rfl, hb, rm, z2⟩ := rb.tup_
  have el : (l.zip l2).length = l.length := by rw [List.length_zip, hl, Nat.min_self]
  refine ⟨a, b, xs, ys, rfl, .inr ⟨SqT.of (g1.sub _ _ ha), SqT.of (g1.sub _ _ hb), k _ H1 L1 g1 ⟨by rw [List.length_map, el]; exact z, fun i H' L' hi gl gs => ?_, fun H' L' gl gs => ?_, fun i d H' L' v H'' hd gl gs hy => ?_⟩⟩⟩
  · rw [List.length_map, el] at hi
    obtain ⟨x, hx, _⟩ := rl.get (List.getElem?_eq_getElem hi)
    obtain ⟨y, hy, _⟩ := rm.get (List.getElem?_eq_getElem (hl ▸ hi))
    exact ⟨xs, ys, x, y, SqT.of (gs _ _ (gl _ _ ha)), SqT.of (gs _ _ (gl _ _ hb)), hx, hy⟩
  · exact ⟨xs, ys, SqT.of (gs _ _ (gl _ _ ha)), SqT.of (gs _ _ (gl _ _ hb)), .inl (by rw [rl.len, List.length_map, el]; exact Nat.le_refl _)⟩
  · obtain ⟨T, x, y, rfl, hT, rfl, hx, hy⟩ := hy
    have hx := hx xs (SqT.of (gs _ _ (gl _ _ ha)))
    have hy := hy ys (SqT.of (gs _ _ (gl _ _ hb)))
    obtain ⟨dx, h1, r1⟩ := rl.getV hx
    obtain ⟨dy, h2, r2⟩ := rm.getV hy
    rw [List.getElem?_map, (List.getElem?_zip_eq_some (z := (dx, dy))).mpr ⟨h1, h2⟩] at hd
    cases hd
    have g2 := Go.new (o := .tup [x, y]) gs hT
    exact ⟨_, g2, .tup upd_same (.cons ((r1.ex gl).ex g2.lx) (.cons ((r2.ex gl).ex g2.lx) .nil)) (show 2 ≤ 100000 by decide)⟩⟩
/-! ### targets that are pairs -/
variable {α : Type} {ls : List α} {c1 c2 f : α → D} {pr : α → Bool} {elt iter : Expr} {ifs : List Expr} {scope : Scope} {px py tp : Pos} {nm nm2 : Str} {tk : Nat}
def gPr (K : PySem.W.Frag) (i j : Nat) : TG := gTup K 2 (gCons (gName i) (gCons (gName j) gNil))
theorem wipe_set2 {σ : L2.St} {i j : Nat} {v w : V} (h : i ≠ j) : wipe (((wipe σ [i, j]).set i (some v)).set j (some w)) [i, j] = wipe σ [i, j] := by
  show (((((σ.set j none).set i none).set i (some v)).set j (some w)).set j none).set i none = (σ.set j none).set i none
  apply List.ext_getElem?
  intro m
  simp only [List.getElem?_set, List.length_set]
  by_cases h1 : j = m <;> by_cases h2 : i = m <;> simp [h1, h2] <;> split <;> simp_all
theorem env_wipe2 {σ : L2.St} {i j : Nat} {v w : V} {d1 d2 : D} (h : i ≠ j) (env : EnvR K L σ ρ) (r1 : Rep K L v d1) (r2 : Rep K L w d2) : EnvR K L (((wipe σ [i, j]).set i (some v)).set j (some w)) ((ρ.set i (some d1)).set j (some d2)) := by
  have h1 := (env.set (i := i) r1).set (i := j) r2
  have e : ((wipe σ [i, j]).set i (some v)).set j (some w) = (σ.set i (some v)).set j (some w) := by
    show (((σ.set j none).set i none).set i (some v)).set j (some w) = _
    apply List.ext_getElem?
    intro m
    simp only [List.getElem?_set, List.length_set]
    by_cases h1 : j = m <;> by_cases h2 : i = m <;> simp [h1, h2]
  rw [e]
  exact h1
/-- [elt for x, y in iter if ..] -/
theorem j_lc2 (i j : Nat) (hN : X.N.Nodup) (hi : PI X (.Tuple [.Name nm px, .Name nm2 py] tk tp) iter (tI X.K ρ (ls.map fun a => .tup [c1 a, c2 a])))
    (ht : ∀ a ∈ ls, Blk X scope fun Y => PTs Y ifs (tT X.K ((ρ.set i (some (c1 a))).set j (some (c2 a))) (pr a))) (he : ∀ a ∈ ls, pr a = true → Blk X scope fun Y => PE Y elt (tJ X.K ((ρ.set i (some (c1 a))).set j (some (c2 a))) (f a)))
    (hij : i ≠ j := by decide) (ok : BlkOk X.N X.env.scope scope [(nm, i), (nm2, j)] := by exact blkOk_by (by first | decide +kernel | kernel_rfl)) (hc : X.calm = true := by rfl)
    (hg : Blk X scope fun Y => PG Y (.Tuple [.Name nm px, .Name nm2 py] tk tp) (gPr X.K i j) := by exact fun _ _ _ _ _ => pg_tup rfl (pgs_cons (pg_name ‹_› rfl (.inl rfl)) (pgs_cons (pg_name ‹_› rfl (.inl rfl)) pgs_nil))) (hs : ∀ x, foldedSetIterable iter X.env x = pure x := by intro _; rfl) :
    PE X (.ListComp elt [⟨.Tuple [.Name nm px, .Name nm2 py] tk tp, iter, ifs, 0⟩] scope pos) (tJ X.K ρ (.lst ((ls.filter pr).map f))) :=
  (pe_lc (own := [(nm, i), (nm2, j)]) (g := gPr X.K i j) (tt := fun σ H Q => ∃ a, a ∈ ls ∧ tT X.K ((ρ.set i (some (c1 a))).set j (some (c2 a))) (pr a) σ H Q) (te := fun σ H Q => ∃ a, (a ∈ ls ∧ pr a = true) ∧ tJ X.K ((ρ.set i (some (c1 a))).set j (some (c2 a))) (f a) σ H Q) hc hN hi ok hg
    (fun s H C cl fp => PTs.any fun a => PTs.onlyif fun ha => ht a ha s H C cl fp) (fun s H C cl fp => PE.any fun a => PE.onlyif fun ha => he a ha.1 ha.2 s H C cl fp) hs).imp
    (lc_gen (ρ' := fun a => (ρ.set i (some (c1 a))).set j (some (c2 a))) (c := fun a => .tup [c1 a, c2 a]) (fun _ _ _ q => q) (fun a _ v σ H1 L1 Q env ex r q => by
      obtain ⟨p, xs, rfl, hp, rl, _⟩ := r.tup_
      obtain ⟨v1, vs2, rfl, r1, r2⟩ := rl.cons_
      obtain ⟨v2, vs3, rfl, r3, r4⟩ := r2.cons_
      obtain rfl := r4.nil_
      exact ⟨p, _, rfl, SqT.of (ex _ _ hp), rfl, v1, [v2], rfl, v2, [], rfl, rfl, q _ (env_wipe2 hij env r1 r3) (wipe_set2 hij)⟩) (fun a ha σ H Q q => ⟨a, ha, q⟩) (fun a ha hp σ H Q q => ⟨a, ⟨ha, hp⟩, q⟩))
/-! ### dict comprehensions -/
theorem repK_none {kvs : List (Key × V)} {t : List (Str × D)} {k : Str} (r : RepK K L kvs t) (h : k ∉ t.map (·.1)) : valV kvs (.inr k) = none := by
  rcases repK_get (k := k) r with ⟨v, d, _, h2, _⟩ | ⟨h1, _⟩
  · refine absurd ?_ h
    unfold dget at h2
    cases q : t.find? fun p => decide (p.1 = k) with
    | none => rw [q] at h2; cases h2
    | some p =>
      have := List.find?_some q
      exact List.mem_map.mpr ⟨p, List.mem_of_find?_eq_some q, of_decide_eq_true this⟩
  · exact h1
variable {c : α → D} {kf : α → Str} {kx vx : Expr} {i : Nat}
theorem fr_dc (i : Nat) (hN : X.N.Nodup) (hi : PI X (.Name nm px) iter (tI X.K ρ (ls.map c))) (nd : (ls.map kf).Nodup)
    (hk : ∀ a ∈ ls, Blk X scope fun Y => PE Y kx (tJ X.K (ρ.set i (some (c a))) (.str (kf a)))) (he : ∀ a ∈ ls, Blk X scope fun Y => PE Y vx (tJ X.K (ρ.set i (some (c a))) (f a)))
    (ok : BlkOk X.N X.env.scope scope [(nm, i)] := by exact blkOk_by (by first | decide +kernel | kernel_rfl)) (hc : X.calm = true := by rfl)
    (hg : Blk X scope fun Y => PG Y (.Name nm px) (gName i) := by exact fun _ _ _ _ _ => pg_name ‹_› rfl (.inl rfl)) (hs : ∀ x, foldedSetIterable iter X.env x = pure x := by intro _; rfl) :
    PE X (.DictComp kx vx [⟨.Name nm px, iter, [], 0⟩] scope pos) (tF X.K ρ (ls.map fun a => (kf a, f a))) :=
  (pe_dc (own := [(nm, i)]) (g := gName i) (tt := fun σ H Q => ∃ a, a ∈ ls ∧ tT X.K (ρ.set i (some (c a))) true σ H Q) (tk := fun σ H Q => ∃ a, a ∈ ls ∧ tJ X.K (ρ.set i (some (c a))) (.str (kf a)) σ H Q) (tv := fun σ H Q => ∃ a, a ∈ ls ∧ tJ X.K (ρ.set i (some (c a))) (f a) σ H Q) hc hN hi ok hg
    (fun s H C cl fp => PTs.any fun a => PTs.onlyif fun ha => tt_nil) (fun s H C cl fp => PE.any fun a => PE.onlyif fun ha => hk a ha s H C cl fp) (fun s H C cl fp => PE.any fun a => PE.onlyif fun ha => he a ha s H C cl fp) hs).imp fun σ H Q ⟨L, e, env, k⟩ => by
  refine ⟨L, e, env, fun J H1 L1 g1 it Dn hD => ?_⟩
  have lD : L1 Dn = none := free_sub g1.sub hD
  refine ⟨fun i m H' => m + i = ls.length ∧ ∃ L' acc, Go H1 L1 H' L' ∧ L' Dn = none ∧ H' Dn = some (.dK acc) ∧ RepK X.K L' acc ((ls.take i).map fun a => (kf a, f a)), ⟨ls.length, rfl, L1, [], ⟨ex_new hD, Ex.rf, (g1.sub).tr (ex_new hD), fun _ _ => rfl⟩, lD, upd_same, .nil⟩, fun j m H' ⟨em, L', acc, g2, lD2, hD2, ra⟩ => ?_⟩
  have sz := it.sz
  rw [List.length_map] at sz
  by_cases hi : j < ls.length
  · have hl : ls[j]? = some ls[j] := List.getElem?_eq_getElem hi
    have hm : ls[j] ∈ ls := List.getElem_mem hi
    refine .inr ⟨it.go j H' L' (by rw [List.length_map]; exact hi) g2.lx g2.sub, fun H' => ∃ L' acc, Go H1 L1 H' L' ∧ L' Dn = none ∧ H' Dn = some (.dK acc) ∧ RepK X.K L' acc ((ls.take (j + 1)).map fun a => (kf a, f a)), fun H'' q => ⟨m - 1, by omega, by omega, q⟩, fun v H3 hy => ?_⟩
    obtain ⟨L3, g3, r3⟩ := it.yld j (c ls[j]) H' L' v H3 (by rw [List.getElem?_map, hl]; rfl) g2.lx g2.sub hy
    have lD3 : L3 Dn = none := by rw [g3.old Dn (by rw [hD2]; exact nofun)]; exact lD2
    have hD3 : H3 Dn = some (.dK acc) := g3.ex _ _ hD2
    have env2 : EnvR X.K L3 ((wipe σ [i]).set i (some v)) (ρ.set i (some (c ls[j]))) := env_wipe1 (((env.ex g1.lx).ex g2.lx).ex g3.lx) r3
    refine ⟨wipe_set1, ls[j], hm, L3, g3.sub, env2, fun H4 L4 g4 => ?_⟩
    have hD4 : H4 Dn = some (.dK acc) := g4.ex _ _ hD3
    have lD4 : L4 Dn = none := by rw [g4.old Dn (by rw [hD3]; exact nofun)]; exact lD3
    refine iteT ⟨ls[j], hm, L4, g4.sub, env2.ex g4.lx, fun y H5 L5 g5 r5 => ⟨ls[j], hm, L5, g5.sub, (env2.ex g4.lx).ex g5.lx, fun z H6 L6 g6 r6 => ?_⟩⟩
    obtain rfl := r5.str_
    have hD5 : H5 Dn = some (.dK acc) := g5.ex _ _ hD4
    have lD5 : L5 Dn = none := by rw [g5.old Dn (by rw [hD4]; exact nofun)]; exact lD4
    have hD6 : H6 Dn = some (.dK acc) := g6.ex _ _ hD5
    have lD6 : L6 Dn = none := by rw [g6.old Dn (by rw [hD5]; exact nofun)]; exact lD5
    have gg := (((g2.tr g3).tr g4).tr g5).tr g6
    have la : acc.length ≤ j := by rw [ra.len, List.length_map, List.length_take]; omega
    have tk : (ls.take (j + 1)).map (fun a => (kf a, f a)) = (ls.take j).map (fun a => (kf a, f a)) ++ [(kf ls[j], f ls[j])] := by rw [List.take_add_one, hl, List.map_append]; rfl
    have nk : kf ls[j] ∉ ((ls.take j).map fun a => (kf a, f a)).map (·.1) := by
      rw [List.map_map]
      intro h
      obtain ⟨a, ha, e⟩ := List.mem_map.mp h
      obtain ⟨q, hq, ea⟩ := List.mem_take_iff_getElem.mp ha
      have hq' : q < j := by omega
      have := (List.getElem_inj (h₀ := by rw [List.length_map]; omega) (h₁ := by rw [List.length_map]; exact hi) nd (i := q) (j := j)).mp (by rw [List.getElem_map, List.getElem_map, ea]; exact e)
      omega
    have ra6 := (((ra.mo g3.lx.mo).mo g4.lx.mo).mo g5.lx.mo).mo g6.lx.mo
    refine ⟨acc, .inr (kf ls[j]), rfl, hD6, lim_lt (by omega), L6, acc ++ [(.inr (kf ls[j]), z)], ⟨ex_upd_free gg.ex hD, gg.lx, fun b o hb => by rw [upd_ne (ne_of_none hb lD6)]; exact gg.sub b o hb, gg.old⟩, lD6, ?_, by rw [tk]; exact repK_app ra6 r6⟩
    rw [upd_same, putK_new z (repK_none ra6 nk)]
  · have ei : j = ls.length := by omega
    subst ei
    have stp := it.stop H' L' g2.lx g2.sub
    rw [List.length_map] at stp
    refine .inl ⟨stp, ?_⟩
    rw [List.take_length] at ra
    have hD0 : H Dn = none := by
      cases q : H Dn with
      | none => rfl
      | some o => rw [g1.ex Dn o q] at hD; cases hD
    exact k Dn H' L' acc (g1.tr g2) hD0 lD2 hD2 ra (by rw [List.length_map]; exact sz)
end
end K51
end
section
set_option Elab.async false
set_option linter.all false
set_option maxRecDepth 100000
/-! Tables walked and read; loops over pairs; a new list by a comprehension. -/
namespace K51
open PySem PySem.Spec PyProof.Rows L2
section
variable {X : Cx} {ρ : En} {d x y z : D} {e a b : Expr} {es : List Expr} {pos p apos cpos : Pos} {n k : Nat} {tg : Expr} {α : Type} {f : α → D} {l : Tb α} {s : Str} {v : α}
theorem i_keysT (h : PE X e (tJ X.K ρ (.dct (dT f l)))) : PI X tg e (tI X.K ρ ((keys l).map D.str)) := by
  have := i_keys (tg := tg) h
  rwa [dT_keys] at this
theorem i_valsT (h : PE X e (tJ X.K ρ (.dct (dT f l)))) (hbase : attributeBase e "values" X.env (eval e X.env) = eval e X.env := by rfl) (hline : (apos.endLine == cpos.line) = true := by rfl) : PI X tg (.Call (.Attribute e "values" apos) [] [] cpos) (tI X.K ρ (l.map fun q => f q.2)) := by
  have := i_vals (tg := tg) h hbase hline
  rwa [show (dT f l).map (·.2) = l.map fun q => f q.2 by unfold dT; rw [List.map_map]; rfl] at this
theorem i_itemsT {elts : List Expr} {kk : Nat} {tpos : Pos} (h : PE X e (tJ X.K ρ (.dct (dT f l)))) (hbase : attributeBase e "items" X.env (eval e X.env) = eval e X.env := by rfl) (hline : (apos.endLine == cpos.line) = true := by rfl) : PI X (.Tuple elts kk tpos) (.Call (.Attribute e "items" apos) [] [] cpos) (tI X.K ρ (l.map fun q => .tup [.str q.1, f q.2])) := by
  have := i_items (elts := elts) (kk := kk) (tpos := tpos) h hbase hline
  rwa [show (dT f l).map (fun kv => D.tup [.str kv.1, kv.2]) = l.map fun q => .tup [.str q.1, f q.2] by unfold dT; rw [List.map_map]; rfl] at this
theorem j_at (hr : Room n X.A) (h : gt l s = some v) (ha : PE X a (tJ X.K ρ (.dct (dT f l)))) (hb : PE X b (tJ X.K ρ (.str s))) (hs : NoSl b := by exact fun _ _ => rfl) : PE X (.Subscript a b pos) (tJ X.K ρ (f v)) := j_ixD hr ha hb (by rw [dget_dT, h]; rfl) hs
theorem cd_inT2 (hr : Room n X.A) : CD X .In (.str s) (.dct (dT f l)) (decide (s ∈ keys l)) := (cd_inD hr).to (by rw [dget_dT, Option.isSome_map, gt_some])
theorem cd_ninT2 (hr : Room n X.A) : CD X .NotIn (.str s) (.dct (dT f l)) (!decide (s ∈ keys l)) := (cd_ninD hr).to (by rw [dget_dT, Option.isSome_map, gt_some])
theorem cd_ninO (hr : Room n X.A) {o : Option Str} : CD X .NotIn (ofO o) (.dct (dT f l)) (match o with | none => true | some s => !decide (s ∈ keys l)) := by
  cases o with
  | none => exact cd_ninDN hr
  | some s => exact cd_ninT2 hr
theorem bf_lenT' : BF X "len" [.dct (dT f l)] (.int l.length) := bf_lenD.to (by rw [dT_len])
theorem bf_listT' (hc : X.calm = true) : BF X "list" [.dct (dT f l)] (.lst ((keys l).map D.str)) := (bf_listD hc).to (by rw [dT_keys])
theorem bf_sortT' (hc : X.calm = true) (h : l.length < 64) : BF X "sorted" [.dct (dT f l)] (.lst ((srt (keys l)).map D.str)) := (bf_sortD hc (by rw [dT_len]; exact h)).to (by rw [dT_keys])
theorem bd_addLS {l m : List Str} (h : l.length + m.length ≤ lim) : BD X .Add (.lst (l.map D.str)) (.lst (m.map D.str)) (.lst ((l ++ m).map D.str)) := (bd_addL (by rw [List.length_map, List.length_map]; exact h)).to (by rw [List.map_append])
theorem isN_ofO {o : Option Str} : isN (ofO o) = o.isNone := by cases o <;> rfl
theorem isN_ofI {o : Option Int} : isN (ofI o) = o.isNone := by cases o <;> rfl
/-- asc of a table with its entries shown -/
theorem asc_dT : ∀ l : Tb α, asc (dT f l) = dT f (asc l) := fun l => by
  have ins : ∀ (q : Str × α) (l : Tb α), insP (q.1, f q.2) (dT f l) = dT f (insP q l) := fun q l => by
    induction l with
    | nil => rfl
    | cons r m ih =>
      show insP (q.1, f q.2) ((r.1, f r.2) :: dT f m) = _
      by_cases h : leS q.1 r.1
      · rw [insP, if_pos (show leS (q.1, f q.2).1 (r.1, f r.2).1 from h), insP, if_pos h]; rfl
      · rw [insP, if_neg (show ¬ leS (q.1, f q.2).1 (r.1, f r.2).1 from h), insP, if_neg h, ih]; rfl
  induction l with
  | nil => rfl
  | cons q r ih =>
    show insP (q.1, f q.2) (asc (dT f r)) = _
    rw [ih]
    exact ins q (asc r)
theorem asc_tab [Inhabited α] (nd : (keys l).Nodup) : asc l = (srt (keys l)).map fun k => (k, (gt l k).getD default) := by
  rw [← asc_keys]
  refine tab_of fun p hp => ?_
  rw [gt_of_mem nd ((asc_perm l).mem_iff.mp hp)]
  rfl
theorem asc_eq {m : Tb α} (nd : (keys l).Nodup) (h : l.Perm m) : asc l = asc m := by
  cases l with
  | nil => rw [List.nil_perm.mp h]
  | cons q r =>
    letI : Inhabited α := ⟨q.2⟩
    have nd2 : (keys m).Nodup := ((h.map _).nodup_iff).mp nd
    rw [asc_tab nd, asc_tab nd2, srt_of_perm (h.map _)]
    refine List.map_congr_left fun k hk => ?_
    rw [srt_mem] at hk
    obtain ⟨v, hv⟩ := gt_in hk
    have h1 := (h.mem_iff).mpr (gt_mem hv)
    rw [hv, gt_of_mem nd h1]
theorem gt_perm {m : Tb α} (nd : (keys l).Nodup) (h : l.Perm m) : gt m s = gt l s := by
  have nd2 : (keys m).Nodup := ((h.map _).nodup_iff).mp nd
  cases e : gt l s with
  | some v => exact gt_of_mem nd2 (h.mem_iff.mp (gt_mem e))
  | none =>
    refine gt_out fun w => ?_
    obtain ⟨v, hv⟩ := gt_in w
    rw [gt_of_mem nd (h.mem_iff.mpr (gt_mem hv))] at e
    cases e
end
/-! ### for over any target -/
section
variable {X : Cx} {b : Option Addr} {M M1 M' : Mem} {ρ ρ1 ρ' : En} {d : D} {e : Expr} {pos p : Pos} {Ω : Ou → Prop} {rest body : List Stmt} {tg iter : Expr}
theorem w_forG {g : TG} {G : En → D → En} {Φ : List D → Prop} (Pv : List D → Nat → En → Mem → Prop) (hp : PassesOwn (model X.prog X.w) X.A X.env X.xe) (hg : PG X tg g) (hgG : ∀ ds, Φ ds → ∀ d ∈ ds, ∀ v σ H L ρ Q, EnvR X.K L σ ρ → Ex L H → Rep X.K L v d → (∀ σ2, EnvR X.K L σ2 (G ρ d) → Q σ2 H) → g v σ H Q) (hi : PI X tg iter (tIE X.K b M ρ Φ)) (h0 : ∀ ds, Φ ds → ∃ ρ3, leE ρ ρ3 ∧ Pv ds 0 ρ3 M)
    (hb : ∀ ds, Φ ds → ∀ j d, ds[j]? = some d → ∀ ρ1 M1, Pv ds j ρ1 M1 → PSs X body (tW X.K b M1 (G ρ1 d) fun o => ∃ ρ2 M2 ρ3, o = .nxt ρ2 M2 ∧ leE ρ2 ρ3 ∧ Pv ds (j + 1) ρ3 M2))
    (hc : X.calm = true := by rfl) (hs : ∀ x, foldedSetIterable iter X.env x = pure x := by intro _; rfl) :
    PS X (.For tg iter body [] pos) (tW X.K b M ρ fun o => ∃ ds ρ' M', Φ ds ∧ Pv ds ds.length ρ' M' ∧ o = .nxt ρ' M') := by
  have hbody : PSs X body (fun E σ H => ∃ q : { q : List D × Nat × D × En × Mem // Φ q.1 ∧ q.1[q.2.1]? = some q.2.2.1 ∧ Pv q.1 q.2.1 q.2.2.2.1 q.2.2.2.2 }, tW X.K b q.1.2.2.2.2 (G q.1.2.2.2.1 q.1.2.2.1) (fun o => ∃ ρ2 M2 ρ3, o = .nxt ρ2 M2 ∧ leE ρ2 ρ3 ∧ Pv q.1.1 (q.1.2.1 + 1) ρ3 M2) E σ H) := PSs.any fun q => hb _ q.2.1 _ _ q.2.2.1 _ _ q.2.2.2
  refine (ps_for hp hc hi hg hbody hs).imp fun E σ H ⟨L, e, env, ow, k⟩ => ⟨L, e, env, ow, fun J H1 L1 ds hds g1 o1 it => ?_⟩
  obtain ⟨ρ0, hle, hpv⟩ := h0 ds hds
  refine for_D (E := E) (g := g) (tb := fun E σ H => ∃ q : { q : List D × Nat × D × En × Mem // Φ q.1 ∧ q.1[q.2.1]? = some q.2.2.1 ∧ Pv q.1 q.2.1 q.2.2.2.1 q.2.2.2.2 }, tW X.K b q.1.2.2.2.2 (G q.1.2.2.2.1 q.1.2.2.1) (fun o => ∃ ρ2 M2 ρ3, o = .nxt ρ2 M2 ∧ leE ρ2 ρ3 ∧ Pv q.1.1 (q.1.2.1 + 1) ρ3 M2) E σ H) it (fun j σ H' L' => ∃ ρ1 M1, Pv ds j ρ1 M1 ∧ Gs b M H1 L1 M1 H' L' ∧ EnvR X.K L' σ ρ1 ∧ Ow X.K b M1 L' H') L1 Ex.rf g1.sub ⟨ρ0, M, hpv, Gs.rf g1.sub, (env.ex g1.lx).le hle, o1⟩ (fun j d σ H' L' hd gl gs ⟨ρ1, M1, hpv, g3, env3, o3⟩ v H2 L2 g2 r2 => ?_) fun σ H' L' gl gs ⟨ρ1, M1, hpv, g3, env3, o3⟩ => ?_
  · refine hgG ds hds d (List.mem_of_getElem? hd) v σ H2 L2 ρ1 _ (env3.ex g2.lx) g2.sub r2 fun σ2 env2 => ⟨⟨(ds, j, d, ρ1, M1), hds, hd, hpv⟩, L2, g2.sub, env2, o3.go g2, fun o ⟨ρ2, M2, ρ3, ho, hle, hpv⟩ => ?_⟩
    subst ho
    exact fun σ4 H4 L4 g4 o4 env4 => ⟨L4, (gl.tr g2.lx).tr g4.lx, g4.sub, ρ3, M2, hpv, (g3.tr g2.gx.gs).tr g4, env4.le hle, o4⟩
  · exact k _ ⟨ds, ρ1, M1, hds, hpv, rfl⟩ σ H' L' (g1.gs.tr g3) o3 env3
/-- for x, y in pairs -/
theorem w_for2 {α : Type} {ls : List α} {c1 c2 : α → D} {nm nm2 : Str} {px py tp : Pos} {tk : Nat} (i j : Nat) (Pv : Nat → En → Mem → Prop) (hN : X.N.Nodup) (hp : PassesOwn (model X.prog X.w) X.A X.env X.xe)
    (hi : PI X (.Tuple [.Name nm px, .Name nm2 py] tk tp) iter (tI X.K ρ (ls.map fun a => .tup [c1 a, c2 a]))) (h0 : ∃ ρ3, leE ρ ρ3 ∧ Pv 0 ρ3 M)
    (hb : ∀ m a, ls[m]? = some a → ∀ ρ1 M1, Pv m ρ1 M1 → PSs X body (tW X.K b M1 ((ρ1.set i (some (c1 a))).set j (some (c2 a))) fun o => ∃ ρ2 M2 ρ3, o = .nxt ρ2 M2 ∧ leE ρ2 ρ3 ∧ Pv (m + 1) ρ3 M2))
    (hg : PG X (.Tuple [.Name nm px, .Name nm2 py] tk tp) (gPr X.K i j) := by exact pg_tup rfl (pgs_cons (pg_name ‹_› rfl (.inl rfl)) (pgs_cons (pg_name ‹_› rfl (.inl rfl)) pgs_nil)))
    (hc : X.calm = true := by rfl) (hs : ∀ x, foldedSetIterable iter X.env x = pure x := by intro _; rfl) :
    PS X (.For (.Tuple [.Name nm px, .Name nm2 py] tk tp) iter body [] pos) (tW X.K b M ρ fun o => ∃ ρ' M', Pv ls.length ρ' M' ∧ o = .nxt ρ' M') := by
  refine c_imS (w_forG (G := fun ρ d => match d with | .tup [u, w] => (ρ.set i (some u)).set j (some w) | _ => ρ) (fun _ m => Pv m) hp hg (fun ds e d hd v σ H L ρ Q env ex r q => ?_) (ie_of hi) (fun _ _ => h0) (fun ds e m d hd ρ1 M1 hpv => ?_) hc hs) fun o ⟨ds, ρ', M', e, h1, h2⟩ => ⟨ρ', M', ?_, h2⟩
  · subst e
    obtain ⟨a, _, rfl⟩ := List.mem_map.mp hd
    obtain ⟨p, xs, rfl, hp, rl, _⟩ := r.tup_
    obtain ⟨v1, vs2, rfl, r1, r2⟩ := rl.cons_
    obtain ⟨v2, vs3, rfl, r3, r4⟩ := r2.cons_
    obtain rfl := r4.nil_
    exact ⟨p, _, rfl, SqT.of (ex _ _ hp), rfl, v1, [v2], rfl, v2, [], rfl, rfl, q _ ((env.set r1).set r3)⟩
  · subst e
    rw [List.getElem?_map] at hd
    cases q : ls[m]? with
    | none => rw [q] at hd; cases hd
    | some a =>
      rw [q] at hd
      cases hd
      exact hb m a q ρ1 M1 hpv
  · subst e
    rwa [List.length_map] at h1
/-- for x in iter over known data -/
theorem w_for1 {α : Type} {ls : List α} {c : α → D} {nm : Str} {px : Pos} (i : Nat) (Pv : Nat → En → Mem → Prop) (hN : X.N.Nodup) (hp : PassesOwn (model X.prog X.w) X.A X.env X.xe) (hi : PI X (.Name nm px) iter (tI X.K ρ (ls.map c))) (h0 : ∃ ρ3, leE ρ ρ3 ∧ Pv 0 ρ3 M)
    (hb : ∀ j a, ls[j]? = some a → ∀ ρ1 M1, Pv j ρ1 M1 → PSs X body (tW X.K b M1 (ρ1.set i (some (c a))) fun o => ∃ ρ2 M2 ρ3, o = .nxt ρ2 M2 ∧ leE ρ2 ρ3 ∧ Pv (j + 1) ρ3 M2))
    (hix : X.N[i]? = some nm := by rfl) (hx : Loc X.env.scope nm := by first | exact .inl rfl | exact .inr rfl) (hf : X.fn nm = true ∨ X.env.scope.names.lookup nm = some .local := by first | exact .inl rfl | exact .inr rfl) (hc : X.calm = true := by rfl) (hs : ∀ x, foldedSetIterable iter X.env x = pure x := by intro _; rfl) :
    PS X (.For (.Name nm px) iter body [] pos) (tW X.K b M ρ fun o => ∃ ρ' M', Pv ls.length ρ' M' ∧ o = .nxt ρ' M') := by
  refine c_imS (w_for i (fun _ m => Pv m) hN hp (ie_of hi) (fun _ _ => h0) (fun ds e m d hd ρ1 M1 hpv => ?_) hix hx hf hc hs) fun o ⟨ds, ρ', M', e, h1, h2⟩ => ⟨ρ', M', ?_, h2⟩
  · subst e
    rw [List.getElem?_map] at hd
    cases q : ls[m]? with
    | none => rw [q] at hd; cases hd
    | some a =>
      rw [q] at hd
      cases hd
      exact hb m a q ρ1 M1 hpv
  · subst e
    rwa [List.length_map] at h1
/-! ### x = [..], owned -/
variable {α : Type} {ls : List α} {c f : α → D} {pr : α → Bool} {ρ2 : α → En}
theorem lc_genN {K : PySem.W.Frag} {wi : TI} {g : TG} {tt : TT} {te : TE} {vs : List Nat} (hw : ∀ σ H R, tI K ρ (ls.map c) σ H R → wi σ H R)
    (hg : ∀ a ∈ ls, ∀ v σ H1 L1 (Q : L2.St → Hp → Prop), EnvR K L1 σ ρ → Ex L1 H1 → Rep K L1 v (c a) → (∀ σ2, EnvR K L1 σ2 (ρ2 a) → wipe σ2 vs = wipe σ vs → Q σ2 H1) → g v (wipe σ vs) H1 Q)
    (ht : ∀ a ∈ ls, ∀ σ H Q, tT K (ρ2 a) (pr a) σ H Q → tt σ H Q) (he : ∀ a ∈ ls, pr a = true → ∀ σ H Q, tJ K (ρ2 a) (f a) σ H Q → te σ H Q) :
    ∀ σ H Q, tN K b M ρ (· = .lst ((ls.filter pr).map f)) σ H Q → tLc wi g tt te vs σ H Q := fun σ H Q ⟨L, e, env, ow, k⟩ => by
  refine hw σ H _ ⟨L, e, env, fun J H1 L1 g1 it Dn hD => ?_⟩
  have lD : L1 Dn = none := free_sub g1.sub hD
  refine ⟨fun i m H' => m + i = ls.length ∧ ∃ L' acc, Go H1 L1 H' L' ∧ L' Dn = none ∧ H' Dn = some (.lst acc) ∧ RepL K L' acc (((ls.take i).filter pr).map f) ∧ acc.length ≤ i, ⟨ls.length, rfl, L1, [], ⟨ex_new hD, Ex.rf, (g1.sub).tr (ex_new hD), fun _ _ => rfl⟩, lD, upd_same, .nil, Nat.le_refl _⟩, fun i m H' ⟨em, L', acc, g2, lD2, hD2, ra, za⟩ => ?_⟩
  have sz := it.sz
  rw [List.length_map] at sz
  by_cases hi : i < ls.length
  · have hl : ls[i]? = some ls[i] := List.getElem?_eq_getElem hi
    have hm : ls[i] ∈ ls := List.getElem_mem hi
    refine .inr ⟨it.go i H' L' (by rw [List.length_map]; exact hi) g2.lx g2.sub, fun H' => ∃ L' acc, Go H1 L1 H' L' ∧ L' Dn = none ∧ H' Dn = some (.lst acc) ∧ RepL K L' acc (((ls.take (i + 1)).filter pr).map f) ∧ acc.length ≤ i + 1, fun H'' q => ⟨m - 1, by omega, by omega, q⟩, fun v H3 hy => ?_⟩
    obtain ⟨L3, g3, r3⟩ := it.yld i (c ls[i]) H' L' v H3 (by rw [List.getElem?_map, hl]; rfl) g2.lx g2.sub hy
    have lD3 : L3 Dn = none := by rw [g3.old Dn (by rw [hD2]; exact nofun)]; exact lD2
    refine hg ls[i] hm v σ H3 L3 _ (((env.ex g1.lx).ex g2.lx).ex g3.lx) g3.sub r3 fun σ2 env2 hw2 => ⟨hw2, ht ls[i] hm σ2 H3 _ ⟨L3, g3.sub, env2, fun H4 L4 g4 => ?_⟩⟩
    have hD4 : H4 Dn = some (.lst acc) := g4.ex _ _ (g3.ex _ _ hD2)
    have lD4 : L4 Dn = none := by rw [g4.old Dn (by rw [g3.ex _ _ hD2]; exact nofun)]; exact lD3
    cases hp : pr ls[i] with
    | true =>
      refine iteT (he ls[i] hm hp σ2 H4 _ ⟨L4, g4.sub, env2.ex g4.lx, fun w H5 L5 g5 r5 => ?_⟩)
      have hD5 : H5 Dn = some (.lst acc) := g5.ex _ _ hD4
      have lD5 : L5 Dn = none := by rw [g5.old Dn (by rw [hD4]; exact nofun)]; exact lD4
      have gg := ((g2.tr g3).tr g4).tr g5
      refine ⟨acc, hD5, lim_lt (by omega), L5, acc ++ [w], ⟨ex_upd_free gg.ex hD, gg.lx, fun b o hb => by rw [upd_ne (ne_of_none hb lD5)]; exact gg.sub b o hb, gg.old⟩, lD5, upd_same, ?_, by rw [List.length_append, List.length_singleton]; omega⟩
      rw [filt_succ hl, hp, if_pos rfl]
      exact (((ra.ex g3.lx).ex g4.lx).ex g5.lx).app (.one r5)
    | false =>
      refine iteF ⟨L4, acc, (g2.tr g3).tr g4, lD4, hD4, ?_, by omega⟩
      rw [filt_succ hl, hp, if_neg Bool.false_ne_true, List.append_nil]
      exact (ra.ex g3.lx).ex g4.lx
  · have ei : i = ls.length := by omega
    subst ei
    have stp := it.stop H' L' g2.lx g2.sub
    rw [List.length_map] at stp
    refine .inl ⟨stp, ?_⟩
    rw [List.take_length] at ra
    have hD0 : H Dn = none := by
      cases q : H Dn with
      | none => rfl
      | some o => rw [g1.ex Dn o q] at hD; cases hD
    exact k Dn H' L' _ rfl (g1.tr g2).gx (ow.go (g1.tr g2)) hD0 lD2 (.lst hD2 ra (by rw [← ra.len]; omega))
variable {elt : Expr} {ifs : List Expr} {scope : Scope} {px : Pos} {nm : Str}
theorem c_newLc (j i : Nat) {y : Str} {py : Pos} {spos : Pos} (hN : X.N.Nodup) (hi : PI X (.Name nm px) iter (tI X.K ρ (ls.map c)))
    (ht : ∀ a ∈ ls, Blk X scope fun Y => PTs Y ifs (tT X.K (ρ.set i (some (c a))) (pr a))) (he : ∀ a ∈ ls, pr a = true → Blk X scope fun Y => PE Y elt (tJ X.K (ρ.set i (some (c a))) (f a)))
    (h2 : ∀ q, PSs X rest (tW X.K b ((q, .lst ((ls.filter pr).map f)) :: M) (ρ.set j (some (.own q))) Ω))
    (hy : X.N[j]? = some y := by rfl) (hyl : X.env.scope.names.lookup y = some .local := by rfl) (hsw : swapsWith (.ListComp elt [⟨.Name nm px, iter, ifs, 0⟩] scope pos) (some (.Name y py)) spos.line X.env = pure true := by exact sw_true rfl rfl rfl (by first | decide +kernel | kernel_rfl))
    (ok : BlkOk X.N X.env.scope scope [(nm, i)] := by exact blkOk_by (by first | decide +kernel | kernel_rfl)) (hc : X.calm = true := by rfl)
    (hg : Blk X scope fun Y => PG Y (.Name nm px) (gName i) := by exact fun _ _ _ _ _ => pg_name ‹_› rfl (.inl rfl)) (hs : ∀ x, foldedSetIterable iter X.env x = pure x := by intro _; rfl) :
    PSs X (.Assign [.Name y py] (.ListComp elt [⟨.Name nm px, iter, ifs, 0⟩] scope pos) spos :: rest) (tW X.K b M ρ Ω) :=
  c_cons (Ω1 := fun o => ∃ q, o = .nxt (ρ.set j (some (.own q))) ((q, .lst ((ls.filter pr).map f)) :: M)) ((ps_setLc (i := j) (own := [(nm, i)]) (g := gName i) (tt := fun σ H Q => ∃ a, a ∈ ls ∧ tT X.K (ρ.set i (some (c a))) (pr a) σ H Q) (te := fun σ H Q => ∃ a, (a ∈ ls ∧ pr a = true) ∧ tJ X.K (ρ.set i (some (c a))) (f a) σ H Q) hc hN hy hyl hsw hi ok hg
    (fun s H C cl fp => PTs.any fun a => PTs.onlyif fun ha => ht a ha s H C cl fp) (fun s H C cl fp => PE.any fun a => PE.onlyif fun ha => he a ha.1 ha.2 s H C cl fp) hs).imp
    fun E σ H ⟨L, e, env, ow, k⟩ => lc_genN (b := b) (M := M) (ρ2 := fun a => ρ.set i (some (c a))) (fun _ _ _ q => q) (fun a _ v σ H1 L1 Q env _ r q => q _ (env_wipe1 env r) wipe_set1) (fun a ha σ H Q q => ⟨a, ha, q⟩) (fun a ha hp σ H Q q => ⟨a, ⟨ha, hp⟩, q⟩) σ H _ ⟨L, e, env, ow, fun v H1 L1 d hd g o hv lv sh => by
      subst hd
      obtain ⟨o2, g2⟩ := o.add g hv lv ow.there.1 ow.there.2 sh
      exact k _ ⟨v, rfl⟩ _ H1 L1 g2 o2 ((env.ex g.lx).set (.own v))⟩)
    (fun _ _ ⟨q, e⟩ => by cases e; exact h2 q) (fun o n h => by obtain ⟨q, e⟩ := h; exact absurd e (n _ _))
end
end K51
end
section
set_option Elab.async false
set_option linter.all false
set_option maxRecDepth 100000
/-! Sets of texts: their number, sorted. -/
namespace K51
open PySem PySem.Spec PyProof.Rows L2 PySem.Froz
section
variable {P : Program} {w : World} {A : Around} {E : Value → Shared → Prop} {s : Shared} {h : Int} {v : Value} {D : SD}
theorem tailTx_ris {ep : Nat} {es : Array (Int × Value)} {t : SetTable} {wd : Bool} (r : Ris t.place.toList) : Ris (tailTx ep es t wd).2.2.place.toList := by
  unfold tailTx
  split
  · exact relayAll_ris _ _ _
  · exact r
theorem tailTx_led {ep : Nat} {es : Array (Int × Value)} {t : SetTable} {wd : Bool} : (tailTx ep es t wd).2.2.led = t.led := by
  unfold tailTx
  split
  · exact relayAll_led _ _ _
  · rfl
theorem addTx_ris (r : Ris D.2.2.place.toList) : Ris (addTx h v D).2.2.place.toList := by
  refine tailTx_ris ?_
  have r1 := layNew_ris D.2.2 D.1 h v r
  split
  · exact r1
  · exact r1
theorem addTx_led : (addTx h v D).2.2.led = D.2.2.led := by
  refine tailTx_led.trans ?_
  have r1 := layNew_led D.2.2 D.1 h v
  split
  · exact r1
  · exact r1
/-- at a stands the set of the texts l -/
def TxAt (P : Program) (w : World) (h : Heap) (a : Addr) (l : List Str) : Prop := ∃ D : SD, h.get? a = some (sObj "set" D) ∧ TxOk P w D l ∧ Ris D.2.2.place.toList ∧ (w.params.followText "set-order" = true ∨ D.2.2.led = true)
theorem TxAt.at {h h' : Heap} {a : Addr} {l : List Str} (T : TxAt P w h a l) (k : ∀ o, h.get? a = some o → h'.get? a = some o) : TxAt P w h' a l := by
  obtain ⟨D, h1, h2⟩ := T
  exact ⟨D, k _ h1, h2⟩
theorem TxAt.add {a : Addr} {l : List Str} {k : Str} {u : Tok} {Q : Bool → Shared → Prop} (T : TxAt P w s.heap a l) (hk : k ∉ l) (hb : l.length + 1 < scanBound)
    (q : ∀ X : Obj, TxAt P w (s.heap.update a fun _ => X) a (k :: l) → Q true { s with heap := s.heap.update a fun _ => X }) : wpAny (model P w) A (setAddHashed a (.str k u) (hashStr w k)) Q E s := by
  obtain ⟨D, h1, h2, h3, h4⟩ := T
  refine add_x h1 h2 hk hb (q _ ⟨_, get_upd _ h1 rfl, add_ok u h2, addTx_ris h3, ?_⟩)
  rw [addTx_led]
  exact h4
end
section
variable {prog : Program} {w : World} {A : Around} {R : Result → Shared → Prop} {I : Addr} {fp wr : List Addr} {G : Array GenState → Array GenState → Prop} {n : Nat} {Pv : Nat → Value → Prop} {St : Nat → Shared → Prop}
/-- texts, each another, put into a set one by one -/
theorem loopTx (W : WalksS prog w A.in1 I fp wr G n Pv St) (Z : Addr) (zf : Z ∉ fp) (ts : List Str) (hz : ts.length = n) (nd : ts.Nodup) (hb : n < scanBound) (hv : ∀ i v, Pv i v → ∃ t, v = .str (ts.getD i Str.empty) t) :
    ∀ (k i : Nat) (s : Shared), n - i = k → i ≤ n → St i s → TxAt prog w s.heap Z (ts.take i).reverse →
      (∀ s', Moved (Z :: wr) G s s' → TxAt prog w s'.heap Z ts.reverse → R (.ok (.ret .none)) s') → codeAny (model prog w) A (.builtin "set.update.loop" ⟨[.ref Z, .ref I], []⟩) R s := by
  have zw : Z ∉ wr := fun h => zf (W.sub _ h)
  have sub : ∀ b ∈ wr, b ∈ Z :: wr := fun b hb => List.mem_cons_of_mem _ hb
  intro k
  induction k with
  | zero =>
    intro i s hk hi st T hR
    obtain rfl : i = n := by omega
    refine codeAny_builtin PyProof.Rows.F.entry_set_update_loop ?_
    rw [Around.under_plainId PyProof.Rows.F.plain_set_update_loop _]
    show wpAny _ A.in1 (pyNext (.ref I) >>= _) _ _ s
    refine wpAny_bind (W.done s _ _ st fun s' hm => ?_)
    have e : ts.take i = ts := by rw [← hz]; exact List.take_length
    rw [e] at T
    exact wpAny_pure (hR s' (hm.mono sub) (T.at fun o z => hm.heap Z _ zw z))
  | succ k ih =>
    intro i s hk hi st T hR
    have lt : i < n := by omega
    refine codeAny_builtin PyProof.Rows.F.entry_set_update_loop ?_
    rw [Around.under_plainId PyProof.Rows.F.plain_set_update_loop _]
    show wpAny _ A.in1 (pyNext (.ref I) >>= _) _ _ s
    refine wpAny_bind (W.item i s _ _ lt st fun v s1 hP st1 hm => ?_)
    obtain ⟨t, rfl⟩ := hv i v hP
    have lt2 : i < ts.length := by omega
    have eg : ts.getD i Str.empty = ts[i] := by rw [List.getD_eq_getElem?_getD, List.getElem?_eq_getElem lt2]; rfl
    have T1 : TxAt prog w s1.heap Z (ts.take i).reverse := T.at fun o z => hm.heap Z _ zw z
    have et : (ts.take (i + 1)).reverse = ts.getD i Str.empty :: (ts.take i).reverse := by
      rw [eg, List.take_add_one, List.getElem?_eq_getElem lt2, List.reverse_append]
      rfl
    have out : ts.getD i Str.empty ∉ (ts.take i).reverse := by
      have n2 : (ts.take (i + 1)).reverse.Nodup := (List.reverse_perm _).nodup_iff.mpr (nd.sublist (List.take_sublist _ _))
      rw [et] at n2
      exact (List.nodup_cons.mp n2).1
    show wpAny _ A.in1 (holding [Value.str (ts.getD i Str.empty) t] (setAdd Z (.str (ts.getD i Str.empty) t)) >>= _) _ _ s1
    refine wpAny_bind (wpAny_holding ?_)
    unfold setAdd
    refine wpAny_holding (wpAny_bind ((PySem.strKind prog w).pyHash (k := ts.getD i Str.empty) (strKind_is _ _ _ _) ?_))
    refine TxAt.add (s := { s1 with toks := s1.toks + 1 }) T1 out (by rw [List.length_reverse, List.length_take]; omega) fun X T2 => ?_
    rw [← et] at T2
    have old : ∀ b o, b ≠ Z → s1.heap.get? b = some o → (s1.heap.update Z fun _ => X).get? b = some o := fun b o hb z => (Heap.get?_update_other _ _ (Ne.symm hb)).trans z
    refine wpAny_pure ⟨plainId_quiet PyProof.Rows.F.plain_set_update_loop _, ih (i + 1) _ (by omega) lt (W.frame _ s1 _ _ st1 (Nat.le_succ _) fun b hb o z => old b o (fun q => zf (q ▸ hb)) z) T2 fun s2 hm2 T3 => ?_⟩
    exact hR s2 (Moved.trans W.gtrans ((hm.mono sub).then_heap (Nat.le_succ _) fun b o hb z => old b o (fun q => hb (q ▸ List.mem_cons_self)) z) hm2) T3
end
section
variable {prog : Program} {w : World} {A : Around} {E : Value → Shared → Prop} {s : Shared}
theorem freshTx (led : Bool) {h : Heap} (hl : led = !w.params.followText "set-order") : TxAt prog w (h.push { cls := .type "set", dict := none, data := .set #[] 0 (.fresh 0 0 led) }) h.objs.size [] := by
  refine ⟨(#[], 0, .fresh 0 0 led), Heap.get?_push_size _ rfl, TxOk.nil (by rfl), List.Pairwise.nil, ?_⟩
  subst hl
  show _ ∨ (!w.params.followText "set-order") = true
  cases w.params.followText "set-order"
  · exact .inr rfl
  · exact .inl rfl
set_option maxHeartbeats 3200000 in
theorem setTx_list {l : Addr} {its : Array Value} {ts : List Str} {Q : Value → Shared → Prop} (hd : A.handled = none) (hl : s.heap.IsList l its) (hi : PyProof.Rows.StrsAre its.toList ts) (nd : ts.Nodup) (few : ts.length < 64)
    (k : ∀ (h' : Heap) (tk : Nat), TxAt prog w h' s.heap.objs.size ts.reverse → (∀ b o, s.heap.get? b = some o → h'.get? b = some o) → Q (.ref s.heap.objs.size) { s with heap := h', toks := tk }) :
    wpAny (model prog w) A (call (.type "set") [.ref l]) Q E s := by
  have sz : ts.length = its.size := by rw [← StrsAre.len_eq hi, Array.length_toList]
  obtain ⟨m0, m1, hmro⟩ := PySem.F.called_set.mro
  have f1 := PySem.F.called_set.made
  have f2 := PySem.F.called_set.sub
  refine wpAny_call (codeAny_of_tree (?_ : wpAny _ _ (callAny (.type "set") _) _ _ _))
  refine wpAny_pure ⟨Code.quiet_builtin _ (by decide +kernel), codeAny_builtin PySem.F.entry_type_call (?_ : wpAny _ _ _ _ _ _)⟩
  rw [Around.under_plain (weight_type_call_type "set" [.ref l] []) rfl]
  have f3 := PySem.F.called_set.notType
  have f4 := PySem.F.called_set.canCreate
  have f5 := PySem.F.typeCall_set_1 (.ref l)
  repeat (any_goals (first | assumption | wp_step))
  let nw : Obj := { cls := .type "set", dict := none, data := .set #[] 0 (.fresh 0 0 (!w.params.followText "set-order")) }
  refine codeAny_mono (code_set_led1 (.ref l) (E := E) (Q₁ := fun obj s1 => obj = .ref s.heap.objs.size ∧ s1 = { s with heap := s.heap.push nw }) ⟨rfl, rfl⟩) fun r s1 hr => ?_
  cases r with
  | error e => exact hr
  | ok fl =>
    cases fl with
    | brk => exact hr.elim
    | cont => exact hr.elim
    | next => exact hr.elim
    | ret obj =>
      obtain ⟨rfl, rfl⟩ := hr
      have hS : (s.heap.push nw).get? s.heap.objs.size = some nw := Heap.get?_push_size _ rfl
      have hT : Shared.TypeIs { s with heap := s.heap.push nw } (.ref s.heap.objs.size) "set" := ⟨_, hS, rfl⟩
      have f6 := PySem.F.called_set.init.lookup
      have f7 := PySem.F.called_set.init.bind (.ref s.heap.objs.size)
      repeat (any_goals (first | assumption | wp_step))
      refine codeAny_mono (codeAny_call_builtin (R := wants (fun r s2 => r = .none ∧ ∃ h' tk, s2 = { s with heap := h', toks := tk } ∧ TxAt prog w h' s.heap.objs.size ts.reverse ∧ ∀ b o, s.heap.get? b = some o → h'.get? b = some o) E) PySem.F.called_set.init.plain PySem.F.entry_set_init (check_set_init_1 hT ?_)) fun r2 s2 hr2 => ?_
      · obtain ⟨⟨c0, d0, v0, z0⟩, ho, hc, nl, hv⟩ := hl
        simp only at hc hv
        subst hc; subst hv
        have lS : l < s.heap.objs.size := Heap.lt_size ho
        have ho' : (s.heap.push nw).get? l = some { cls := .type "list", dict := d0, data := .seq its nl, slots := z0 } := Heap.get?_push_of_some _ ho
        have g1 := PySem.F.sub_list_set
        have g2 := PySem.F.sub_list_frozenset
        have g3 : (Value.type "list" == Value.type "dict") = false := by decide
        have hl1 : (s.heap.push nw).IsList l its := ⟨_, ho', rfl, nl, rfl⟩
        unfold Builtin.«set.__init__» noKeywords Builtin.Frozenset.updateFrom
        generalize hPI : pyIter = PI
        wp_walk
        subst hPI
        refine wpAny_pyIter_list hl1 (wpAny_bind (wpAny_runValue ?_))
        have hd3 : A.in1.in1.in1.handled = none := by simp [hd]
        have zp : (s.heap.push nw).objs.size = s.heap.objs.size + 1 := Heap.size_push ..
        have nI : l ≠ (s.heap.push nw).objs.size := by rw [zp]; exact Nat.ne_of_lt (Nat.lt_succ_of_lt lS)
        have nS : s.heap.objs.size ∉ [(s.heap.push nw).objs.size, l] := fun q => by
          rcases List.mem_cons.mp q with q | q
          · rw [zp] at q; exact Nat.ne_of_lt (Nat.lt_succ_self _) q
          · exact Nat.ne_of_gt lS (List.mem_singleton.mp q)
        refine loopTx ((Walks.list hd3 _ l nI its).toS) s.heap.objs.size nS ts sz nd (by unfold scanBound; omega) (fun i v hv => SS.strs_at hi i v (by rw [Array.getElem?_toList]; exact hv)) (its.size - 0) 0 _ (by omega) (Nat.zero_le _) ⟨⟨_, Heap.get?_push_size _ rfl, rfl, rfl⟩, (hl1.push _)⟩ ((freshTx _ rfl).at fun o z => Heap.get?_push_of_some _ z) fun s' hm T => ?_
        obtain ⟨h', g', d', tk', os'⟩ := s'
        obtain rfl : g' = s.gens := hm.gens
        obtain rfl : d' = s.drawn := hm.drawn
        obtain rfl : os' = s.os := hm.os
        refine wpAny_pure (wpAny_pure ⟨rfl, h', tk', rfl, T, fun b o z => ?_⟩)
        have lb : b < s.heap.objs.size := Heap.lt_size z
        refine hm.heap b o (fun q => ?_) (Heap.get?_push_of_some _ (Heap.get?_push_of_some _ z))
        rcases List.mem_cons.mp q with q | q
        · exact Nat.ne_of_lt lb q
        · have q := List.mem_singleton.mp q
          rw [zp] at q
          exact Nat.ne_of_lt (Nat.lt_succ_of_lt lb) q
      · cases r2 with
        | error e => exact hr2
        | ok fl2 =>
          cases fl2 with
          | brk => exact hr2.elim
          | cont => exact hr2.elim
          | next => exact hr2.elim
          | ret r =>
            obtain ⟨rfl, h', tk, rfl, T, kp⟩ := hr2
            repeat (any_goals (first | assumption | wp_step))
            exact k _ _ T kp
set_option maxHeartbeats 3200000 in
theorem setTx_tuple {l : Addr} {its : Array Value} {ts : List Str} {Q : Value → Shared → Prop} (hd : A.handled = none) (hl : s.heap.IsTuple l its) (hi : PyProof.Rows.StrsAre its.toList ts) (nd : ts.Nodup) (few : ts.length < 64)
    (k : ∀ (h' : Heap) (tk : Nat), TxAt prog w h' s.heap.objs.size ts.reverse → (∀ b o, s.heap.get? b = some o → h'.get? b = some o) → Q (.ref s.heap.objs.size) { s with heap := h', toks := tk }) :
    wpAny (model prog w) A (call (.type "set") [.ref l]) Q E s := by
  have sz : ts.length = its.size := by rw [← StrsAre.len_eq hi, Array.length_toList]
  obtain ⟨m0, m1, hmro⟩ := PySem.F.called_set.mro
  have f1 := PySem.F.called_set.made
  have f2 := PySem.F.called_set.sub
  refine wpAny_call (codeAny_of_tree (?_ : wpAny _ _ (callAny (.type "set") _) _ _ _))
  refine wpAny_pure ⟨Code.quiet_builtin _ (by decide +kernel), codeAny_builtin PySem.F.entry_type_call (?_ : wpAny _ _ _ _ _ _)⟩
  rw [Around.under_plain (weight_type_call_type "set" [.ref l] []) rfl]
  have f3 := PySem.F.called_set.notType
  have f4 := PySem.F.called_set.canCreate
  have f5 := PySem.F.typeCall_set_1 (.ref l)
  repeat (any_goals (first | assumption | wp_step))
  let nw : Obj := { cls := .type "set", dict := none, data := .set #[] 0 (.fresh 0 0 (!w.params.followText "set-order")) }
  refine codeAny_mono (code_set_led1 (.ref l) (E := E) (Q₁ := fun obj s1 => obj = .ref s.heap.objs.size ∧ s1 = { s with heap := s.heap.push nw }) ⟨rfl, rfl⟩) fun r s1 hr => ?_
  cases r with
  | error e => exact hr
  | ok fl =>
    cases fl with
    | brk => exact hr.elim
    | cont => exact hr.elim
    | next => exact hr.elim
    | ret obj =>
      obtain ⟨rfl, rfl⟩ := hr
      have hS : (s.heap.push nw).get? s.heap.objs.size = some nw := Heap.get?_push_size _ rfl
      have hT : Shared.TypeIs { s with heap := s.heap.push nw } (.ref s.heap.objs.size) "set" := ⟨_, hS, rfl⟩
      have f6 := PySem.F.called_set.init.lookup
      have f7 := PySem.F.called_set.init.bind (.ref s.heap.objs.size)
      repeat (any_goals (first | assumption | wp_step))
      refine codeAny_mono (codeAny_call_builtin (R := wants (fun r s2 => r = .none ∧ ∃ h' tk, s2 = { s with heap := h', toks := tk } ∧ TxAt prog w h' s.heap.objs.size ts.reverse ∧ ∀ b o, s.heap.get? b = some o → h'.get? b = some o) E) PySem.F.called_set.init.plain PySem.F.entry_set_init (check_set_init_1 hT ?_)) fun r2 s2 hr2 => ?_
      · obtain ⟨⟨c0, d0, v0, z0⟩, ho, hc, nl, hv⟩ := hl
        simp only at hc hv
        subst hc; subst hv
        have lS : l < s.heap.objs.size := Heap.lt_size ho
        have ho' : (s.heap.push nw).get? l = some { cls := .type "tuple", dict := d0, data := .seq its nl, slots := z0 } := Heap.get?_push_of_some _ ho
        have g1 := PySem.F.sub_tuple_set
        have g2 := PySem.F.sub_tuple_frozenset
        have g3 : (Value.type "tuple" == Value.type "dict") = false := by decide
        have hl1 : (s.heap.push nw).IsTuple l its := ⟨_, ho', rfl, nl, rfl⟩
        unfold Builtin.«set.__init__» noKeywords Builtin.Frozenset.updateFrom
        generalize hPI : pyIter = PI
        wp_walk
        subst hPI
        refine wpAny_pyIter_tuple hl1 (wpAny_bind (wpAny_runValue ?_))
        have hd3 : A.in1.in1.in1.handled = none := by simp [hd]
        have zp : (s.heap.push nw).objs.size = s.heap.objs.size + 1 := Heap.size_push ..
        have nI : l ≠ (s.heap.push nw).objs.size := by rw [zp]; exact Nat.ne_of_lt (Nat.lt_succ_of_lt lS)
        have nS : s.heap.objs.size ∉ [(s.heap.push nw).objs.size, l] := fun q => by
          rcases List.mem_cons.mp q with q | q
          · rw [zp] at q; exact Nat.ne_of_lt (Nat.lt_succ_self _) q
          · exact Nat.ne_of_gt lS (List.mem_singleton.mp q)
        refine loopTx ((Walks.tuple hd3 _ l nI its).toS) s.heap.objs.size nS ts sz nd (by unfold scanBound; omega) (fun i v hv => SS.strs_at hi i v (by rw [Array.getElem?_toList]; exact hv)) (its.size - 0) 0 _ (by omega) (Nat.zero_le _) ⟨⟨_, Heap.get?_push_size _ rfl, rfl, rfl⟩, (hl1.push _)⟩ ((freshTx _ rfl).at fun o z => Heap.get?_push_of_some _ z) fun s' hm T => ?_
        obtain ⟨h', g', d', tk', os'⟩ := s'
        obtain rfl : g' = s.gens := hm.gens
        obtain rfl : d' = s.drawn := hm.drawn
        obtain rfl : os' = s.os := hm.os
        refine wpAny_pure (wpAny_pure ⟨rfl, h', tk', rfl, T, fun b o z => ?_⟩)
        have lb : b < s.heap.objs.size := Heap.lt_size z
        refine hm.heap b o (fun q => ?_) (Heap.get?_push_of_some _ (Heap.get?_push_of_some _ z))
        rcases List.mem_cons.mp q with q | q
        · exact Nat.ne_of_lt lb q
        · have q := List.mem_singleton.mp q
          rw [zp] at q
          exact Nat.ne_of_lt (Nat.lt_succ_of_lt lb) q
      · cases r2 with
        | error e => exact hr2
        | ok fl2 =>
          cases fl2 with
          | brk => exact hr2.elim
          | cont => exact hr2.elim
          | next => exact hr2.elim
          | ret r =>
            obtain ⟨rfl, h', tk, rfl, T, kp⟩ := hr2
            repeat (any_goals (first | assumption | wp_step))
            exact k _ _ T kp
end
end K51
end
section
set_option Elab.async false
set_option linter.all false
set_option maxRecDepth 100000
/-! Sets of texts: their number, sorted. -/
namespace K51
open PySem PySem.Spec PyProof.Rows L2 PySem.Froz
/-- a list without repetitions that fills another of its length -/
theorem perm_full : ∀ {l m : List Str}, l.Nodup → (∀ x ∈ l, x ∈ m) → l.length = m.length → l.Perm m
  | [], [], _, _, _ => .refl _
  | a :: r, m, nd, h, e => by
    have nd' := List.nodup_cons.mp nd
    have ha := h a List.mem_cons_self
    have ih := perm_full (l := r) (m := m.erase a) nd'.2 (fun y hy => (List.mem_erase_of_ne (show y ≠ a from fun q => nd'.1 (q ▸ hy))).mpr (h y (List.mem_cons_of_mem _ hy))) (by rw [List.length_erase_of_mem ha, ← e]; rfl)
    exact (ih.cons a).trans (List.perm_cons_erase ha).symm
def txt (v : Value) : Str := match v with | .str x _ => x | _ => Str.empty
theorem txts_are : ∀ {vs : List Value}, (∀ v ∈ vs, ∃ k u, v = Value.str k u) → StrsAre vs (vs.map txt)
  | [], _ => .nil
  | v :: r, h => by
    obtain ⟨k, u, rfl⟩ := h v List.mem_cons_self
    exact .cons k u (txts_are fun y hy => h y (List.mem_cons_of_mem _ hy))
section
variable {prog : Program} {w : World} {A : Around} {E : Value → Shared → Prop} {s : Shared}
theorem lenTx {a : Addr} {l : List Str} {Q : Value → Shared → Prop} (T : TxAt prog w s.heap a l) (few : l.length < 64) (k : Q (.int l.length (s.toks + 1)) { s with toks := s.toks + 1 + 1 }) : wpAny (model prog w) A (call (.builtin "len") [.ref a]) Q E s := by
  obtain ⟨D, h1, h2, _, _⟩ := T
  have sz : D.1.size = l.length := h2.sz
  refine call_len_set h1 ⟨rfl, rfl, rfl⟩ rfl h2.fit (by omega) ?_
  rw [sz]
  exact k
/-- sorted(found), found a set of texts -/
theorem sortTx {a : Addr} {l : List Str} {Q : Value → Shared → Prop} (T : TxAt prog w s.heap a l) (hd : A.handled = none) (nd : l.Nodup) (few : l.length < 64)
    (k : ∀ s' p (out : Array Value) (c : Nat) (ys : List Str), (∀ b o, s.heap.get? b = some o → s'.heap.get? b = some o) → s'.gens = s.gens → s'.os = s.os → s.heap.objs.size ≤ p →
      s'.heap.get? p = some (seqObj "list" out c) → StrsAre out.toList ys → ys.Perm l → sortedS ys = true → Q (.ref p) s') :
    wpAny (model prog w) A (call (.builtin "sorted") [.ref a]) Q E s := by
  obtain ⟨D, h1, h2, h3, h4⟩ := T
  have sz : D.1.size = l.length := h2.sz
  have sb : D.1.size < scanBound := by rw [sz]; unfold scanBound; omega
  have sa : SetAt s.heap a D.1 D.2.1 D.2.2 := ⟨_, h1, rfl, rfl⟩
  refine Calls.call_function_entry kind_sorted plain_sorted entry_sorted (args_sorted1 _) ?_
  unfold Builtin.«sorted»
  refine wpAny_bind (m := checkCount "sorted" 1 1 _) (wpAny_pure ?_)
  refine wpAny_bind (collect_set (A := A.in1) hd sa h2.fit sb h3 h4 fun s1 vs k1 z1 g1 o1 pm => ?_)
  have isS : ∀ v ∈ vs, ∃ k u, v = Value.str k u := fun v hv => by
    obtain ⟨e, he, q⟩ := List.mem_map.mp (pm.mem_iff.mp hv)
    obtain ⟨⟨k, hk, _⟩, _⟩ := h2.el e he
    obtain ⟨t, ht⟩ := Value.isStrOf_shape (x := k) (v := e.2) hk
    exact ⟨k, t, q ▸ ht⟩
  have vl : vs.length = l.length := by rw [pm.length_eq, List.length_map, Array.length_toList, sz]
  have S1 := txts_are isS
  have P1 : l.Perm (vs.map txt) := perm_full nd (fun x hx => by
    obtain ⟨e, he, q⟩ := (h2.mem x).mp hx
    obtain ⟨t, ht⟩ := Value.isStrOf_shape (x := x) (v := e.2) q
    exact List.mem_map.mpr ⟨e.2, pm.mem_iff.mpr (List.mem_map.mpr ⟨e, he, rfl⟩), by rw [ht]; rfl⟩) (by rw [List.length_map, vl])
  refine wpAny_bind (wpAny_newList ?_ (by rw [vl, sizeLine_eq]; omega))
  have ho : (s1.heap.push (seqObj "list" vs.toArray 0)).get? s1.heap.objs.size = some (seqObj "list" vs.toArray 0) := Heap.get?_push_size _ rfl
  refine wpAny_bind (wpAny_holding (wpAny_call_entry PyProof.Rows.slot_list_sort ⟨_, ho, rfl⟩ PyProof.Rows.entry_list_sort (list_sort_treeK strKind_oneLt ho S1.keysOf (fun v1 v2 rest e => keyKind_strs (by rw [← e]; exact S1)) (by rw [vl]; exact few) fun st hp hs => ⟨_, rfl, ?_⟩) (PyProof.Rows.args_list_sort _)))
  obtain ⟨ys, g3, g4, g5⟩ := sorted_out_str S1 hp hs
  generalize (arrOf st).map (·.2) = out at g3 ⊢
  obtain ⟨c, hc⟩ := sortedHeap_at (vs := vs) (out := out) ho
  refine wpAny_pure ⟨_, rfl, k _ s1.heap.objs.size out c ys (fun b o e => ?_) g1 o1 z1 hc g3 (g4.trans P1.symm) g5⟩
  have q := k1 b o e
  have lt := Heap.lt_size q
  show (sortedHeap (s1.heap.push (seqObj "list" vs.toArray 0)) s1.heap.objs.size vs out).get? b = some o
  rw [sortedHeap_old (Nat.ne_of_lt lt) (by rw [size_push']; exact Nat.lt_succ_of_lt lt)]
  exact Heap.get?_push_of_some _ q
end
section
variable {X : Cx} {a : Expr} {ta : TE} {p p2 q pos : Pos}
def tSet (K : PySem.W.Frag) (ta : TE) (k : List Str → VK → Hp → Prop) : TE := fun σ H Q => ta σ H fun x H1 => ∃ l, ∃ ts : List Str, x = .ref l ∧ (SqL K H1 l (ts.map V.str) ∨ SqT K H1 l (ts.map V.str)) ∧ ts.Nodup ∧ ts.length < 64 ∧ k ts Q H1
/-- a built-in of set(xs) -/
theorem pe_ofSet {f : Str} {id : String} {k : List Str → VK → Hp → Prop} (hc : X.calm = true) (hv : bootBuiltins f = some (.builtin id)) (hg : Gl X f) (hm : X.mg f = none) (hg2 : Gl X "set") (hm2 : X.mg "set" = none) (ha : PE X a ta) (hdb : (f == ("__debug__" : Str)) = false) (hn : f ≠ "__name__")
    (na : starEach [a] X.env = (false, eval a X.env) :: starEach [] X.env)
    (fin : ∀ (pins : List (Addr × Obj)) (σ : L2.St) (H : Hp) (s : Shared) (S : Addr) (ts : List Str) (Q : VK), Inv X pins σ H s → TxAt X.prog X.w s.heap S ts.reverse → ts.Nodup → ts.length < 64 → k ts Q H → wpAny (model X.prog X.w) X.A (call (.builtin id) [.ref S]) (EP X pins σ Q) X.xe s) :
    PE X (.Call (.Name f p) [.Call (.Name "set" p2) [a] [] q] [] pos) (tSet X.K ta k) := by
  refine ⟨fun pins s σ H Q I h => ?_⟩
  refine Call_ (ld_blt (hn := hn) (hd := hdb) I hg hm hv (PyProof.Rows.callWith_builtin1 (PyProof.Rows.args_cons ?_ rfl) rfl rfl))
  refine Call_ (ld_blt I hg2 hm2 boot_set (PyProof.Rows.callWith_type1 (PyProof.Rows.args_cons (thn (ha.run pins s σ H _ I h) fun v s1 ⟨x, H1, I1, r1, q1⟩ => PyProof.Rows.args_nil ?_) na) na rfl))
  obtain ⟨l, ts, rfl, hq, nd, few, q1⟩ := q1
  cases r1
  rcases hq with hq | hq
  · obtain ⟨its, r, pl, _⟩ := I1.list hq
    exact setTx_list (I1.ok.hd hc) pl.isList (by simpa using strsAre_of r) nd few fun h' tk T kp => PyProof.Rows.args_nil (fin _ _ _ _ _ _ _ (I1.kept kp) T nd few q1)
  · obtain ⟨its, r, pl, _⟩ := I1.tuple hq
    exact setTx_tuple (I1.ok.hd hc) pl (by simpa using strsAre_of r) nd few fun h' tk T kp => PyProof.Rows.args_nil (fin _ _ _ _ _ _ _ (I1.kept kp) T nd few q1)
theorem pe_lenTx (hc : X.calm = true) (hg : Gl X "len") (hm : X.mg "len" = none) (hg2 : Gl X "set") (hm2 : X.mg "set" = none) (ha : PE X a ta) (na : starEach [a] X.env = (false, eval a X.env) :: starEach [] X.env) :
    PE X (.Call (.Name "len" p) [.Call (.Name "set" p2) [a] [] q] [] pos) (tSet X.K ta fun ts Q H => Q (.int ts.length) H) :=
  pe_ofSet hc boot_len hg hm hg2 hm2 ha (by decide) (by decide) na fun pins σ H s S ts Q I T _ few k => lenTx T (by rw [List.length_reverse]; exact few) ⟨.int ts.length, H, I.tok _, ⟨_, by rw [List.length_reverse]⟩, k⟩
theorem pe_sortTx (hc : X.calm = true) (hg : Gl X "sorted") (hm : X.mg "sorted" = none) (hg2 : Gl X "set") (hm2 : X.mg "set" = none) (ha : PE X a ta) (na : starEach [a] X.env = (false, eval a X.env) :: starEach [] X.env) :
    PE X (.Call (.Name "sorted" p) [.Call (.Name "set" p2) [a] [] q] [] pos) (tSet X.K ta fun ts Q H => ∀ ys p, ys.Perm ts → sortedS ys = true → H p = none → Q (.ref p) (upd H p (.lst (ys.map V.str)))) :=
  pe_ofSet hc boot_sorted hg hm hg2 hm2 ha (by decide) (by decide) na fun pins σ H s S ts Q I T nd few k => sortTx T (I.ok.hd hc) ((List.reverse_perm _).nodup_iff.mpr nd) (by rw [List.length_reverse]; exact few) fun s' p out c ys kp g o hp hL g3 g4 g5 => by
    have pm : ys.Perm ts := g4.trans (List.reverse_perm _)
    have hn : H p = none := I.hok.fresh hp
    have J : Inv X pins σ (upd H p (.lst (ys.map V.str))) { s with heap := s'.heap, gens := s'.gens, drawn := s'.drawn, toks := s'.toks } :=
      I.call (ch := []) (Un.laid kp hp hn) (I.hok.laid kp hp ⟨by rw [List.length_map, pm.length_eq, sizeLine_eq]; omega, out.toList, c, vals_of_strs g3, by rw [Array.toArray_toList]; exact hL⟩) (by rw [g]; exact I.bare) nofun
    have e : s' = { s with heap := s'.heap, gens := s'.gens, drawn := s'.drawn, toks := s'.toks } := by
      obtain ⟨h', g', d', t', o'⟩ := s'
      obtain rfl : o' = s.os := o
      rfl
    rw [e]
    exact ⟨.ref p, _, J, rfl, k ys p pm g5 hn⟩
end
section
variable {X : Cx} {ρ : En} {a : Expr} {p p2 q pos : Pos} {b : Bool} {l : List Str}
theorem sq_at {K : PySem.W.Frag} {L H : Hp} {v : V} (e : Ex L H) (r : Rep K L v (sqD b l)) : ∃ c, v = .ref c ∧ (SqL K H c (l.map V.str) ∨ SqT K H c (l.map V.str)) := by
  cases b
  · obtain ⟨c, xs, rfl, hc, rl, _⟩ := Rep.lst_ (show Rep K L v (.lst (l.map D.str)) from r)
    rw [rl.strs] at hc
    exact ⟨c, rfl, .inl (SqL.of (e _ _ hc))⟩
  · obtain ⟨c, xs, rfl, hc, rl, _⟩ := Rep.tup_ (show Rep K L v (.tup (l.map D.str)) from r)
    rw [rl.strs] at hc
    exact ⟨c, rfl, .inr (SqT.of (e _ _ hc))⟩
theorem j_lenSet (hm : X.mg "len" = none) (hm2 : X.mg "set" = none) (ha : PE X a (tJ X.K ρ (sqD b l))) (nd : l.Nodup) (hl : l.length < 64) (hg : Gl X "len" := by rfl) (hg2 : Gl X "set" := by rfl) (hc : X.calm = true := by rfl)
    (na : starEach [a] X.env = (false, eval a X.env) :: starEach [] X.env := by rfl) : PE X (.Call (.Name "len" p) [.Call (.Name "set" p2) [a] [] q] [] pos) (tJ X.K ρ (.int l.length)) := (pe_lenTx hc hg hm hg2 hm2 ha na).imp fun σ H Q ⟨L, ex, env, k⟩ => ⟨L, ex, env, fun v H1 L1 g1 r1 => by
  obtain ⟨c, rfl, sq⟩ := sq_at g1.sub r1
  exact ⟨c, l, rfl, sq, nd, hl, k _ H1 L1 g1 (.int _)⟩⟩
theorem j_sortSet (hm : X.mg "sorted" = none) (hm2 : X.mg "set" = none) (ha : PE X a (tJ X.K ρ (sqD b l))) (nd : l.Nodup) (hl : l.length < 64) (hg : Gl X "sorted" := by rfl) (hg2 : Gl X "set" := by rfl) (hc : X.calm = true := by rfl)
    (na : starEach [a] X.env = (false, eval a X.env) :: starEach [] X.env := by rfl) : PE X (.Call (.Name "sorted" p) [.Call (.Name "set" p2) [a] [] q] [] pos) (tJ X.K ρ (.lst ((srt l).map D.str))) := (pe_sortTx hc hg hm hg2 hm2 ha na).imp fun σ H Q ⟨L, ex, env, k⟩ => ⟨L, ex, env, fun v H1 L1 g1 r1 => by
  obtain ⟨c, rfl, sq⟩ := sq_at g1.sub r1
  refine ⟨c, l, rfl, sq, nd, hl, fun ys q pm so hq => ?_⟩
  obtain rfl := srt_uniq pm (sortedS_pair so)
  have g2 := Go.new (o := .lst ((srt l).map V.str)) g1.sub hq
  exact k _ _ _ (g1.tr g2) (.lst upd_same (RepL.ofStrs _) (by rw [List.length_map, srt_len]; show l.length ≤ 100000; omega))⟩
theorem bf_lenSq : BF X "len" [sqD b l] (.int l.length) := by
  cases b
  · exact bf_lenL.to (by rw [List.length_map])
  · exact bf_lenT.to (by rw [List.length_map])
theorem i_sq {e tg : Expr} (h : PE X e (tJ X.K ρ (sqD b l))) : PI X tg e (tI X.K ρ (l.map D.str)) := by
  cases b
  · exact i_list h
  · exact i_tup h
end
end K51
end
section
set_option Elab.async false
set_option linter.all false
set_option maxRecDepth 100000
/-! Owned lists' items stored; the bag itself; whole numbers. -/
namespace K51
open PySem PySem.Spec PyProof.Rows L2
section
variable {X : Cx} {b : Option Addr} {M : Mem} {ρ : En} {d x y z : D} {e a i0 : Expr} {pos p tpos : Pos} {Φ Ψ : D → Prop} {q : Addr} {l : List D} {j : Nat} {n : Nat}
theorem w_rem (h : PE X e (tE X.K b M ρ Φ)) : PS X (.Return (some e) pos) (tW X.K b M ρ fun o => ∃ d, Φ d ∧ o = .rem d M) := (ps_ret h).imp fun E σ H ⟨L, e, env, ow, k⟩ => ⟨L, e, env, ow, fun v H1 L1 d h g o r => k _ ⟨d, h, rfl⟩ v H1 L1 g.gs o r⟩
theorem repL_set {K : PySem.W.Frag} {L : Hp} {w : V} {d : D} (h : Rep K L w d) : ∀ {vs : List V} {ds : List D} (i : Nat), RepL K L vs ds → RepL K L (vs.set i w) (ds.set i d)
  | _, _, _, .nil => .nil
  | _, _, 0, .cons _ r => .cons h r
  | _, _, i + 1, .cons h' r => .cons h' (repL_set h i r)
/-- xs[i] = e, xs owned -/
theorem w_lset (j : Nat) {i : Int} {m : Nat} (ho : PE X a (tJ X.K ρ (.own q))) (hi : PE X i0 (tJ X.K ρ (.int i))) (hM : M[j]? = some (q, .lst l)) (hm : ixN l.length i = some m) (ha : PE X e (tE X.K b M ρ Φ))
    (hs : swapsWithSole [.Subscript a i0 tpos] e pos.line X.env = pure false := by rfl) (hw : swappedStores [.Subscript a i0 tpos] e X.env = pure none := by rfl) (h1 : (assignEach [.Subscript a i0 tpos] X.env).map (·.2) = [assign (.Subscript a i0 tpos) X.env] := by rfl)
    (hst : ∀ v, assign (.Subscript a i0 tpos) X.env v = (do
      let ov ← holding [v] (eval a X.env)
      let iv ← holding [v, ov] (eval i0 X.env)
      standAt tpos
      holding [v, ov, iv] (setItem ov iv v)
      release [v, ov, iv] []) := by intro _; rfl) :
    PS X (.Assign [.Subscript a i0 tpos] e pos) (tW X.K b M ρ fun o => ∃ w, Φ w ∧ o = .nxt ρ (M.set j (q, .lst (l.set m w)))) :=
  (ps_asg ha (pg_sub ho hi set_list hst) hs hw h1).imp fun E σ H ⟨L, e, env, ow, k⟩ => ⟨L, e, env, ow, fun v H1 L1 w hw g1 o1 r1 => ⟨L1, g1.sub, env.ex g1.lx, fun u H2 L2 g2 r2 => ⟨L2, g2.sub, (env.ex g1.lx).ex g2.lx, fun y H3 L3 g3 r3 => by
    obtain rfl := r2.own_
    obtain rfl := r3.int_
    have o3 := (o1.go g2).go g3
    have hm' := List.mem_of_getElem? hM
    obtain ⟨xs, h, r, zl⟩ := (o3.sh _ hm').lst_
    have rw_ := (r1.ex g2.lx).ex g3.lx
    obtain ⟨o4, g4, _⟩ := o3.put (u := .lst (xs.set m v)) g3.sub hM (.lst upd_same (repL_set rw_ m r) (by rw [List.length_set]; exact zl))
    exact ⟨q, xs, i, m, rfl, rfl, h, by rw [r.len]; exact hm, k _ ⟨w, hw, rfl⟩ σ _ L3 (((g1.tr g2.gx).tr g3.gx).gs.tr g4) o4 (((env.ex g1.lx).ex g2.lx).ex g3.lx)⟩⟩⟩⟩
/-- l[i] by values -/
def rGetL (K : PySem.W.Frag) : V → V → Hp → VK → Prop := fun o i H Q => ∃ p xs k v, o = .ref p ∧ i = .int k ∧ H p = some (.lst xs) ∧ 0 ≤ k ∧ xs[k.toNat]? = some v ∧ Q v H
theorem pget_list : PGet X (rGetL X.K) := by
  intro pins s σ H o i ov iv Q I ro ri h
  obtain ⟨p, xs, k, v, rfl, rfl, hp, h0, hv, q⟩ := h
  obtain rfl : ov = .ref p := ro
  obtain ⟨t, rfl⟩ := ri
  obtain ⟨its, m, rv, ho, hz⟩ := I.lst hp
  obtain ⟨u, hu, ru⟩ := Vals.get rv hv
  have hk : k.toNat < xs.length := (List.getElem?_eq_some_iff.mp hv).1
  have hl := line63
  exact wpAny_getItem_list (items := its.toArray) ⟨_, ho, rfl, _, rfl⟩ h0 (by omega) (by simpa using hu) ⟨v, H, I, ru, q⟩
/-- xs[i] += e of ints, xs owned -/
theorem w_laug (j : Nat) {i u w : Int} {m : Nat} (ho : PE X a (tJ X.K ρ (.own q))) (hi : PE X i0 (tJ X.K ρ (.int i))) (hM : M[j]? = some (q, .lst l)) (h0 : 0 ≤ i) (hu : l[i.toNat]? = some (.int u)) (hm : ixN l.length i = some m) (ha : PE X e (tJ X.K ρ (.int w)))
    (hst : ∀ ov iv new, augStore i0 ov iv new = (do holding [new, ov, iv] (setItem ov iv new); release [new, ov, iv] []; pure .next) := by intros; rfl) :
    PS X (.AugAssign (.Subscript a i0 tpos) .Add e pos) (tW X.K b M ρ (· = .nxt ρ (M.set j (q, .lst (l.set m (.int (u + w))))))) :=
  (ps_augS ho hi pget_list ha ip_add set_list hst).imp fun E σ H ⟨L, e, env, ow, k⟩ => ⟨L, e, env, fun v H1 L1 g1 r1 => ⟨L1, g1.sub, env.ex g1.lx, fun y H2 L2 g2 r2 => by
    obtain rfl := r1.own_
    obtain rfl := r2.int_
    have o2 := (ow.go g1).go g2
    have hm' := List.mem_of_getElem? hM
    obtain ⟨xs, h, r, zl⟩ := (o2.sh _ hm').lst_
    obtain ⟨x0, hx0, rx0⟩ := r.get hu
    obtain rfl := rx0.int_
    refine ⟨q, xs, i, _, rfl, rfl, h, h0, hx0, L2, g2.sub, (env.ex g1.lx).ex g2.lx, fun z H3 L3 g3 r3 => ?_⟩
    obtain rfl := r3.int_
    have o3 := o2.go g3
    obtain ⟨xs3, h3, r3', zl3⟩ := (o3.sh _ hm').lst_
    obtain ⟨o4, g4, _⟩ := o3.put (u := .lst (xs3.set m (.int (u + w)))) (d' := .lst (l.set m (.int (u + w)))) g3.sub hM (.lst upd_same (repL_set (.int _) m r3') (by rw [List.length_set]; exact zl3))
    exact ⟨u, w, rfl, rfl, q, xs3, i, m, rfl, rfl, h3, by rw [r3'.len]; exact hm, k _ rfl σ _ L3 ((((g1.tr g2).tr g3).gx).gs.tr g4) o4 (((env.ex g1.lx).ex g2.lx).ex g3.lx)⟩⟩⟩
end
/-- the bag's list -/
def bagD (b0 b1 b2 : Int) (ns : List Int) : D := .lst [.int b0, .int b1, .int b2, .lst (ns.map D.int)]
def bagIn (b0 b1 b2 : Int) (ns : List Int) : Prop := ns.length ≤ lim ∧ (∀ n ∈ ns, 0 ≤ n) ∧ 0 ≤ b0 ∧ 0 ≤ b1 ∧ 0 ≤ b2
section
variable {K : PySem.W.Frag} {L H L' H' : Hp} {q : Addr}
theorem bag_own (o : Ow K (some q) [] L H) : ∃ b0 b1 b2 ns, bagIn b0 b1 b2 ns ∧ Ow K none [(q, bagD b0 b1 b2 ns)] L H := by
  obtain ⟨h1, ⟨b0, b1, b2, c, ns, h2, h3, h4, h5, h6, h7, h8⟩, _⟩ := o.bg q rfl
  refine ⟨b0, b1, b2, ns, ⟨h4, h5, h6, h7, h8⟩, by simp [Mem.ks], fun p hp => ?_, fun p hp => ?_, nofun⟩
  · rw [List.mem_singleton] at hp; subst hp; exact h1
  · rw [List.mem_singleton] at hp; subst hp
    exact .lst h2 (.cons (.int _) (.cons (.int _) (.cons (.int _) (.cons (.lst h3 (RepL.ofInts ns) (by rw [List.length_map]; exact h4)) .nil)))) (show 4 ≤ 100000 by decide)
theorem own_bag {b0 b1 b2 : Int} {ns : List Int} (h : bagIn b0 b1 b2 ns) (o : Ow K none [(q, bagD b0 b1 b2 ns)] L H) : Ow K (some q) [] L H := by
  refine ⟨.nil, nofun, nofun, fun c hc => ?_⟩
  cases hc
  obtain ⟨h1, h2, h3, h4, h5⟩ := h
  obtain ⟨xs, hx, r, _⟩ := (o.sh (q, bagD b0 b1 b2 ns) (by simp)).lst_
  obtain ⟨v0, xs1, rfl, r0, r⟩ := r.cons_
  obtain ⟨v1, xs2, rfl, r1, r⟩ := r.cons_
  obtain ⟨v2, xs3, rfl, r2, r⟩ := r.cons_
  obtain ⟨v3, xs4, rfl, r3, r⟩ := r.cons_
  obtain rfl := r.nil_
  obtain rfl := r0.int_
  obtain rfl := r1.int_
  obtain rfl := r2.int_
  obtain ⟨c, ys, rfl, hc, rc, _⟩ := r3.lst_
  have := rc.ints
  subst this
  exact ⟨o.un (q, bagD b0 b1 b2 ns) (by simp), ⟨b0, b1, b2, c, ns, hx, hc, h1, h2, h3, h4, h5⟩, nofun⟩
end
section
variable {P : Program} {w : World} {K : PySem.W.Frag} {mg : Str → Option Value} {base : Heap}
variable {x qual : Str} {params : Arguments} {body : List Stmt} {scope : Scope} {f : Addr} {fd : FuncData} {N ps : List Str} {k : Nat} {R : List D → D → Prop} {Pr : List D → Prop}
/-- a def that changes the bag itself -/
theorem fn_bag (F : FunD K x qual params body scope [] [] f fd) (S : FnScope N ps scope)
    (len : ∀ ds, Pr ds → ds.length + 1 = ps.length)
    (hb : ∀ (kV doc pm : Value) (an : Option Addr) (cdv ct : Value) (us : List Value), us.length = ps.length → bindArgs (PySem.W.fnOf x qual params body scope .none kV doc pm an cdv ct) ⟨us, []⟩ = pure (ps.zip us))
    (hbody : ∀ (q : Addr) (b0 b1 b2 : Int) (ns : List Int), bagIn b0 b1 b2 ns → ∀ (ds : List D), Pr ds → ∀ (cdv : Value) (A : Around) (outer : List Env) (s : Shared) (H : Hp) (E : XK), Room k (A.deeper (envOfC qual scope s.heap.objs.size f cdv)) →
      PSs (cxOf CX0 P w K mg base N qual scope f cdv A outer s H E).nox body (tW K none [(q, bagD b0 b1 b2 ns)] ((.own q :: ds).map some ++ List.replicate (N.length - (D.own q :: ds).length) none) fun o => ∃ d c0 c1 c2 ms, o = .rem d [(q, bagD c0 c1 c2 ms)] ∧ bagIn c0 c1 c2 ms ∧ R ds d)) :
    Ok0 P w K mg base (k + 1) f ps (spB K Pr R) := by
  refine ⟨⟨fd, F.ok S (fun vs H Q E ⟨L, q, us, ds, _, ev, r, _, h, _⟩ => by rw [ev, List.length_cons, r.len]; exact len ds h) fun cdv A outer s H vs Q E hr ⟨L, q, us, ds, e, ev, r, ow, h, k⟩ => ?_, F.bindsN hb⟩, F.kp⟩
  subst ev
  obtain ⟨b0, b1, b2, ns, hb, o1⟩ := bag_own ow
  refine ⟨_, (hbody q b0 b1 b2 ns hb ds h cdv A outer s H E hr).nox, L, e, start_env (.cons (.own q) r), o1, fun o ⟨d, c0, c1, c2, ms, ho, hb2, hd⟩ => ?_⟩
  subst ho
  intro v H' L' g o2 rv
  have o3 := own_bag hb2 o2
  refine k v H' L' d hd ⟨fun a u n h => g.ex a u nofun (by simp [Mem.ks]; exact fun z => n (z ▸ rfl)) h, g.lx, g.sub, fun a n => ?_, g.dom⟩ o3 rv
  by_cases z : a = q
  · subst z; rw [(o3.bg _ rfl).1, (ow.bg _ rfl).1]
  · exact g.old a n (by simp [Mem.ks]; exact z)
end
/-! whole numbers -/
section
variable {X : Cx} {i j : Int}
theorem bd_mul (h : (-(2 ^ 64) < i ∧ i < 2 ^ 64) ∨ (-(2 ^ 64) < j ∧ j < 2 ^ 64)) : BD X .Mult (.int i) (.int j) (.int (i * j)) := ⟨_, op_mul, od_intC h fun _ => .int _⟩
theorem bd_mod (h : 0 < j) : BD X .Mod (.int i) (.int j) (.int (i % j)) := ⟨_, op_mod, od_intC h fun _ => .int _⟩
theorem bd_div (h : 0 < j) (h2 : j < 2 ^ 300) : BD X .FloorDiv (.int i) (.int j) (.int (i / j)) := ⟨_, op_fdivW, od_intC (wide_div h (b := 300) (by omega) (by decide) (by decide)) fun _ => .int _⟩
end
end K51
end
section
set_option Elab.async false
set_option linter.all false
set_option maxRecDepth 100000
set_option maxHeartbeats 4000000
/-! The walk: names, trees, rules, pools. -/
namespace K51
open PySem PySem.Spec PyProof.Rows L2
section
variable {P : Program} {w : World} {K : PySem.W.Frag} {mg : Str → Option Value} {base : Heap}
def isInt : D → Bool
  | .int _ => true
  | _ => false
theorem kit_int {d : D} {t : String} (h : tyD d = some t) : ∃ c, kitB t "int" = some c ∧ ∃ c2, kitB t "bool" = some c2 ∧ (c && !c2) = isInt d := by
  cases d with
  | bl b => cases h; exact ⟨true, by decide +kernel, true, by decide +kernel, rfl⟩
  | int b => cases h; exact ⟨true, by decide +kernel, false, by decide +kernel, rfl⟩
  | obj c l => cases h
  | own a => cases h
  | _ => cases h; exact ⟨false, by decide +kernel, false, by decide +kernel, rfl⟩
def R_is_integer (ds : List D) (r : D) : Prop := ∃ d t, ds = [d] ∧ tyD d = some t ∧ r = .bl (isInt d)
theorem ok_is_integer (T : Facts K mg) : OkG P w K mg base 1 "is_integer" ["thing"] (spD K R_is_integer) := by
  obtain ⟨fd, F⟩ := T.f_is_integer
  have hN : (["thing"] : List Str).Nodup := by decide +kernel
  refine ⟨_, T.gis_integer, fn_D F (N := ["thing"]) ⟨rfl, rfl, rfl, hN, rfl, by decide +kernel, by decide +kernel⟩ (fun ds d h => by obtain ⟨d, t, rfl, ht, rfl⟩ := h; rfl) (fun _ _ _ _ _ _ us hl => match us, hl with | [_], _ => rfl) ?_⟩
  rintro ds r ⟨d, t, rfl, ht, rfl⟩ cdv A outer s H E hr
  obtain ⟨c, h1, c2, h2, e⟩ := kit_int ht
  rw [← e]
  exact .inl (s_one (s_ret (j_and (j_isi (j_v 0) ht h1 boot_int T.b_isinstance T.b_int) fun hp => j_one (j_not (j_isi (j_v 0) ht h2 boot_bool T.b_isinstance T.b_bool)))))
def R_is_number (ds : List D) (r : D) : Prop := ∃ i j : Int, ds = [.int i, .int j] ∧ r = .bl (decide (i ≤ j))
theorem ok_is_number (T : Facts K mg) : OkG P w K mg base 2 "is_number" ["least", "thing"] (spD K R_is_number) := by
  have G_is_integer := ok_is_integer (P := P) (w := w) (base := base) T
  obtain ⟨fd, F⟩ := T.f_is_number
  have hN : (["least", "thing"] : List Str).Nodup := by decide +kernel
  refine ⟨_, T.gis_number, fn_D F (N := ["least", "thing"]) ⟨rfl, rfl, rfl, hN, rfl, by decide +kernel, by decide +kernel⟩ (fun ds d h => by obtain ⟨i, d, rfl, rfl⟩ := h; rfl) (fun _ _ _ _ _ _ us hl => match us, hl with | [_, _], _ => rfl) ?_⟩
  rintro ds r ⟨i, d, rfl, rfl⟩ cdv A outer s H E hr
  exact .inl (s_one (s_ret (j_is (j_and (p := true) (j_call G_is_integer hr (ja_cons (j_v 1) ja_nil) ⟨_, _, rfl, rfl, rfl⟩) fun hp => j_one (j_c cd_ge (j_v 1) (j_v 0))) (by rfl))))
theorem kit_str : kitB "str" "str" = some true := by decide +kernel
theorem kit_tup : kitB "tuple" "tuple" = some true := by decide +kernel
theorem kit_dct : kitB "dict" "dict" = some true := by decide +kernel
theorem kit_intI : kitB "int" "int" = some true := by decide +kernel
theorem kit_intB : kitB "int" "bool" = some false := by decide +kernel
def R_is_name (ds : List D) (r : D) : Prop := ∃ x, okN x ∧ ds = [.str x] ∧ r = .bl true
theorem small_mem (c : Nat) (h : 97 ≤ c ∧ c ≤ 122) : c ∈ ("abcdefghijklmnopqrstuvwxyz" : Str).cps.toList := by
  have : ∀ n : Fin 26, (n.1 + 97) ∈ ("abcdefghijklmnopqrstuvwxyz" : Str).cps.toList := by decide +kernel
  have h2 := this ⟨c - 97, by omega⟩
  rwa [show c - 97 + 97 = c from by omega] at h2
theorem ok_is_name (T : Facts K mg) : OkG P w K mg base 1 "is_name" ["thing"] (spD K R_is_name) := by
  obtain ⟨fd, F⟩ := T.f_is_name
  have hN : (["thing", "sign"] : List Str).Nodup := by decide +kernel
  refine ⟨_, T.gis_name, fn_D F (N := ["thing", "sign"]) ⟨rfl, rfl, rfl, hN, rfl, by decide +kernel, by decide +kernel⟩ (fun ds d h => by obtain ⟨x, hx, rfl, rfl⟩ := h; rfl) (fun _ _ _ _ _ _ us hl => match us, hl with | [_], _ => rfl) ?_⟩
  rintro ds r ⟨x, hx, rfl, rfl⟩ cdv A outer s H E hr
  obtain ⟨h1, h2, h3⟩ := hx
  refine .inl (s_no (PW.pt (w_is (w_or (t_not (t_v (j_isi (j_v 0) rfl kit_str boot_str T.b_isinstance T.b_str))) fun _ => w_or1 (t_not (t_chain cd_le (fun _ => cd_le) j_int (j_f (bf_lenS (show x.length ≤ 100000 by omega)) T.b_len (ja_cons (j_v 0) ja_nil)) (j_gint T.v_MOST_NAME)))) ?_)) (s_one (s_ret (j_all1 1 hN T.b_all (i_str (j_v 0) (show x.length ≤ 100000 by omega)) fun a ha _ _ _ _ _ => j_is (j_c cd_sign (j_v 1) (j_gstr T.v_SMALL)) ?_))))
  · rw [decide_eq_true (show (1 : Int) ≤ x.length by omega), decide_eq_true (show (x.length : Int) ≤ 8 by omega)]; rfl
  · rw [decide_eq_true (small_mem a (h3 a ha))]
def R_is_moment (ds : List D) (r : D) : Prop := ∃ x : Str, (x = "read" ∨ x = "come") ∧ ds = [.str x] ∧ r = .bl true
theorem ok_is_moment (T : Facts K mg) : OkG P w K mg base 1 "is_moment" ["thing"] (spD K R_is_moment) := by
  obtain ⟨fd, F⟩ := T.f_is_moment
  have hN : (["thing"] : List Str).Nodup := by decide +kernel
  refine ⟨_, T.gis_moment, fn_D F (N := ["thing"]) ⟨rfl, rfl, rfl, hN, rfl, by decide +kernel, by decide +kernel⟩ (fun ds d h => by obtain ⟨x, hx, rfl, rfl⟩ := h; rfl) (fun _ _ _ _ _ _ us hl => match us, hl with | [_], _ => rfl) ?_⟩
  rintro ds r ⟨x, hx, rfl, rfl⟩ cdv A outer s H E hr
  refine .inl (s_one (s_ret (j_is (j_and (j_isi (j_v 0) rfl kit_str boot_str T.b_isinstance T.b_str) fun hp => j_one (j_c (cd_inG T.t_MOMENTS (vs := ["come", "read"])) (j_v 0) (j_gown T.g_MOMENTS))) ?_)))
  rcases hx with rfl | rfl <;> rfl
def R_shape (n : Nat) (ds : List D) (r : D) : Prop := ∃ t, okT n t ∧ ds = [trD t] ∧ r = .bl true
theorem ok_is_shape (T : Facts K mg) : ∀ n, OkG P w K mg base (n + 3) "is_shape" ["thing"] (spD K (R_shape n)) := by
  have G_num := ok_is_number (P := P) (w := w) (base := base) T
  intro n
  induction n with
  | zero =>
    obtain ⟨fd, F⟩ := T.f_is_shape
    have hN : (["thing"] : List Str).Nodup := by decide +kernel
    refine ⟨_, T.gis_shape, fn_D F (N := ["thing"]) ⟨rfl, rfl, rfl, hN, rfl, by decide +kernel, by decide +kernel⟩ (fun ds d h => by obtain ⟨t, _, rfl, _⟩ := h; rfl) (fun _ _ _ _ _ _ us hl => match us, hl with | [_], _ => rfl) ?_⟩
    rintro ds r ⟨t, ht, rfl, rfl⟩ cdv A outer s H E hr
    cases t with
    | jn w l r => exact ht.elim
    | «at» a b =>
      obtain ⟨h1, h2, h3⟩ := ht
      refine .inl (s_no (PW.pt (w_is (w_or (t_not (t_v (j_isi (d := trD (.at a b)) (j_v 0) rfl kit_tup boot_tuple T.b_isinstance T.b_tuple))) fun _ => w_or (t_c cd_neI (j_f bf_lenT T.b_len (ja_cons (j_v 0) ja_nil)) j_int) fun _ => w_or1 (t_not (t_v (j_isi (j_ixT (j_v 0) j_int rfl) rfl kit_str boot_str T.b_isinstance T.b_str)))) ?_)) (s_no (t_is (t_c (cd_inG T.t_JOINS (vs := ["or", "and"])) (j_ixT (j_v 0) j_int rfl) (j_gown T.g_JOINS)) ?_) (s_one (s_ret (j_is (j_and (j_c cd_eqS (j_ixT (j_v 0) j_int rfl) j_str) fun _ => j_and (j_call G_num hr (ja_cons j_int (ja_cons (j_ixT (j_v 0) j_int rfl) ja_nil)) ⟨_, _, rfl, rfl⟩) fun _ => j_and (j_call G_num hr (ja_cons j_int (ja_cons (j_ixT (j_v 0) j_int rfl) ja_nil)) ⟨_, _, rfl, rfl⟩) fun _ => j_one (j_c cd_le (j_ixT (j_v 0) j_int rfl) (j_gint T.v_MOST_BY))) ?_)))))
      · rfl
      · rfl
      · rw [decide_eq_true h1, decide_eq_true h2, decide_eq_true h3]; rfl
  | succ n ih =>
    obtain ⟨fd, F⟩ := T.f_is_shape
    have hN : (["thing"] : List Str).Nodup := by decide +kernel
    refine ⟨_, T.gis_shape, fn_D F (N := ["thing"]) ⟨rfl, rfl, rfl, hN, rfl, by decide +kernel, by decide +kernel⟩ (fun ds d h => by obtain ⟨t, _, rfl, _⟩ := h; rfl) (fun _ _ _ _ _ _ us hl => match us, hl with | [_], _ => rfl) ?_⟩
    rintro ds r ⟨t, ht, rfl, rfl⟩ cdv A outer s H E hr
    cases t with
    | «at» a b =>
      obtain ⟨h1, h2, h3⟩ := ht
      refine .inl (s_no (PW.pt (w_is (w_or (t_not (t_v (j_isi (d := trD (.at a b)) (j_v 0) rfl kit_tup boot_tuple T.b_isinstance T.b_tuple))) fun _ => w_or (t_c cd_neI (j_f bf_lenT T.b_len (ja_cons (j_v 0) ja_nil)) j_int) fun _ => w_or1 (t_not (t_v (j_isi (j_ixT (j_v 0) j_int rfl) rfl kit_str boot_str T.b_isinstance T.b_str)))) ?_)) (s_no (t_is (t_c (cd_inG T.t_JOINS (vs := ["or", "and"])) (j_ixT (j_v 0) j_int rfl) (j_gown T.g_JOINS)) ?_) (s_one (s_ret (j_is (j_and (j_c cd_eqS (j_ixT (j_v 0) j_int rfl) j_str) fun _ => j_and (j_call G_num hr (ja_cons j_int (ja_cons (j_ixT (j_v 0) j_int rfl) ja_nil)) ⟨_, _, rfl, rfl⟩ (by omega)) fun _ => j_and (j_call G_num hr (ja_cons j_int (ja_cons (j_ixT (j_v 0) j_int rfl) ja_nil)) ⟨_, _, rfl, rfl⟩ (by omega)) fun _ => j_one (j_c cd_le (j_ixT (j_v 0) j_int rfl) (j_gint T.v_MOST_BY))) ?_)))))
      · rfl
      · rfl
      · rw [decide_eq_true h1, decide_eq_true h2, decide_eq_true h3]; rfl
    | jn wd l r =>
      refine .inl (s_no (PW.pt (w_is (w_or (t_not (t_v (j_isi (d := trD (.jn wd l r)) (j_v 0) rfl kit_tup boot_tuple T.b_isinstance T.b_tuple))) fun _ => w_or (t_c cd_neI (j_f bf_lenT T.b_len (ja_cons (j_v 0) ja_nil)) j_int) fun _ => w_or1 (t_not (t_v (j_isi (j_ixT (j_v 0) j_int rfl) rfl kit_str boot_str T.b_isinstance T.b_str)))) ?_)) (s_grd (t_is (b' := true) (t_c (cd_inG T.t_JOINS (vs := ["or", "and"])) (j_ixT (j_v 0) j_int rfl) (j_gown T.g_JOINS)) ?_) (fun _ => s_one (s_ret (j_is (j_and (j_call ih hr (ja_cons (j_ixT (j_v 0) j_int rfl) ja_nil) ⟨l, ht.1, rfl, rfl⟩ (Nat.le_refl _)) fun _ => j_one (j_call ih hr (ja_cons (j_ixT (j_v 0) j_int rfl) ja_nil) ⟨r, ht.2, rfl, rfl⟩ (Nat.le_refl _))) rfl))) nofun))
      · rfl
      · cases wd <;> rfl
end
end K51
end
section
set_option Elab.async false
set_option linter.all false
set_option maxRecDepth 100000
set_option maxHeartbeats 4000000
/-! The walk: trees, rules, pools, forms. -/
namespace K51
open PySem PySem.Spec PyProof.Rows L2
section
variable {P : Program} {w : World} {K : PySem.W.Frag} {mg : Str → Option Value} {base : Heap}
def atD : Tr → List D
  | .at a b => [trD (.at a b)]
  | .jn _ l r => atD l ++ atD r
theorem atD_len : ∀ t, (atD t).length = atn t
  | .at _ _ => rfl
  | .jn _ l r => by show (atD l ++ atD r).length = atn l + atn r; rw [List.length_append, atD_len l, atD_len r]
def R_atoms (n : Nat) (ds : List D) (r : D) : Prop := ∃ t, okT n t ∧ n ≤ 4 ∧ ds = [trD t] ∧ r = .lst (atD t)
theorem ok_atoms_of (T : Facts K mg) : ∀ n, OkG P w K mg base (n + 1) "atoms_of" ["tree"] (spD K (R_atoms n)) := by
  intro n
  have hN : (["tree"] : List Str).Nodup := by decide +kernel
  induction n with
  | zero =>
    obtain ⟨fd, F⟩ := T.f_atoms_of
    refine ⟨_, T.gatoms_of, fn_D F (N := ["tree"]) ⟨rfl, rfl, rfl, hN, rfl, by decide +kernel, by decide +kernel⟩ (fun ds d h => by obtain ⟨t, _, _, rfl, _⟩ := h; rfl) (fun _ _ _ _ _ _ us hl => match us, hl with | [_], _ => rfl) ?_⟩
    rintro ds r ⟨t, ht, hn, rfl, rfl⟩ cdv A outer s H E hr
    cases t with
    | jn w l r => exact ht.elim
    | «at» a b => exact .inl (s_one (s_ret (j_if (p := true) (t_is (t_c cd_eqS (j_ixT (j_v (d := trD (.at a b)) 0) j_int rfl) j_str) rfl) (fun _ => j_lst (ja_cons (j_v 0) ja_nil)) nofun)))
  | succ n ih =>
    obtain ⟨fd, F⟩ := T.f_atoms_of
    refine ⟨_, T.gatoms_of, fn_D F (N := ["tree"]) ⟨rfl, rfl, rfl, hN, rfl, by decide +kernel, by decide +kernel⟩ (fun ds d h => by obtain ⟨t, _, _, rfl, _⟩ := h; rfl) (fun _ _ _ _ _ _ us hl => match us, hl with | [_], _ => rfl) ?_⟩
    rintro ds r ⟨t, ht, hn, rfl, rfl⟩ cdv A outer s H E hr
    cases t with
    | «at» a b => exact .inl (s_one (s_ret (j_if (p := true) (t_is (t_c cd_eqS (j_ixT (j_v (d := trD (.at a b)) 0) j_int rfl) j_str) rfl) (fun _ => j_lst (ja_cons (j_v 0) ja_nil)) nofun)))
    | jn wd l r =>
      have h1 := atn_le ht.1
      have h2 := atn_le ht.2
      have h3 : 2 ^ n ≤ 2 ^ 4 := Nat.pow_le_pow_right (by decide) (by omega)
      refine .inl (s_one (s_ret (j_if (p := false) (t_is (t_c cd_eqS (j_ixT (j_v (d := trD (.jn wd l r)) 0) j_int rfl) j_str) (by cases wd <;> rfl)) nofun fun _ => j_b (bd_addL ?_) (j_call ih hr (ja_cons (j_ixT (j_v 0) j_int rfl) ja_nil) ⟨l, ht.1, by omega, rfl, rfl⟩ (Nat.le_refl _)) (j_call ih hr (ja_cons (j_ixT (j_v 0) j_int rfl) ja_nil) ⟨r, ht.2, by omega, rfl, rfl⟩ (Nat.le_refl _)))))
      rw [atD_len, atD_len]
      show _ ≤ 100000
      omega
def R_is_tree (ds : List D) (r : D) : Prop := ∃ t, okT 1 t ∧ ds = [trD t] ∧ r = .bl true
theorem ok_shape1 (T : Facts K mg) : OkG P w K mg base 4 "is_shape" ["thing"] (spD K (R_shape 1)) := ok_is_shape T 1
theorem ok_atoms1 (T : Facts K mg) : OkG P w K mg base 2 "atoms_of" ["tree"] (spD K (R_atoms 1)) := ok_atoms_of T 1
theorem ok_is_tree (T : Facts K mg) : OkG P w K mg base 5 "is_tree" ["thing"] (spD K R_is_tree) := by
  have G_shape1 := ok_shape1 (P := P) (w := w) (base := base) T
  have G_atoms1 := ok_atoms1 (P := P) (w := w) (base := base) T
  obtain ⟨fd, F⟩ := T.f_is_tree
  have hN : (["thing"] : List Str).Nodup := by decide +kernel
  refine ⟨_, T.gis_tree, fn_D F (N := ["thing"]) ⟨rfl, rfl, rfl, hN, rfl, by decide +kernel, by decide +kernel⟩ (fun ds d h => by obtain ⟨t, ht, rfl, rfl⟩ := h; rfl) (fun _ _ _ _ _ _ us hl => match us, hl with | [_], _ => rfl) ?_⟩
  rintro ds r ⟨t, ht, rfl, rfl⟩ cdv A outer s H E hr
  refine .inl (s_one (s_ret (j_is (j_and (j_call G_shape1 hr (ja_cons (j_v 0) ja_nil) ⟨t, ht, rfl, rfl⟩) fun _ => j_one (j_c cd_le (j_f bf_lenL T.b_len (ja_cons (j_call G_atoms1 hr (ja_cons (j_v 0) ja_nil) ⟨t, ht, by decide, rfl, rfl⟩) ja_nil)) (j_gint T.v_MOST_ATOMS))) ?_)))
  rw [atD_len, decide_eq_true (show (atn t : Int) ≤ 6 by have := atn_le ht; omega)]
  rfl
def R_thr (n : Nat) (ds : List D) (r : D) : Prop := ∃ t, okT n t ∧ ds = [trD t] ∧ r = .int (thr t)
theorem ok_threshold_of (T : Facts K mg) : ∀ n, OkG P w K mg base (n + 1) "threshold_of" ["tree"] (spD K (R_thr n)) := by
  intro n
  have hN : (["tree", "word", "one", "other", "first", "second"] : List Str).Nodup := by decide +kernel
  induction n with
  | zero =>
    obtain ⟨fd, F⟩ := T.f_threshold_of
    refine ⟨_, T.gthreshold_of, fn_D F (N := ["tree", "word", "one", "other", "first", "second"]) ⟨rfl, rfl, rfl, hN, rfl, by decide +kernel, by decide +kernel⟩ (fun ds d h => by obtain ⟨t, _, rfl, _⟩ := h; rfl) (fun _ _ _ _ _ _ us hl => match us, hl with | [_], _ => rfl) ?_⟩
    rintro ds r ⟨t, ht, rfl, rfl⟩ cdv A outer s H E hr
    cases t with
    | jn w l r => exact ht.elim
    | «at» a b => exact .inl (s_cons (s_un3 1 2 3 hN (j_v (d := trD (.at a b)) 0)) (s_grd (c := true) (t_is (t_c cd_eqS (j_v 1) j_str) rfl) (fun _ => s_one (s_ret (j_f (bf_max2 rfl) T.b_max (ja_cons (j_v 2) (ja_cons (j_v 3) ja_nil))))) nofun))
  | succ n ih =>
    obtain ⟨fd, F⟩ := T.f_threshold_of
    refine ⟨_, T.gthreshold_of, fn_D F (N := ["tree", "word", "one", "other", "first", "second"]) ⟨rfl, rfl, rfl, hN, rfl, by decide +kernel, by decide +kernel⟩ (fun ds d h => by obtain ⟨t, _, rfl, _⟩ := h; rfl) (fun _ _ _ _ _ _ us hl => match us, hl with | [_], _ => rfl) ?_⟩
    rintro ds r ⟨t, ht, rfl, rfl⟩ cdv A outer s H E hr
    cases t with
    | «at» a b => exact .inl (s_cons (s_un3 1 2 3 hN (j_v (d := trD (.at a b)) 0)) (s_grd (c := true) (t_is (t_c cd_eqS (j_v 1) j_str) rfl) (fun _ => s_one (s_ret (j_f (bf_max2 rfl) T.b_max (ja_cons (j_v 2) (ja_cons (j_v 3) ja_nil))))) nofun))
    | jn wd l r =>
      refine .inl (s_cons (s_un3 1 2 3 hN (j_v (d := trD (.jn wd l r)) 0)) (s_grd (c := false) (t_is (t_c cd_eqS (j_v 1) j_str) (by cases wd <;> rfl)) nofun fun _ => s_cons (s_par 4 5 hN (j_call ih hr (ja_cons (j_v 2) ja_nil) ⟨l, ht.1, rfl, rfl⟩ (Nat.le_refl _)) (j_call ih hr (ja_cons (j_v 3) ja_nil) ⟨r, ht.2, rfl, rfl⟩ (Nat.le_refl _))) (s_one (s_ret (j_if (p := wd) (t_is (t_c cd_eqS (j_v 1) j_str) (by cases wd <;> rfl)) (fun h => ?_) fun h => ?_)))))
      · subst h; exact j_f (bf_min2 rfl) T.b_min (ja_cons (j_v 4) (ja_cons (j_v 5) ja_nil))
      · subst h; exact j_f (bf_max2 rfl) T.b_max (ja_cons (j_v 4) (ja_cons (j_v 5) ja_nil))
theorem ok_thr1 (T : Facts K mg) : OkG P w K mg base 2 "threshold_of" ["tree"] (spD K (R_thr 1)) := ok_threshold_of T 1
def R_Rule_init (ds : List D) (l : List (Str × D)) : Prop := ∃ t, okT 1 t ∧ ds = [trD t] ∧ l = [(("its_tree" : Str), trD t)]
theorem ok_Rule_init (T : Facts K mg) : Ok0 P w K mg base 6 (He.ma K (He.ga K "Rule") "__init__") ["self", "tree"] (spI K "Rule" R_Rule_init) := by
  have G_is_tree := ok_is_tree (P := P) (w := w) (base := base) T
  obtain ⟨fd, F⟩ := T.f_Rule_initU
  have hN : (["self", "tree"] : List Str).Nodup := by decide +kernel
  refine fn_I F (N := ["self", "tree"]) ⟨rfl, rfl, rfl, hN, rfl, by decide +kernel, by decide +kernel⟩ (fun ds d h => by obtain ⟨t, ht, rfl, rfl⟩ := h; rfl) (fun _ _ _ _ _ _ us hl => match us, hl with | [_, _], _ => rfl) ?_
  rintro q ds l ⟨t, ht, rfl, rfl⟩ cdv A outer s H E hr
  exact c_p (s_if (c := false) (t_is (t_not (t_v (j_call G_is_tree hr (ja_cons (j_v 1) ja_nil) ⟨t, ht, rfl, rfl⟩))) rfl) nofun fun _ => s_nil) (c_one (c_imS (w_fld 0 (j_v 0) rfl T.c_Rule T.n_Rule_its_tree (e_of (j_v 1)) (by decide)) fun o h => by obtain ⟨w, rfl, h⟩ := h; exact ⟨_, h⟩))
def R_Rule_thr (ds : List D) (r : D) : Prop := ∃ t, okT 1 t ∧ ds = [ruleD t] ∧ r = .int (thr t)
theorem ok_Rule_thr (T : Facts K mg) : Ok0 P w K mg base 3 (getAd K "Rule" "threshold") ["self"] (spD K R_Rule_thr) := by
  have G_thr1 := ok_thr1 (P := P) (w := w) (base := base) T
  obtain ⟨fd, F⟩ := T.f_Rule_threshold
  have hN : (["self"] : List Str).Nodup := by decide +kernel
  refine fn_D F (N := ["self"]) ⟨rfl, rfl, rfl, hN, rfl, by decide +kernel, by decide +kernel⟩ (fun ds d h => by obtain ⟨t, ht, rfl, rfl⟩ := h; rfl) (fun _ _ _ _ _ _ us hl => match us, hl with | [_], _ => rfl) ?_
  rintro ds r ⟨t, ht, rfl, rfl⟩ cdv A outer s H E hr
  exact .inl (s_one (s_ret (j_call G_thr1 hr (ja_cons (j_fld (C := "Rule") (j_v (d := ruleD t) 0) T.c_Rule T.n_Rule_its_tree rfl) ja_nil) ⟨t, ht, rfl, rfl⟩)))
def isiC {C : Str} (cl : Cls K (He.ga K C)) (i : IsiP K C) : IsiC K C := ⟨cl, i.ha, i.hn, i.ht, i.hm⟩
def okP0 (p : Pl) : Prop := 1 ≤ p.c ∧ (p.m = "read" ∨ p.m = "come")
def R_is_pool (ds : List D) (r : D) : Prop := ∃ p : Pl, okP0 p ∧ ds = [plD ruleD p] ∧ r = .bl true
theorem ok_is_pool (T : Facts K mg) : OkG P w K mg base 3 "is_pool" ["thing"] (spD K R_is_pool) := by
  have G_is_number := ok_is_number (P := P) (w := w) (base := base) T
  have G_is_moment := ok_is_moment (P := P) (w := w) (base := base) T
  obtain ⟨fd, F⟩ := T.f_is_pool
  have hN : (["thing"] : List Str).Nodup := by decide +kernel
  refine ⟨_, T.gis_pool, fn_D F (N := ["thing"]) ⟨rfl, rfl, rfl, hN, rfl, by decide +kernel, by decide +kernel⟩ (fun ds d h => by obtain ⟨p, hp, rfl, rfl⟩ := h; rfl) (fun _ _ _ _ _ _ us hl => match us, hl with | [_], _ => rfl) ?_⟩
  rintro ds r ⟨p, hp, rfl, rfl⟩ cdv A outer s H E hr
  refine .inl (s_no (t_is (PW.pt (w_or (t_not (t_v (j_isi (d := plD ruleD p) (j_v 0) rfl kit_tup boot_tuple T.b_isinstance T.b_tuple))) fun _ => w_or1 (t_c cd_neI (j_f bf_lenT T.b_len (ja_cons (j_v 0) ja_nil)) j_int))) rfl) (s_one (s_ret (j_is (j_and (j_call G_is_number hr (ja_cons j_int (ja_cons (j_ixT (j_v 0) j_int rfl) ja_nil)) ⟨1, p.c, rfl, rfl⟩) fun _ => j_and (j_isiC (C := "Rule") (j_ixT (d := ruleD p.t) (j_v 0) j_int rfl) (isiC T.c_Rule T.i_Rule) T.b_isinstance T.g_Rule) fun _ => j_one (j_call G_is_moment hr (ja_cons (j_ixT (j_v 0) j_int rfl) ja_nil) ⟨p.m, hp.2, rfl, rfl⟩)) ?_))))
  rw [decide_eq_true hp.1]; rfl
def okO1 (o : Option Str) : Prop := ∀ x, o = some x → okN x
def R_is_name_or_none (ds : List D) (r : D) : Prop := ∃ o, okO1 o ∧ ds = [ofO o] ∧ r = .bl true
theorem ok_is_name_or_none (T : Facts K mg) : OkG P w K mg base 2 "is_name_or_none" ["thing"] (spD K R_is_name_or_none) := by
  have G_is_name := ok_is_name (P := P) (w := w) (base := base) T
  obtain ⟨fd, F⟩ := T.f_is_name_or_none
  have hN : (["thing"] : List Str).Nodup := by decide +kernel
  refine ⟨_, T.gis_name_or_none, fn_D F (N := ["thing"]) ⟨rfl, rfl, rfl, hN, rfl, by decide +kernel, by decide +kernel⟩ (fun ds d h => by obtain ⟨o, ho, rfl, rfl⟩ := h; rfl) (fun _ _ _ _ _ _ us hl => match us, hl with | [_], _ => rfl) ?_⟩
  rintro ds r ⟨o, ho, rfl, rfl⟩ cdv A outer s H E hr
  cases o with
  | none => exact .inl (s_one (s_ret (j_or (p := true) (q := true) (j_is (j_c cd_isN (j_v 0) j_non) rfl) nofun)))
  | some x => exact .inl (s_one (s_ret (j_is (j_or (j_c cd_isN (j_v (d := .str x) 0) j_non) fun _ => j_one (j_call G_is_name hr (ja_cons (j_v (d := .str x) 0) ja_nil) ⟨x, ho x rfl, rfl, rfl⟩)) rfl)))
def okG0 (x : Gr) : Prop := okP0 x.p ∧ okO1 x.a
def R_is_group (ds : List D) (r : D) : Prop := ∃ x : Gr, okG0 x ∧ ds = [grD ruleD x] ∧ r = .bl true
theorem ok_is_group (T : Facts K mg) : OkG P w K mg base 4 "is_group" ["thing"] (spD K R_is_group) := by
  have G_is_pool := ok_is_pool (P := P) (w := w) (base := base) T
  have G_is_name_or_none := ok_is_name_or_none (P := P) (w := w) (base := base) T
  obtain ⟨fd, F⟩ := T.f_is_group
  have hN : (["thing"] : List Str).Nodup := by decide +kernel
  refine ⟨_, T.gis_group, fn_D F (N := ["thing"]) ⟨rfl, rfl, rfl, hN, rfl, by decide +kernel, by decide +kernel⟩ (fun ds d h => by obtain ⟨x, hx, rfl, rfl⟩ := h; rfl) (fun _ _ _ _ _ _ us hl => match us, hl with | [_], _ => rfl) ?_⟩
  rintro ds r ⟨x, hx, rfl, rfl⟩ cdv A outer s H E hr
  exact .inl (s_one (s_ret (j_is (j_and (j_isi (d := grD ruleD x) (j_v 0) rfl kit_tup boot_tuple T.b_isinstance T.b_tuple) fun _ => j_and (j_c cd_eqI (j_f bf_lenT T.b_len (ja_cons (j_v 0) ja_nil)) j_int) fun _ => j_and (j_call G_is_pool hr (ja_cons (j_slT (j_v 0) o_none (o_some j_int)) ja_nil) ⟨x.p, hx.1, rfl, rfl⟩) fun _ => j_one (j_call G_is_name_or_none hr (ja_cons (j_ixT (j_v 0) j_int rfl) ja_nil) ⟨x.a, hx.2, rfl, rfl⟩)) rfl)))
def okS0 (x : Sm) : Prop := 1 ≤ x.c ∧ (∀ q, x.q = some q → 1 ≤ q) ∧ okO1 x.h ∧ okO1 x.k ∧ okO1 x.g
def R_is_stream (ds : List D) (r : D) : Prop := ∃ x : Sm, okS0 x ∧ ds = [smD ruleD x] ∧ r = .bl true
theorem ok_is_stream (T : Facts K mg) : OkG P w K mg base 4 "is_stream" ["thing"] (spD K R_is_stream) := by
  have G_is_pool := ok_is_pool (P := P) (w := w) (base := base) T
  have G_is_name_or_none := ok_is_name_or_none (P := P) (w := w) (base := base) T
  have G_is_number := ok_is_number (P := P) (w := w) (base := base) T
  obtain ⟨fd, F⟩ := T.f_is_stream
  have hN : (["thing", "one"] : List Str).Nodup := by decide +kernel
  refine ⟨_, T.gis_stream, fn_D F (N := ["thing", "one"]) ⟨rfl, rfl, rfl, hN, rfl, by decide +kernel, by decide +kernel⟩ (fun ds d h => by obtain ⟨⟨xc, xt, xq, xh, xk, xg⟩, ⟨h1, h2, h3, h4, h5⟩, rfl, rfl⟩ := h; rfl) (fun _ _ _ _ _ _ us hl => match us, hl with | [_], _ => rfl) ?_⟩
  rintro ds r ⟨⟨xc, xt, xq, xh, xk, xg⟩, ⟨h1, h2, h3, h4, h5⟩, rfl, rfl⟩ cdv A outer s H E hr
  refine .inl (s_no ?_ (s_no ?_ (s_one (s_ret ?_))))
  · exact t_is (PW.pt (w_or (t_not (t_v (j_isi (d := smD ruleD ⟨xc, xt, xq, xh, xk, xg⟩) (j_v 0) rfl kit_tup boot_tuple T.b_isinstance T.b_tuple))) fun _ => w_or (t_c cd_neI (j_f bf_lenT T.b_len (ja_cons (j_v 0) ja_nil)) j_int) fun _ => w_or1 (t_not (t_v (j_call G_is_pool hr (ja_cons (j_b (bd_addT (Nat.le_of_ble_eq_true rfl)) (j_slT (j_v 0) o_none (o_some j_int)) (j_tup (ja_cons j_str ja_nil))) ja_nil) ⟨⟨xc, xt, "read"⟩, ⟨h1, .inl rfl⟩, rfl, rfl⟩))))) rfl
  · cases xq with
    | none => exact t_is (PW.pt (w_and (q := false) (t_c cd_notN (j_ixT (d := .non) (j_v 0) j_int rfl) j_non) nofun)) rfl
    | some q => exact t_is (PW.pt (w_and (t_c cd_notN (j_ixT (d := .int q) (j_v 0) j_int rfl) j_non) fun _ => w_and1 (t_not (t_v (j_call G_is_number hr (ja_cons j_int (ja_cons (j_ixT (d := .int q) (j_v 0) j_int rfl) ja_nil)) ⟨1, q, rfl, rfl⟩))))) (by rw [decide_eq_true (h2 q rfl)]; rfl)
  · refine j_all1 (ls := [xh, xk, xg]) (c := ofO) 1 hN T.b_all (i_tup (j_slT (j_v (d := smD ruleD ⟨xc, xt, xq, xh, xk, xg⟩) 0) (o_some j_int) o_none)) fun o ho _ _ _ _ _ => j_call G_is_name_or_none hr (ja_cons (j_v 1) ja_nil) ⟨o, ?_, rfl, rfl⟩
    simp only [List.mem_cons, List.not_mem_nil, or_false] at ho
    rcases ho with rfl | rfl | rfl <;> assumption
end
end K51
end
section
set_option Elab.async false
set_option linter.all false
set_option maxRecDepth 100000
set_option maxHeartbeats 4000000
/-! The walk: forms, tables, chains, what must not be. -/
namespace K51
open PySem PySem.Spec PyProof.Rows L2
section
variable {P : Program} {w : World} {K : PySem.W.Frag} {mg : Str → Option Value} {base : Heap}
def R_are_groups (ds : List D) (r : D) : Prop := ∃ l : Tb Gr, (∀ x ∈ l, okN x.1 ∧ okG0 x.2) ∧ ds = [.dct (dT (grD ruleD) l)] ∧ r = .bl true
theorem ok_are_groups (T : Facts K mg) : OkG P w K mg base 5 "are_groups" ["thing"] (spD K R_are_groups) := by
  have G_is_name := ok_is_name (P := P) (w := w) (base := base) T
  have G_is_group := ok_is_group (P := P) (w := w) (base := base) T
  obtain ⟨fd, F⟩ := T.f_are_groups
  have hN : (["thing", "name"] : List Str).Nodup := by decide +kernel
  refine ⟨_, T.gare_groups, fn_D F (N := ["thing", "name"]) ⟨rfl, rfl, rfl, hN, rfl, by decide +kernel, by decide +kernel⟩ (fun ds d h => by obtain ⟨l, h, rfl, rfl⟩ := h; rfl) (fun _ _ _ _ _ _ us hl => match us, hl with | [_], _ => rfl) ?_⟩
  rintro ds r ⟨l, h, rfl, rfl⟩ cdv A outer s H E hr
  refine .inl (s_one (s_ret (j_and (p := true) (q := true) (j_isi (j_v 0) rfl kit_dct boot_dict T.b_isinstance T.b_dict) fun _ => j_one (j_all1 1 hN T.b_all (i_keysT (j_v 0)) fun k hk _ _ _ _ _ => ?_))))
  obtain ⟨x, hx⟩ := gt_in hk
  have h1 := h _ (gt_mem hx)
  exact j_and (p := true) (q := true) (j_call G_is_name hr (ja_cons (j_v 1) ja_nil) ⟨k, h1.1, rfl, rfl⟩) fun _ => j_one (j_call G_is_group hr (ja_cons (j_at hr hx (j_v 0) (j_v 1)) ja_nil) ⟨x, h1.2, rfl, rfl⟩)
def R_are_streams (ds : List D) (r : D) : Prop := ∃ l : Tb Sm, (∀ x ∈ l, okN x.1 ∧ okS0 x.2) ∧ 1 ≤ l.length ∧ l.length ≤ 6 ∧ ds = [.dct (dT (smD ruleD) l)] ∧ r = .bl true
theorem ok_are_streams (T : Facts K mg) : OkG P w K mg base 5 "are_streams" ["thing"] (spD K R_are_streams) := by
  have G_is_name := ok_is_name (P := P) (w := w) (base := base) T
  have G_is_stream := ok_is_stream (P := P) (w := w) (base := base) T
  obtain ⟨fd, F⟩ := T.f_are_streams
  have hN : (["thing", "name"] : List Str).Nodup := by decide +kernel
  refine ⟨_, T.gare_streams, fn_D F (N := ["thing", "name"]) ⟨rfl, rfl, rfl, hN, rfl, by decide +kernel, by decide +kernel⟩ (fun ds d h => by obtain ⟨l, h, hl1, hl2, rfl, rfl⟩ := h; rfl) (fun _ _ _ _ _ _ us hl => match us, hl with | [_], _ => rfl) ?_⟩
  rintro ds r ⟨l, h, hl1, hl2, rfl, rfl⟩ cdv A outer s H E hr
  refine .inl (s_no (t_is (PW.pt (w_or (t_not (t_v (j_isi (j_v 0) rfl kit_dct boot_dict T.b_isinstance T.b_dict))) fun _ => w_or1 (t_not (t_chain cd_le (fun _ => cd_le) j_int (j_f bf_lenT' T.b_len (ja_cons (j_v 0) ja_nil)) (j_gint T.v_MOST_STREAMS))))) ?_) (s_one (s_ret (j_all1 1 hN T.b_all (i_keysT (j_v 0)) fun k hk _ _ _ _ _ => ?_))))
  · rw [decide_eq_true (show (1 : Int) ≤ l.length by omega), decide_eq_true (show (l.length : Int) ≤ 6 by omega)]; rfl
  obtain ⟨x, hx⟩ := gt_in hk
  have h1 := h _ (gt_mem hx)
  exact j_and (p := true) (q := true) (j_call G_is_name hr (ja_cons (j_v 1) ja_nil) ⟨k, h1.1, rfl, rfl⟩) fun _ => j_one (j_call G_is_stream hr (ja_cons (j_at hr hx (j_v 0) (j_v 1)) ja_nil) ⟨x, h1.2, rfl, rfl⟩)
def R_need_form (ds : List D) (r : D) : Prop := ∃ (p : Pl) (ho ki : Tb Gr) (st : Tb Sm), okP0 p ∧ (∀ x ∈ ho, okN x.1 ∧ okG0 x.2) ∧ (∀ x ∈ ki, okN x.1 ∧ okG0 x.2) ∧ ho.length + ki.length ≤ 6 ∧ (∀ x ∈ st, okN x.1 ∧ okS0 x.2) ∧ 1 ≤ st.length ∧ st.length ≤ 6 ∧
  ds = [plD ruleD p, .dct (dT (grD ruleD) ho), .dct (dT (grD ruleD) ki), .dct (dT (smD ruleD) st)] ∧ r = .non
theorem ok_need_form (T : Facts K mg) : OkG P w K mg base 6 "need_form" ["pipe", "houses", "kinds", "streams"] (spD K R_need_form) := by
  have G_is_pool := ok_is_pool (P := P) (w := w) (base := base) T
  have G_are_groups := ok_are_groups (P := P) (w := w) (base := base) T
  have G_are_streams := ok_are_streams (P := P) (w := w) (base := base) T
  obtain ⟨fd, F⟩ := T.f_need_form
  have hN : (["pipe", "houses", "kinds", "streams"] : List Str).Nodup := by decide +kernel
  refine ⟨_, T.gneed_form, fn_D F (N := ["pipe", "houses", "kinds", "streams"]) ⟨rfl, rfl, rfl, hN, rfl, by decide +kernel, by decide +kernel⟩ (fun ds d h => by obtain ⟨p, ho, ki, st, h1, h2, h3, h4, h5, h6, h7, rfl, rfl⟩ := h; rfl) (fun _ _ _ _ _ _ us hl => match us, hl with | [_, _, _, _], _ => rfl) ?_⟩
  rintro ds r ⟨p, ho, ki, st, h1, h2, h3, h4, h5, h6, h7, rfl, rfl⟩ cdv A outer s H E hr
  refine .inr ⟨rfl, _, s_no ?_ (s_no ?_ (s_no ?_ (s_no ?_ s_nil)))⟩
  · exact t_is (t_not (t_v (j_call G_is_pool hr (ja_cons (j_v 0) ja_nil) ⟨p, h1, rfl, rfl⟩))) rfl
  · exact t_is (t_not (t_v (j_call G_are_groups hr (ja_cons (j_v 1) ja_nil) ⟨ho, h2, rfl, rfl⟩))) rfl
  · exact t_is (PW.pt (w_or (t_not (t_v (j_call G_are_groups hr (ja_cons (j_v 2) ja_nil) ⟨ki, h3, rfl, rfl⟩))) fun _ => w_or1 (t_c cd_gt (j_b bd_addI (j_f bf_lenT' T.b_len (ja_cons (j_v 1) ja_nil)) (j_f bf_lenT' T.b_len (ja_cons (j_v 2) ja_nil))) (j_gint T.v_MOST_GROUPS)))) (by rw [decide_eq_false (show ¬ (6 : Int) < ho.length + ki.length by omega)]; rfl)
  · exact t_is (t_not (t_v (j_call G_are_streams hr (ja_cons (j_v 3) ja_nil) ⟨st, h5, h6, h7, rfl, rfl⟩))) rfl
def R_asc (ds : List D) (r : D) : Prop := ∃ t : Tb D, (keys t).Nodup ∧ t.length < 64 ∧ ds = [.dct t] ∧ r = .dct (asc t)
instance : Inhabited D := ⟨.non⟩
theorem ok_ascending (T : Facts K mg) : OkG P w K mg base 1 "ascending" ["dictionary"] (spD K R_asc) := by
  obtain ⟨fd, F⟩ := T.f_ascending
  have hN : (["dictionary", "name"] : List Str).Nodup := by decide +kernel
  refine ⟨_, T.gascending, fn_D F (N := ["dictionary", "name"]) ⟨rfl, rfl, rfl, hN, rfl, by decide +kernel, by decide +kernel⟩ (fun ds d h => by obtain ⟨t, nd, hl, rfl, rfl⟩ := h; rfl) (fun _ _ _ _ _ _ us hl => match us, hl with | [_], _ => rfl) ?_⟩
  rintro ds r ⟨t, nd, hl, rfl, rfl⟩ cdv A outer s H E hr
  rw [asc_tab nd]
  refine .inl (s_one (s_ret (j_fz (fr_dc (ls := srt (keys t)) (c := D.str) (kf := fun k => k) 1 hN (i_list (j_f (bf_sortD rfl hl) T.b_sorted (ja_cons (j_v 0) ja_nil))) ?_ (fun k hk _ _ _ _ _ => j_v 1) fun k hk _ _ _ _ _ => j_ixD hr (j_v 0) (j_v 1) ?_))))
  · rw [List.map_id']; exact (srt_perm _).nodup_iff.mpr nd
  · obtain ⟨v, hv⟩ := gt_in (srt_mem.mp hk)
    show gt t k = _
    rw [hv]
    rfl
/-! chains -/
theorem wr_split : ∀ {r : Tb Gr} {x : Str}, WR r → x ∈ keys r → ∃ g r', gt r x = some g ∧ chn r (some x) = x :: chn r' g.a ∧ WR r' ∧ (∀ y, g.a = some y → y ∈ keys r') ∧ x ∉ keys r' ∧ r'.length < r.length ∧ (∀ y ∈ keys r', y ∈ keys r) ∧ (∀ y ∈ keys r', gt r y = gt r' y)
  | [], _, _, h => by cases h
  | (z, g) :: r, x, ⟨h1, h2, h3⟩, h => by
    by_cases e : z = x
    · subst e
      exact ⟨g, r, by rw [gt_cons, if_pos rfl], by rw [chn, if_pos rfl], h3, h2, h1, by simp, fun y hy => List.mem_cons_of_mem _ hy, fun y hy => by rw [gt_cons, if_neg fun q : z = y => h1 (q ▸ hy)]⟩
    · have hx : x ∈ keys r := (List.mem_cons.mp h).elim (fun q => absurd q.symm e) id
      obtain ⟨g', r', a1, a2, a3, a4, a5, a6, a7, a8⟩ := wr_split h3 hx
      exact ⟨g', r', by rw [gt_cons, if_neg e]; exact a1, by rw [chn, if_neg fun q => e (Option.some.inj q).symm]; exact a2, a3, a4, a5, by simp; omega, fun y hy => List.mem_cons_of_mem _ (a7 y hy), fun y hy => by rw [gt_cons, if_neg fun q : z = y => h1 (q ▸ a7 y hy)]; exact a8 y hy⟩
theorem chn_len : ∀ (r : Tb Gr) (o : Option Str), (chn r o).length ≤ r.length
  | [], _ => Nat.le_refl _
  | (z, g) :: r, o => by
    unfold chn
    split
    · exact Nat.succ_le_succ (chn_len r _)
    · exact Nat.le_succ_of_le (chn_len r _)
/-- a turn of the walk around: what was found, the groups left, the name -/
abbrev ChS := List Str × Tb Gr × Option Str
def R_chain (gd : Tr → D) (ds : List D) (d : D) : Prop := ∃ (t r : Tb Gr) (o : Option Str), WR r ∧ (∀ x ∈ keys r, gt t x = gt r x) ∧ (∀ y, o = some y → y ∈ keys r) ∧ r.length ≤ 50 ∧ ds = [.dct (dT (grD gd) t), ofO o] ∧ d = .lst ((chn r o).map D.str)
def ChIv (t r : Tb Gr) (o : Option Str) (s : ChS) : Prop := WR s.2.1 ∧ (∀ x ∈ keys s.2.1, gt t x = gt s.2.1 x) ∧ (∀ y, s.2.2 = some y → y ∈ keys s.2.1) ∧ s.1 ++ chn s.2.1 s.2.2 = chn r o ∧ (∀ x ∈ s.1, x ∉ keys s.2.1) ∧ s.1.length + s.2.1.length ≤ 50
theorem chn_next {t r : Tb Gr} {o : Option Str} {f : List Str} {r1 : Tb Gr} {x : Str} (iv : ChIv t r o (f, r1, some x)) : ∃ g r', gt t x = some g ∧ x ∉ f ∧ f.length + 1 ≤ 50 ∧ ChIv t r o (f ++ [x], r', g.a) ∧ r'.length < r1.length := by
  obtain ⟨i1, i2, i3, i4, i5, i6⟩ := iv
  have hx := i3 x rfl
  obtain ⟨g, r', a1, a2, a3, a4, a5, a6, a7, a8⟩ := wr_split i1 hx
  simp only at i1 i2 i4 i5 i6 a6
  refine ⟨g, r', (i2 x hx).trans a1, fun q => i5 x q hx, by omega, ⟨a3, fun y hy => (i2 y (a7 y hy)).trans (a8 y hy), a4, ?_, fun y hy => ?_, ?_⟩, a6⟩
  · rw [← i4, a2]; simp
  · rcases List.mem_append.mp hy with q | q
    · exact fun z => i5 y q (a7 y z)
    · rw [List.mem_singleton.mp q]; exact a5
  · simp only [List.length_append, List.length_singleton]; omega
theorem ok_chain (T : Facts K mg) : OkG P w K mg base 1 "chain" ["groups", "name"] (spD K (R_chain ruleD)) := by
  obtain ⟨fd, F⟩ := T.f_chain
  have hN : (["groups", "name", "found"] : List Str).Nodup := by decide +kernel
  refine ⟨_, T.gchain, fn_W F (N := ["groups", "name", "found"]) ⟨rfl, rfl, rfl, hN, rfl, by decide +kernel, by decide +kernel⟩ (fun ds d h => by obtain ⟨t, r, o, h1, h2, h3, h4, rfl, rfl⟩ := h; rfl) (fun _ _ _ _ _ _ us hl => match us, hl with | [_, _], _ => rfl) ?_⟩
  rintro ds r ⟨t, r, o, h1, h2, h3, h4, rfl, rfl⟩ cdv A outer s H E hr
  refine c_new 2 hN n_nil fun q d hd => ?_
  subst hd
  refine c_cons (w_while (S := ChS) (ρf := fun s => [some (.dct (dT (grD ruleD) t)), some (ofO s.2.2), some (.own q)]) (Mf := fun s => [(q, .lst (s.1.map D.str))]) (cf := fun s => s.2.2.isSome) (μ := fun s => s.2.1.length) (Iv := ChIv t r o) hp_nox ([], r, o) (leE_rf _) rfl ⟨h1, h2, h3, rfl, (fun _ h => nomatch h), (by simpa using h4)⟩ ?_ ?_) (fun ρ1 M1 hx => ?_) (fun o n hx => by obtain ⟨_, _, _, e⟩ := hx; exact absurd e (n _ _))
  · rintro ⟨f, r1, nm⟩ iv
    cases nm with
    | none => exact te_of (t_is (PW.pt (w_and (p := false) (q := false) (t_is (t_c cd_notN (j_v 1) j_non) rfl) nofun)) rfl)
    | some x =>
      obtain ⟨g, r', _, hf, _⟩ := chn_next iv
      refine te_borL (i := 2) (j := 0) (t_is (PW.pt (w_and (t_c cd_notN (j_v (d := .str x) 1) j_non) fun _ => w_and1 (t_c cd_nin (j_v (d := .str x) 1) (j_v 2)))) ?_)
      rw [decide_eq_false hf]; rfl
  · rintro ⟨f, r1, nm⟩ iv hcf
    cases nm with
    | none => cases hcf
    | some x =>
      obtain ⟨g, r', hg, hf, hl, iv2, hlt⟩ := chn_next iv
      refine c_cons (w_app 2 0 (j_v 2) rfl (e_of (j_v (d := .str x) 1)) (by rw [List.length_map]; exact Nat.le_trans hl (by decide))) (fun ρ1 M1 hx => ?_) (fun o n hx => by obtain ⟨_, _, e⟩ := hx; exact absurd e (n _ _))
      obtain ⟨_, ⟨w, rfl, rfl⟩, e⟩ := hx
      cases e
      refine c_one (c_imS (w_p (s_set 1 hN (j_ixT (d := ofO g.a) (j_is (j_at hr hg (j_v 0) (j_v (d := .str x) 1)) rfl) j_int rfl))) fun o ho => ⟨_, (f ++ [x], r', g.a), ?_, leE_rf _, iv2, hlt⟩)
      rw [ho, List.map_append]
      rfl
  · obtain ⟨⟨f, r1, nm⟩, iv, hcf, e⟩ := hx
    cases e
    cases nm with
    | some x => cases hcf
    | none =>
      refine c_relL 2 0 (c_one (c_imS (w_pr (s_ret (j_v 2))) fun o ho => .inl ?_))
      rw [ho, ← iv.2.2.2.1, chn_none, List.append_nil]
end
end K51
end
section
set_option Elab.async false
set_option linter.all false
set_option maxRecDepth 100000
set_option maxHeartbeats 4000000
/-! The walk: what must not be; the plan's methods. -/
namespace K51
open PySem PySem.Spec PyProof.Rows L2
section
variable {P : Program} {w : World} {K : PySem.W.Frag} {mg : Str → Option Value} {base : Heap}
theorem countP_nodup {l : List Str} {s : Str} (nd : l.Nodup) : l.countP (fun n => n == s) ≤ 1 := by
  have := (List.nodup_iff_count (l := l)).mp nd s
  exact this
def R_twice (ds : List D) (r : D) : Prop := ∃ a b c : Tb D, (keys a ++ keys b ++ keys c ++ [("pipe" : Str)]).Nodup ∧ a.length ≤ 50 ∧ b.length ≤ 50 ∧ c.length ≤ 50 ∧ ds = [.dct a, .dct b, .dct c] ∧ r = .lst []
theorem ok_twice (T : Facts K mg) : OkG P w K mg base 1 "twice" ["houses", "kinds", "streams"] (spD K R_twice) := by
  obtain ⟨fd, F⟩ := T.f_twice
  have hN : (["houses", "kinds", "streams", "every", "name"] : List Str).Nodup := by decide +kernel
  refine ⟨_, T.gtwice, fn_D F (N := ["houses", "kinds", "streams", "every", "name"]) ⟨rfl, rfl, rfl, hN, rfl, by decide +kernel, by decide +kernel⟩ (fun ds d h => by obtain ⟨a, b, c, nd, h1, h2, h3, rfl, rfl⟩ := h; rfl) (fun _ _ _ _ _ _ us hl => match us, hl with | [_, _, _], _ => rfl) ?_⟩
  rintro ds r ⟨a, b, c, nd, h1, h2, h3, rfl, rfl⟩ cdv A outer s H E hr
  refine .inl (s_cons (s_set 3 hN (j_b (bd_addLS (m := ["pipe"]) ?_) (j_b (bd_addLS ?_) (j_b (bd_addLS ?_) (j_f (bf_listD rfl) T.b_list (ja_cons (j_v 0) ja_nil)) (j_f (bf_listD rfl) T.b_list (ja_cons (j_v 1) ja_nil))) (j_f (bf_listD rfl) T.b_list (ja_cons (j_v 2) ja_nil))) (j_lst (ja_cons (j_gstr T.v_PIPE) ja_nil)))) (s_one (s_ret (j_lc0 4 hN (i_list (j_v 3)) fun x hx _ _ _ _ _ => tt_one (t_is (t_c cd_gt (j_count (j_v 3) (j_v 4)) j_int) ?_)))))
  · simp only [List.length_append, List.length_map, List.length_singleton]; show _ ≤ 100000; omega
  · simp only [List.length_append, List.length_map]; show _ ≤ 100000; omega
  · simp only [List.length_map]; show _ ≤ 100000; omega
  · have := countP_nodup (s := x) nd
    refine decide_eq_false fun z => ?_
    have z2 : 1 < (keys a ++ keys b ++ keys c ++ [("pipe" : Str)]).countP (fun n => n == x) := Int.ofNat_lt.mp z
    omega
def NonL (l : List D) : Prop := ∃ n : Nat, l = (List.range n).map fun _ => D.non
theorem nonL_app {l m : List D} (h : NonL l) (h2 : NonL m) : NonL (l ++ m) := by
  obtain ⟨a, rfl⟩ := h
  obtain ⟨b, rfl⟩ := h2
  refine ⟨a + b, ?_⟩
  simp only [List.map_const', List.length_range, List.replicate_append_replicate]
theorem nonL_of {l : List D} (h : ∀ d ∈ l, d = .non) : NonL l := ⟨l.length, by
  rw [List.map_const', List.length_range]
  exact List.eq_replicate_iff.mpr ⟨rfl, h⟩⟩
def isNoneO : Option Str → Bool
  | none => true
  | some _ => false
def R_unknown (ds : List D) (r : D) : Prop := ∃ (ho ki : Tb Gr) (st : Tb Sm), (∀ x ∈ ho, ∀ y, x.2.a = some y → y ∈ keys ho) ∧ (∀ x ∈ ki, ∀ y, x.2.a = some y → y ∈ keys ki) ∧ (∀ x ∈ st, (∀ y, x.2.h = some y → y ∈ keys ho) ∧ (∀ y, x.2.k = some y → y ∈ keys ki) ∧ ∀ y, x.2.g = some y → y ∈ keys st) ∧
  ho.length ≤ 50 ∧ ki.length ≤ 50 ∧ st.length ≤ 50 ∧ ds = [.dct (dT (grD ruleD) ho), .dct (dT (grD ruleD) ki), .dct (dT (smD ruleD) st)] ∧ r = .lst []
theorem ok_unknown (T : Facts K mg) : OkG P w K mg base 1 "unknown" ["houses", "kinds", "streams"] (spD K R_unknown) := by
  obtain ⟨fd, F⟩ := T.f_unknown
  have hN : (["houses", "kinds", "streams", "found", "groups", "told", "name", "known"] : List Str).Nodup := by decide +kernel
  refine ⟨_, T.gunknown, fn_W F (N := ["houses", "kinds", "streams", "found", "groups", "told", "name", "known"]) ⟨rfl, rfl, rfl, hN, rfl, by decide +kernel, by decide +kernel⟩ (fun ds d h => by obtain ⟨ho, ki, st, h1, h2, h3, l1, l2, l3, rfl, rfl⟩ := h; rfl) (fun _ _ _ _ _ _ us hl => match us, hl with | [_, _, _], _ => rfl) ?_⟩
  rintro ds r ⟨ho, ki, st, h1, h2, h3, l1, l2, l3, rfl, rfl⟩ cdv A outer s H E hr
  refine c_new 3 hN n_nil fun q d hd => ?_
  subst hd
  refine c_cons (w_for1 (ls := [ho, ki]) (c := fun t => .dct (dT (grD ruleD) t)) 4 (fun j ρ1 M1 => ∃ l x, NonL l ∧ l.length ≤ 50 * j ∧ j ≤ 2 ∧ ρ1 = [some (.dct (dT (grD ruleD) ho)), some (.dct (dT (grD ruleD) ki)), some (.dct (dT (smD ruleD) st)), some (.own q), x, none, none, none] ∧ M1 = [(q, .lst l)]) hN hp_nox (i_tup (j_tup (ja_cons (j_v 0) (ja_cons (j_v 1) ja_nil)))) ⟨_, leE_rf _, [], none, ⟨0, rfl⟩, Nat.zero_le _, Nat.zero_le _, rfl, rfl⟩ ?_) (fun ρ1 M1 hx => ?_) (fun o n hx => by obtain ⟨_, _, _, e⟩ := hx; exact absurd e (n _ _))
  · rintro j t ht ρ1 M1 ⟨l, x, hl, hz, hj, rfl, rfl⟩
    have hj2 : j < 2 := by have := (List.getElem?_eq_some_iff.mp ht).1; simpa using this
    have tm : t ∈ [ho, ki] := List.mem_of_getElem? ht
    have tt : (∀ x ∈ t, ∀ y, x.2.a = some y → y ∈ keys t) ∧ t.length ≤ 50 := by
      simp only [List.mem_cons, List.not_mem_nil, or_false] at tm
      rcases tm with rfl | rfl
      · exact ⟨h1, l1⟩
      · exact ⟨h2, l2⟩
    have fl : ((((keys t).filter fun k => match gt t k with | some g => isNoneO g.a | none => false).map fun _ => D.non)).length ≤ 50 := by
      rw [List.length_map]
      exact Nat.le_trans (List.length_filter_le _ _) (by rw [List.length_map]; exact tt.2)
    refine c_one (c_imS (w_ext 3 0 (m := (((keys t).filter fun k => match gt t k with | some g => isNoneO g.a | none => false).map fun _ => D.non)) (j_v 3) rfl (j_lc (c := D.str) 6 hN (i_keysT (j_v 4)) (fun k hk _ _ _ _ _ => tt_one ?_) fun k hk hp _ _ _ _ _ => ?_) ?_) fun o ho => ⟨_, _, _, ho, leE_rf _, _, _, nonL_app hl (nonL_of fun d hd => by obtain ⟨_, _, rfl⟩ := List.mem_map.mp hd; rfl), ?_, by omega, rfl, rfl⟩)
    · obtain ⟨g, hg⟩ := gt_in hk
      rw [hg]
      refine t_is (t_c (cd_ninO hr) (j_ixT (d := ofO g.a) (j_is (j_at hr hg (j_v 4) (j_v 6)) rfl) j_int rfl) (j_v 4)) ?_
      show _ = isNoneO g.a
      cases ha : g.a with
      | none => rfl
      | some y =>
        show (!decide (y ∈ keys t)) = false
        rw [decide_eq_true (tt.1 _ (gt_mem hg) y ha)]; rfl
    · obtain ⟨g, hg⟩ := gt_in hk
      rw [hg] at hp
      have ha : g.a = none := by cases q : g.a with | none => rfl | some y => simp only [q] at hp; cases hp
      exact j_ixT (d := .non) (j_is (j_at hr hg (j_v 4) (j_v 6)) rfl) j_int (by rw [ha]; rfl)
    · show _ ≤ 100000; omega
    · rw [List.length_append]; omega
  obtain ⟨ρ', M', ⟨l, x, hl, hz, _, rfl, rfl⟩, e⟩ := hx
  cases e
  refine c_cons (w_for1 (ls := st) (c := fun p => smD ruleD p.2) 5 (fun j ρ1 M1 => ∃ l x', NonL l ∧ l.length ≤ 100 + 3 * j ∧ j ≤ 50 ∧ ρ1 = [some (.dct (dT (grD ruleD) ho)), some (.dct (dT (grD ruleD) ki)), some (.dct (dT (smD ruleD) st)), some (.own q), x, x', none, none] ∧ M1 = [(q, .lst l)]) hN hp_nox (i_valsT (j_v 2)) ⟨_, leE_rf _, l, none, hl, hz, Nat.zero_le _, rfl, rfl⟩ ?_) (fun ρ1 M1 hx => ?_) (fun o n hx => by obtain ⟨_, _, _, e⟩ := hx; exact absurd e (n _ _))
  · rintro j ⟨nm, m⟩ hm ρ1 M1 ⟨l, x', hl, hz, hj, rfl, rfl⟩
    have hj2 : j < st.length := (List.getElem?_eq_some_iff.mp hm).1
    obtain ⟨t1, t2, t3⟩ := h3 _ (List.mem_of_getElem? hm)
    simp only at t1 t2 t3
    let ls : List (Option Str × D × Bool) := [(m.h, .dct (dT (grD ruleD) ho), isNoneO m.h), (m.k, .dct (dT (grD ruleD) ki), isNoneO m.k), (m.g, .dct (dT (smD ruleD) st), isNoneO m.g)]
    refine c_one (c_imS (w_ext 3 0 (m := (ls.filter fun q => q.2.2).map fun _ => D.non) (j_v 3) rfl (j_lc2 (ls := ls) (c1 := fun q => ofO q.1) (c2 := fun q => q.2.1) 6 7 hN (i_zipT (l := [ofO m.h, ofO m.k, ofO m.g]) (l2 := [_, _, _]) (j_slT (j_v (d := smD ruleD m) 5) (o_some j_int) o_none) (j_tup (ja_cons (j_v 0) (ja_cons (j_v 1) (ja_cons (j_v 2) ja_nil)))) rfl T.b_zip) (fun a ha _ _ _ _ _ => tt_one ?_) fun a ha hp _ _ _ _ _ => ?_) ?_) fun o ho => ⟨_, _, _, ho, leE_rf _, _, _, nonL_app hl (nonL_of fun d hd => by obtain ⟨_, _, rfl⟩ := List.mem_map.mp hd; rfl), ?_, by omega, rfl, rfl⟩)
    · simp only [ls, List.mem_cons, List.not_mem_nil, or_false] at ha
      rcases ha with rfl | rfl | rfl
      · refine t_is (t_c (cd_ninO hr) (j_v (d := ofO m.h) 6) (j_v 7)) ?_
        cases q : m.h with
        | none => rfl
        | some y => show (!decide (y ∈ keys ho)) = false; rw [decide_eq_true (t1 y q)]; rfl
      · refine t_is (t_c (cd_ninO hr) (j_v (d := ofO m.k) 6) (j_v 7)) ?_
        cases q : m.k with
        | none => rfl
        | some y => show (!decide (y ∈ keys ki)) = false; rw [decide_eq_true (t2 y q)]; rfl
      · refine t_is (t_c (cd_ninO hr) (j_v (d := ofO m.g) 6) (j_v 7)) ?_
        cases q : m.g with
        | none => rfl
        | some y => show (!decide (y ∈ keys st)) = false; rw [decide_eq_true (t3 y q)]; rfl
    · refine j_is (j_v (d := ofO a.1) 6) ?_
      simp only [ls, List.mem_cons, List.not_mem_nil, or_false] at ha
      rcases ha with rfl | rfl | rfl
      · cases q : m.h with | none => rfl | some y => simp only [q] at hp; cases hp
      · cases q : m.k with | none => rfl | some y => simp only [q] at hp; cases hp
      · cases q : m.g with | none => rfl | some y => simp only [q] at hp; cases hp
    · have h4 : ((ls.filter fun q => q.2.2).map fun _ => D.non).length ≤ 3 := by rw [List.length_map]; exact List.length_filter_le _ _
      show _ ≤ 100000; omega
    · have h4 : ((ls.filter fun q => q.2.2).map fun _ => D.non).length ≤ 3 := by rw [List.length_map]; exact List.length_filter_le _ _
      rw [List.length_append]; omega
  obtain ⟨ρ', M', ⟨l, x', ⟨n, rfl⟩, hz, _, rfl, rfl⟩, e⟩ := hx
  cases e
  exact c_relL 3 0 (c_one (c_imS (w_pr (s_ret (j_lc0 6 hN (i_list (j_v 3)) fun a ha _ _ _ _ _ => tt_one (t_is (t_c cd_notN (j_v (d := .non) 6) j_non) rfl)))) fun o ho => .inl ho))
end
end K51
end
section
set_option Elab.async false
set_option linter.all false
set_option maxRecDepth 100000
set_option maxHeartbeats 4000000
/-! The walk: rings, guides, the plan's methods. -/
namespace K51
open PySem PySem.Spec PyProof.Rows L2
theorem wr_a : ∀ {r : Tb Gr} {x y : Str} {g : Gr}, WR r → gt r x = some g → g.a = some y → y ∈ keys r
  | [], _, _, _, _, h, _ => by cases h
  | (z, gz) :: r, x, y, g, ⟨h1, h2, h3⟩, h, ha => by
    rw [gt_cons] at h
    split at h
    · cases h; exact List.mem_cons_of_mem _ (h2 y ha)
    · exact List.mem_cons_of_mem _ (wr_a h3 h ha)
theorem ring_no : ∀ {r : Tb Gr} {x : Str} {g : Gr}, WR r → gt r x = some g → x ∉ chn r g.a
  | [], _, _, _, h => by cases h
  | (z, gz) :: r, x, g, ⟨h1, h2, h3⟩, h => by
    rw [gt_cons] at h
    have nz : ¬ g.a = some z := fun q => by
      split at h
      · cases h; exact h1 (h2 z q)
      · exact h1 (wr_a h3 h q)
    rw [chn, if_neg nz]
    split at h
    · next e => subst e; exact fun q => h1 (chn_sub r _ _ q)
    · exact ring_no h3 h
section
variable {P : Program} {w : World} {K : PySem.W.Frag} {mg : Str → Option Value} {base : Heap}
def R_rings (ds : List D) (d : D) : Prop := ∃ (t r : Tb Gr), WR r ∧ (∀ x ∈ keys r, gt t x = gt r x) ∧ (∀ x ∈ keys t, x ∈ keys r) ∧ r.length ≤ 50 ∧ ds = [.dct (dT (grD ruleD) t)] ∧ d = .lst []
theorem ok_rings (T : Facts K mg) : OkG P w K mg base 2 "rings" ["groups"] (spD K R_rings) := by
  have G_chain := ok_chain (P := P) (w := w) (base := base) T
  obtain ⟨fd, F⟩ := T.f_rings
  have hN : (["groups", "name"] : List Str).Nodup := by decide +kernel
  refine ⟨_, T.grings, fn_D F (N := ["groups", "name"]) ⟨rfl, rfl, rfl, hN, rfl, by decide +kernel, by decide +kernel⟩ (fun ds d h => by obtain ⟨t, r, h1, h2, h3, h4, rfl, rfl⟩ := h; rfl) (fun _ _ _ _ _ _ us hl => match us, hl with | [_], _ => rfl) ?_⟩
  rintro ds r ⟨t, r, h1, h2, h3, h4, rfl, rfl⟩ cdv A0 outer0 s0 H0 E0 hr
  refine .inl (s_one (s_ret (j_lc0 1 hN (i_keysT (j_v 0)) fun x hx _ _ _ _ _ => tt_one ?_)))
  obtain ⟨g, hg⟩ := gt_in hx
  have hg2 : gt r x = some g := (h2 x (h3 x hx)).symm.trans hg
  cases ha : g.a with
  | none => exact t_is (PW.pt (w_and (p := false) (q := false) (t_is (t_c cd_notN (j_ixT (d := .non) (j_is (j_at hr hg (j_v 0) (j_v 1)) rfl) j_int (by rw [ha]; rfl)) j_non) rfl) nofun)) rfl
  | some y =>
    refine t_is (PW.pt (w_and (t_c cd_notN (j_ixT (d := .str y) (j_is (j_at hr hg (j_v 0) (j_v 1)) rfl) j_int (by rw [ha]; rfl)) j_non) fun _ => w_and1 (t_c cd_in (j_v 1) (j_call G_chain hr (ja_cons (j_v 0) (ja_cons (j_ixT (d := .str y) (j_is (j_at hr hg (j_v 0) (j_v 1)) rfl) j_int (by rw [ha]; rfl)) ja_nil)) ⟨t, r, some y, h1, h2, fun z hz => wr_a h1 hg2 (ha.trans hz), h4, rfl, rfl⟩)))) ?_
    have := ring_no h1 hg2
    rw [ha] at this
    rw [decide_eq_false this]
    rfl
theorem okN_ok {x : Str} (h : okN x) : PyData.strOk x = true := by
  obtain ⟨_, _, h⟩ := h
  unfold PyData.strOk
  rw [← Array.all_toList, List.all_eq_true]
  intro c hc
  have := h c hc
  exact decide_eq_true (by omega)
theorem okO_of {o : Option Str} (h : okO1 o) : okO o := by
  cases o with
  | none => trivial
  | some x => exact okN_ok (h x rfl)
def R_bad_guides (ds : List D) (d : D) : Prop := ∃ st : Tb Sm, (∀ x ∈ st, okO1 x.2.h ∧ okO1 x.2.k ∧ ∀ y, x.2.g = some y → ∃ m, gt st y = some m ∧ m.g = none ∧ m.h = x.2.h ∧ m.k = x.2.k) ∧ ds = [.dct (dT (smD ruleD) st)] ∧ d = .lst []
theorem ok_bad_guides (T : Facts K mg) : OkG P w K mg base 1 "bad_guides" ["streams"] (spD K R_bad_guides) := by
  obtain ⟨fd, F⟩ := T.f_bad_guides
  have hN : (["streams", "found", "name", "told", "guide"] : List Str).Nodup := by decide +kernel
  refine ⟨_, T.gbad_guides, fn_W F (N := ["streams", "found", "name", "told", "guide"]) ⟨rfl, rfl, rfl, hN, rfl, by decide +kernel, by decide +kernel⟩ (fun ds d h => by obtain ⟨st, h, rfl, rfl⟩ := h; rfl) (fun _ _ _ _ _ _ us hl => match us, hl with | [_], _ => rfl) ?_⟩
  rintro ds r ⟨st, h, rfl, rfl⟩ cdv A0 outer0 s0 H0 E0 hr
  refine c_new 1 hN n_nil fun q d hd => ?_
  subst hd
  refine c_cons (w_for2 (ls := st) (c1 := fun p => .str p.1) (c2 := fun p => smD ruleD p.2) 2 3 (fun j ρ1 M1 => ∃ x y z, ρ1 = [some (.dct (dT (smD ruleD) st)), some (.own q), x, y, z] ∧ M1 = [(q, .lst [])]) hN hp_nox (i_itemsT (j_v 0)) ⟨_, leE_rf _, _, _, _, rfl, rfl⟩ ?_) (fun ρ1 M1 hx => ?_) (fun o n hx => by obtain ⟨_, _, _, e⟩ := hx; exact absurd e (n _ _))
  · rintro j ⟨nm, m⟩ hm ρ1 M1 ⟨x, y, z, rfl, rfl⟩
    obtain ⟨t1, t2, t3⟩ := h _ (List.mem_of_getElem? hm)
    simp only at t1 t2 t3
    cases hg : m.g with
    | none => exact c_one (w_if (te_of (t_is (b' := false) (t_c cd_notN (j_ixT (d := .non) (j_v (d := smD ruleD m) 3) j_int (by rw [hg]; rfl)) j_non) rfl)) (fun e => by cases e) fun _ => c_nil ⟨_, _, _, rfl, leE_rf _, _, _, _, rfl, rfl⟩)
    | some y =>
      obtain ⟨m2, hm2, e1, e2, e3⟩ := t3 y hg
      refine c_one (w_if (te_of (t_is (b' := true) (t_c cd_notN (j_ixT (d := .str y) (j_v (d := smD ruleD m) 3) j_int (by rw [hg]; rfl)) j_non) rfl)) (fun _ => c_p (s_set 4 hN (j_at hr hm2 (j_v 0) (j_ixT (d := .str y) (j_v (d := smD ruleD m) 3) j_int (by rw [hg]; rfl)))) (c_one (c_imS (w_ext 1 0 (m := []) (j_v 1) rfl (j_if (p := false) (t_is (PW.pt (w_or (t_c cd_notN (j_ixT (d := .non) (j_v (d := smD ruleD m2) 4) j_int (by rw [e1]; rfl)) j_non) fun _ => w_or1 (t_c (cd_neTO (l := [m2.h, m2.k]) (m := [m.h, m.k]) hr ?_ ?_) (j_slT (j_v (d := smD ruleD m2) 4) (o_some j_int) (o_some j_int)) (j_slT (j_v (d := smD ruleD m) 3) (o_some j_int) (o_some j_int))))) ?_) nofun fun _ => j_lst ja_nil) (by decide)) fun o ho => ⟨_, _, _, ho, leE_rf _, _, _, _, rfl, rfl⟩))) (fun e => by cases e))
      · rw [e2, e3]; intro o ho; simp only [List.mem_cons, List.not_mem_nil, or_false] at ho; rcases ho with rfl | rfl
        · exact okO_of t1
        · exact okO_of t2
      · intro o ho; simp only [List.mem_cons, List.not_mem_nil, or_false] at ho; rcases ho with rfl | rfl
        · exact okO_of t1
        · exact okO_of t2
      · rw [e2, e3, decide_eq_true rfl]; rfl
  · obtain ⟨ρ', M', ⟨x, y, z, rfl, rfl⟩, e⟩ := hx
    cases e
    exact c_relL 1 0 (c_one (c_imS (w_pr (s_ret (j_v 1))) fun o ho => .inl ho))
/-! ### the plan's fields -/
section
variable {X : Cx} {ρ : En} {e : Expr} {pos : Pos} {p : Pa}
theorem f_pipe (T : Facts X.K X.mg) (h : PE X e (tJ X.K ρ (planD p))) (hb : attributeBase e "its_pipe" X.env (eval e X.env) = eval e X.env := by rfl) : PE X (.Attribute e "its_pipe" pos) (tJ X.K ρ (plD ruleD p.pipe)) := j_fld (C := "Plan") h T.c_Plan T.n_Plan_its_pipe rfl hb
theorem f_houses (T : Facts X.K X.mg) (h : PE X e (tJ X.K ρ (planD p))) (hb : attributeBase e "its_houses" X.env (eval e X.env) = eval e X.env := by rfl) : PE X (.Attribute e "its_houses" pos) (tJ X.K ρ (.dct (dT (grD ruleD) (asc p.ho)))) := j_fld (C := "Plan") h T.c_Plan T.n_Plan_its_houses rfl hb
theorem f_kinds (T : Facts X.K X.mg) (h : PE X e (tJ X.K ρ (planD p))) (hb : attributeBase e "its_kinds" X.env (eval e X.env) = eval e X.env := by rfl) : PE X (.Attribute e "its_kinds" pos) (tJ X.K ρ (.dct (dT (grD ruleD) (asc p.ki)))) := j_fld (C := "Plan") h T.c_Plan T.n_Plan_its_kinds rfl hb
theorem f_streams (T : Facts X.K X.mg) (h : PE X e (tJ X.K ρ (planD p))) (hb : attributeBase e "its_streams" X.env (eval e X.env) = eval e X.env := by rfl) : PE X (.Attribute e "its_streams" pos) (tJ X.K ρ (.dct (dT (smD ruleD) (asc p.st)))) := j_fld (C := "Plan") h T.c_Plan T.n_Plan_its_streams rfl hb
end
/-! ### consequences of validity -/
section
variable {p : Pa} (W : WP p)
include W
theorem WP.ns : (keys p.st).Nodup := (List.nodup_append.mp (List.nodup_append.mp W.nd).1).1
theorem WP.nh : (keys p.ho).Nodup := (List.nodup_append.mp (List.nodup_append.mp W.nd).1).2.1
theorem WP.nk : (keys p.ki).Nodup := (List.nodup_append.mp W.nd).2.1
theorem WP.rh : ∀ {x}, x ∈ keys p.ho.reverse ↔ x ∈ keys p.ho := by intro x; simp [keys]
theorem WP.rk : ∀ {x}, x ∈ keys p.ki.reverse ↔ x ∈ keys p.ki := by intro x; simp [keys]
theorem WP.gh {x : Str} : gt (asc p.ho) x = gt p.ho.reverse x := by
  rw [asc_gt W.nh, gt_perm W.nh (List.reverse_perm _).symm]
theorem WP.gk {x : Str} : gt (asc p.ki) x = gt p.ki.reverse x := by
  rw [asc_gt W.nk, gt_perm W.nk (List.reverse_perm _).symm]
theorem WP.gs {x : Str} : gt (asc p.st) x = gt p.st x := asc_gt W.ns
end
theorem asc_mem {α : Type} {l : Tb α} {x : Str} : x ∈ keys (asc l) ↔ x ∈ keys l := ((asc_perm l).map _).mem_iff
def R_streams (ds : List D) (r : D) : Prop := ∃ p, WP p ∧ ds = [planD p] ∧ r = .lst ((srt (keys p.st)).map D.str)
theorem ok_streams (T : Facts K mg) : OkM P w K mg base 1 "Plan" "streams" ["self"] (spD K R_streams) := by
  obtain ⟨fd, F⟩ := T.f_Plan_streams
  have hN : (["self"] : List Str).Nodup := by decide +kernel
  refine ⟨_, T.m_Plan_streams, (fn_D F (N := ["self"]) ⟨rfl, rfl, rfl, hN, rfl, by decide +kernel, by decide +kernel⟩ (fun ds d h => by obtain ⟨p, W, rfl, rfl⟩ := h; rfl) (fun _ _ _ _ _ _ us hl => match us, hl with | [_], _ => rfl) ?_).ex⟩
  rintro ds r ⟨p, W, rfl, rfl⟩ cdv A0 outer0 s0 H0 E0 hr
  exact .inl (s_one (s_ret (j_is (j_f (bf_listT' rfl) T.b_list (ja_cons (f_streams T (j_v 0)) ja_nil)) (by rw [asc_keys]))))
def R_houses (ds : List D) (r : D) : Prop := ∃ p, WP p ∧ ds = [planD p] ∧ r = .lst ((srt (keys p.ho)).map D.str)
theorem ok_houses (T : Facts K mg) : OkM P w K mg base 1 "Plan" "houses" ["self"] (spD K R_houses) := by
  obtain ⟨fd, F⟩ := T.f_Plan_houses
  have hN : (["self"] : List Str).Nodup := by decide +kernel
  refine ⟨_, T.m_Plan_houses, (fn_D F (N := ["self"]) ⟨rfl, rfl, rfl, hN, rfl, by decide +kernel, by decide +kernel⟩ (fun ds d h => by obtain ⟨p, W, rfl, rfl⟩ := h; rfl) (fun _ _ _ _ _ _ us hl => match us, hl with | [_], _ => rfl) ?_).ex⟩
  rintro ds r ⟨p, W, rfl, rfl⟩ cdv A0 outer0 s0 H0 E0 hr
  exact .inl (s_one (s_ret (j_is (j_f (bf_listT' rfl) T.b_list (ja_cons (f_houses T (j_v 0)) ja_nil)) (by rw [asc_keys]))))
def R_kinds (ds : List D) (r : D) : Prop := ∃ p, WP p ∧ ds = [planD p] ∧ r = .lst ((srt (keys p.ki)).map D.str)
theorem ok_kinds (T : Facts K mg) : OkM P w K mg base 1 "Plan" "kinds" ["self"] (spD K R_kinds) := by
  obtain ⟨fd, F⟩ := T.f_Plan_kinds
  have hN : (["self"] : List Str).Nodup := by decide +kernel
  refine ⟨_, T.m_Plan_kinds, (fn_D F (N := ["self"]) ⟨rfl, rfl, rfl, hN, rfl, by decide +kernel, by decide +kernel⟩ (fun ds d h => by obtain ⟨p, W, rfl, rfl⟩ := h; rfl) (fun _ _ _ _ _ _ us hl => match us, hl with | [_], _ => rfl) ?_).ex⟩
  rintro ds r ⟨p, W, rfl, rfl⟩ cdv A0 outer0 s0 H0 E0 hr
  exact .inl (s_one (s_ret (j_is (j_f (bf_listT' rfl) T.b_list (ja_cons (f_kinds T (j_v 0)) ja_nil)) (by rw [asc_keys]))))
def R_shared (ds : List D) (r : D) : Prop := ∃ p, WP p ∧ ds = [planD p] ∧ r = .lst ((shared p).map D.str)
theorem ok_shared (T : Facts K mg) : OkM P w K mg base 2 "Plan" "shared" ["self"] (spD K R_shared) := by
  have G_houses := ok_houses (P := P) (w := w) (base := base) T
  have G_kinds := ok_kinds (P := P) (w := w) (base := base) T
  obtain ⟨fd, F⟩ := T.f_Plan_shared
  have hN : (["self"] : List Str).Nodup := by decide +kernel
  refine ⟨_, T.m_Plan_shared, (fn_D F (N := ["self"]) ⟨rfl, rfl, rfl, hN, rfl, by decide +kernel, by decide +kernel⟩ (fun ds d h => by obtain ⟨p, W, rfl, rfl⟩ := h; rfl) (fun _ _ _ _ _ _ us hl => match us, hl with | [_], _ => rfl) ?_).ex⟩
  rintro ds r ⟨p, W, rfl, rfl⟩ cdv A0 outer0 s0 H0 E0 hr
  have l1 := W.h3
  have l2 := W.k3
  refine .inl (s_one (s_ret (j_is (j_f (bf_sortL (l := srt (keys p.ho) ++ srt (keys p.ki) ++ [("pipe" : Str)]) ?_) T.b_sorted (ja_cons (j_b (bd_addLS (m := ["pipe"]) ?_) (j_b (bd_addLS ?_) (j_meth0 (C := "Plan") G_houses hr T.c_Plan (j_v (d := planD p) 0) rfl ⟨p, W, rfl, rfl⟩) (j_meth0 (C := "Plan") G_kinds hr T.c_Plan (j_v (d := planD p) 0) rfl ⟨p, W, rfl, rfl⟩)) (j_lst (ja_cons (j_gstr T.v_PIPE) ja_nil))) ja_nil)) ?_)))
  · simp only [List.length_append, List.length_singleton, srt_len, List.length_map]; omega
  · simp only [List.length_append, List.length_singleton, srt_len, List.length_map]; show _ ≤ 100000; omega
  · simp only [srt_len, List.length_map]; show _ ≤ 100000; omega
  · rw [srt_of_perm (((srt_perm _).append (srt_perm _)).append_right _)]; rfl
def R_need_stream (ds : List D) (r : D) : Prop := ∃ p s, WP p ∧ s ∈ keys p.st ∧ ds = [planD p, .str s] ∧ r = .non
theorem ok_need_stream (T : Facts K mg) : OkM P w K mg base 1 "Plan" "need_stream" ["self", "stream"] (spD K R_need_stream) := by
  obtain ⟨fd, F⟩ := T.f_Plan_need_stream
  have hN : (["self", "stream"] : List Str).Nodup := by decide +kernel
  refine ⟨_, T.m_Plan_need_stream, (fn_D F (N := ["self", "stream"]) ⟨rfl, rfl, rfl, hN, rfl, by decide +kernel, by decide +kernel⟩ (fun ds d h => by obtain ⟨p, s, W, hs, rfl, rfl⟩ := h; rfl) (fun _ _ _ _ _ _ us hl => match us, hl with | [_, _], _ => rfl) ?_).ex⟩
  rintro ds r ⟨p, s, W, hs, rfl, rfl⟩ cdv A0 outer0 s0 H0 E0 hr
  exact .inr ⟨rfl, _, s_no (t_is (t_c (cd_ninT2 hr) (j_v 1) (f_streams T (j_v 0))) (by rw [decide_eq_true (asc_mem.mpr hs)]; rfl)) s_nil⟩
def R_over (ds : List D) (r : D) : Prop := ∃ p s, WP p ∧ s ∈ keys p.st ∧ ds = [planD p, .str s] ∧ r = .lst ((over p s).map D.str)
theorem ok_over (T : Facts K mg) : OkM P w K mg base 2 "Plan" "over" ["self", "stream"] (spD K R_over) := by
  have G_need_stream := ok_need_stream (P := P) (w := w) (base := base) T
  have G_chain := ok_chain (P := P) (w := w) (base := base) T
  obtain ⟨fd, F⟩ := T.f_Plan_over
  have hN : (["self", "stream", "house", "kind"] : List Str).Nodup := by decide +kernel
  refine ⟨_, T.m_Plan_over, (fn_D F (N := ["self", "stream", "house", "kind"]) ⟨rfl, rfl, rfl, hN, rfl, by decide +kernel, by decide +kernel⟩ (fun ds d h => by obtain ⟨p, s, W, hs, rfl, rfl⟩ := h; rfl) (fun _ _ _ _ _ _ us hl => match us, hl with | [_, _], _ => rfl) ?_).ex⟩
  rintro ds r ⟨p, s, W, hs, rfl, rfl⟩ cdv A0 outer0 s0 H0 E0 hr
  obtain ⟨m, hm⟩ := gt_in hs
  have hm2 : gt (asc p.st) s = some m := W.gs.trans hm
  have hmem := gt_mem hm
  have l1 := W.h3
  have l2 := W.k3
  refine .inl (s_cons (s_expr (j_meth (C := "Plan") G_need_stream hr T.c_Plan (j_v (d := planD p) 0) rfl (ja_cons (j_v 1) ja_nil) ⟨p, s, W, hs, rfl, rfl⟩)) (s_cons (s_un2 2 3 hN (j_slT (j_is (j_at hr hm2 (f_streams T (j_v 0)) (j_v 1)) rfl) (o_some j_int) (o_some j_int))) (s_one (s_ret (j_is (j_lst (ja_cons (j_v 1) (ja_starL (j_call G_chain hr (ja_cons (f_houses T (j_v 0)) (ja_cons (j_v (d := ofO m.h) 2) ja_nil)) ⟨asc p.ho, p.ho.reverse, m.h, W.wh, fun x _ => W.gh, fun y hy => (WP.rh W).mpr (W.sh _ hmem y hy), by rw [List.length_reverse]; omega, rfl, rfl⟩) (ja_starL (j_call G_chain hr (ja_cons (f_kinds T (j_v 0)) (ja_cons (j_v (d := ofO m.k) 3) ja_nil)) ⟨asc p.ki, p.ki.reverse, m.k, W.wk, fun x _ => W.gk, fun y hy => (WP.rk W).mpr (W.sk _ hmem y hy), by rw [List.length_reverse]; omega, rfl, rfl⟩) (ja_cons (j_gstr T.v_PIPE) ja_nil)))) ?_) ?_)))))
  · have a1 := chn_len p.ho.reverse m.h
    have a2 := chn_len p.ki.reverse m.k
    rw [List.length_reverse] at a1 a2
    simp only [List.length_cons, List.length_append, List.length_map, List.length_nil]; show _ ≤ 100000; omega
  · unfold over
    rw [hm]
    simp
end
end K51
end
section
set_option Elab.async false
set_option linter.all false
set_option maxRecDepth 100000
set_option maxHeartbeats 4000000
/-! The walk: the plan's methods, how it is made. -/
namespace K51
open PySem PySem.Spec PyProof.Rows L2
theorem pool_pipe {p : Pa} : pool p "pipe" = some p.pipe := by unfold pool; rw [if_pos rfl]
theorem pool_st {p : Pa} {n : Str} {m : Sm} (h : n ≠ "pipe") (hm : gt p.st n = some m) : pool p n = some ⟨m.c, m.t, "read"⟩ := by unfold pool; rw [if_neg h, hm]
theorem pool_ho {p : Pa} {n : Str} {g : Gr} (h : n ≠ "pipe") (hs : gt p.st n = none) (hm : gt p.ho n = some g) : pool p n = some g.p := by unfold pool; rw [if_neg h, hs, hm]
theorem pool_ki {p : Pa} {n : Str} {g : Gr} (h : n ≠ "pipe") (hs : gt p.st n = none) (ho : gt p.ho n = none) (hm : gt p.ki n = some g) : pool p n = some g.p := by unfold pool; rw [if_neg h, hs, ho, hm]; rfl
/-- the four kinds of pools -/
theorem pool_cases {p : Pa} {n : Str} {l : Pl} (h : pool p n = some l) : (n = "pipe" ∧ l = p.pipe) ∨ (n ≠ "pipe" ∧ ∃ m, gt p.st n = some m ∧ l = ⟨m.c, m.t, "read"⟩) ∨ (n ≠ "pipe" ∧ gt p.st n = none ∧ ∃ g, gt p.ho n = some g ∧ l = g.p) ∨ (n ≠ "pipe" ∧ gt p.st n = none ∧ gt p.ho n = none ∧ ∃ g, gt p.ki n = some g ∧ l = g.p) := by
  unfold pool at h
  split at h
  · next e => exact .inl ⟨e, (Option.some.inj h).symm⟩
  · next e =>
    refine .inr ?_
    split at h
    · next m hm => exact .inl ⟨e, m, hm, (Option.some.inj h).symm⟩
    · next hm =>
      refine .inr ?_
      split at h
      · next g hg => exact .inl ⟨e, hm, g, hg, (Option.some.inj h).symm⟩
      · next hg =>
        cases q : gt p.ki n with
        | none => rw [q] at h; cases h
        | some g => rw [q] at h; exact .inr ⟨e, hm, hg, g, rfl, (Option.some.inj h).symm⟩
theorem shared_pool {p : Pa} (W : WP p) {n : Str} (h : n ∈ shared p) : ∃ l, pool p n = some l := by
  unfold shared at h
  rw [srt_mem] at h
  by_cases e : n = "pipe"
  · subst e; exact ⟨_, pool_pipe⟩
  · rcases List.mem_append.mp h with q | q
    · cases hs : gt p.st n with
      | some m => exact ⟨_, pool_st e hs⟩
      | none =>
        rcases List.mem_append.mp q with q | q
        · obtain ⟨g, hg⟩ := gt_in q
          exact ⟨_, pool_ho e hs hg⟩
        · cases hg : gt p.ho n with
          | some g => exact ⟨_, pool_ho e hs hg⟩
          | none =>
            obtain ⟨g, hk⟩ := gt_in q
            exact ⟨_, pool_ki e hs hg hk⟩
    · exact absurd (List.mem_singleton.mp q) e
section
variable {P : Program} {w : World} {K : PySem.W.Frag} {mg : Str → Option Value} {base : Heap}
def R_contains (ds : List D) (r : D) : Prop := ∃ p n l, WP p ∧ pool p n = some l ∧ ds = [planD p, .str n] ∧ r = .bl true
theorem ok_contains (T : Facts K mg) : OkM P w K mg base 1 "Plan" "__contains__" ["self", "thing"] (spD K R_contains) := by
  obtain ⟨fd, F⟩ := T.f_Plan_containsU
  have hN : (["self", "thing"] : List Str).Nodup := by decide +kernel
  refine ⟨_, T.m_Plan_UUcontainsUU, (fn_D F (N := ["self", "thing"]) ⟨rfl, rfl, rfl, hN, rfl, by decide +kernel, by decide +kernel⟩ (fun ds d h => by obtain ⟨p, n, l, W, hp, rfl, rfl⟩ := h; rfl) (fun _ _ _ _ _ _ us hl => match us, hl with | [_, _], _ => rfl) ?_).ex⟩
  rintro ds r ⟨p, n, l, W, hp, rfl, rfl⟩ cdv A0 outer0 s0 H0 E0 hr
  refine .inl (s_no (t_is (t_not (t_v (j_isi (j_v (d := .str n) 1) rfl kit_str boot_str T.b_isinstance T.b_str))) rfl) (s_one (s_ret (j_is (j_or (j_c cd_eqS (j_v 1) (j_gstr T.v_PIPE)) fun _ => j_or (j_c (cd_inT2 hr) (j_v 1) (f_streams T (j_v 0))) fun _ => j_or (j_c (cd_inT2 hr) (j_v 1) (f_houses T (j_v 0))) fun _ => j_one (j_c (cd_inT2 hr) (j_v 1) (f_kinds T (j_v 0)))) ?_))))
  congr 1
  have mm : ∀ {α : Type} {t : Tb α} {v : α}, gt t n = some v → n ∈ keys (asc t) := fun h => asc_mem.mpr (List.mem_map.mpr ⟨_, gt_mem h, rfl⟩)
  rcases pool_cases hp with ⟨e, _⟩ | ⟨e, m, hm, _⟩ | ⟨e, hs, g, hg, _⟩ | ⟨e, hs, hh, g, hg, _⟩
  · rw [decide_eq_true e]; rfl
  · rw [decide_eq_true (mm hm)]; simp
  · rw [decide_eq_true (mm hg)]; simp
  · rw [decide_eq_true (mm hg)]; simp
def R_under (ds : List D) (r : D) : Prop := ∃ p n l, WP p ∧ pool p n = some l ∧ ds = [planD p, .str n] ∧ r = .lst ((under p n).map D.str)
theorem ok_under (T : Facts K mg) : OkM P w K mg base 3 "Plan" "under" ["self", "name"] (spD K R_under) := by
  have G_contains := ok_contains (P := P) (w := w) (base := base) T
  have G_over := ok_over (P := P) (w := w) (base := base) T
  obtain ⟨fd, F⟩ := T.f_Plan_under
  have hN : (["self", "name", "stream"] : List Str).Nodup := by decide +kernel
  refine ⟨_, T.m_Plan_under, (fn_D F (N := ["self", "name", "stream"]) ⟨rfl, rfl, rfl, hN, rfl, by decide +kernel, by decide +kernel⟩ (fun ds d h => by obtain ⟨p, n, l, W, hp, rfl, rfl⟩ := h; rfl) (fun _ _ _ _ _ _ us hl => match us, hl with | [_, _], _ => rfl) ?_).ex⟩
  rintro ds r ⟨p, n, l, W, hp, rfl, rfl⟩ cdv A0 outer0 s0 H0 E0 hr
  refine .inl (s_no (t_is (t_c (cd_ninC (C := "Plan") G_contains hr ⟨p, n, l, W, hp, rfl, rfl⟩) (j_v 1) (j_v (d := planD p) 0)) rfl) (s_one (s_ret (j_is (j_lc (c := D.str) (f := D.str) (pr := fun z => decide (n ∈ over p z)) 2 hN (i_keysT (f_streams T (j_v 0))) (fun z hz _ _ _ _ _ => tt_one (t_c cd_in (j_v 1) (j_meth (C := "Plan") G_over hr T.c_Plan (j_v (d := planD p) 0) rfl (ja_cons (j_v 2) ja_nil) ⟨p, z, W, asc_mem.mp hz, rfl, rfl⟩))) fun z hz _ _ _ _ _ _ => j_v 2) ?_))))
  rw [asc_keys]; rfl
def R_most (ds : List D) (r : D) : Prop := ∃ p z m, WP p ∧ gt p.st z = some m ∧ ds = [planD p, .str z] ∧ r = ofI m.q
theorem ok_most (T : Facts K mg) : OkM P w K mg base 2 "Plan" "most" ["self", "stream"] (spD K R_most) := by
  have G_need_stream := ok_need_stream (P := P) (w := w) (base := base) T
  obtain ⟨fd, F⟩ := T.f_Plan_most
  have hN : (["self", "stream"] : List Str).Nodup := by decide +kernel
  refine ⟨_, T.m_Plan_most, (fn_D F (N := ["self", "stream"]) ⟨rfl, rfl, rfl, hN, rfl, by decide +kernel, by decide +kernel⟩ (fun ds d h => by obtain ⟨p, z, m, W, hm, rfl, rfl⟩ := h; rfl) (fun _ _ _ _ _ _ us hl => match us, hl with | [_, _], _ => rfl) ?_).ex⟩
  rintro ds r ⟨p, z, m, W, hm, rfl, rfl⟩ cdv A0 outer0 s0 H0 E0 hr
  have hz : z ∈ keys p.st := List.mem_map.mpr ⟨_, gt_mem hm, rfl⟩
  exact .inl (s_cons (s_expr (j_meth (C := "Plan") G_need_stream hr T.c_Plan (j_v (d := planD p) 0) rfl (ja_cons (j_v 1) ja_nil) ⟨p, z, W, hz, rfl, rfl⟩)) (s_one (s_ret (j_ixT (j_is (j_at hr (W.gs.trans hm) (f_streams T (j_v 0)) (j_v 1)) rfl) j_int rfl))))
def R_guide (ds : List D) (r : D) : Prop := ∃ p z m, WP p ∧ gt p.st z = some m ∧ ds = [planD p, .str z] ∧ r = ofO m.g
theorem ok_guide (T : Facts K mg) : OkM P w K mg base 2 "Plan" "guide" ["self", "stream"] (spD K R_guide) := by
  have G_need_stream := ok_need_stream (P := P) (w := w) (base := base) T
  obtain ⟨fd, F⟩ := T.f_Plan_guide
  have hN : (["self", "stream"] : List Str).Nodup := by decide +kernel
  refine ⟨_, T.m_Plan_guide, (fn_D F (N := ["self", "stream"]) ⟨rfl, rfl, rfl, hN, rfl, by decide +kernel, by decide +kernel⟩ (fun ds d h => by obtain ⟨p, z, m, W, hm, rfl, rfl⟩ := h; rfl) (fun _ _ _ _ _ _ us hl => match us, hl with | [_, _], _ => rfl) ?_).ex⟩
  rintro ds r ⟨p, z, m, W, hm, rfl, rfl⟩ cdv A0 outer0 s0 H0 E0 hr
  have hz : z ∈ keys p.st := List.mem_map.mpr ⟨_, gt_mem hm, rfl⟩
  exact .inl (s_cons (s_expr (j_meth (C := "Plan") G_need_stream hr T.c_Plan (j_v (d := planD p) 0) rfl (ja_cons (j_v 1) ja_nil) ⟨p, z, W, hz, rfl, rfl⟩)) (s_one (s_ret (j_ixT (j_is (j_at hr (W.gs.trans hm) (f_streams T (j_v 0)) (j_v 1)) rfl) j_int rfl))))
def R_guides (ds : List D) (r : D) : Prop := ∃ p, WP p ∧ ds = [planD p] ∧ r = .lst ((guides p).map D.str)
theorem ok_guides (T : Facts K mg) : OkM P w K mg base 1 "Plan" "guides" ["self"] (spD K R_guides) := by
  obtain ⟨fd, F⟩ := T.f_Plan_guides
  have hN : (["self", "found", "told", "name"] : List Str).Nodup := by decide +kernel
  refine ⟨_, T.m_Plan_guides, (fn_D F (N := ["self", "found", "told", "name"]) ⟨rfl, rfl, rfl, hN, rfl, by decide +kernel, by decide +kernel⟩ (fun ds d h => by obtain ⟨p, W, rfl, rfl⟩ := h; rfl) (fun _ _ _ _ _ _ us hl => match us, hl with | [_], _ => rfl) ?_).ex⟩
  rintro ds r ⟨p, W, rfl, rfl⟩ cdv A0 outer0 s0 H0 E0 hr
  refine .inl (s_cons (s_set 1 hN (j_lcm (ls := asc p.st) (c := fun q => smD ruleD q.2) (f := fun q => ofO q.2.g) 2 hN (i_valsT (f_streams T (j_v 0))) fun q hq _ _ _ _ _ => j_ixT (j_v (d := smD ruleD q.2) 2) j_int rfl)) (s_one (s_ret (j_is (j_lc (c := D.str) (f := D.str) (pr := fun z => decide (some z ∈ (asc p.st).map fun q => q.2.g)) 3 hN (i_keysT (f_streams T (j_v 0))) (fun z hz _ _ _ _ _ => tt_one (t_c cd_inO (j_v 3) (j_is (j_v 1) ?_))) fun z hz _ _ _ _ _ _ => j_v 3) ?_))))
  · rw [List.map_map]; rfl
  · rw [asc_keys]
    unfold guides
    congr 1
    refine congrArg _ (List.filter_congr fun z _ => decide_eq_decide.mpr ?_)
    exact ((asc_perm p.st).map _).mem_iff
def R_pool (ds : List D) (r : D) : Prop := ∃ p n l, WP p ∧ pool p n = some l ∧ ds = [planD p, .str n] ∧ r = plD ruleD l
theorem ok_pool (T : Facts K mg) : OkM P w K mg base 1 "Plan" "pool" ["self", "name"] (spD K R_pool) := by
  obtain ⟨fd, F⟩ := T.f_Plan_pool
  have hN : (["self", "name"] : List Str).Nodup := by decide +kernel
  refine ⟨_, T.m_Plan_pool, (fn_D F (N := ["self", "name"]) ⟨rfl, rfl, rfl, hN, rfl, by decide +kernel, by decide +kernel⟩ (fun ds d h => by obtain ⟨p, n, l, W, hp, rfl, rfl⟩ := h; rfl) (fun _ _ _ _ _ _ us hl => match us, hl with | [_, _], _ => rfl) ?_).ex⟩
  rintro ds r ⟨p, n, l, W, hp, rfl, rfl⟩ cdv A0 outer0 s0 H0 E0 hr
  have mm : ∀ {α : Type} {t : Tb α} {v : α}, gt t n = some v → n ∈ keys (asc t) := fun h => asc_mem.mpr (List.mem_map.mpr ⟨_, gt_mem h, rfl⟩)
  have nn : ∀ {α : Type} {t : Tb α}, gt t n = none → n ∉ keys (asc t) := fun h q => by
    obtain ⟨v, hv⟩ := gt_in (asc_mem.mp q)
    rw [h] at hv; cases hv
  rcases pool_cases hp with ⟨e, rfl⟩ | ⟨e, m, hm, rfl⟩ | ⟨e, hs, g, hg, rfl⟩ | ⟨e, hs, hh, g, hg, rfl⟩
  · exact .inl (s_grd (c := true) (t_is (t_c cd_eqS (j_v 1) (j_gstr T.v_PIPE)) (decide_eq_true e)) (fun _ => s_one (s_ret (f_pipe T (j_v 0)))) nofun)
  · exact .inl (s_no (t_is (t_c cd_eqS (j_v 1) (j_gstr T.v_PIPE)) (decide_eq_false e)) (s_grd (c := true) (t_is (t_c (cd_inT2 hr) (j_v 1) (f_streams T (j_v 0))) (decide_eq_true (mm hm))) (fun _ => s_one (s_ret (j_is (j_b (bd_addT (Nat.le_of_ble_eq_true rfl)) (j_slT (j_is (j_at hr (W.gs.trans hm) (f_streams T (j_v 0)) (j_v 1)) rfl) o_none (o_some j_int)) (j_tup (ja_cons j_str ja_nil))) rfl))) nofun))
  · exact .inl (s_no (t_is (t_c cd_eqS (j_v 1) (j_gstr T.v_PIPE)) (decide_eq_false e)) (s_no (t_is (t_c (cd_inT2 hr) (j_v 1) (f_streams T (j_v 0))) (decide_eq_false (nn hs))) (s_one (s_ret (j_is (j_slT (j_if (p := true) (t_is (t_c (cd_inT2 hr) (j_v 1) (f_houses T (j_v 0))) (decide_eq_true (mm hg))) (fun _ => j_is (d' := grD ruleD g) (j_at hr ((asc_gt W.nh).trans hg) (f_houses T (j_v 0)) (j_v 1)) rfl) nofun) o_none (o_some j_int)) rfl)))))
  · exact .inl (s_no (t_is (t_c cd_eqS (j_v 1) (j_gstr T.v_PIPE)) (decide_eq_false e)) (s_no (t_is (t_c (cd_inT2 hr) (j_v 1) (f_streams T (j_v 0))) (decide_eq_false (nn hs))) (s_one (s_ret (j_is (j_slT (j_if (p := false) (t_is (t_c (cd_inT2 hr) (j_v 1) (f_houses T (j_v 0))) (decide_eq_false (nn hh))) nofun fun _ => j_is (d' := grD ruleD g) (j_at hr ((asc_gt W.nk).trans hg) (f_kinds T (j_v 0)) (j_v 1)) rfl) o_none (o_some j_int)) rfl)))))
theorem ok_getitem (T : Facts K mg) : OkM P w K mg base 2 "Plan" "__getitem__" ["self", "name"] (spD K R_pool) := by
  have G_contains := ok_contains (P := P) (w := w) (base := base) T
  have G_pool := ok_pool (P := P) (w := w) (base := base) T
  obtain ⟨fd, F⟩ := T.f_Plan_getitemU
  have hN : (["self", "name"] : List Str).Nodup := by decide +kernel
  refine ⟨_, T.m_Plan_UUgetitemUU, (fn_D F (N := ["self", "name"]) ⟨rfl, rfl, rfl, hN, rfl, by decide +kernel, by decide +kernel⟩ (fun ds d h => by obtain ⟨p, n, l, W, hp, rfl, rfl⟩ := h; rfl) (fun _ _ _ _ _ _ us hl => match us, hl with | [_, _], _ => rfl) ?_).ex⟩
  rintro ds r ⟨p, n, l, W, hp, rfl, rfl⟩ cdv A0 outer0 s0 H0 E0 hr
  exact .inl (s_no (t_is (t_c (cd_ninC (C := "Plan") G_contains hr ⟨p, n, l, W, hp, rfl, rfl⟩) (j_v 1) (j_v (d := planD p) 0)) rfl) (s_one (s_ret (j_meth (C := "Plan") G_pool hr T.c_Plan (j_v (d := planD p) 0) rfl (ja_cons (j_v 1) ja_nil) ⟨p, n, l, W, hp, rfl, rfl⟩))))
theorem getitem_fn (T : Facts K mg) (f : Addr) (h : Meth K (He.ga K "Plan") "__getitem__" f) : PySem.W.fnIn K f = true := by
  have e : f = He.ma K (He.ga K "Plan") "__getitem__" := by
    have := h.at_.symm.trans T.m_Plan_UUgetitemUU.at_
    simpa using this
  subst e
  obtain ⟨fd, F⟩ := T.f_Plan_getitemU
  obtain ⟨oc, od, dV, kV, doc, pm, an, cdv, ct, osl, rfl, lk, _⟩ := F.ex
  unfold PySem.W.fnIn
  rw [lk]
def R_least_own (ds : List D) (r : D) : Prop := ∃ p z m, WP p ∧ gt p.st z = some m ∧ ds = [planD p, .str z] ∧ r = .int (thr m.t + m.q.getD 1 - 1)
theorem ok_least_own (T : Facts K mg) : OkM P w K mg base 5 "Plan" "least_own" ["self", "stream"] (spD K R_least_own) := by
  have G_Rule_thr := ok_Rule_thr (P := P) (w := w) (base := base) T
  obtain ⟨fd, F⟩ := T.f_Plan_least_own
  have hN : (["self", "stream", "credit", "rule", "most"] : List Str).Nodup := by decide +kernel
  refine ⟨_, T.m_Plan_least_own, (fn_D F (N := ["self", "stream", "credit", "rule", "most"]) ⟨rfl, rfl, rfl, hN, rfl, by decide +kernel, by decide +kernel⟩ (fun ds d h => by obtain ⟨p, z, m, W, hm, rfl, rfl⟩ := h; rfl) (fun _ _ _ _ _ _ us hl => match us, hl with | [_, _], _ => rfl) ?_).ex⟩
  rintro ds r ⟨p, z, m, W, hm, rfl, rfl⟩ cdv A0 outer0 s0 H0 E0 hr
  have hso := W.so _ (gt_mem hm)
  refine .inl (s_cons (s_un3 2 3 4 hN (j_slT (j_is (j_at hr (W.gs.trans hm) (f_streams T (j_v 0)) (j_v 1)) rfl) o_none (o_some j_int))) (s_one (s_ret (j_b bd_subI (j_b bd_addI (j_prop (C := "Rule") T.p_thr G_Rule_thr hr T.c_Rule (j_v (d := ruleD m.t) 3) ⟨m.t, hso.1, rfl, rfl⟩) (j_orI (o := m.q) (j_v 4) (j_one j_int) ?_)) j_int))))
  cases hq : m.q with
  | none => rfl
  | some q => exact ⟨by have := (hso.2.2.2.1 q hq).1; omega, rfl⟩
def R_narrow (ds : List D) (r : D) : Prop := ∃ p, WP p ∧ ds = [planD p] ∧ r = .lst []
theorem ok_narrow (T : Facts K mg) : OkM P w K mg base 6 "Plan" "narrow" ["self"] (spD K R_narrow) := by
  have G_streams := ok_streams (P := P) (w := w) (base := base) T
  have G_least_own := ok_least_own (P := P) (w := w) (base := base) T
  have G_shared := ok_shared (P := P) (w := w) (base := base) T
  have G_pool := ok_pool (P := P) (w := w) (base := base) T
  have G_Rule_thr := ok_Rule_thr (P := P) (w := w) (base := base) T
  obtain ⟨fd, F⟩ := T.f_Plan_narrow
  have hN : (["self", "found", "name", "credit", "rule", "moment"] : List Str).Nodup := by decide +kernel
  refine ⟨_, T.m_Plan_narrow, (fn_W F (N := ["self", "found", "name", "credit", "rule", "moment"]) ⟨rfl, rfl, rfl, hN, rfl, by decide +kernel, by decide +kernel⟩ (fun ds d h => by obtain ⟨p, W, rfl, rfl⟩ := h; rfl) (fun _ _ _ _ _ _ us hl => match us, hl with | [_], _ => rfl) ?_).ex⟩
  rintro ds r ⟨p, W, rfl, rfl⟩ cdv A0 outer0 s0 H0 E0 hr
  refine c_newLc (ls := srt (keys p.st)) (c := D.str) (pr := fun _ => false) (f := D.str) 1 2 hN (i_list (j_meth0 (C := "Plan") G_streams hr T.c_Plan (j_v (d := planD p) 0) rfl ⟨p, W, rfl, rfl⟩)) (fun z hz _ _ _ _ _ => tt_one ?_) (fun z hz h => by cases h) fun q => ?_
  · obtain ⟨m, hm⟩ := gt_in (srt_mem.mp hz)
    have hso := W.so _ (gt_mem hm)
    exact t_is (t_c cd_lt (j_ixT (d := .int m.c) (j_is (j_at hr (W.gs.trans hm) (f_streams T (j_v 0)) (j_v 2)) rfl) j_int rfl) (j_meth (C := "Plan") G_least_own hr T.c_Plan (j_v (d := planD p) 0) rfl (ja_cons (j_v 2) ja_nil) ⟨p, z, m, W, hm, rfl, rfl⟩)) (decide_eq_false (by have h5 : thr m.t + m.q.getD 1 - 1 ≤ m.c := hso.2.2.2.2; omega))
  rw [filter_id fun _ _ => rfl]
  refine c_cons (w_for1 (ls := shared p) (c := D.str) 2 (fun j ρ1 M1 => ∃ x a b c, ρ1 = [some (planD p), some (.own q), x, a, b, c] ∧ M1 = [(q, .lst [])]) hN hp_nox (i_list (j_meth0 (C := "Plan") G_shared hr T.c_Plan (j_v (d := planD p) 0) rfl ⟨p, W, rfl, rfl⟩)) ⟨_, leE_rf _, _, _, _, _, rfl, rfl⟩ ?_) (fun ρ1 M1 hx => ?_) (fun o n hx => by obtain ⟨_, _, _, e⟩ := hx; exact absurd e (n _ _))
  · rintro j n hn ρ1 M1 ⟨x, a, b, c, rfl, rfl⟩
    obtain ⟨l, hl⟩ := shared_pool W (List.mem_of_getElem? hn)
    have hok : okT 1 l.t ∧ (l.m = "come" → thr l.t ≤ l.c) := by
      have pok : ∀ l, okP l → okT 1 l.t ∧ (l.m = "come" → thr l.t ≤ l.c) := fun l ⟨_, _, h1, h2⟩ => ⟨h1, fun e => by
        rcases h2 with h | h
        · rw [h] at e; exact absurd e (by decide)
        · exact h.2⟩
      rcases pool_cases hl with ⟨e, rfl⟩ | ⟨e, m, hm, rfl⟩ | ⟨e, hs, g, hg, rfl⟩ | ⟨e, hs, hh, g, hg, rfl⟩
      · exact pok _ W.pp
      · exact ⟨(W.so _ (gt_mem hm)).1, fun e => absurd (show ("read" : Str) = "come" from e) (by decide)⟩
      · exact pok _ (W.ph _ (gt_mem hg))
      · exact pok _ (W.pk _ (gt_mem hg))
    refine c_p (s_un3 3 4 5 hN (j_is (j_meth (C := "Plan") G_pool hr T.c_Plan (j_v (d := planD p) 0) rfl (ja_cons (j_v 2) ja_nil) ⟨p, n, l, W, hl, rfl, rfl⟩) rfl)) (c_one (c_imS (w_ext 1 0 (m := []) (j_v 1) rfl (j_if (p := false) ?_ nofun fun _ => j_lst ja_nil) (by decide)) fun o ho => ⟨_, _, _, ho, leE_rf _, _, _, _, _, rfl, rfl⟩))
    by_cases hc : l.m = "come"
    · exact t_is (PW.pt (w_and (t_c cd_eqS (j_v (d := .str l.m) 5) j_str) fun _ => w_and1 (t_c cd_lt (j_v 3) (j_prop (C := "Rule") T.p_thr G_Rule_thr hr T.c_Rule (j_v (d := ruleD l.t) 4) ⟨l.t, hok.1, rfl, rfl⟩)))) (by rw [decide_eq_false (show ¬ l.c < thr l.t by have := hok.2 hc; omega), Bool.and_false])
    · exact t_is (PW.pt (w_and (p := false) (q := false) (t_is (t_c cd_eqS (j_v (d := .str l.m) 5) j_str) (decide_eq_false hc)) nofun)) rfl
  · obtain ⟨ρ', M', ⟨x, a, b, c, rfl, rfl⟩, e⟩ := hx
    cases e
    exact c_relL 1 0 (c_one (c_imS (w_pr (s_ret (j_v 1))) fun o ho => .inl ho))
end
end K51
end
section
set_option Elab.async false
set_option linter.all false
set_option maxRecDepth 100000
set_option maxHeartbeats 4000000
/-! The walk: the plan made; pools, cuts. -/
namespace K51
open PySem PySem.Spec PyProof.Rows L2
theorem cd_neNil {X : Cx} {n : Nat} (hr : Room n X.A) : CD X .NotEq (.lst []) (.lst []) false := (cd_neL (l := []) (m := []) hr nofun nofun).to rfl
section
variable {p : Pa} (W : WP p)
include W
theorem WP.nall : (keys (dT (grD ruleD) (asc p.ho)) ++ keys (dT (grD ruleD) (asc p.ki)) ++ keys (dT (smD ruleD) (asc p.st)) ++ [("pipe" : Str)]).Nodup := by
  have e : ∀ {α : Type} (f : α → D) (l : Tb α), keys (dT f (asc l)) = keys (asc l) := fun f l => dT_keys
  rw [e, e, e]
  have pm : (keys (asc p.ho) ++ keys (asc p.ki) ++ keys (asc p.st)).Perm (keys p.st ++ keys p.ho ++ keys p.ki) := by
    refine (((asc_perm p.ho).map _).append ((asc_perm p.ki).map _)).append ((asc_perm p.st).map _) |>.trans ?_
    rw [List.append_assoc (keys p.st)]
    exact List.perm_append_comm
  refine List.nodup_append.mpr ⟨pm.nodup_iff.mpr W.nd, by simp, fun a ha b hb e => ?_⟩
  rw [List.mem_singleton.mp hb] at e
  exact (W.nm a (pm.mem_iff.mp ha)).2 e
theorem WP.no {x : Str} (h : x ∈ keys p.st ∨ x ∈ keys p.ho ∨ x ∈ keys p.ki) : okN x ∧ x ≠ "pipe" := W.nm x (by
  rcases h with h | h | h
  · exact List.mem_append_left _ (List.mem_append_left _ h)
  · exact List.mem_append_left _ (List.mem_append_right _ h)
  · exact List.mem_append_right _ h)
theorem WP.oh : ∀ x ∈ p.ho, okO1 x.2.a := fun x hx y hy => (W.no (.inr (.inl ((WP.rh W).mp (wr_a W.wh (gt_perm W.nh (List.reverse_perm _).symm |>.trans (gt_of_mem W.nh hx)) hy))))).1
theorem WP.ok : ∀ x ∈ p.ki, okO1 x.2.a := fun x hx y hy => (W.no (.inr (.inr ((WP.rk W).mp (wr_a W.wk (gt_perm W.nk (List.reverse_perm _).symm |>.trans (gt_of_mem W.nk hx)) hy))))).1
end
theorem okP_0 {l : Pl} (h : okP l) : okP0 l := ⟨h.1, h.2.2.2.imp id (·.1)⟩
section
variable {P : Program} {w : World} {K : PySem.W.Frag} {mg : Str → Option Value} {base : Heap}
def R_need_sound (ds : List D) (r : D) : Prop := ∃ p, WP p ∧ ds = [planD p] ∧ r = .non
theorem ok_need_sound (T : Facts K mg) : OkM P w K mg base 7 "Plan" "need_sound" ["self"] (spD K R_need_sound) := by
  have G_twice := ok_twice (P := P) (w := w) (base := base) T
  have G_unknown := ok_unknown (P := P) (w := w) (base := base) T
  have G_rings := ok_rings (P := P) (w := w) (base := base) T
  have G_bad_guides := ok_bad_guides (P := P) (w := w) (base := base) T
  have G_narrow := ok_narrow (P := P) (w := w) (base := base) T
  obtain ⟨fd, F⟩ := T.f_Plan_need_sound
  have hN : (["self", "houses", "kinds", "streams"] : List Str).Nodup := by decide +kernel
  refine ⟨_, T.m_Plan_need_sound, (fn_D F (N := ["self", "houses", "kinds", "streams"]) ⟨rfl, rfl, rfl, hN, rfl, by decide +kernel, by decide +kernel⟩ (fun ds d h => by obtain ⟨p, W, rfl, rfl⟩ := h; rfl) (fun _ _ _ _ _ _ us hl => match us, hl with | [_], _ => rfl) ?_).ex⟩
  rintro ds r ⟨p, W, rfl, rfl⟩ cdv A0 outer0 s0 H0 E0 hr
  have l1 := W.h3
  have l2 := W.k3
  have l3 := W.s6
  refine .inr ⟨rfl, _, s_cons (s_par3 1 2 3 hN (f_houses T (j_v 0)) (f_kinds T (j_v 0)) (f_streams T (j_v 0))) (s_no (t_c (cd_neNil hr) (j_call G_twice hr (ja_cons (j_v 1) (ja_cons (j_v 2) (ja_cons (j_v 3) ja_nil))) ⟨_, _, _, W.nall, ?_, ?_, ?_, rfl, rfl⟩) (j_lst ja_nil)) (s_no (t_c (cd_neNil hr) (j_call G_unknown hr (ja_cons (j_v 1) (ja_cons (j_v 2) (ja_cons (j_v 3) ja_nil))) ⟨asc p.ho, asc p.ki, asc p.st, ?_, ?_, ?_, ?_, ?_, ?_, rfl, rfl⟩) (j_lst ja_nil)) (s_no (t_c (cd_neNil hr) (j_b (bd_addL (l := []) (m := []) (by decide)) (j_call G_rings hr (ja_cons (j_v 1) ja_nil) ⟨asc p.ho, p.ho.reverse, W.wh, fun x _ => W.gh, fun x hx => (WP.rh W).mpr (asc_mem.mp hx), by rw [List.length_reverse]; omega, rfl, rfl⟩) (j_call G_rings hr (ja_cons (j_v 2) ja_nil) ⟨asc p.ki, p.ki.reverse, W.wk, fun x _ => W.gk, fun x hx => (WP.rk W).mpr (asc_mem.mp hx), by rw [List.length_reverse]; omega, rfl, rfl⟩)) (j_lst ja_nil)) (s_no (t_c (cd_neNil hr) (j_call G_bad_guides hr (ja_cons (j_v 3) ja_nil) ⟨asc p.st, ?_, rfl, rfl⟩) (j_lst ja_nil)) (s_no (t_c (cd_neNil hr) (j_meth0 (C := "Plan") G_narrow hr T.c_Plan (j_v (d := planD p) 0) rfl ⟨p, W, rfl, rfl⟩) (j_lst ja_nil)) s_nil))))) ⟩
  · rw [dT_len, asc_len]; omega
  · rw [dT_len, asc_len]; omega
  · rw [dT_len, asc_len]; omega
  · exact fun x hx y hy => asc_mem.mpr ((WP.rh W).mp (wr_a W.wh (gt_perm W.nh (List.reverse_perm _).symm |>.trans (gt_of_mem W.nh ((asc_perm _).mem_iff.mp hx))) hy))
  · exact fun x hx y hy => asc_mem.mpr ((WP.rk W).mp (wr_a W.wk (gt_perm W.nk (List.reverse_perm _).symm |>.trans (gt_of_mem W.nk ((asc_perm _).mem_iff.mp hx))) hy))
  · refine fun x hx => ⟨fun y hy => asc_mem.mpr (W.sh x ((asc_perm _).mem_iff.mp hx) y hy), fun y hy => asc_mem.mpr (W.sk x ((asc_perm _).mem_iff.mp hx) y hy), fun y hy => ?_⟩
    obtain ⟨m, hm, _⟩ := W.sg x ((asc_perm _).mem_iff.mp hx) y hy
    exact asc_mem.mpr (List.mem_map.mpr ⟨_, gt_mem hm, rfl⟩)
  · rw [asc_len]; omega
  · rw [asc_len]; omega
  · rw [asc_len]; omega
  · refine fun x hx => ⟨fun y hy => (W.no (.inr (.inl (W.sh x ((asc_perm _).mem_iff.mp hx) y hy)))).1, fun y hy => (W.no (.inr (.inr (W.sk x ((asc_perm _).mem_iff.mp hx) y hy)))).1, fun y hy => ?_⟩
    obtain ⟨m, hm, r⟩ := W.sg x ((asc_perm _).mem_iff.mp hx) y hy
    exact ⟨m, W.gs.trans hm, r⟩
def planL (p : Pa) : List (Str × D) := [(("its_pipe" : Str), plD ruleD p.pipe), (("its_houses" : Str), .dct (dT (grD ruleD) (asc p.ho))), (("its_kinds" : Str), .dct (dT (grD ruleD) (asc p.ki))), (("its_streams" : Str), .dct (dT (smD ruleD) (asc p.st)))]
theorem planL_D (p : Pa) : D.obj "Plan" (planL p) = planD p := rfl
def R_Plan_init (ds : List D) (l : List (Str × D)) : Prop := ∃ (p : Pa) (ho ki : Tb Gr) (st : Tb Sm), WP p ∧ p.ho.Perm ho ∧ p.ki.Perm ki ∧ p.st.Perm st ∧ ds = [plD ruleD p.pipe, .dct (dT (grD ruleD) ho), .dct (dT (grD ruleD) ki), .dct (dT (smD ruleD) st)] ∧ l = planL p
theorem ok_Plan_init (T : Facts K mg) : Ok0 P w K mg base 8 (He.ma K (He.ga K "Plan") "__init__") ["self", "pipe", "houses", "kinds", "streams"] (spI K "Plan" R_Plan_init) := by
  have G_need_form := ok_need_form (P := P) (w := w) (base := base) T
  have G_ascending := ok_ascending (P := P) (w := w) (base := base) T
  have G_need_sound := ok_need_sound (P := P) (w := w) (base := base) T
  obtain ⟨fd, F⟩ := T.f_Plan_initU
  have hN : (["self", "pipe", "houses", "kinds", "streams"] : List Str).Nodup := by decide +kernel
  refine fn_I F (N := ["self", "pipe", "houses", "kinds", "streams"]) ⟨rfl, rfl, rfl, hN, rfl, by decide +kernel, by decide +kernel⟩ (fun ds d h => by obtain ⟨p, ho, ki, st, W, ph, pk, ps, rfl, hl⟩ := h; rfl) (fun _ _ _ _ _ _ us hl => match us, hl with | [_, _, _, _, _], _ => rfl) ?_
  rintro q ds l ⟨p, ho, ki, st, W, ph, pk, ps, rfl, hl⟩ cdv A0 outer0 s0 H0 E0 hr
  subst hl
  have l1 := W.h3
  have l2 := W.k3
  have l3 := W.s6
  have l4 := W.s1
  have kh : (keys ho).Nodup := ((ph.map _).nodup_iff).mp W.nh
  have kk : (keys ki).Nodup := ((pk.map _).nodup_iff).mp W.nk
  have ks : (keys st).Nodup := ((ps.map _).nodup_iff).mp W.ns
  have A : ∀ {α : Type} {f : α → D} {t : Tb α} (i : Nat), (keys t).Nodup → t.length < 64 → R_asc [.dct (dT f t)] (.dct (dT f (asc t))) := fun i nd hl => ⟨dT _ _, by rw [show keys (dT _ _) = _ from dT_keys]; exact nd, by rw [dT_len]; exact hl, rfl, by rw [asc_dT]⟩
  refine c_p (s_expr (j_call G_need_form hr (ja_cons (j_v 1) (ja_cons (j_v 2) (ja_cons (j_v 3) (ja_cons (j_v 4) ja_nil)))) ⟨p.pipe, ho, ki, st, okP_0 W.pp, ?_, ?_, ?_, ?_, ?_, ?_, rfl, rfl⟩)) ?_
  · exact fun x hx => ⟨(W.no (.inr (.inl (List.mem_map.mpr ⟨_, ph.mem_iff.mpr hx, rfl⟩)))).1, okP_0 (W.ph x (ph.mem_iff.mpr hx)), WP.oh W x (ph.mem_iff.mpr hx)⟩
  · exact fun x hx => ⟨(W.no (.inr (.inr (List.mem_map.mpr ⟨_, pk.mem_iff.mpr hx, rfl⟩)))).1, okP_0 (W.pk x (pk.mem_iff.mpr hx)), WP.ok W x (pk.mem_iff.mpr hx)⟩
  · have := ph.length_eq; have := pk.length_eq; omega
  · refine fun x hx => ⟨(W.no (.inl (List.mem_map.mpr ⟨_, ps.mem_iff.mpr hx, rfl⟩))).1, ?_⟩
    have hx' := ps.mem_iff.mpr hx
    have h1 := W.so x hx'
    refine ⟨h1.2.1, fun q hq => (h1.2.2.2.1 q hq).1, fun y hy => (W.no (.inr (.inl (W.sh x hx' y hy)))).1, fun y hy => (W.no (.inr (.inr (W.sk x hx' y hy)))).1, fun y hy => ?_⟩
    obtain ⟨m, hm, _⟩ := W.sg x hx' y hy
    exact (W.no (.inl (List.mem_map.mpr ⟨_, gt_mem hm, rfl⟩))).1
  · have := ps.length_eq; omega
  · have := ps.length_eq; omega
  refine c_cons (w_fld 0 (j_v 0) rfl T.c_Plan T.n_Plan_its_pipe (e_of (j_v 1)) (by decide)) (fun ρ1 M1 hx => ?_) (fun o n hx => by obtain ⟨_, _, e⟩ := hx; exact absurd e (n _ _))
  obtain ⟨_, rfl, e⟩ := hx
  cases e
  refine c_cons (w_fld 0 (j_v 0) rfl T.c_Plan T.n_Plan_its_houses (e_of (j_call G_ascending hr (ja_cons (j_v 2) ja_nil) (A 0 kh (by have := ph.length_eq; omega)))) (Nat.le_of_ble_eq_true rfl)) (fun ρ1 M1 hx => ?_) (fun o n hx => by obtain ⟨_, _, e⟩ := hx; exact absurd e (n _ _))
  obtain ⟨_, rfl, e⟩ := hx
  cases e
  refine c_cons (w_fld 0 (j_v 0) rfl T.c_Plan T.n_Plan_its_kinds (e_of (j_call G_ascending hr (ja_cons (j_v 3) ja_nil) (A 0 kk (by have := pk.length_eq; omega)))) (Nat.le_of_ble_eq_true rfl)) (fun ρ1 M1 hx => ?_) (fun o n hx => by obtain ⟨_, _, e⟩ := hx; exact absurd e (n _ _))
  obtain ⟨_, rfl, e⟩ := hx
  cases e
  refine c_cons (w_fld 0 (j_v 0) rfl T.c_Plan T.n_Plan_its_streams (e_of (j_call G_ascending hr (ja_cons (j_v 4) ja_nil) (A 0 ks (by have := ps.length_eq; omega)))) (Nat.le_of_ble_eq_true rfl)) (fun ρ1 M1 hx => ?_) (fun o n hx => by obtain ⟨_, _, e⟩ := hx; exact absurd e (n _ _))
  obtain ⟨_, rfl, e⟩ := hx
  cases e
  rw [← asc_eq W.nh ph, ← asc_eq W.nk pk, ← asc_eq W.ns ps]
  exact c_one (c_imS (w_expr (e_borO (i := 0) (j := 0) (C := "Plan") (j_meth0 (C := "Plan") G_need_sound hr T.c_Plan (j_v (d := planD p) 0) rfl ⟨p, W, rfl, rfl⟩) rfl)) fun o ho => ⟨_, ho⟩)
end
end K51
end
section
set_option Elab.async false
set_option linter.all false
set_option maxRecDepth 100000
set_option maxHeartbeats 4000000
/-! The walk: cuts. -/
namespace K51
open PySem PySem.Spec PyProof.Rows L2
def kD (k : Cut) : D := .tup [.tup (k.1.map D.str), .tup (k.2.map D.str)]
def least (p : Pa) (cs : Tb Int) (os : List Str) : T3 := match (cuts p cs os).map (fun k => ((csum p cs k, k.1, k.2) : T3)) with
  | t :: l => min3 t l
  | [] => (0, [], [])
theorem nd_len : ∀ {l m : List Str}, l.Nodup → (∀ x ∈ l, x ∈ m) → l.length ≤ m.length
  | [], _, _, _ => Nat.zero_le _
  | x :: r, m, nd, h => by
    have nd' := List.nodup_cons.mp nd
    have hx := h x List.mem_cons_self
    have ih := nd_len (l := r) (m := m.erase x) nd'.2 fun y hy => (List.mem_erase_of_ne (show y ≠ x from fun e => nd'.1 (e ▸ hy))).mpr (h y (List.mem_cons_of_mem _ hy))
    rw [List.length_erase_of_mem hx] at ih
    have : 0 < m.length := List.length_pos_of_mem hx
    rw [List.length_cons]
    omega
def csOk (p : Pa) (cs : Tb Int) : Prop := (keys cs).Nodup ∧ ∀ z ∈ keys cs, z ∈ keys p.st
def osOk (p : Pa) (os : List Str) : Prop := (∀ o ∈ os, o ∈ shared p) ∧ os.length ≤ 7
theorem isRead_of {p : Pa} {n : Str} {l : Pl} (h : pool p n = some l) : isRead p n = decide (l.m = "read") := by unfold isRead; rw [h]
theorem cr_of {p : Pa} {n : Str} {l : Pl} (h : pool p n = some l) : cr p n = l.c := by unfold cr; rw [h]
theorem shared_len {p : Pa} (W : WP p) : (shared p).length ≤ 7 := by
  have l1 := W.h3
  have l2 := W.k3
  unfold shared
  rw [srt_len]
  simp only [List.length_append, List.length_map, List.length_singleton]
  omega
theorem shared_ok {p : Pa} (W : WP p) {n : Str} (h : n ∈ shared p) : PyData.strOk n = true := by
  unfold shared at h
  rw [srt_mem] at h
  rcases List.mem_append.mp h with q | q
  · rcases List.mem_append.mp q with q | q
    · exact okN_ok (W.no (.inr (.inl q))).1
    · exact okN_ok (W.no (.inr (.inr q))).1
  · rw [List.mem_singleton.mp q]; decide +kernel
theorem rvl_sub {p : Pa} {n o : Str} (h : o ∈ rvl p n) : o ∈ shared p := (List.mem_filter.mp (List.mem_filter.mp h).1).1
theorem rvl_os {p : Pa} (W : WP p) {n : Str} : osOk p (rvl p n) := ⟨fun o h => rvl_sub h, Nat.le_trans (List.length_filter_le _ _) (Nat.le_trans (List.length_filter_le _ _) (shared_len W))⟩
theorem under_sub {p : Pa} {n z : Str} (h : z ∈ under p n) : z ∈ keys p.st := srt_mem.mp (List.mem_filter.mp h).1
theorem under_nd {p : Pa} (W : WP p) {n : Str} : (under p n).Nodup := ((srt_perm _).nodup_iff.mpr W.ns).sublist List.filter_sublist
theorem caps_keys {p : Pa} {l : List Str} {n : Str} : keys (caps p l n) = under p n := by
  unfold caps keys
  rw [List.map_map]
  exact List.map_id' _
theorem caps_ok {p : Pa} (W : WP p) {l : List Str} {n : Str} : csOk p (caps p l n) := by
  unfold csOk
  rw [caps_keys]
  exact ⟨under_nd W, fun z hz => under_sub hz⟩
theorem cs_len {p : Pa} (W : WP p) {cs : Tb Int} (h : csOk p cs) : cs.length ≤ 6 := by
  have l3 := W.s6
  have := nd_len h.1 h.2
  rw [List.length_map, List.length_map] at this
  omega
theorem st_ne {p : Pa} (W : WP p) {z : Str} {m : Sm} (h : gt p.st z = some m) : z ≠ "pipe" := (W.no (.inl (List.mem_map.mpr ⟨_, gt_mem h, rfl⟩))).2
theorem allp_len (l : List Str) : (allp l).length = 2 ^ l.length := by
  have : ∀ (l : List Str) (f : List (List Str)), (l.foldl (fun f n => f ++ f.map fun r => r ++ [n]) f).length = f.length * 2 ^ l.length := fun l => by
    induction l with
    | nil => intro f; simp
    | cons x r ih =>
      intro f
      rw [List.foldl_cons, ih, List.length_append, List.length_map, List.length_cons, Nat.pow_succ]
      rw [← Nat.two_mul, Nat.mul_comm 2, Nat.mul_assoc, Nat.mul_comm (2 ^ r.length)]
  rw [allp, this]
  simp
theorem allp_snoc (l : List Str) (n : Str) : allp (l ++ [n]) = allp l ++ (allp l).map fun r => r ++ [n] := by
  unfold allp
  rw [List.foldl_append]
  rfl
theorem allp_sl (l : List Str) : ∀ ps ∈ allp l, ps.Sublist l := by
  have : ∀ (l pre : List Str) (f : List (List Str)), (∀ ps ∈ f, ps.Sublist pre) → ∀ ps ∈ l.foldl (fun f n => f ++ f.map fun r => r ++ [n]) f, ps.Sublist (pre ++ l) := fun l => by
    induction l with
    | nil => intro pre f h; rw [List.append_nil]; exact h
    | cons y r ih =>
      intro pre f h
      rw [List.foldl_cons, show pre ++ y :: r = (pre ++ [y]) ++ r by simp]
      refine ih _ _ fun ps hp => ?_
      rcases List.mem_append.mp hp with q | q
      · exact (h ps q).trans (List.sublist_append_left _ _)
      · obtain ⟨r0, hr, rfl⟩ := List.mem_map.mp q
        exact (h r0 hr).append_right _
  exact fun ps hp => this l [] [[]] (fun ps hp => by rw [List.mem_singleton.mp hp]; exact List.Sublist.refl _) ps hp
theorem allp_sub (l : List Str) : ∀ ps ∈ allp l, ∀ x ∈ ps, x ∈ l := fun ps hp x hx => (allp_sl l ps hp).subset hx
theorem allp_all : ∀ {l ps : List Str}, ps.Sublist l → ps ∈ allp l := by
  have : ∀ {l ps : List Str}, ps.Sublist l → ∀ (f : List (List Str)) (pre : List Str), pre ∈ f → pre ++ ps ∈ l.foldl (fun f n => f ++ f.map fun r => r ++ [n]) f := by
    intro l ps h
    induction h with
    | slnil => intro f pre hp; rw [List.append_nil]; exact hp
    | cons y h ih => intro f pre hp; rw [List.foldl_cons]; exact ih _ _ (List.mem_append_left _ hp)
    | cons_cons y h ih =>
      intro f pre hp
      rw [List.foldl_cons]
      have := ih (f ++ f.map fun r => r ++ [y]) (pre ++ [y]) (List.mem_append_right _ (List.mem_map.mpr ⟨pre, hp, rfl⟩))
      rwa [List.append_assoc] at this
  exact @fun l ps h => this h [[]] [] (List.mem_singleton.mpr rfl)
theorem dec_nil {α : Type} [DecidableEq α] (l : List α) : decide (l = []) = l.isEmpty := by cases l <;> simp
section
variable {P : Program} {w : World} {K : PySem.W.Frag} {mg : Str → Option Value} {base : Heap}
def R_read_pools (ds : List D) (r : D) : Prop := ∃ p, WP p ∧ ds = [planD p] ∧ r = .lst ((rdp p).map D.str)
theorem ok_read_pools (T : Facts K mg) : OkG P w K mg base 4 "read_pools" ["plan"] (spD K R_read_pools) := by
  have G_shared := ok_shared (P := P) (w := w) (base := base) T
  have G_getitem := ok_getitem (P := P) (w := w) (base := base) T
  obtain ⟨fd, F⟩ := T.f_read_pools
  have hN : (["plan", "name"] : List Str).Nodup := by decide +kernel
  refine ⟨_, T.gread_pools, fn_D F (N := ["plan", "name"]) ⟨rfl, rfl, rfl, hN, rfl, by decide +kernel, by decide +kernel⟩ (fun ds d h => by obtain ⟨p, W, rfl, rfl⟩ := h; rfl) (fun _ _ _ _ _ _ us hl => match us, hl with | [_], _ => rfl) ?_⟩
  rintro ds r ⟨p, W, rfl, rfl⟩ cdv A0 outer0 s0 H0 E0 hr
  refine .inl (s_one (s_ret (j_lc (ls := shared p) (c := D.str) (f := D.str) (pr := isRead p) 1 hN (i_list (j_meth0 (C := "Plan") G_shared hr T.c_Plan (j_v (d := planD p) 0) rfl ⟨p, W, rfl, rfl⟩)) (fun n hn _ _ _ _ _ => tt_one ?_) fun n hn _ _ _ _ _ _ => j_v 1)))
  obtain ⟨l, hl⟩ := shared_pool W hn
  rw [isRead_of hl]
  exact t_c cd_eqS (j_ixT (j_is (j_subC (C := "Plan") G_getitem (getitem_fn T) hr (j_v (d := planD p) 0) (j_v 1) ⟨p, n, l, W, hl, rfl, rfl⟩) rfl) j_int rfl) j_str
def R_rivals (ds : List D) (r : D) : Prop := ∃ p n, WP p ∧ ds = [planD p, .str n] ∧ r = .lst ((rvl p n).map D.str)
theorem ok_rivals (T : Facts K mg) : OkG P w K mg base 5 "rivals" ["plan", "name"] (spD K R_rivals) := by
  have G_read_pools := ok_read_pools (P := P) (w := w) (base := base) T
  obtain ⟨fd, F⟩ := T.f_rivals
  have hN : (["plan", "name", "other"] : List Str).Nodup := by decide +kernel
  refine ⟨_, T.grivals, fn_D F (N := ["plan", "name", "other"]) ⟨rfl, rfl, rfl, hN, rfl, by decide +kernel, by decide +kernel⟩ (fun ds d h => by obtain ⟨p, n, W, rfl, rfl⟩ := h; rfl) (fun _ _ _ _ _ _ us hl => match us, hl with | [_, _], _ => rfl) ?_⟩
  rintro ds r ⟨p, n, W, rfl, rfl⟩ cdv A0 outer0 s0 H0 E0 hr
  exact .inl (s_one (s_ret (j_lc (ls := rdp p) (c := D.str) (f := D.str) (pr := fun o => !decide (o = n)) 2 hN (i_list (j_call G_read_pools hr (ja_cons (j_v 0) ja_nil) ⟨p, W, rfl, rfl⟩)) (fun n hn _ _ _ _ _ => tt_one (t_c cd_neS (j_v 2) (j_v 1))) fun n hn _ _ _ _ _ _ => j_v 2)))
def R_all_parts (ds : List D) (r : D) : Prop := ∃ l : List Str, l.length ≤ 7 ∧ ds = [.lst (l.map D.str)] ∧ r = .lst ((allp l).map fun ps => .tup (ps.map D.str))
theorem ok_all_parts (T : Facts K mg) : OkG P w K mg base 1 "all_parts" ["names"] (spD K R_all_parts) := by
  obtain ⟨fd, F⟩ := T.f_all_parts
  have hN : (["names", "found", "name", "part"] : List Str).Nodup := by decide +kernel
  refine ⟨_, T.gall_parts, fn_D F (N := ["names", "found", "name", "part"]) ⟨rfl, rfl, rfl, hN, rfl, by decide +kernel, by decide +kernel⟩ (fun ds d h => by obtain ⟨l, hl, rfl, rfl⟩ := h; rfl) (fun _ _ _ _ _ _ us hl => match us, hl with | [_], _ => rfl) ?_⟩
  rintro ds r ⟨l, hl, rfl, rfl⟩ cdv A0 outer0 s0 H0 E0 hr
  refine .inl (s_cons (s_set 1 hN (j_lst (ja_cons (j_tup ja_nil) ja_nil))) (s_cons (s_for (ls := l) (c := D.str) 2 (fun j => [some (.lst (l.map D.str)), some (.lst ((allp (l.take j)).map fun ps => .tup (ps.map D.str))), none, none]) hN hp_nox (i_list (j_v 0)) (by rw [List.take_zero]; exact leE_rf _) fun j n hn => ⟨_, s_one (s_set 1 hN (j_b (bd_addL ?_) (j_v 1) (j_lcm (ls := allp (l.take j)) (c := fun ps => .tup (ps.map D.str)) (f := fun ps => .tup (ps.map D.str ++ [.str n])) 3 hN (i_list (j_v 1)) fun ps hps _ _ _ _ _ => j_b (bd_addT ?_) (j_v 3) (j_tup (ja_cons (j_v 2) ja_nil))))), ?_⟩) (s_one (s_ret (j_is (j_v 1) (by rw [List.take_length]))))))
  · have h1 := allp_len (l.take j)
    have h2 : (l.take j).length ≤ 7 := by rw [List.length_take]; omega
    have h3 : 2 ^ (l.take j).length ≤ 2 ^ 7 := Nat.pow_le_pow_right (by decide) h2
    simp only [List.length_map]
    show _ ≤ 100000
    omega
  · have h1 := (allp_sl _ ps hps).length_le
    have h2 : (l.take j).length ≤ 7 := by rw [List.length_take]; omega
    simp only [List.length_map, List.length_singleton]
    show _ ≤ 100000
    omega
  · refine ⟨.inr rfl, .inr ?_, .inl rfl, .inr rfl, trivial⟩
    rw [show l.take (j + 1) = l.take j ++ [n] by rw [List.take_add_one, hn]; rfl, allp_snoc, List.map_append, List.map_map]
    congr 3
    refine List.map_congr_left fun ps _ => ?_
    show _ = D.tup ((ps ++ [n]).map D.str)
    rw [List.map_append]
    rfl
def R_holds_much (ds : List D) (r : D) : Prop := ∃ p z m b l, WP p ∧ gt p.st z = some m ∧ ds = [planD p, .str z, sqD b l] ∧ r = .bl (decide (z ∈ l) || m.g.isSome)
theorem cd_sq {X : Cx} {b : Bool} {l : List Str} {z : Str} : CD X .In (.str z) (sqD b l) (decide (z ∈ l)) := by
  cases b
  · exact cd_in
  · exact cd_int
theorem ok_holds_much (T : Facts K mg) : OkG P w K mg base 3 "holds_much" ["plan", "stream", "slow"] (spD K R_holds_much) := by
  have G_guide := ok_guide (P := P) (w := w) (base := base) T
  obtain ⟨fd, F⟩ := T.f_holds_much
  have hN : (["plan", "stream", "slow"] : List Str).Nodup := by decide +kernel
  refine ⟨_, T.gholds_much, fn_D F (N := ["plan", "stream", "slow"]) ⟨rfl, rfl, rfl, hN, rfl, by decide +kernel, by decide +kernel⟩ (fun ds d h => by obtain ⟨p, z, m, b, l, W, hm, rfl, rfl⟩ := h; rfl) (fun _ _ _ _ _ _ us hl => match us, hl with | [_, _, _], _ => rfl) ?_⟩
  rintro ds r ⟨p, z, m, b, l, W, hm, rfl, rfl⟩ cdv A0 outer0 s0 H0 E0 hr
  refine .inl (s_one (s_ret (j_is (j_or (j_c cd_sq (j_v 1) (j_v 2)) fun _ => j_one (j_c cd_notN (j_meth (C := "Plan") G_guide hr T.c_Plan (j_v (d := planD p) 0) rfl (ja_cons (j_v 1) ja_nil) ⟨p, z, m, W, hm, rfl, rfl⟩) j_non)) ?_)))
  rw [isN_ofO]
  cases m.g <;> rfl
def R_hold_of (ds : List D) (r : D) : Prop := ∃ p z b l, WP p ∧ z ∈ keys p.st ∧ ds = [planD p, .str z, sqD b l] ∧ r = .int (hold p l z)
theorem ok_hold_of (T : Facts K mg) : OkG P w K mg base 4 "hold_of" ["plan", "stream", "slow"] (spD K R_hold_of) := by
  have G_holds_much := ok_holds_much (P := P) (w := w) (base := base) T
  have G_getitem := ok_getitem (P := P) (w := w) (base := base) T
  have G_most := ok_most (P := P) (w := w) (base := base) T
  obtain ⟨fd, F⟩ := T.f_hold_of
  have hN : (["plan", "stream", "slow", "most"] : List Str).Nodup := by decide +kernel
  refine ⟨_, T.ghold_of, fn_D F (N := ["plan", "stream", "slow", "most"]) ⟨rfl, rfl, rfl, hN, rfl, by decide +kernel, by decide +kernel⟩ (fun ds d h => by obtain ⟨p, z, b, l, W, hz, rfl, rfl⟩ := h; rfl) (fun _ _ _ _ _ _ us hl => match us, hl with | [_, _, _], _ => rfl) ?_⟩
  rintro ds r ⟨p, z, b, l, W, hz, rfl, rfl⟩ cdv A0 outer0 s0 H0 E0 hr
  obtain ⟨m, hm⟩ := gt_in hz
  have e : hold p l z = if (decide (z ∈ l) || m.g.isSome) = true then m.c else match m.q with | some q => q - 1 | none => 0 := by simp only [hold, hm] <;> rfl
  rw [e]
  cases hc : (decide (z ∈ l) || m.g.isSome) with
  | true => exact .inl (s_grd (c := true) (t_is (t_v (j_call G_holds_much hr (ja_cons (j_v 0) (ja_cons (j_v 1) (ja_cons (j_v 2) ja_nil))) ⟨p, z, m, b, l, W, hm, rfl, rfl⟩)) hc) (fun _ => s_one (s_ret (j_ixT (j_is (j_subC (C := "Plan") G_getitem (getitem_fn T) hr (j_v (d := planD p) 0) (j_v 1) ⟨p, z, _, W, pool_st (st_ne W hm) hm, rfl, rfl⟩) rfl) j_int rfl))) nofun)
  | false =>
    refine .inl (s_no (t_is (t_v (j_call G_holds_much hr (ja_cons (j_v 0) (ja_cons (j_v 1) (ja_cons (j_v 2) ja_nil))) ⟨p, z, m, b, l, W, hm, rfl, rfl⟩)) hc) (s_cons (s_set 3 hN (j_meth (C := "Plan") G_most hr T.c_Plan (j_v (d := planD p) 0) rfl (ja_cons (j_v 1) ja_nil) ⟨p, z, m, W, hm, rfl, rfl⟩)) (s_one (s_ret ?_))))
    cases hq : m.q with
    | none => exact j_if (p := true) (t_is (t_c cd_isN (j_v (d := .non) 3) j_non) rfl) (fun _ => j_int) nofun
    | some q => exact j_if (p := false) (t_is (t_c cd_isN (j_v (d := .int q) 3) j_non) rfl) nofun fun _ => j_b bd_subI (j_v (d := .int q) 3) j_int
def R_caps_of (ds : List D) (r : D) : Prop := ∃ p n l b sl, WP p ∧ pool p n = some l ∧ ds = [planD p, .str n, sqD b sl] ∧ r = .dct (dT D.int (caps p sl n))
theorem ok_caps_of (T : Facts K mg) : OkG P w K mg base 5 "caps_of" ["plan", "name", "slow"] (spN K R_caps_of) := by
  have G_hold_of := ok_hold_of (P := P) (w := w) (base := base) T
  have G_under := ok_under (P := P) (w := w) (base := base) T
  obtain ⟨fd, F⟩ := T.f_caps_of
  have hN : (["plan", "name", "slow", "stream"] : List Str).Nodup := by decide +kernel
  refine ⟨_, T.gcaps_of, fn_N F (N := ["plan", "name", "slow", "stream"]) ⟨rfl, rfl, rfl, hN, rfl, by decide +kernel, by decide +kernel⟩ (fun ds d h => by obtain ⟨p, n, l, b, sl, W, hl, rfl, rfl⟩ := h; rfl) (fun _ _ _ _ _ _ us hl => match us, hl with | [_, _, _], _ => rfl) ?_⟩
  rintro ds r ⟨p, n, l, b, sl, W, hl, rfl, rfl⟩ cdv A0 outer0 s0 H0 E0 hr
  refine c_one (c_imS (w_rtE (n_dict (fr_dc (ls := under p n) (c := D.str) (kf := fun z => z) (f := fun z => .int (hold p sl z)) 3 hN (i_list (j_meth (C := "Plan") G_under hr T.c_Plan (j_v (d := planD p) 0) rfl (ja_cons (j_v 1) ja_nil) ⟨p, n, l, W, hl, rfl, rfl⟩)) ?_ (fun z hz _ _ _ _ _ => j_v 3) fun z hz _ _ _ _ _ => j_call G_hold_of hr (ja_cons (j_v 0) (ja_cons (j_v 3) (ja_cons (j_v 2) ja_nil))) ⟨p, z, b, sl, W, under_sub hz, rfl, rfl⟩))) fun o ho => ?_)
  · rw [List.map_id']; exact under_nd W
  · obtain ⟨d, rfl, e⟩ := ho
    rw [e]
    unfold dT caps
    rw [List.map_map]
    rfl
/-- what each stream stands under -/
def reachD (p : Pa) (ks : List Str) : D := .dct (dT (fun l => .lst (l.map D.str)) (ks.map fun z => (z, over p z)))
theorem gt_tab {α : Type} {F : Str → α} {k : Str} : ∀ {ks : List Str}, k ∈ ks → gt (ks.map fun z => (z, F z)) k = some (F k)
  | x :: r, h => by
    rw [List.map_cons, gt_cons]
    by_cases e : x = k
    · rw [if_pos e, e]
    · rw [if_neg e]
      exact gt_tab ((List.mem_cons.mp h).elim (fun q => absurd q.symm e) id)
theorem gi_of {cs : Tb Int} {k : Str} (h : k ∈ keys cs) : gt cs k = some (gi cs k) := by
  obtain ⟨v, hv⟩ := gt_in h
  unfold gi
  rw [hv]
  rfl
def R_left_over (ds : List D) (r : D) : Prop := ∃ p cs ps, csOk p cs ∧ cs.length ≤ 6 ∧ okS ps ∧ ps.length ≤ 7 ∧ ds = [reachD p (keys cs), .dct (dT D.int cs), .tup (ps.map D.str)] ∧ r = .tup ((left p cs ps).map D.str)
theorem ok_left_over (T : Facts K mg) : OkG P w K mg base 1 "left_over" ["reach", "caps", "pools"] (spD K R_left_over) := by
  obtain ⟨fd, F⟩ := T.f_left_over
  have hN : (["reach", "caps", "pools", "found", "stream", "pool"] : List Str).Nodup := by decide +kernel
  refine ⟨_, T.gleft_over, fn_W F (N := ["reach", "caps", "pools", "found", "stream", "pool"]) ⟨rfl, rfl, rfl, hN, rfl, by decide +kernel, by decide +kernel⟩ (fun ds d h => by obtain ⟨p, cs, ps, hcs, hl, ho, hp, rfl, rfl⟩ := h; rfl) (fun _ _ _ _ _ _ us hl => match us, hl with | [_, _, _], _ => rfl) ?_⟩
  rintro ds r ⟨p, cs, ps, hcs, hl, ho, hp, rfl, rfl⟩ cdv A0 outer0 s0 H0 E0 hr
  refine c_new 3 hN n_nil fun q d hd => ?_
  subst hd
  let F : Str → Bool := fun z => decide (0 < gi cs z) && (ps.filter fun n => decide (n ∈ over p z)).isEmpty
  refine c_cons (w_for1 (ls := srt (keys cs)) (c := D.str) 4 (fun j ρ1 M1 => ∃ x, ρ1 = [some (reachD p (keys cs)), some (.dct (dT D.int cs)), some (.tup (ps.map D.str)), some (.own q), x, none] ∧ M1 = [(q, .lst ((((srt (keys cs)).take j).filter F).map D.str))]) hN hp_nox (i_list (j_f (bf_sortT' rfl (by omega)) T.b_sorted (ja_cons (j_v 1) ja_nil))) ⟨_, leE_rf _, _, rfl, by rw [List.take_zero]; rfl⟩ ?_) (fun ρ1 M1 hx => ?_) (fun o n hx => by obtain ⟨_, _, _, e⟩ := hx; exact absurd e (n _ _))
  · rintro j z hz ρ1 M1 ⟨x, rfl, rfl⟩
    have hk : z ∈ keys cs := srt_mem.mp (List.mem_of_getElem? hz)
    have tk : (srt (keys cs)).take (j + 1) = (srt (keys cs)).take j ++ [z] := by rw [List.take_add_one, hz]; rfl
    have test : ∀ {Y : Cx}, True := trivial
    cases hF : F z with
    | true =>
      refine c_one (w_if (Φb := (· = true)) (te_of (t_is (PW.pt (w_and (t_c cd_gt (j_at hr (gi_of hk) (j_v 1) (j_v 4)) j_int) fun _ => w_and1 (t_c (cd_eqL (l := ps.filter fun n => decide (n ∈ over p z)) (m := []) hr (fun x hx => ho x (List.mem_filter.mp hx).1) nofun) (j_lc (ls := ps) (c := D.str) (f := D.str) (pr := fun n => decide (n ∈ over p z)) 5 hN (i_tup (j_v 2)) (fun n hn _ _ _ _ _ => tt_one (t_c cd_in (j_v 5) (j_at (f := fun l => .lst (l.map D.str)) (l := (keys cs).map fun z => (z, over p z)) hr (gt_tab hk) (j_v 0) (j_v 4)))) fun n hn _ _ _ _ _ _ => j_v 5) (j_lst ja_nil)))) (by rw [dec_nil]; exact hF))) (fun _ => c_one (c_imS (w_app 3 0 (j_v 3) rfl (e_of (j_v 4)) ?_) fun o ho => ?_)) (fun e => by cases e))
      · have h1 : ((((srt (keys cs)).take j).filter F).map D.str).length ≤ cs.length := by
          rw [List.length_map]
          refine Nat.le_trans (List.length_filter_le _ _) (Nat.le_trans (List.length_take_le' _ _) ?_)
          rw [srt_len, List.length_map]
          exact Nat.le_refl _
        show _ ≤ 100000
        omega
      · obtain ⟨_, ⟨_, rfl, rfl⟩, e⟩ := ho
        refine ⟨_, _, _, e, leE_rf _, _, rfl, ?_⟩
        rw [tk, List.filter_append, List.filter_cons_of_pos hF, List.map_append]
        rfl
    | false =>
      refine c_one (w_if (Φb := (· = false)) (te_of (t_is (PW.pt (w_and (t_c cd_gt (j_at hr (gi_of hk) (j_v 1) (j_v 4)) j_int) fun _ => w_and1 (t_c (cd_eqL (l := ps.filter fun n => decide (n ∈ over p z)) (m := []) hr (fun x hx => ho x (List.mem_filter.mp hx).1) nofun) (j_lc (ls := ps) (c := D.str) (f := D.str) (pr := fun n => decide (n ∈ over p z)) 5 hN (i_tup (j_v 2)) (fun n hn _ _ _ _ _ => tt_one (t_c cd_in (j_v 5) (j_at (f := fun l => .lst (l.map D.str)) (l := (keys cs).map fun z => (z, over p z)) hr (gt_tab hk) (j_v 0) (j_v 4)))) fun n hn _ _ _ _ _ _ => j_v 5) (j_lst ja_nil)))) (by rw [dec_nil]; exact hF))) (fun e => by cases e) (fun _ => c_nil ⟨_, _, _, rfl, leE_rf _, _, rfl, ?_⟩))
      rw [tk, List.filter_append, List.filter_cons_of_neg (by rw [hF]; exact Bool.false_ne_true), List.filter_nil, List.append_nil]
  · obtain ⟨ρ', M', ⟨x, rfl, rfl⟩, e⟩ := hx
    cases e
    refine c_relL 3 0 (c_one (c_imS (w_pr (s_ret (j_f bf_tupL T.b_tuple (ja_cons (j_v 3) ja_nil)))) fun o ho => .inl ?_))
    rw [ho, List.take_of_length_le (Nat.le_of_eq rfl)]
    rfl
end
end K51
end
section
set_option Elab.async false
set_option linter.all false
set_option maxRecDepth 100000
set_option maxHeartbeats 4000000
/-! The walk: least cuts, fills, covers. -/
namespace K51
open PySem PySem.Spec PyProof.Rows L2
section
variable {P : Program} {w : World} {K : PySem.W.Frag} {mg : Str → Option Value} {base : Heap}
theorem left_sub {p : Pa} {cs : Tb Int} {ps : List Str} {z : Str} (h : z ∈ left p cs ps) : z ∈ keys cs := srt_mem.mp (List.mem_filter.mp h).1
theorem okS_of {p : Pa} (W : WP p) {os ps : List Str} (h : osOk p os) (hp : ps ∈ allp os) : okS ps ∧ ps.length ≤ 7 := ⟨fun x hx => shared_ok W (h.1 x (allp_sub os ps hp x hx)), Nat.le_trans (allp_sl os ps hp).length_le h.2⟩
theorem okS_left {p : Pa} (W : WP p) {cs : Tb Int} (h : csOk p cs) {ps : List Str} : okS (left p cs ps) := fun x hx => okN_ok (W.no (.inl (h.2 x (left_sub hx)))).1
def R_all_cuts (ds : List D) (r : D) : Prop := ∃ p cs os, WP p ∧ csOk p cs ∧ osOk p os ∧ ds = [planD p, .dct (dT D.int cs), .lst (os.map D.str)] ∧ r = .lst ((cuts p cs os).map kD)
theorem ok_all_cuts (T : Facts K mg) : OkG P w K mg base 3 "all_cuts" ["plan", "caps", "others"] (spD K R_all_cuts) := by
  have G_left_over := ok_left_over (P := P) (w := w) (base := base) T
  have G_all_parts := ok_all_parts (P := P) (w := w) (base := base) T
  have G_over := ok_over (P := P) (w := w) (base := base) T
  obtain ⟨fd, F⟩ := T.f_all_cuts
  have hN : (["plan", "caps", "others", "reach", "stream", "pools"] : List Str).Nodup := by decide +kernel
  refine ⟨_, T.gall_cuts, fn_D F (N := ["plan", "caps", "others", "reach", "stream", "pools"]) ⟨rfl, rfl, rfl, hN, rfl, by decide +kernel, by decide +kernel⟩ (fun ds d h => by obtain ⟨p, cs, os, W, hcs, hos, rfl, rfl⟩ := h; rfl) (fun _ _ _ _ _ _ us hl => match us, hl with | [_, _, _], _ => rfl) ?_⟩
  rintro ds r ⟨p, cs, os, W, hcs, hos, rfl, rfl⟩ cdv A0 outer0 s0 H0 E0 hr
  refine .inl (s_cons (s_set 3 hN (j_is (d' := reachD p (keys cs)) (j_fz (fr_dc (ls := keys cs) (c := D.str) (kf := fun z => z) (f := fun z => .lst ((over p z).map D.str)) 4 hN (i_keysT (j_v 1)) ?_ (fun z hz _ _ _ _ _ => j_v 4) fun z hz _ _ _ _ _ => j_meth (C := "Plan") G_over hr T.c_Plan (j_v (d := planD p) 0) rfl (ja_cons (j_v 4) ja_nil) ⟨p, z, W, hcs.2 z hz, rfl, rfl⟩)) ?_)) (s_one (s_ret (j_is (j_lcm (ls := allp os) (c := fun ps => .tup (ps.map D.str)) (f := fun ps => .tup [.tup (ps.map D.str), .tup ((left p cs ps).map D.str)]) 5 hN (i_list (j_call G_all_parts hr (ja_cons (j_v 2) ja_nil) ⟨os, hos.2, rfl, rfl⟩)) fun ps hps _ _ _ _ _ => j_tup (ja_cons (j_v 5) (ja_cons (j_call G_left_over hr (ja_cons (j_v 3) (ja_cons (j_v 1) (ja_cons (j_v 5) ja_nil))) ⟨p, cs, ps, hcs, cs_len W hcs, (okS_of W hos hps).1, (okS_of W hos hps).2, rfl, rfl⟩) ja_nil))) ?_))))
  · rw [List.map_id']; exact hcs.1
  · unfold reachD dT; simp only [List.map_map]; rfl
  · unfold cuts; rw [List.map_map]; rfl
def R_cut_sum (ds : List D) (r : D) : Prop := ∃ p cs k, WP p ∧ (∀ n ∈ k.1, n ∈ shared p) ∧ (∀ z ∈ k.2, z ∈ keys cs) ∧ ds = [planD p, .dct (dT D.int cs), kD k] ∧ r = .int (csum p cs k)
theorem ok_cut_sum (T : Facts K mg) : OkG P w K mg base 4 "cut_sum" ["plan", "caps", "cut"] (spD K R_cut_sum) := by
  have G_getitem := ok_getitem (P := P) (w := w) (base := base) T
  obtain ⟨fd, F⟩ := T.f_cut_sum
  have hN : (["plan", "caps", "cut", "pool", "stream"] : List Str).Nodup := by decide +kernel
  refine ⟨_, T.gcut_sum, fn_D F (N := ["plan", "caps", "cut", "pool", "stream"]) ⟨rfl, rfl, rfl, hN, rfl, by decide +kernel, by decide +kernel⟩ (fun ds d h => by obtain ⟨p, cs, ⟨k1, k2⟩, W, h1, h2, rfl, rfl⟩ := h; rfl) (fun _ _ _ _ _ _ us hl => match us, hl with | [_, _, _], _ => rfl) ?_⟩
  rintro ds r ⟨p, cs, ⟨k1, k2⟩, W, h1, h2, rfl, rfl⟩ cdv A0 outer0 s0 H0 E0 hr
  refine .inl (s_one (s_ret (j_b bd_addI (j_f (bf_sum (ns := k1.map (cr p)) rfl) T.b_sum (ja_cons (j_is (j_lcm (ls := k1) (c := D.str) (f := fun n => .int (cr p n)) 3 hN (i_tup (j_ixT (j_v (d := kD (k1, k2)) 2) j_int rfl)) fun n hn _ _ _ _ _ => ?_) (by rw [List.map_map]; rfl)) ja_nil)) (j_f (bf_sum (ns := k2.map (gi cs)) rfl) T.b_sum (ja_cons (j_is (j_lcm (ls := k2) (c := D.str) (f := fun z => .int (gi cs z)) 4 hN (i_tup (j_ixT (j_v (d := kD (k1, k2)) 2) j_int rfl)) fun z hz _ _ _ _ _ => j_at hr (gi_of (h2 z hz)) (j_v 1) (j_v 4)) (by rw [List.map_map]; rfl)) ja_nil)))))
  obtain ⟨l, hl⟩ := shared_pool W (h1 n hn)
  rw [cr_of hl]
  exact j_ixT (j_is (j_subC (C := "Plan") G_getitem (getitem_fn T) hr (j_v (d := planD p) 0) (j_v 3) ⟨p, n, l, W, hl, rfl, rfl⟩) rfl) j_int rfl
theorem cuts_mem {p : Pa} {cs : Tb Int} {os : List Str} {k : Cut} (h : k ∈ cuts p cs os) : ∃ ps ∈ allp os, k = (ps, left p cs ps) := by
  obtain ⟨ps, hps, rfl⟩ := List.mem_map.mp h
  exact ⟨ps, hps, rfl⟩
theorem allp_ne (os : List Str) : allp os ≠ [] := List.ne_nil_of_mem (allp_all (List.nil_sublist os))
def R_least_cut (ds : List D) (r : D) : Prop := ∃ p cs os, WP p ∧ csOk p cs ∧ osOk p os ∧ ds = [planD p, .dct (dT D.int cs), .lst (os.map D.str)] ∧ r = t3D (least p cs os)
theorem ok_least_cut (T : Facts K mg) : OkG P w K mg base 5 "least_cut" ["plan", "caps", "others"] (spD K R_least_cut) := by
  have G_all_cuts := ok_all_cuts (P := P) (w := w) (base := base) T
  have G_cut_sum := ok_cut_sum (P := P) (w := w) (base := base) T
  obtain ⟨fd, F⟩ := T.f_least_cut
  have hN : (["plan", "caps", "others", "cut"] : List Str).Nodup := by decide +kernel
  refine ⟨_, T.gleast_cut, fn_D F (N := ["plan", "caps", "others", "cut"]) ⟨rfl, rfl, rfl, hN, rfl, by decide +kernel, by decide +kernel⟩ (fun ds d h => by obtain ⟨p, cs, os, W, hcs, hos, rfl, rfl⟩ := h; rfl) (fun _ _ _ _ _ _ us hl => match us, hl with | [_, _, _], _ => rfl) ?_⟩
  rintro ds r ⟨p, cs, os, W, hcs, hos, rfl, rfl⟩ cdv A0 outer0 s0 H0 E0 hr
  have ne : (cuts p cs os).map (fun k => ((csum p cs k, k.1, k.2) : T3)) ≠ [] := fun h => allp_ne os (List.map_eq_nil_iff.mp (List.map_eq_nil_iff.mp h))
  obtain ⟨t, l, e⟩ := List.exists_cons_of_ne_nil ne
  have el : least p cs os = min3 t l := by unfold least; rw [e]
  rw [el]
  refine .inl (s_one (s_ret (j_f (bf_min3 hr ?_) T.b_min (ja_cons (j_is (j_lcm (ls := cuts p cs os) (c := kD) (f := fun k => t3D (csum p cs k, k.1, k.2)) 3 hN (i_list (j_call G_all_cuts hr (ja_cons (j_v 0) (ja_cons (j_v 1) (ja_cons (j_v 2) ja_nil))) ⟨p, cs, os, W, hcs, hos, rfl, rfl⟩)) fun k hk _ _ _ _ _ => ?_) ?_) ja_nil))))
  · rw [← e]
    intro u hu
    obtain ⟨k, hk, rfl⟩ := List.mem_map.mp hu
    obtain ⟨ps, hps, rfl⟩ := cuts_mem hk
    exact ⟨(okS_of W hos hps).1, okS_left W hcs⟩
  · obtain ⟨ps, hps, rfl⟩ := cuts_mem hk
    exact j_is (j_b (bd_addT (Nat.le_of_ble_eq_true rfl)) (j_tup (ja_cons (j_call G_cut_sum hr (ja_cons (j_v 0) (ja_cons (j_v 1) (ja_cons (j_v 3) ja_nil))) ⟨p, cs, (ps, left p cs ps), W, fun n hn => hos.1 n (allp_sub os ps hps n hn), fun z hz => left_sub hz, rfl, rfl⟩) ja_nil)) (j_v (d := kD (ps, left p cs ps)) 3)) rfl
  · rw [← e, List.map_map]; rfl
def R_check_slow (ds : List D) (r : D) : Prop := ∃ p b l, WP p ∧ WS p l ∧ ds = [planD p, sqD b l] ∧ r = .non
theorem ok_check_slow (T : Facts K mg) : OkG P w K mg base 2 "check_slow" ["plan", "slow"] (spD K R_check_slow) := by
  have G_streams := ok_streams (P := P) (w := w) (base := base) T
  have G_guides := ok_guides (P := P) (w := w) (base := base) T
  obtain ⟨fd, F⟩ := T.f_check_slow
  have hN : (["plan", "slow", "streams", "guides", "wrong", "name"] : List Str).Nodup := by decide +kernel
  refine ⟨_, T.gcheck_slow, fn_D F (N := ["plan", "slow", "streams", "guides", "wrong", "name"]) ⟨rfl, rfl, rfl, hN, rfl, by decide +kernel, by decide +kernel⟩ (fun ds d h => by obtain ⟨p, b, l, W, S, rfl, rfl⟩ := h; rfl) (fun _ _ _ _ _ _ us hl => match us, hl with | [_, _], _ => rfl) ?_⟩
  rintro ds r ⟨p, b, l, W, S, rfl, rfl⟩ cdv A0 outer0 s0 H0 E0 hr
  have l3 := W.s6
  have l4 := S.len
  refine .inr ⟨rfl, _, s_cons (s_un2 2 3 hN (j_tup (ja_cons (j_meth0 (C := "Plan") G_streams hr T.c_Plan (j_v (d := planD p) 0) rfl ⟨p, W, rfl, rfl⟩) (ja_cons (j_meth0 (C := "Plan") G_guides hr T.c_Plan (j_v (d := planD p) 0) rfl ⟨p, W, rfl, rfl⟩) ja_nil)))) (s_cons (s_setLc (ls := l) (c := D.str) (pr := fun _ => false) (f := D.str) 4 5 hN (i_sq (j_v 1)) (fun z hz _ _ _ _ _ => tt_one (t_is (PW.pt (w_or (t_c cd_nin (j_v 5) (j_v 2)) fun _ => w_or1 (t_c cd_in (j_v 5) (j_v 3)))) ?_)) fun z hz h => by cases h) (s_no (t_is (PW.pt (w_or (t_c (cd_neL (l := []) (m := []) hr nofun nofun) (j_is (j_v 4) (by rw [filter_id fun _ _ => rfl])) (j_lst ja_nil)) fun _ => w_or (t_c cd_neI (j_lenSet T.b_len T.b_set (j_v 1) S.nd (by omega)) (j_f bf_lenSq T.b_len (ja_cons (j_v 1) ja_nil))) fun _ => w_or1 (t_c cd_eqI (j_f bf_lenSq T.b_len (ja_cons (j_v 1) ja_nil)) (j_f bf_lenL T.b_len (ja_cons (j_v 2) ja_nil))))) ?_) s_nil))⟩
  · obtain ⟨h1, h2⟩ := S.mem z hz
    rw [decide_eq_true (srt_mem.mpr h1), decide_eq_false h2]
    rfl
  · rw [decide_eq_true rfl, decide_eq_true rfl, decide_eq_false (by rw [List.length_map, srt_len, List.length_map]; omega)]
    rfl
def R_check_pool (ds : List D) (r : D) : Prop := ∃ p n b l, WP p ∧ WS p l ∧ n ∈ rdp p ∧ ds = [planD p, .str n, sqD b l] ∧ r = .non
theorem ok_check_pool (T : Facts K mg) : OkG P w K mg base 5 "check_pool" ["plan", "name", "slow"] (spD K R_check_pool) := by
  have G_read_pools := ok_read_pools (P := P) (w := w) (base := base) T
  have G_check_slow := ok_check_slow (P := P) (w := w) (base := base) T
  obtain ⟨fd, F⟩ := T.f_check_pool
  have hN : (["plan", "name", "slow"] : List Str).Nodup := by decide +kernel
  refine ⟨_, T.gcheck_pool, fn_D F (N := ["plan", "name", "slow"]) ⟨rfl, rfl, rfl, hN, rfl, by decide +kernel, by decide +kernel⟩ (fun ds d h => by obtain ⟨p, n, b, l, W, S, hn, rfl, rfl⟩ := h; rfl) (fun _ _ _ _ _ _ us hl => match us, hl with | [_, _, _], _ => rfl) ?_⟩
  rintro ds r ⟨p, n, b, l, W, S, hn, rfl, rfl⟩ cdv A0 outer0 s0 H0 E0 hr
  exact .inr ⟨rfl, _, s_no (t_is (t_c cd_nin (j_v 1) (j_call G_read_pools hr (ja_cons (j_v 0) ja_nil) ⟨p, W, rfl, rfl⟩)) (by rw [decide_eq_true hn]; rfl)) (s_one (s_expr (j_call G_check_slow hr (ja_cons (j_v 0) (ja_cons (j_v 2) ja_nil)) ⟨p, b, l, W, S, rfl, rfl⟩)))⟩
def R_holds (ds : List D) (r : D) : Prop := ∃ p n b l, WP p ∧ WS p l ∧ n ∈ rdp p ∧ ds = [planD p, .str n, sqD b l] ∧ r = .dct (dT D.int (caps p l n))
theorem rdp_pool {p : Pa} (W : WP p) {n : Str} (h : n ∈ rdp p) : ∃ l, pool p n = some l := shared_pool W (List.mem_filter.mp h).1
theorem ok_holds (T : Facts K mg) : OkG P w K mg base 6 "holds" ["plan", "name", "slow"] (spN K R_holds) := by
  have G_check_pool := ok_check_pool (P := P) (w := w) (base := base) T
  have G_caps_of := ok_caps_of (P := P) (w := w) (base := base) T
  obtain ⟨fd, F⟩ := T.f_holds
  have hN : (["plan", "name", "slow"] : List Str).Nodup := by decide +kernel
  refine ⟨_, T.gholds, fn_N F (N := ["plan", "name", "slow"]) ⟨rfl, rfl, rfl, hN, rfl, by decide +kernel, by decide +kernel⟩ (fun ds d h => by obtain ⟨p, n, b, l, W, S, hn, rfl, rfl⟩ := h; rfl) (fun _ _ _ _ _ _ us hl => match us, hl with | [_, _, _], _ => rfl) ?_⟩
  rintro ds r ⟨p, n, b, l, W, S, hn, rfl, rfl⟩ cdv A0 outer0 s0 H0 E0 hr
  obtain ⟨q0, hq⟩ := rdp_pool W hn
  refine c_p (s_expr (j_call G_check_pool hr (ja_cons (j_v 0) (ja_cons (j_v 1) (ja_cons (j_v 2) ja_nil))) ⟨p, n, b, l, W, S, hn, rfl, rfl⟩)) (c_one (c_imS (w_rtE (n_dict (f_call G_caps_of hr (ja_cons (j_v 0) (ja_cons (j_v 1) (ja_cons (j_v 2) ja_nil))) ⟨p, n, q0, b, l, W, hq, rfl, rfl⟩))) fun o ho => ?_))
  obtain ⟨d, rfl, e⟩ := ho
  exact e
/-- the least cut, its streams' numbers as they are held -/
def best (p : Pa) (l : List Str) (n : Str) : T3 := least p (caps p l n) (rvl p n)
def R_filled (ds : List D) (r : D) : Prop := ∃ p n b l, WP p ∧ WS p l ∧ n ∈ rdp p ∧ ds = [planD p, .str n, sqD b l] ∧ r = .int (best p l n).1
theorem ok_filled (T : Facts K mg) : OkG P w K mg base 7 "filled" ["plan", "name", "slow"] (spD K R_filled) := by
  have G_holds := ok_holds (P := P) (w := w) (base := base) T
  have G_least_cut := ok_least_cut (P := P) (w := w) (base := base) T
  have G_rivals := ok_rivals (P := P) (w := w) (base := base) T
  obtain ⟨fd, F⟩ := T.f_filled
  have hN : (["plan", "name", "slow", "caps"] : List Str).Nodup := by decide +kernel
  refine ⟨_, T.gfilled, fn_D F (N := ["plan", "name", "slow", "caps"]) ⟨rfl, rfl, rfl, hN, rfl, by decide +kernel, by decide +kernel⟩ (fun ds d h => by obtain ⟨p, n, b, l, W, S, hn, rfl, rfl⟩ := h; rfl) (fun _ _ _ _ _ _ us hl => match us, hl with | [_, _, _], _ => rfl) ?_⟩
  rintro ds r ⟨p, n, b, l, W, S, hn, rfl, rfl⟩ cdv A0 outer0 s0 H0 E0 hr
  exact .inl (s_cons (s_set 3 hN (j_fz (f_call G_holds hr (ja_cons (j_v 0) (ja_cons (j_v 1) (ja_cons (j_v 2) ja_nil))) ⟨p, n, b, l, W, S, hn, rfl, rfl⟩))) (s_one (s_ret (j_ixT (j_is (j_call G_least_cut hr (ja_cons (j_v 0) (ja_cons (j_v 3) (ja_cons (j_call G_rivals hr (ja_cons (j_v 0) (ja_cons (j_v 1) ja_nil)) ⟨p, n, W, rfl, rfl⟩) ja_nil))) ⟨p, caps p l n, rvl p n, W, caps_ok W, rvl_os W, rfl, rfl⟩) rfl) j_int rfl))))
def R_cover (ds : List D) (r : D) : Prop := ∃ p n b l, WP p ∧ WS p l ∧ n ∈ rdp p ∧ ds = [planD p, .str n, sqD b l] ∧ r = kD (best p l n).2
theorem ok_cover (T : Facts K mg) : OkG P w K mg base 7 "cover" ["plan", "name", "slow"] (spD K R_cover) := by
  have G_holds := ok_holds (P := P) (w := w) (base := base) T
  have G_least_cut := ok_least_cut (P := P) (w := w) (base := base) T
  have G_rivals := ok_rivals (P := P) (w := w) (base := base) T
  obtain ⟨fd, F⟩ := T.f_cover
  have hN : (["plan", "name", "slow", "caps"] : List Str).Nodup := by decide +kernel
  refine ⟨_, T.gcover, fn_D F (N := ["plan", "name", "slow", "caps"]) ⟨rfl, rfl, rfl, hN, rfl, by decide +kernel, by decide +kernel⟩ (fun ds d h => by obtain ⟨p, n, b, l, W, S, hn, rfl, rfl⟩ := h; rfl) (fun _ _ _ _ _ _ us hl => match us, hl with | [_, _, _], _ => rfl) ?_⟩
  rintro ds r ⟨p, n, b, l, W, S, hn, rfl, rfl⟩ cdv A0 outer0 s0 H0 E0 hr
  exact .inl (s_cons (s_set 3 hN (j_fz (f_call G_holds hr (ja_cons (j_v 0) (ja_cons (j_v 1) (ja_cons (j_v 2) ja_nil))) ⟨p, n, b, l, W, S, hn, rfl, rfl⟩))) (s_one (s_ret (j_is (j_slT (j_is (j_call G_least_cut hr (ja_cons (j_v 0) (ja_cons (j_v 3) (ja_cons (j_call G_rivals hr (ja_cons (j_v 0) (ja_cons (j_v 1) ja_nil)) ⟨p, n, W, rfl, rfl⟩) ja_nil))) ⟨p, caps p l n, rvl p n, W, caps_ok W, rvl_os W, rfl, rfl⟩) rfl) (o_some j_int) o_none) rfl))))
def R_cover_sum (ds : List D) (r : D) : Prop := ∃ p n b l k, WP p ∧ WS p l ∧ n ∈ rdp p ∧ (∀ n ∈ k.1, n ∈ shared p) ∧ (∀ z ∈ k.2, z ∈ under p n) ∧ ds = [planD p, .str n, sqD b l, kD k] ∧ r = .int (csum p (caps p l n) k)
theorem ok_cover_sum (T : Facts K mg) : OkG P w K mg base 7 "cover_sum" ["plan", "name", "slow", "cover"] (spD K R_cover_sum) := by
  have G_holds := ok_holds (P := P) (w := w) (base := base) T
  have G_cut_sum := ok_cut_sum (P := P) (w := w) (base := base) T
  obtain ⟨fd, F⟩ := T.f_cover_sum
  have hN : (["plan", "name", "slow", "cover"] : List Str).Nodup := by decide +kernel
  refine ⟨_, T.gcover_sum, fn_D F (N := ["plan", "name", "slow", "cover"]) ⟨rfl, rfl, rfl, hN, rfl, by decide +kernel, by decide +kernel⟩ (fun ds d h => by obtain ⟨p, n, b, l, k, W, S, hn, h1, h2, rfl, rfl⟩ := h; rfl) (fun _ _ _ _ _ _ us hl => match us, hl with | [_, _, _, _], _ => rfl) ?_⟩
  rintro ds r ⟨p, n, b, l, k, W, S, hn, h1, h2, rfl, rfl⟩ cdv A0 outer0 s0 H0 E0 hr
  exact .inl (s_one (s_ret (j_call G_cut_sum hr (ja_cons (j_v 0) (ja_cons (j_fz (f_call G_holds hr (ja_cons (j_v 0) (ja_cons (j_v 1) (ja_cons (j_v 2) ja_nil))) ⟨p, n, b, l, W, S, hn, rfl, rfl⟩)) (ja_cons (j_v 3) ja_nil))) ⟨p, caps p l n, k, W, h1, by rw [caps_keys]; exact h2, rfl, rfl⟩)))
end
end K51
end
section
set_option Elab.async false
set_option linter.all false
set_option maxRecDepth 100000
set_option maxHeartbeats 4000000
/-! The walk: fill, is_fill, is_cover. -/
namespace K51
open PySem PySem.Spec PyProof.Rows L2
section
variable {X : Cx} {b : Option Addr} {M : Mem} {ρ : En} {e : Expr} {pos p : Pos} {q : Addr} {t : List (Str × D)} {j : Nat}
/-- dict(d), d owned -/
theorem n_copy (ha : PE X e (tJ X.K ρ (.own q))) (hM : M[j]? = some (q, .dct t)) (hm : X.mg "dict" = none) (hg : Gl X "dict" := by rfl) (he : starEach [e] X.env = (false, eval e X.env) :: starEach [] X.env := by rfl) (hpl : (backTo pos (starEach [] X.env)).any (·.1) = false := by rfl) :
    PE X (.Call (.Name "dict" p) [e] [] pos) (tN X.K b M ρ (· = .dct t)) :=
  (pe_callTy call_dictD hg hm boot_dict (ja_cons ha ja_nil he) (by decide) (by decide) he hpl).imp fun σ H Q ⟨L, e, env, ow, k⟩ => ⟨L, e, env, fun vs H1 L1 g1 r1 => by
    obtain ⟨v, vs2, rfl, r2, r3⟩ := r1.cons_
    obtain rfl := r3.nil_
    obtain rfl := r2.own_
    have o1 := ow.go g1
    obtain ⟨kvs, h1, r, z⟩ := (o1.sh _ (List.mem_of_getElem? hM)).dct_
    refine ⟨q, kvs, rfl, .inl h1, fun c hc => ?_⟩
    have hc0 : H c = none := by
      cases hh : H c with
      | none => rfl
      | some o => rw [g1.ex c o hh] at hc; cases hc
    have g : Go H L (upd H1 c (.dK kvs)) L1 := ⟨g1.ex.tr (ex_new hc), g1.lx, g1.sub.tr (ex_new hc), g1.old⟩
    exact k c _ L1 _ rfl g.gx (ow.go g) hc0 (free_sub g1.sub hc) (.dct upd_same r z)⟩
end
/-- an entry put -/
def tput (t : Tb Int) (k : Str) (v : Int) : Tb Int := t.map fun p => if p.1 = k then (p.1, v) else p
theorem tput_keys {t : Tb Int} {k : Str} {v : Int} : keys (tput t k v) = keys t := by
  unfold tput keys
  rw [List.map_map]
  refine List.map_congr_left fun p _ => ?_
  show (if p.1 = k then (p.1, v) else p).1 = p.1
  split <;> rfl
theorem dput_tput {t : Tb Int} {k : Str} {v : Int} (h : k ∈ keys t) : dput (dT D.int t) k (.int v) = dT D.int (tput t k v) := by
  unfold dput
  have e : ((dT D.int t).any fun p => decide (p.1 = k)) = true := by
    obtain ⟨p, hp, e⟩ := List.mem_map.mp h
    exact List.any_eq_true.mpr ⟨_, List.mem_map.mpr ⟨p, hp, rfl⟩, decide_eq_true e⟩
  rw [if_pos e]
  unfold dT tput
  rw [List.map_map, List.map_map]
  refine List.map_congr_left fun p _ => ?_
  show (if p.1 = k then (p.1, D.int v) else (p.1, D.int p.2)) = ((if p.1 = k then (p.1, v) else p).1, D.int (if p.1 = k then (p.1, v) else p).2)
  split <;> rfl
theorem tput_ok {p : Pa} {t : Tb Int} {k : Str} {v : Int} (h : csOk p t) : csOk p (tput t k v) := by
  unfold csOk
  rw [tput_keys]
  exact h
/-- one stream's number cut down -/
def fstep (p : Pa) (os : List Str) (bs : Int) (cs : Tb Int) (z : Str) : Tb Int := tput cs z (bs - (least p (tput cs z 0) os).1)
theorem fstep_keys {p : Pa} {os : List Str} {bs : Int} {cs : Tb Int} {z : Str} : keys (fstep p os bs cs z) = keys cs := tput_keys
def fillT (p : Pa) (l : List Str) (n : Str) : Tb Int := (srt (under p n)).foldl (fstep p (rvl p n) (best p l n).1) (caps p l n)
section
variable {P : Program} {w : World} {K : PySem.W.Frag} {mg : Str → Option Value} {base : Heap}
def R_fill (ds : List D) (r : D) : Prop := ∃ p n b l, WP p ∧ WS p l ∧ n ∈ rdp p ∧ ds = [planD p, .str n, sqD b l] ∧ r = .dct (dT D.int (fillT p l n))
theorem ok_fill (T : Facts K mg) : OkG P w K mg base 7 "fill" ["plan", "name", "slow"] (spN K R_fill) := by
  have G_holds := ok_holds (P := P) (w := w) (base := base) T
  have G_rivals := ok_rivals (P := P) (w := w) (base := base) T
  have G_least_cut := ok_least_cut (P := P) (w := w) (base := base) T
  obtain ⟨fd, F⟩ := T.f_fill
  have hN : (["plan", "name", "slow", "caps", "others", "best", "stream", "less"] : List Str).Nodup := by decide +kernel
  refine ⟨_, T.gfill, fn_N F (N := ["plan", "name", "slow", "caps", "others", "best", "stream", "less"]) ⟨rfl, rfl, rfl, hN, rfl, by decide +kernel, by decide +kernel⟩ (fun ds d h => by obtain ⟨p, n, b, l, W, S, hn, rfl, rfl⟩ := h; rfl) (fun _ _ _ _ _ _ us hl => match us, hl with | [_, _, _], _ => rfl) ?_⟩
  rintro ds r ⟨p, n, b, l, W, S, hn, rfl, rfl⟩ cdv A0 outer0 s0 H0 E0 hr
  have l6 := cs_len W (caps_ok W (l := l) (n := n))
  refine c_parN 3 4 hN (n_dict (f_call G_holds hr (ja_cons (j_v 0) (ja_cons (j_v 1) (ja_cons (j_v 2) ja_nil))) ⟨p, n, b, l, W, S, hn, rfl, rfl⟩)) (j_call G_rivals hr (ja_cons (j_v 0) (ja_cons (j_v 1) ja_nil)) ⟨p, n, W, rfl, rfl⟩) fun q d hd => ?_
  subst hd
  refine c_set 5 hN (e_borD (i := 3) (j := 0) (j_ixT (j_is (j_call G_least_cut hr (ja_cons (j_v 0) (ja_cons (j_v 3) (ja_cons (j_v 4) ja_nil))) ⟨p, caps p l n, rvl p n, W, caps_ok W, rvl_os W, rfl, rfl⟩) rfl) j_int rfl) rfl) fun d hd => ?_
  subst hd
  let bs : Int := (best p l n).1
  let st := fstep p (rvl p n) bs
  refine c_cons (w_for 6 (Φ := fun ds => ds = (srt (under p n)).map D.str) (fun ds j ρ1 M1 => ∃ x y cs, cs = ((srt (under p n)).take j).foldl st (caps p l n) ∧ keys cs = under p n ∧ csOk p cs ∧ ρ1 = [some (planD p), some (.str n), some (sqD b l), some (.own q), some (.lst ((rvl p n).map D.str)), some (.int bs), x, y] ∧ M1 = [(q, .dct (dT D.int cs))]) hN hp_nox (ie_list (e_im (e_borS (i := 3) (j := 0) (t := dT D.int (caps p l n)) (l := (srt (keys (caps p l n))).map D.str) (j_f (bf_sortT' rfl (by omega)) T.b_sorted (ja_cons (j_v 3) ja_nil)) (f2_strs _)) fun d hd => ⟨_, hd, by rw [caps_keys]⟩)) (fun ds hds => ⟨_, leE_rf _, none, none, caps p l n, by rw [List.take_zero]; rfl, caps_keys, caps_ok W, rfl, rfl⟩) ?_) (fun ρ1 M1 hx => ?_) (fun o n hx => by obtain ⟨_, _, _, _, _, e⟩ := hx; exact absurd e (n _ _))
  · rintro ds rfl j d hd ρ1 M1 ⟨x, y, cs, hcs, hk, ok, rfl, rfl⟩
    rw [List.getElem?_map] at hd
    cases hz : (srt (under p n))[j]? with
    | none => rw [hz] at hd; cases hd
    | some z =>
      rw [hz] at hd
      cases hd
      have zk : z ∈ keys cs := by rw [hk]; exact srt_mem.mp (List.mem_of_getElem? hz)
      have c6 := cs_len W ok
      have lz : (dT D.int cs).length + 1 ≤ lim := by rw [dT_len]; show _ ≤ 100000; omega
      refine c_new 7 hN (n_copy (j := 0) (j_v 3) rfl T.b_dict) fun q2 d hd => ?_
      subst hd
      refine c_cons (w_dput 7 0 hr (j_v 7) (j_v 6) rfl (e_of j_int) lz) (fun ρ1 M1 hx => ?_) (fun o n hx => by obtain ⟨_, _, e⟩ := hx; exact absurd e (n _ _))
      obtain ⟨_, rfl, e⟩ := hx
      cases e
      rw [dput_tput zk]
      refine c_relD 7 0 ?_
      refine c_one (c_imS (w_dput 3 0 hr (j_v 3) (j_v 6) rfl (e_of (j_b bd_subI (j_v 5) (j_ixT (j_is (j_call G_least_cut hr (ja_cons (j_v 0) (ja_cons (j_v 7) (ja_cons (j_v 4) ja_nil))) ⟨p, tput cs z 0, rvl p n, W, tput_ok ok, rvl_os W, rfl, rfl⟩) rfl) j_int rfl))) lz) fun o ho => ?_)
      obtain ⟨_, rfl, e⟩ := ho
      refine ⟨_, _, _, e, leE_rf _, _, _, st cs z, ?_, fstep_keys.trans hk, tput_ok ok, rfl, ?_⟩
      · rw [List.take_add_one, hz, List.foldl_append, ← hcs]; rfl
      · show [(q, D.dct (dput (dT D.int cs) z (.int _)))] = _
        rw [dput_tput zk]
        rfl
  · obtain ⟨ds, ρ', M', rfl, ⟨x, y, cs, hcs, hk, ok, rfl, rfl⟩, e⟩ := hx
    cases e
    rw [List.length_map, List.take_length] at hcs
    refine c_one (c_imS (w_rtn (x := "caps") 3 0 (j_v 3)) fun o ho => ?_)
    rw [ho, hcs]
    rfl
/-- th is a fill -/
structure isF (p : Pa) (l : List Str) (n : Str) (th : Tb Int) : Prop where
  nd : (keys th).Nodup
  mem : ∀ z, z ∈ keys th ↔ z ∈ under p n
  cap : ∀ z ∈ under p n, 0 ≤ gi th z ∧ gi th z ≤ hold p l z
  sum : ∀ o ∈ rvl p n, (((under p o).filter fun z => decide (z ∈ under p n)).map (gi th)).sum ≤ cr p o
theorem isF_len {p : Pa} (W : WP p) {l : List Str} {n : Str} {th : Tb Int} (F : isF p l n th) : th.length = (under p n).length := by
  have h1 := nd_len F.nd fun x hx => (F.mem x).mp hx
  have h2 := nd_len (under_nd W (n := n)) fun x hx => (F.mem x).mpr hx
  rw [List.length_map] at h1 h2
  omega
theorem gi_caps {p : Pa} {l : List Str} {n z : Str} (h : z ∈ under p n) : gi (caps p l n) z = hold p l z := by
  unfold gi caps
  rw [gt_tab h]
  rfl
def R_is_fill (ds : List D) (r : D) : Prop := ∃ p n b l th, WP p ∧ WS p l ∧ n ∈ rdp p ∧ isF p l n th ∧ ds = [planD p, .str n, sqD b l, .dct (dT D.int th)] ∧ r = .bl true
theorem ok_is_fill (T : Facts K mg) : OkG P w K mg base 7 "is_fill" ["plan", "name", "slow", "thing"] (spD K R_is_fill) := by
  have G_holds := ok_holds (P := P) (w := w) (base := base) T
  have G_is_number := ok_is_number (P := P) (w := w) (base := base) T
  have G_rivals := ok_rivals (P := P) (w := w) (base := base) T
  have G_under := ok_under (P := P) (w := w) (base := base) T
  have G_getitem := ok_getitem (P := P) (w := w) (base := base) T
  obtain ⟨fd, F⟩ := T.f_is_fill
  have hN : (["plan", "name", "slow", "thing", "caps", "stream", "other"] : List Str).Nodup := by decide +kernel
  refine ⟨_, T.gis_fill, fn_D F (N := ["plan", "name", "slow", "thing", "caps", "stream", "other"]) ⟨rfl, rfl, rfl, hN, rfl, by decide +kernel, by decide +kernel⟩ (fun ds d h => by obtain ⟨p, n, b, l, th, W, S, hn, F, rfl, rfl⟩ := h; rfl) (fun _ _ _ _ _ _ us hl => match us, hl with | [_, _, _, _], _ => rfl) ?_⟩
  rintro ds r ⟨p, n, b, l, th, W, S, hn, F, rfl, rfl⟩ cdv A0 outer0 s0 H0 E0 hr
  have fl := isF_len W F
  have cl : (caps p l n).length = (under p n).length := List.length_map _
  refine .inl (s_cons (s_set 4 hN (j_fz (f_call G_holds hr (ja_cons (j_v 0) (ja_cons (j_v 1) (ja_cons (j_v 2) ja_nil))) ⟨p, n, b, l, W, S, hn, rfl, rfl⟩))) (s_no (t_is (PW.pt (w_or (t_not (t_v (j_isi (j_v 3) rfl kit_dct boot_dict T.b_isinstance T.b_dict))) fun _ => w_or1 (t_c cd_neI (j_f bf_lenT' T.b_len (ja_cons (j_v 3) ja_nil)) (j_f bf_lenT' T.b_len (ja_cons (j_v 4) ja_nil))))) ?_) (s_cons (s_for (ls := keys (caps p l n)) (c := D.str) 5 (fun j => [some (planD p), some (.str n), some (sqD b l), some (.dct (dT D.int th)), some (.dct (dT D.int (caps p l n))), none, none]) hN hp_nox (i_keysT (j_v 4)) (leE_rf _) fun j z hz => ⟨_, s_one (s_if (c := false) ?_ nofun fun _ => s_nil), ?_⟩) (s_cons (s_for (ls := rvl p n) (c := D.str) 6 (fun j => [some (planD p), some (.str n), some (sqD b l), some (.dct (dT D.int th)), some (.dct (dT D.int (caps p l n))), none, none]) hN hp_nox (i_list (j_call G_rivals hr (ja_cons (j_v 0) (ja_cons (j_v 1) ja_nil)) ⟨p, n, W, rfl, rfl⟩)) (leE_rf _) fun j o ho => ⟨_, s_one (s_if (c := false) ?_ nofun fun _ => s_nil), ?_⟩) (s_one (s_ret j_bl))))))
  · rw [decide_eq_true (show (th.length : Int) = (caps p l n).length by rw [cl, fl])]; rfl
  · have zu : z ∈ under p n := caps_keys (l := l) ▸ List.mem_of_getElem? hz
    obtain ⟨c1, c2⟩ := F.cap z zu
    have zt : z ∈ keys th := (F.mem z).mpr zu
    have zc : z ∈ keys (caps p l n) := List.mem_of_getElem? hz
    refine t_is (PW.pt (w_or (t_c (cd_ninT2 hr) (j_v 5) (j_v 3)) fun _ => w_or (t_not (t_v (j_call G_is_number hr (ja_cons j_int (ja_cons (j_at hr (gi_of zt) (j_v 3) (j_v 5)) ja_nil)) ⟨0, gi th z, rfl, rfl⟩))) fun _ => w_or1 (t_c cd_gt (j_at hr (gi_of zt) (j_v 3) (j_v 5)) (j_at hr (gi_of zc) (j_v 4) (j_v 5))))) ?_
    rw [decide_eq_true zt, decide_eq_true c1, gi_caps zu, decide_eq_false (by omega)]
    rfl
  · exact ⟨.inr rfl, .inr rfl, .inr rfl, .inr rfl, .inr rfl, .inl rfl, .inr rfl, trivial⟩
  · have ho' := List.mem_of_getElem? ho
    obtain ⟨pl, hpl⟩ := shared_pool W (rvl_sub ho')
    refine t_is (t_c cd_gt (j_f (bf_sum (ns := ((under p o).filter fun z => decide (z ∈ under p n)).map (gi th)) rfl) T.b_sum (ja_cons (j_is (j_lc (ls := under p o) (c := D.str) (pr := fun z => decide (z ∈ under p n)) (f := fun z => .int (gi th z)) 5 hN (i_list (j_meth (C := "Plan") G_under hr T.c_Plan (j_v (d := planD p) 0) rfl (ja_cons (j_v 6) ja_nil) ⟨p, o, pl, W, hpl, rfl, rfl⟩)) (fun z hz _ _ _ _ _ => tt_one (t_is (t_c (cd_inT2 hr) (j_v 5) (j_v 4)) (by rw [caps_keys]))) fun z hz hp _ _ _ _ _ => j_at hr (gi_of ((F.mem z).mpr (of_decide_eq_true hp))) (j_v 3) (j_v 5)) (by rw [List.map_map]; rfl)) ja_nil)) (j_ixT (j_is (j_subC (C := "Plan") G_getitem (getitem_fn T) hr (j_v (d := planD p) 0) (j_v 6) ⟨p, o, pl, W, hpl, rfl, rfl⟩) rfl) j_int rfl)) ?_
    have := F.sum o ho'
    rw [cr_of hpl] at this
    exact decide_eq_false (by omega)
  · exact ⟨.inr rfl, .inr rfl, .inr rfl, .inr rfl, .inr rfl, .inr rfl, .inl rfl, trivial⟩
def R_are_some (ds : List D) (r : D) : Prop := ∃ l ns : List Str, (∀ x ∈ l, x ∈ ns) ∧ l.Pairwise leS ∧ l.Nodup ∧ l.length < 64 ∧ okS l ∧ ds = [.tup (l.map D.str), .lst (ns.map D.str)] ∧ r = .bl true
theorem ok_are_some (T : Facts K mg) : OkG P w K mg base 1 "are_some" ["thing", "names"] (spD K R_are_some) := by
  obtain ⟨fd, F⟩ := T.f_are_some
  have hN : (["thing", "names", "one"] : List Str).Nodup := by decide +kernel
  refine ⟨_, T.gare_some, fn_D F (N := ["thing", "names", "one"]) ⟨rfl, rfl, rfl, hN, rfl, by decide +kernel, by decide +kernel⟩ (fun ds d h => by obtain ⟨l, ns, h1, h2, h3, h4, h5, rfl, rfl⟩ := h; rfl) (fun _ _ _ _ _ _ us hl => match us, hl with | [_, _], _ => rfl) ?_⟩
  rintro ds r ⟨l, ns, h1, h2, h3, h4, h5, rfl, rfl⟩ cdv A0 outer0 s0 H0 E0 hr
  refine .inl (s_no (t_is (PW.pt (w_or (t_not (t_v (j_isi (j_v 0) rfl kit_tup boot_tuple T.b_isinstance T.b_tuple))) fun _ => w_or1 (t_c (cd_neNil hr) (j_lc0 (ls := l) (c := D.str) 2 hN (i_tup (j_v 0)) fun z hz _ _ _ _ _ => tt_one (t_is (t_c cd_nin (j_v 2) (j_v 1)) (by rw [decide_eq_true (h1 z hz)]; rfl))) (j_lst ja_nil)))) rfl) (s_one (s_ret (j_is (j_c (cd_eqL hr h5 ?_) (j_f bf_listT T.b_list (ja_cons (j_v 0) ja_nil)) (j_sortSet (b := true) T.b_sorted T.b_set (j_v 0) h3 h4)) ?_))))
  · rw [srt_id h2]; exact h5
  · rw [srt_id h2, decide_eq_true rfl]
/-- k is a cover -/
structure isC (p : Pa) (l : List Str) (n : Str) (k : Cut) : Prop where
  s1 : ∀ x ∈ k.1, x ∈ rvl p n
  s2 : ∀ x ∈ k.2, x ∈ under p n
  a1 : k.1.Pairwise leS
  a2 : k.2.Pairwise leS
  n1 : k.1.Nodup
  n2 : k.2.Nodup
  cov : ∀ z ∈ under p n, 0 < hold p l z → z ∈ k.2 ∨ ∃ o ∈ k.1, o ∈ over p z
def R_is_cover (ds : List D) (r : D) : Prop := ∃ p n b l k, WP p ∧ WS p l ∧ n ∈ rdp p ∧ isC p l n k ∧ ds = [planD p, .str n, sqD b l, kD k] ∧ r = .bl true
theorem ok_is_cover (T : Facts K mg) : OkG P w K mg base 7 "is_cover" ["plan", "name", "slow", "thing"] (spD K R_is_cover) := by
  have G_holds := ok_holds (P := P) (w := w) (base := base) T
  have G_are_some := ok_are_some (P := P) (w := w) (base := base) T
  have G_rivals := ok_rivals (P := P) (w := w) (base := base) T
  have G_under := ok_under (P := P) (w := w) (base := base) T
  have G_over := ok_over (P := P) (w := w) (base := base) T
  obtain ⟨fd, F⟩ := T.f_is_cover
  have hN : (["plan", "name", "slow", "thing", "caps", "stream", "pools", "pool"] : List Str).Nodup := by decide +kernel
  refine ⟨_, T.gis_cover, fn_D F (N := ["plan", "name", "slow", "thing", "caps", "stream", "pools", "pool"]) ⟨rfl, rfl, rfl, hN, rfl, by decide +kernel, by decide +kernel⟩ (fun ds d h => by obtain ⟨p, n, b, l, ⟨k1, k2⟩, W, S, hn, C, rfl, rfl⟩ := h; rfl) (fun _ _ _ _ _ _ us hl => match us, hl with | [_, _, _, _], _ => rfl) ?_⟩
  rintro ds r ⟨p, n, b, l, ⟨k1, k2⟩, W, S, hn, C, rfl, rfl⟩ cdv A0 outer0 s0 H0 E0 hr
  obtain ⟨pl, hpl⟩ := rdp_pool W hn
  have l1 : k1.length ≤ (rvl p n).length := nd_len C.n1 fun x hx => C.s1 x hx
  have l2 : k2.length ≤ (under p n).length := nd_len C.n2 fun x hx => C.s2 x hx
  have l3 := (rvl_os W (n := n)).2
  have l4 : (under p n).length ≤ 6 := Nat.le_trans (nd_len (under_nd W (n := n)) fun x hx => under_sub hx) (by rw [List.length_map]; exact W.s6)
  have ok1 : okS k1 := fun x hx => shared_ok W (rvl_sub (C.s1 x hx))
  have ok2 : okS k2 := fun x hx => okN_ok (W.no (.inl (under_sub (C.s2 x hx)))).1
  refine .inl (s_cons (s_set 4 hN (j_fz (f_call G_holds hr (ja_cons (j_v 0) (ja_cons (j_v 1) (ja_cons (j_v 2) ja_nil))) ⟨p, n, b, l, W, S, hn, rfl, rfl⟩))) (s_no (t_is (PW.pt (w_or (t_not (t_v (j_isi (d := kD (k1, k2)) (j_v 3) rfl kit_tup boot_tuple T.b_isinstance T.b_tuple))) fun _ => w_or1 (t_c cd_neI (j_f bf_lenT T.b_len (ja_cons (j_v 3) ja_nil)) j_int))) rfl) (s_no (t_is (PW.pt (w_or (t_not (t_v (j_call G_are_some hr (ja_cons (j_ixT (j_v (d := kD (k1, k2)) 3) j_int rfl) (ja_cons (j_call G_rivals hr (ja_cons (j_v 0) (ja_cons (j_v 1) ja_nil)) ⟨p, n, W, rfl, rfl⟩) ja_nil)) ⟨k1, rvl p n, C.s1, C.a1, C.n1, by omega, ok1, rfl, rfl⟩))) fun _ => w_or1 (t_not (t_v (j_call G_are_some hr (ja_cons (j_ixT (j_v (d := kD (k1, k2)) 3) j_int rfl) (ja_cons (j_meth (C := "Plan") G_under hr T.c_Plan (j_v (d := planD p) 0) rfl (ja_cons (j_v 1) ja_nil) ⟨p, n, pl, W, hpl, rfl, rfl⟩) ja_nil)) ⟨k2, under p n, C.s2, C.a2, C.n2, by omega, ok2, rfl, rfl⟩))))) rfl) (s_cons (s_for (ls := keys (caps p l n)) (c := D.str) 5 (fun j => [some (planD p), some (.str n), some (sqD b l), some (kD (k1, k2)), some (.dct (dT D.int (caps p l n))), none, none, none]) hN hp_nox (i_keysT (j_v 4)) (leE_rf _) fun j z hz => ⟨_, s_cons (s_setLc (ls := k1) (c := D.str) (f := D.str) (pr := fun o => decide (o ∈ over p z)) 6 7 hN (i_tup (j_ixT (j_v (d := kD (k1, k2)) 3) j_int rfl)) (fun o ho _ _ _ _ _ => tt_one (t_c cd_in (j_v 7) (j_meth (C := "Plan") G_over hr T.c_Plan (j_v (d := planD p) 0) rfl (ja_cons (j_v 5) ja_nil) ⟨p, z, W, under_sub (caps_keys (l := l) ▸ List.mem_of_getElem? hz), rfl, rfl⟩))) fun o ho hp _ _ _ _ _ => j_v 7) (s_one (s_if (c := false) ?_ nofun fun _ => s_nil)), ?_⟩) (s_one (s_ret j_bl))))))
  · have zu : z ∈ under p n := caps_keys (l := l) ▸ List.mem_of_getElem? hz
    have zc : z ∈ keys (caps p l n) := List.mem_of_getElem? hz
    refine t_is (PW.pt (w_and (t_c cd_gt (j_at hr (gi_of zc) (j_v 4) (j_v 5)) j_int) fun _ => w_and (t_c cd_nint (j_v 5) (j_ixT (j_v (d := kD (k1, k2)) 3) j_int rfl)) fun _ => w_and1 (t_c (cd_eqL (l := k1.filter fun o => decide (o ∈ over p z)) (m := []) hr (fun x hx => ok1 x (List.mem_filter.mp hx).1) nofun) (j_v 6) (j_lst ja_nil)))) ?_
    rw [gi_caps zu]
    by_cases h0 : 0 < hold p l z
    · rcases C.cov z zu h0 with h | ⟨o, h1, h2⟩
      · rw [decide_eq_true (show z ∈ k2 from h)]; simp
      · rw [decide_eq_false (show ¬ (k1.filter fun o => decide (o ∈ over p z)) = [] from List.ne_nil_of_mem (List.mem_filter.mpr ⟨h1, decide_eq_true h2⟩))]; simp
    · rw [decide_eq_false h0]; rfl
  · exact ⟨.inr rfl, .inr rfl, .inr rfl, .inr rfl, .inr rfl, .inl rfl, .inl rfl, .inr rfl, trivial⟩
end
end K51
end
section
set_option Elab.async false
set_option linter.all false
set_option maxRecDepth 100000
set_option maxHeartbeats 4000000
/-! The walk: the law's own readings of the parts. -/
namespace K51
open PySem PySem.Spec PyProof.Rows L2
section
variable {X : Cx} {ρ : En} {e : Expr} {pos p2 : Pos} {p : Pa} {n j : Nat}
abbrev partsL (p : Pa) : List (Str × D) := [(("pipe" : Str), plD trD p.pipe), (("streams" : Str), .dct (dT (smD trD) p.st)), (("houses" : Str), .dct (dT (grD trD) p.ho)), (("kinds" : Str), .dct (dT (grD trD) p.ki))]
theorem q_pipe (hr : Room n X.A) (h : PE X e (tJ X.K ρ (partsD p))) : PE X (.Subscript e (.Constant (.str "pipe") j p2) pos) (tJ X.K ρ (plD trD p.pipe)) := j_ixD (t := partsL p) hr h j_str (by rfl)
theorem q_streams (hr : Room n X.A) (h : PE X e (tJ X.K ρ (partsD p))) : PE X (.Subscript e (.Constant (.str "streams") j p2) pos) (tJ X.K ρ (.dct (dT (smD trD) p.st))) := j_ixD (t := partsL p) hr h j_str (by rfl)
theorem q_houses (hr : Room n X.A) (h : PE X e (tJ X.K ρ (partsD p))) : PE X (.Subscript e (.Constant (.str "houses") j p2) pos) (tJ X.K ρ (.dct (dT (grD trD) p.ho))) := j_ixD (t := partsL p) hr h j_str (by rfl)
theorem q_kinds (hr : Room n X.A) (h : PE X e (tJ X.K ρ (partsD p))) : PE X (.Subscript e (.Constant (.str "kinds") j p2) pos) (tJ X.K ρ (.dct (dT (grD trD) p.ki))) := j_ixD (t := partsL p) hr h j_str (by rfl)
end
section
variable {P : Program} {w : World} {K : PySem.W.Frag} {mg : Str → Option Value} {base : Heap}
theorem ok_l_around (T : Facts K mg) : OkG P w K mg base 1 "_law_around" ["_law_groups", "_law_name"] (spD K (R_chain trD)) := by
  obtain ⟨fd, F⟩ := T.fl_around
  have hN : (["_law_groups", "_law_name", "_law_found"] : List Str).Nodup := by decide +kernel
  refine ⟨_, T.g_law_around, fn_W F (N := ["_law_groups", "_law_name", "_law_found"]) ⟨rfl, rfl, rfl, hN, rfl, by decide +kernel, by decide +kernel⟩ (fun ds d h => by obtain ⟨t, r, o, h1, h2, h3, h4, rfl, rfl⟩ := h; rfl) (fun _ _ _ _ _ _ us hl => match us, hl with | [_, _], _ => rfl) ?_⟩
  rintro ds r ⟨t, r, o, h1, h2, h3, h4, rfl, rfl⟩ cdv A0 outer0 s0 H0 E0 hr
  refine c_new 2 hN n_nil fun q d hd => ?_
  subst hd
  refine c_cons (w_while (S := ChS) (ρf := fun s => [some (.dct (dT (grD trD) t)), some (ofO s.2.2), some (.own q)]) (Mf := fun s => [(q, .lst (s.1.map D.str))]) (cf := fun s => s.2.2.isSome) (μ := fun s => s.2.1.length) (Iv := ChIv t r o) hp_nox ([], r, o) (leE_rf _) rfl ⟨h1, h2, h3, rfl, (fun _ h => nomatch h), (by simpa using h4)⟩ ?_ ?_) (fun ρ1 M1 hx => ?_) (fun o n hx => by obtain ⟨_, _, _, e⟩ := hx; exact absurd e (n _ _))
  · rintro ⟨f, r1, nm⟩ iv
    cases nm with
    | none => exact te_of (t_is (t_c cd_notN (j_v 1) j_non) rfl)
    | some x => exact te_of (t_is (t_c cd_notN (j_v (d := .str x) 1) j_non) rfl)
  · rintro ⟨f, r1, nm⟩ iv hcf
    cases nm with
    | none => cases hcf
    | some x =>
      obtain ⟨g, r', hg, hf, hl, iv2, hlt⟩ := chn_next iv
      refine c_cons (w_app 2 0 (j_v 2) rfl (e_of (j_v (d := .str x) 1)) (by rw [List.length_map]; exact Nat.le_trans hl (by decide))) (fun ρ1 M1 hx => ?_) (fun o n hx => by obtain ⟨_, _, e⟩ := hx; exact absurd e (n _ _))
      obtain ⟨_, ⟨w, rfl, rfl⟩, e⟩ := hx
      cases e
      refine c_one (c_imS (w_p (s_set 1 hN (j_ixT (d := ofO g.a) (j_is (j_at hr hg (j_v 0) (j_v (d := .str x) 1)) rfl) j_int rfl))) fun o ho => ⟨_, (f ++ [x], r', g.a), ?_, leE_rf _, iv2, hlt⟩)
      rw [ho, List.map_append]
      rfl
  · obtain ⟨⟨f, r1, nm⟩, iv, hcf, e⟩ := hx
    cases e
    cases nm with
    | some x => cases hcf
    | none =>
      refine c_relL 2 0 (c_one (c_imS (w_pr (s_ret (j_v 2))) fun o ho => .inl ?_))
      rw [ho, ← iv.2.2.2.1, chn_none, List.append_nil]
theorem WP.gh2 {p : Pa} (W : WP p) {x : Str} : gt p.ho x = gt p.ho.reverse x := (gt_perm W.nh (List.reverse_perm _).symm).symm
theorem WP.gk2 {p : Pa} (W : WP p) {x : Str} : gt p.ki x = gt p.ki.reverse x := (gt_perm W.nk (List.reverse_perm _).symm).symm
def R_l_over (ds : List D) (r : D) : Prop := ∃ p z, WP p ∧ z ∈ keys p.st ∧ ds = [partsD p, .str z] ∧ r = .lst ((over p z).map D.str)
theorem ok_l_over (T : Facts K mg) : OkG P w K mg base 2 "_law_over" ["_law_parts", "_law_stream"] (spD K R_l_over) := by
  have G_l_around := ok_l_around (P := P) (w := w) (base := base) T
  obtain ⟨fd, F⟩ := T.fl_over
  have hN : (["_law_parts", "_law_stream", "_law_house", "_law_kind", "_law_found"] : List Str).Nodup := by decide +kernel
  refine ⟨_, T.g_law_over, fn_D F (N := ["_law_parts", "_law_stream", "_law_house", "_law_kind", "_law_found"]) ⟨rfl, rfl, rfl, hN, rfl, by decide +kernel, by decide +kernel⟩ (fun ds d h => by obtain ⟨p, z, W, hz, rfl, rfl⟩ := h; rfl) (fun _ _ _ _ _ _ us hl => match us, hl with | [_, _], _ => rfl) ?_⟩
  rintro ds r ⟨p, z, W, hz, rfl, rfl⟩ cdv A0 outer0 s0 H0 E0 hr
  obtain ⟨m, hm⟩ := gt_in hz
  have hmem := gt_mem hm
  have l1 := W.h3
  have l2 := W.k3
  have a1 := chn_len p.ho.reverse m.h
  have a2 := chn_len p.ki.reverse m.k
  rw [List.length_reverse] at a1 a2
  refine .inl (s_cons (s_un2 2 3 hN (j_slT (j_is (j_at hr hm (q_streams hr (j_v 0)) (j_v 1)) rfl) (o_some j_int) (o_some j_int))) (s_cons (s_set 4 hN (j_b (bd_addLS (l := [z]) ?_) (j_lst (ja_cons (j_v 1) ja_nil)) (j_call G_l_around hr (ja_cons (q_houses hr (j_v 0)) (ja_cons (j_v (d := ofO m.h) 2) ja_nil)) ⟨p.ho, p.ho.reverse, m.h, W.wh, fun x _ => W.gh2, fun y hy => (WP.rh W).mpr (W.sh _ hmem y hy), by rw [List.length_reverse]; omega, rfl, rfl⟩))) (s_one (s_ret (j_is (j_b (bd_addLS (m := ["pipe"]) ?_) (j_b (bd_addLS ?_) (j_v 4) (j_call G_l_around hr (ja_cons (q_kinds hr (j_v 0)) (ja_cons (j_v (d := ofO m.k) 3) ja_nil)) ⟨p.ki, p.ki.reverse, m.k, W.wk, fun x _ => W.gk2, fun y hy => (WP.rk W).mpr (W.sk _ hmem y hy), by rw [List.length_reverse]; omega, rfl, rfl⟩)) (j_lst (ja_cons j_str ja_nil))) ?_)))))
  · simp only [List.length_singleton]; show _ ≤ 100000; omega
  · simp only [List.length_append, List.length_singleton]; show _ ≤ 100000; omega
  · simp only [List.length_append, List.length_singleton]; show _ ≤ 100000; omega
  · unfold over
    rw [hm]
    simp
def R_l_under (ds : List D) (r : D) : Prop := ∃ p n, WP p ∧ ds = [partsD p, .str n] ∧ r = .lst ((under p n).map D.str)
theorem ok_l_under (T : Facts K mg) : OkG P w K mg base 3 "_law_under" ["_law_parts", "_law_name"] (spD K R_l_under) := by
  have G_l_over := ok_l_over (P := P) (w := w) (base := base) T
  obtain ⟨fd, F⟩ := T.fl_under
  have hN : (["_law_parts", "_law_name", "_law_stream"] : List Str).Nodup := by decide +kernel
  refine ⟨_, T.g_law_under, fn_D F (N := ["_law_parts", "_law_name", "_law_stream"]) ⟨rfl, rfl, rfl, hN, rfl, by decide +kernel, by decide +kernel⟩ (fun ds d h => by obtain ⟨p, n, W, rfl, rfl⟩ := h; rfl) (fun _ _ _ _ _ _ us hl => match us, hl with | [_, _], _ => rfl) ?_⟩
  rintro ds r ⟨p, n, W, rfl, rfl⟩ cdv A0 outer0 s0 H0 E0 hr
  have l6 := W.s6
  exact .inl (s_one (s_ret (j_lc (ls := srt (keys p.st)) (c := D.str) (f := D.str) (pr := fun z => decide (n ∈ over p z)) 2 hN (i_list (j_f (bf_sortT' rfl (by omega)) T.b_sorted (ja_cons (q_streams hr (j_v 0)) ja_nil))) (fun z hz _ _ _ _ _ => tt_one (t_c cd_in (j_v 1) (j_call G_l_over hr (ja_cons (j_v 0) (ja_cons (j_v 2) ja_nil)) ⟨p, z, W, srt_mem.mp hz, rfl, rfl⟩))) fun z hz _ _ _ _ _ _ => j_v 2)))
def R_l_shared (ds : List D) (r : D) : Prop := ∃ p, WP p ∧ ds = [partsD p] ∧ r = .lst ((shared p).map D.str)
theorem ok_l_shared (T : Facts K mg) : OkG P w K mg base 1 "_law_shared" ["_law_parts"] (spD K R_l_shared) := by
  obtain ⟨fd, F⟩ := T.fl_shared
  have hN : (["_law_parts"] : List Str).Nodup := by decide +kernel
  refine ⟨_, T.g_law_shared, fn_D F (N := ["_law_parts"]) ⟨rfl, rfl, rfl, hN, rfl, by decide +kernel, by decide +kernel⟩ (fun ds d h => by obtain ⟨p, W, rfl, rfl⟩ := h; rfl) (fun _ _ _ _ _ _ us hl => match us, hl with | [_], _ => rfl) ?_⟩
  rintro ds r ⟨p, W, rfl, rfl⟩ cdv A0 outer0 s0 H0 E0 hr
  have l1 := W.h3
  have l2 := W.k3
  refine .inl (s_one (s_ret (j_f (bf_sortL (l := keys p.ho ++ keys p.ki ++ [("pipe" : Str)]) ?_) T.b_sorted (ja_cons (j_b (bd_addLS (m := ["pipe"]) ?_) (j_b (bd_addLS ?_) (j_f (bf_listT' rfl) T.b_list (ja_cons (q_houses hr (j_v 0)) ja_nil)) (j_f (bf_listT' rfl) T.b_list (ja_cons (q_kinds hr (j_v 0)) ja_nil))) (j_lst (ja_cons j_str ja_nil))) ja_nil))))
  · simp only [List.length_append, List.length_singleton, List.length_map]; omega
  · simp only [List.length_append, List.length_singleton, List.length_map]; show _ ≤ 100000; omega
  · simp only [List.length_map]; show _ ≤ 100000; omega
def R_l_pool (ds : List D) (r : D) : Prop := ∃ p n l, WP p ∧ pool p n = some l ∧ ds = [partsD p, .str n] ∧ r = plD trD l
theorem ok_l_pool (T : Facts K mg) : OkG P w K mg base 1 "_law_pool" ["_law_parts", "_law_name"] (spD K R_l_pool) := by
  obtain ⟨fd, F⟩ := T.fl_pool
  have hN : (["_law_parts", "_law_name", "_law_word"] : List Str).Nodup := by decide +kernel
  refine ⟨_, T.g_law_pool, fn_D F (N := ["_law_parts", "_law_name", "_law_word"]) ⟨rfl, rfl, rfl, hN, rfl, by decide +kernel, by decide +kernel⟩ (fun ds d h => by obtain ⟨p, n, l, W, hp, rfl, rfl⟩ := h; rfl) (fun _ _ _ _ _ _ us hl => match us, hl with | [_, _], _ => rfl) ?_⟩
  rintro ds r ⟨p, n, l, W, hp, rfl, rfl⟩ cdv A0 outer0 s0 H0 E0 hr
  have mm : ∀ {α : Type} {t : Tb α} {v : α}, gt t n = some v → n ∈ keys t := fun h => List.mem_map.mpr ⟨_, gt_mem h, rfl⟩
  have nn : ∀ {α : Type} {t : Tb α}, gt t n = none → n ∉ keys t := fun h q => by
    obtain ⟨v, hv⟩ := gt_in q
    rw [h] at hv; cases hv
  rcases pool_cases hp with ⟨e, rfl⟩ | ⟨e, m, hm, rfl⟩ | ⟨e, hs, g, hg, rfl⟩ | ⟨e, hs, hh, g, hg, rfl⟩
  · exact .inl (s_grd (c := true) (t_is (t_c cd_eqS (j_v 1) j_str) (decide_eq_true e)) (fun _ => s_one (s_ret (q_pipe hr (j_v 0)))) nofun)
  · exact .inl (s_no (t_is (t_c cd_eqS (j_v 1) j_str) (decide_eq_false e)) (s_grd (c := true) (t_is (t_c (cd_inT2 hr) (j_v 1) (q_streams hr (j_v 0))) (decide_eq_true (mm hm))) (fun _ => s_one (s_ret (j_is (j_b (bd_addT (Nat.le_of_ble_eq_true rfl)) (j_slT (j_is (j_at hr hm (q_streams hr (j_v 0)) (j_v 1)) rfl) o_none (o_some j_int)) (j_tup (ja_cons j_str ja_nil))) rfl))) nofun))
  · exact .inl (s_no (t_is (t_c cd_eqS (j_v 1) j_str) (decide_eq_false e)) (s_no (t_is (t_c (cd_inT2 hr) (j_v 1) (q_streams hr (j_v 0))) (decide_eq_false (nn hs))) (s_cons (s_set 2 hN (j_if (p := true) (t_is (t_c (cd_inT2 hr) (j_v 1) (q_houses hr (j_v 0))) (decide_eq_true (mm hg))) (fun _ => j_str) nofun)) (s_one (s_ret (j_is (j_slT (j_is (d' := grD trD g) (j_at (l := p.ho) hr hg (j_ixD (t := partsL p) hr (j_v (d := partsD p) 0) (j_v 2) (by rfl)) (j_v 1)) rfl) o_none (o_some j_int)) rfl))))))
  · exact .inl (s_no (t_is (t_c cd_eqS (j_v 1) j_str) (decide_eq_false e)) (s_no (t_is (t_c (cd_inT2 hr) (j_v 1) (q_streams hr (j_v 0))) (decide_eq_false (nn hs))) (s_cons (s_set 2 hN (j_if (p := false) (t_is (t_c (cd_inT2 hr) (j_v 1) (q_houses hr (j_v 0))) (decide_eq_false (nn hh))) nofun fun _ => j_str)) (s_one (s_ret (j_is (j_slT (j_is (d' := grD trD g) (j_at (l := p.ki) hr hg (j_ixD (t := partsL p) hr (j_v (d := partsD p) 0) (j_v 2) (by rfl)) (j_v 1)) rfl) o_none (o_some j_int)) rfl))))))
def R_l_guides (ds : List D) (r : D) : Prop := ∃ p, WP p ∧ ds = [partsD p] ∧ r = .lst ((guides p).map D.str)
theorem ok_l_guides (T : Facts K mg) : OkG P w K mg base 1 "_law_guides" ["_law_parts"] (spD K R_l_guides) := by
  obtain ⟨fd, F⟩ := T.fl_guides
  have hN : (["_law_parts", "_law_guides_here", "_law_told", "_law_name"] : List Str).Nodup := by decide +kernel
  refine ⟨_, T.g_law_guides, fn_D F (N := ["_law_parts", "_law_guides_here", "_law_told", "_law_name"]) ⟨rfl, rfl, rfl, hN, rfl, by decide +kernel, by decide +kernel⟩ (fun ds d h => by obtain ⟨p, W, rfl, rfl⟩ := h; rfl) (fun _ _ _ _ _ _ us hl => match us, hl with | [_], _ => rfl) ?_⟩
  rintro ds r ⟨p, W, rfl, rfl⟩ cdv A0 outer0 s0 H0 E0 hr
  have l6 := W.s6
  refine .inl (s_cons (s_set 1 hN (j_is (d' := .lst ((p.st.map fun x => x.2.g).map ofO)) (j_lcm (ls := p.st) (c := fun q => smD trD q.2) (f := fun q => ofO q.2.g) 2 hN (i_valsT (q_streams hr (j_v 0))) fun q hq _ _ _ _ _ => j_ixT (j_v (d := smD trD q.2) 2) j_int rfl) (by rw [List.map_map]; rfl))) (s_one (s_ret (j_lc (ls := srt (keys p.st)) (c := D.str) (f := D.str) (pr := fun z => decide (some z ∈ p.st.map fun q => q.2.g)) 3 hN (i_list (j_f (bf_sortT' rfl (by omega)) T.b_sorted (ja_cons (q_streams hr (j_v 0)) ja_nil))) (fun z hz _ _ _ _ _ => tt_one (t_c cd_inO (j_v 3) (j_v 1))) fun z hz _ _ _ _ _ _ => j_v 3))))
def R_l_hold (ds : List D) (r : D) : Prop := ∃ p z b l, WP p ∧ z ∈ keys p.st ∧ ds = [partsD p, sqD b l, .str z] ∧ r = .int (hold p l z)
theorem ok_l_hold (T : Facts K mg) : OkG P w K mg base 1 "_law_hold" ["_law_parts", "_law_slow", "_law_stream"] (spD K R_l_hold) := by
  obtain ⟨fd, F⟩ := T.fl_hold
  have hN : (["_law_parts", "_law_slow", "_law_stream", "_law_told"] : List Str).Nodup := by decide +kernel
  refine ⟨_, T.g_law_hold, fn_D F (N := ["_law_parts", "_law_slow", "_law_stream", "_law_told"]) ⟨rfl, rfl, rfl, hN, rfl, by decide +kernel, by decide +kernel⟩ (fun ds d h => by obtain ⟨p, z, b, l, W, hz, rfl, rfl⟩ := h; rfl) (fun _ _ _ _ _ _ us hl => match us, hl with | [_, _, _], _ => rfl) ?_⟩
  rintro ds r ⟨p, z, b, l, W, hz, rfl, rfl⟩ cdv A0 outer0 s0 H0 E0 hr
  obtain ⟨m, hm⟩ := gt_in hz
  have e : hold p l z = if (decide (z ∈ l) || m.g.isSome) = true then m.c else match m.q with | some q => q - 1 | none => 0 := by simp only [hold, hm] <;> rfl
  rw [e]
  have tst : ∀ {Y : Cx}, True := trivial
  refine .inl (s_cons (s_set 3 hN (j_at hr hm (q_streams hr (j_v 0)) (j_v 2))) (s_grd (c := decide (z ∈ l) || m.g.isSome) (t_is (PW.pt (w_or (t_c cd_sq (j_v 2) (j_v 1)) fun _ => w_or1 (t_c cd_notN (j_ixT (d := ofO m.g) (j_v (d := smD trD m) 3) j_int rfl) j_non))) ?_) (fun h => s_one (s_ret (j_is (j_ixT (d := .int m.c) (j_v (d := smD trD m) 3) j_int rfl) (by rw [if_pos h])))) fun h => s_one (s_ret (j_is (d := .int (match m.q with | some q => q - 1 | none => 0)) ?_ (by rw [if_neg (by rw [h]; exact Bool.false_ne_true)])))))
  · rw [isN_ofO]; cases m.g <;> rfl
  · cases hq : m.q with
    | none => exact j_if (p := true) (t_is (t_c cd_isN (j_ixT (d := .non) (j_v (d := smD trD m) 3) j_int (by rw [hq]; rfl)) j_non) rfl) (fun _ => j_int) nofun
    | some q => exact j_if (p := false) (t_is (t_c cd_isN (j_ixT (d := .int q) (j_v (d := smD trD m) 3) j_int (by rw [hq]; rfl)) j_non) rfl) nofun fun _ => j_b bd_subI (j_ixT (d := .int q) (j_v (d := smD trD m) 3) j_int (by rw [hq]; rfl)) j_int
def R_l_read_pools (ds : List D) (r : D) : Prop := ∃ p, WP p ∧ ds = [partsD p] ∧ r = .lst ((rdp p).map D.str)
theorem ok_l_read_pools (T : Facts K mg) : OkG P w K mg base 2 "_law_read_pools" ["_law_parts"] (spD K R_l_read_pools) := by
  have G_l_shared := ok_l_shared (P := P) (w := w) (base := base) T
  have G_l_pool := ok_l_pool (P := P) (w := w) (base := base) T
  obtain ⟨fd, F⟩ := T.fl_read_pools
  have hN : (["_law_parts", "_law_name"] : List Str).Nodup := by decide +kernel
  refine ⟨_, T.g_law_read_pools, fn_D F (N := ["_law_parts", "_law_name"]) ⟨rfl, rfl, rfl, hN, rfl, by decide +kernel, by decide +kernel⟩ (fun ds d h => by obtain ⟨p, W, rfl, rfl⟩ := h; rfl) (fun _ _ _ _ _ _ us hl => match us, hl with | [_], _ => rfl) ?_⟩
  rintro ds r ⟨p, W, rfl, rfl⟩ cdv A0 outer0 s0 H0 E0 hr
  refine .inl (s_one (s_ret (j_lc (ls := shared p) (c := D.str) (f := D.str) (pr := isRead p) 1 hN (i_list (j_call G_l_shared hr (ja_cons (j_v 0) ja_nil) ⟨p, W, rfl, rfl⟩)) (fun n hn _ _ _ _ _ => tt_one ?_) fun n hn _ _ _ _ _ _ => j_v 1)))
  obtain ⟨l, hl⟩ := shared_pool W hn
  rw [isRead_of hl]
  exact t_c cd_eqS (j_ixT (j_is (j_call G_l_pool hr (ja_cons (j_v 0) (ja_cons (j_v 1) ja_nil)) ⟨p, n, l, W, hl, rfl, rfl⟩) rfl) j_int rfl) j_str
def R_l_rivals (ds : List D) (r : D) : Prop := ∃ p n, WP p ∧ ds = [partsD p, .str n] ∧ r = .lst ((rvl p n).map D.str)
theorem ok_l_rivals (T : Facts K mg) : OkG P w K mg base 3 "_law_rivals" ["_law_parts", "_law_name"] (spD K R_l_rivals) := by
  have G_l_read_pools := ok_l_read_pools (P := P) (w := w) (base := base) T
  obtain ⟨fd, F⟩ := T.fl_rivals
  have hN : (["_law_parts", "_law_name", "_law_other"] : List Str).Nodup := by decide +kernel
  refine ⟨_, T.g_law_rivals, fn_D F (N := ["_law_parts", "_law_name", "_law_other"]) ⟨rfl, rfl, rfl, hN, rfl, by decide +kernel, by decide +kernel⟩ (fun ds d h => by obtain ⟨p, n, W, rfl, rfl⟩ := h; rfl) (fun _ _ _ _ _ _ us hl => match us, hl with | [_, _], _ => rfl) ?_⟩
  rintro ds r ⟨p, n, W, rfl, rfl⟩ cdv A0 outer0 s0 H0 E0 hr
  exact .inl (s_one (s_ret (j_lc (ls := rdp p) (c := D.str) (f := D.str) (pr := fun o => !decide (o = n)) 2 hN (i_list (j_call G_l_read_pools hr (ja_cons (j_v 0) ja_nil) ⟨p, W, rfl, rfl⟩)) (fun n hn _ _ _ _ _ => tt_one (t_c cd_neS (j_v 2) (j_v 1))) fun n hn _ _ _ _ _ _ => j_v 2)))
end
end K51
end
section
set_option Elab.async false
set_option linter.all false
set_option maxRecDepth 100000
set_option maxHeartbeats 4000000
/-! The walk: the law's own tests of fills and covers; thresholds. -/
namespace K51
open PySem PySem.Spec PyProof.Rows L2
section
variable {X : Cx}
theorem bf_minL {i j : Int} (hc : X.calm = true) : BF X "min" [.lst [.int i, .int j]] (.int (min i j)) := ⟨_, .inl ⟨_, boot_min, cr_min hc⟩, cd1 fun v H L Q e r k => by
  obtain ⟨a, xs, rfl, ha, rl, _⟩ := r.lst_
  have ex := RepL.ints (l := [i, j]) rl
  subst ex
  refine ⟨a, [i, j], rfl, SqL.of (e _ _ ha), Nat.succ_pos _, fun m hm hle => k _ H L (Go.rf e) ?_⟩
  have h1 := hle i (by simp)
  have h2 := hle j (by simp)
  have h3 : m = i ∨ m = j := by simpa using hm
  have : m = min i j := by omega
  rw [this]
  exact .int _⟩
theorem bf_maxL {i j : Int} (hc : X.calm = true) : BF X "max" [.lst [.int i, .int j]] (.int (max i j)) := ⟨_, .inl ⟨_, boot_max, cr_max hc⟩, cd1 fun v H L Q e r k => by
  obtain ⟨a, xs, rfl, ha, rl, _⟩ := r.lst_
  have ex := RepL.ints (l := [i, j]) rl
  subst ex
  refine ⟨a, [i, j], rfl, SqL.of (e _ _ ha), Nat.succ_pos _, fun m hm hle => k _ H L (Go.rf e) ?_⟩
  have h1 := hle i (by simp)
  have h2 := hle j (by simp)
  have h3 : m = i ∨ m = j := by simpa using hm
  have : m = max i j := by omega
  rw [this]
  exact .int _⟩
end
section
variable {P : Program} {w : World} {K : PySem.W.Frag} {mg : Str → Option Value} {base : Heap}
theorem ok_l_threshold (T : Facts K mg) : ∀ n, OkG P w K mg base (n + 1) "_law_threshold" ["_law_tree"] (spD K (R_thr n)) := by
  intro n
  have hN : (["_law_tree", "_law_word", "_law_one", "_law_other", "_law_pair"] : List Str).Nodup := by decide +kernel
  induction n with
  | zero =>
    obtain ⟨fd, F⟩ := T.fl_threshold
    refine ⟨_, T.g_law_threshold, fn_D F (N := ["_law_tree", "_law_word", "_law_one", "_law_other", "_law_pair"]) ⟨rfl, rfl, rfl, hN, rfl, by decide +kernel, by decide +kernel⟩ (fun ds d h => by obtain ⟨t, _, rfl, _⟩ := h; rfl) (fun _ _ _ _ _ _ us hl => match us, hl with | [_], _ => rfl) ?_⟩
    rintro ds r ⟨t, ht, rfl, rfl⟩ cdv A outer s H E hr
    cases t with
    | jn w l r => exact ht.elim
    | «at» a b => exact .inl (s_cons (s_un3 1 2 3 hN (j_v (d := trD (.at a b)) 0)) (s_grd (c := true) (t_is (t_c cd_eqS (j_v 1) j_str) rfl) (fun _ => s_one (s_ret (j_f (bf_max2 rfl) T.b_max (ja_cons (j_v 2) (ja_cons (j_v 3) ja_nil))))) nofun))
  | succ n ih =>
    obtain ⟨fd, F⟩ := T.fl_threshold
    refine ⟨_, T.g_law_threshold, fn_D F (N := ["_law_tree", "_law_word", "_law_one", "_law_other", "_law_pair"]) ⟨rfl, rfl, rfl, hN, rfl, by decide +kernel, by decide +kernel⟩ (fun ds d h => by obtain ⟨t, _, rfl, _⟩ := h; rfl) (fun _ _ _ _ _ _ us hl => match us, hl with | [_], _ => rfl) ?_⟩
    rintro ds r ⟨t, ht, rfl, rfl⟩ cdv A outer s H E hr
    cases t with
    | «at» a b => exact .inl (s_cons (s_un3 1 2 3 hN (j_v (d := trD (.at a b)) 0)) (s_grd (c := true) (t_is (t_c cd_eqS (j_v 1) j_str) rfl) (fun _ => s_one (s_ret (j_f (bf_max2 rfl) T.b_max (ja_cons (j_v 2) (ja_cons (j_v 3) ja_nil))))) nofun))
    | jn wd l r =>
      refine .inl (s_cons (s_un3 1 2 3 hN (j_v (d := trD (.jn wd l r)) 0)) (s_grd (c := false) (t_is (t_c cd_eqS (j_v 1) j_str) (by cases wd <;> rfl)) nofun fun _ => s_cons (s_set 4 hN (j_lst (ja_cons (j_call ih hr (ja_cons (j_v 2) ja_nil) ⟨l, ht.1, rfl, rfl⟩ (Nat.le_refl _)) (ja_cons (j_call ih hr (ja_cons (j_v 3) ja_nil) ⟨r, ht.2, rfl, rfl⟩ (Nat.le_refl _)) ja_nil)))) (s_one (s_ret (j_if (p := wd) (t_is (t_c cd_eqS (j_v 1) j_str) (by cases wd <;> rfl)) (fun h => ?_) fun h => ?_)))))
      · subst h; exact j_f (bf_minL rfl) T.b_min (ja_cons (j_v 4) ja_nil)
      · subst h; exact j_f (bf_maxL rfl) T.b_max (ja_cons (j_v 4) ja_nil)
theorem ok_l_thr1 (T : Facts K mg) : OkG P w K mg base 2 "_law_threshold" ["_law_tree"] (spD K (R_thr 1)) := ok_l_threshold T 1
def R_l_is_sum (ds : List D) (r : D) : Prop := ∃ p n b l th, WP p ∧ n ∈ rdp p ∧ isF p l n th ∧ ds = [partsD p, .str n, sqD b l, .dct (dT D.int th)] ∧ r = .bl true
theorem ok_l_is_sum (T : Facts K mg) : OkG P w K mg base 4 "_law_is_sum" ["_law_parts", "_law_name", "_law_slow", "_law_thing"] (spD K R_l_is_sum) := by
  have G_l_under := ok_l_under (P := P) (w := w) (base := base) T
  have G_l_hold := ok_l_hold (P := P) (w := w) (base := base) T
  have G_l_rivals := ok_l_rivals (P := P) (w := w) (base := base) T
  have G_l_pool := ok_l_pool (P := P) (w := w) (base := base) T
  obtain ⟨fd, F⟩ := T.fl_is_sum
  have hN : (["_law_parts", "_law_name", "_law_slow", "_law_thing", "_law_streams", "_law_stream", "_law_many", "_law_other", "_law_one"] : List Str).Nodup := by decide +kernel
  refine ⟨_, T.g_law_is_sum, fn_D F (N := ["_law_parts", "_law_name", "_law_slow", "_law_thing", "_law_streams", "_law_stream", "_law_many", "_law_other", "_law_one"]) ⟨rfl, rfl, rfl, hN, rfl, by decide +kernel, by decide +kernel⟩ (fun ds d h => by obtain ⟨p, n, b, l, th, W, hn, F, rfl, rfl⟩ := h; rfl) (fun _ _ _ _ _ _ us hl => match us, hl with | [_, _, _, _], _ => rfl) ?_⟩
  rintro ds r ⟨p, n, b, l, th, W, hn, F, rfl, rfl⟩ cdv A0 outer0 s0 H0 E0 hr
  have fl := isF_len W F
  refine .inl (s_cons (s_set 4 hN (j_call G_l_under hr (ja_cons (j_v 0) (ja_cons (j_v 1) ja_nil)) ⟨p, n, W, rfl, rfl⟩)) (s_no (t_is (PW.pt (w_or (t_not (t_v (j_isi (j_v 3) rfl kit_dct boot_dict T.b_isinstance T.b_dict))) fun _ => w_or (t_c cd_neI (j_f bf_lenT' T.b_len (ja_cons (j_v 3) ja_nil)) (j_f bf_lenL T.b_len (ja_cons (j_v 4) ja_nil))) fun _ => w_or1 (t_c (cd_neNil hr) (j_lc0 (ls := under p n) (c := D.str) 8 hN (i_list (j_v 4)) fun z hz _ _ _ _ _ => tt_one (t_is (t_c (cd_ninT2 hr) (j_v 8) (j_v 3)) (by rw [decide_eq_true ((F.mem z).mpr hz)]; rfl))) (j_lst ja_nil)))) ?_) (s_cons (s_for (ls := under p n) (c := D.str) 5 (fun j => [some (partsD p), some (.str n), some (sqD b l), some (.dct (dT D.int th)), some (.lst ((under p n).map D.str)), none, none, none, none]) hN hp_nox (i_list (j_v 4)) (leE_rf _) fun j z hz => ⟨_, s_cons (s_set 6 hN (j_at hr (gi_of ((F.mem z).mpr (List.mem_of_getElem? hz))) (j_v 3) (j_v 5))) (s_one (s_if (c := false) ?_ nofun fun _ => s_nil)), ?_⟩) (s_cons (s_for (ls := rvl p n) (c := D.str) 7 (fun j => [some (partsD p), some (.str n), some (sqD b l), some (.dct (dT D.int th)), some (.lst ((under p n).map D.str)), none, none, none, none]) hN hp_nox (i_list (j_call G_l_rivals hr (ja_cons (j_v 0) (ja_cons (j_v 1) ja_nil)) ⟨p, n, W, rfl, rfl⟩)) (leE_rf _) fun j o ho => ⟨_, s_one (s_if (c := false) ?_ nofun fun _ => s_nil), ?_⟩) (s_one (s_ret j_bl))))))
  · rw [decide_eq_true (show (th.length : Int) = ((under p n).map D.str).length by rw [List.length_map, fl])]; rfl
  · have zu := List.mem_of_getElem? hz
    obtain ⟨c1, c2⟩ := F.cap z zu
    refine t_is (PW.pt (w_or (t_not (t_v (j_isi (d := .int (gi th z)) (j_v 6) rfl kit_intI boot_int T.b_isinstance T.b_int))) fun _ => w_or (t_v (j_isi (d := .int (gi th z)) (j_v 6) rfl kit_intB boot_bool T.b_isinstance T.b_bool)) fun _ => w_or1 (t_not (t_chain cd_le (fun _ => cd_le) j_int (j_v 6) (j_call G_l_hold hr (ja_cons (j_v 0) (ja_cons (j_v 2) (ja_cons (j_v 5) ja_nil))) ⟨p, z, b, l, W, under_sub zu, rfl, rfl⟩))))) ?_
    rw [decide_eq_true c1, decide_eq_true c2]
    rfl
  · exact ⟨.inr rfl, .inr rfl, .inr rfl, .inr rfl, .inr rfl, .inl rfl, .inl rfl, .inr rfl, .inr rfl, trivial⟩
  · have ho' := List.mem_of_getElem? ho
    obtain ⟨pl, hpl⟩ := shared_pool W (rvl_sub ho')
    refine t_is (t_c cd_gt (j_f (bf_sum (ns := ((under p o).filter fun z => decide (z ∈ under p n)).map (gi th)) rfl) T.b_sum (ja_cons (j_is (j_lc (ls := under p o) (c := D.str) (pr := fun z => decide (z ∈ under p n)) (f := fun z => .int (gi th z)) 5 hN (i_list (j_call G_l_under hr (ja_cons (j_v 0) (ja_cons (j_v 7) ja_nil)) ⟨p, o, W, rfl, rfl⟩)) (fun z hz _ _ _ _ _ => tt_one (t_is (t_c (cd_inT2 hr) (j_v 5) (j_v 3)) (decide_eq_decide.mpr (F.mem z)))) fun z hz hp _ _ _ _ _ => j_at hr (gi_of ((F.mem z).mpr (of_decide_eq_true hp))) (j_v 3) (j_v 5)) (by rw [List.map_map]; rfl)) ja_nil)) (j_ixT (j_is (j_call G_l_pool hr (ja_cons (j_v 0) (ja_cons (j_v 7) ja_nil)) ⟨p, o, pl, W, hpl, rfl, rfl⟩) rfl) j_int rfl)) ?_
    have := F.sum o ho'
    rw [cr_of hpl] at this
    exact decide_eq_false (by omega)
  · exact ⟨.inr rfl, .inr rfl, .inr rfl, .inr rfl, .inr rfl, .inr rfl, .inr rfl, .inl rfl, .inr rfl, trivial⟩
theorem ok_l_is_ascending (T : Facts K mg) : OkG P w K mg base 1 "_law_is_ascending" ["_law_thing", "_law_names"] (spD K R_are_some) := by
  obtain ⟨fd, F⟩ := T.fl_is_ascending
  have hN : (["_law_thing", "_law_names", "_law_one"] : List Str).Nodup := by decide +kernel
  refine ⟨_, T.g_law_is_ascending, fn_D F (N := ["_law_thing", "_law_names", "_law_one"]) ⟨rfl, rfl, rfl, hN, rfl, by decide +kernel, by decide +kernel⟩ (fun ds d h => by obtain ⟨l, ns, h1, h2, h3, h4, h5, rfl, rfl⟩ := h; rfl) (fun _ _ _ _ _ _ us hl => match us, hl with | [_, _], _ => rfl) ?_⟩
  rintro ds r ⟨l, ns, h1, h2, h3, h4, h5, rfl, rfl⟩ cdv A0 outer0 s0 H0 E0 hr
  refine .inl (s_no (t_is (PW.pt (w_or (t_not (t_v (j_isi (j_v 0) rfl kit_tup boot_tuple T.b_isinstance T.b_tuple))) fun _ => w_or1 (t_c (cd_neNil hr) (j_lc0 (ls := l) (c := D.str) 2 hN (i_tup (j_v 0)) fun z hz _ _ _ _ _ => tt_one (t_is (t_not (t_v (j_isi (d := .str z) (j_v 2) rfl kit_str boot_str T.b_isinstance T.b_str))) rfl)) (j_lst ja_nil)))) rfl) (s_one (s_ret (j_is (j_and (j_c (cd_eqL (l := []) (m := []) hr nofun nofun) (j_lc0 (ls := l) (c := D.str) 2 hN (i_tup (j_v 0)) fun z hz _ _ _ _ _ => tt_one (t_is (t_c cd_nin (j_v 2) (j_v 1)) (by rw [decide_eq_true (h1 z hz)]; rfl))) (j_lst ja_nil)) fun _ => j_one (j_c (cd_eqL hr h5 ?_) (j_f bf_listT T.b_list (ja_cons (j_v 0) ja_nil)) (j_sortSet (b := true) T.b_sorted T.b_set (j_v 0) h3 h4))) ?_))))
  · rw [srt_id h2]; exact h5
  · rw [srt_id h2, decide_eq_true rfl, decide_eq_true rfl]; rfl
def R_l_covers (ds : List D) (r : D) : Prop := ∃ p n b l k, WP p ∧ n ∈ rdp p ∧ isC p l n k ∧ ds = [partsD p, .str n, sqD b l, kD k] ∧ r = .bl true
theorem ok_l_covers (T : Facts K mg) : OkG P w K mg base 4 "_law_covers" ["_law_parts", "_law_name", "_law_slow", "_law_thing"] (spD K R_l_covers) := by
  have G_l_is_ascending := ok_l_is_ascending (P := P) (w := w) (base := base) T
  have G_l_rivals := ok_l_rivals (P := P) (w := w) (base := base) T
  have G_l_under := ok_l_under (P := P) (w := w) (base := base) T
  have G_l_over := ok_l_over (P := P) (w := w) (base := base) T
  have G_l_hold := ok_l_hold (P := P) (w := w) (base := base) T
  obtain ⟨fd, F⟩ := T.fl_covers
  have hN : (["_law_parts", "_law_name", "_law_slow", "_law_thing", "_law_stream", "_law_pools", "_law_other"] : List Str).Nodup := by decide +kernel
  refine ⟨_, T.g_law_covers, fn_D F (N := ["_law_parts", "_law_name", "_law_slow", "_law_thing", "_law_stream", "_law_pools", "_law_other"]) ⟨rfl, rfl, rfl, hN, rfl, by decide +kernel, by decide +kernel⟩ (fun ds d h => by obtain ⟨p, n, b, l, ⟨k1, k2⟩, W, hn, C, rfl, rfl⟩ := h; rfl) (fun _ _ _ _ _ _ us hl => match us, hl with | [_, _, _, _], _ => rfl) ?_⟩
  rintro ds r ⟨p, n, b, l, ⟨k1, k2⟩, W, hn, C, rfl, rfl⟩ cdv A0 outer0 s0 H0 E0 hr
  have l1 : k1.length ≤ (rvl p n).length := nd_len C.n1 fun x hx => C.s1 x hx
  have l2 : k2.length ≤ (under p n).length := nd_len C.n2 fun x hx => C.s2 x hx
  have l3 := (rvl_os W (n := n)).2
  have l4 : (under p n).length ≤ 6 := Nat.le_trans (nd_len (under_nd W (n := n)) fun x hx => under_sub hx) (by rw [List.length_map]; exact W.s6)
  have ok1 : okS k1 := fun x hx => shared_ok W (rvl_sub (C.s1 x hx))
  have ok2 : okS k2 := fun x hx => okN_ok (W.no (.inl (under_sub (C.s2 x hx)))).1
  refine .inl (s_no (t_is (PW.pt (w_or (t_not (t_v (j_isi (d := kD (k1, k2)) (j_v 3) rfl kit_tup boot_tuple T.b_isinstance T.b_tuple))) fun _ => w_or (t_c cd_neI (j_f bf_lenT T.b_len (ja_cons (j_v 3) ja_nil)) j_int) fun _ => w_or1 (t_not (t_v (j_call G_l_is_ascending hr (ja_cons (j_ixT (j_v (d := kD (k1, k2)) 3) j_int rfl) (ja_cons (j_call G_l_rivals hr (ja_cons (j_v 0) (ja_cons (j_v 1) ja_nil)) ⟨p, n, W, rfl, rfl⟩) ja_nil)) ⟨k1, rvl p n, C.s1, C.a1, C.n1, by omega, ok1, rfl, rfl⟩))))) rfl) (s_no (t_is (t_not (t_v (j_call G_l_is_ascending hr (ja_cons (j_ixT (j_v (d := kD (k1, k2)) 3) j_int rfl) (ja_cons (j_call G_l_under hr (ja_cons (j_v 0) (ja_cons (j_v 1) ja_nil)) ⟨p, n, W, rfl, rfl⟩) ja_nil)) ⟨k2, under p n, C.s2, C.a2, C.n2, by omega, ok2, rfl, rfl⟩))) rfl) (s_cons (s_for (ls := under p n) (c := D.str) 4 (fun j => [some (partsD p), some (.str n), some (sqD b l), some (kD (k1, k2)), none, none, none]) hN hp_nox (i_list (j_call G_l_under hr (ja_cons (j_v 0) (ja_cons (j_v 1) ja_nil)) ⟨p, n, W, rfl, rfl⟩)) (leE_rf _) fun j z hz => ⟨_, s_cons (s_setLc (ls := k1) (c := D.str) (f := D.str) (pr := fun o => decide (o ∈ over p z)) 5 6 hN (i_tup (j_ixT (j_v (d := kD (k1, k2)) 3) j_int rfl)) (fun o ho _ _ _ _ _ => tt_one (t_c cd_in (j_v 6) (j_call G_l_over hr (ja_cons (j_v 0) (ja_cons (j_v 4) ja_nil)) ⟨p, z, W, under_sub (List.mem_of_getElem? hz), rfl, rfl⟩))) fun o ho hp _ _ _ _ _ => j_v 6) (s_one (s_if (c := false) ?_ nofun fun _ => s_nil)), ?_⟩) (s_one (s_ret j_bl)))))
  · have zu : z ∈ under p n := List.mem_of_getElem? hz
    refine t_is (PW.pt (w_and (t_c cd_gt (j_call G_l_hold hr (ja_cons (j_v 0) (ja_cons (j_v 2) (ja_cons (j_v 4) ja_nil))) ⟨p, z, b, l, W, under_sub zu, rfl, rfl⟩) j_int) fun _ => w_and (t_c cd_nint (j_v 4) (j_ixT (j_v (d := kD (k1, k2)) 3) j_int rfl)) fun _ => w_and1 (t_c (cd_eqL (l := k1.filter fun o => decide (o ∈ over p z)) (m := []) hr (fun x hx => ok1 x (List.mem_filter.mp hx).1) nofun) (j_v 5) (j_lst ja_nil)))) ?_
    by_cases h0 : 0 < hold p l z
    · rcases C.cov z zu h0 with h | ⟨o, h1, h2⟩
      · rw [decide_eq_true (show z ∈ k2 from h)]; simp
      · rw [decide_eq_false (show ¬ (k1.filter fun o => decide (o ∈ over p z)) = [] from List.ne_nil_of_mem (List.mem_filter.mpr ⟨h1, decide_eq_true h2⟩))]; simp
    · rw [decide_eq_false h0]; rfl
  · exact ⟨.inr rfl, .inr rfl, .inr rfl, .inr rfl, .inl rfl, .inl rfl, .inr rfl, trivial⟩
/-- a cover's sum, its streams as they are held -/
def hsum (p : Pa) (l : List Str) (k : Cut) : Int := (k.1.map (cr p)).sum + (k.2.map (hold p l)).sum
def R_l_cover_sum (ds : List D) (r : D) : Prop := ∃ p b l k, WP p ∧ (∀ n ∈ k.1, n ∈ shared p) ∧ (∀ z ∈ k.2, z ∈ keys p.st) ∧ k.1.length ≤ 50 ∧ k.2.length ≤ 50 ∧ ds = [partsD p, sqD b l, kD k] ∧ r = .int (hsum p l k)
theorem ok_l_cover_sum (T : Facts K mg) : OkG P w K mg base 2 "_law_cover_sum" ["_law_parts", "_law_slow", "_law_cut"] (spD K R_l_cover_sum) := by
  have G_l_pool := ok_l_pool (P := P) (w := w) (base := base) T
  have G_l_hold := ok_l_hold (P := P) (w := w) (base := base) T
  obtain ⟨fd, F⟩ := T.fl_cover_sum
  have hN : (["_law_parts", "_law_slow", "_law_cut", "_law_name", "_law_one"] : List Str).Nodup := by decide +kernel
  refine ⟨_, T.g_law_cover_sum, fn_D F (N := ["_law_parts", "_law_slow", "_law_cut", "_law_name", "_law_one"]) ⟨rfl, rfl, rfl, hN, rfl, by decide +kernel, by decide +kernel⟩ (fun ds d h => by obtain ⟨p, b, l, ⟨k1, k2⟩, W, h1, h2, h3, h4, rfl, rfl⟩ := h; rfl) (fun _ _ _ _ _ _ us hl => match us, hl with | [_, _, _], _ => rfl) ?_⟩
  rintro ds r ⟨p, b, l, ⟨k1, k2⟩, W, h1, h2, h3, h4, rfl, rfl⟩ cdv A0 outer0 s0 H0 E0 hr
  refine .inl (s_one (s_ret (j_is (j_f (bf_sum (ns := k1.map (cr p) ++ k2.map (hold p l)) rfl) T.b_sum (ja_cons (j_is (j_b (bd_addL ?_) (j_lcm (ls := k1) (c := D.str) (f := fun n => .int (cr p n)) 3 hN (i_tup (j_ixT (j_v (d := kD (k1, k2)) 2) j_int rfl)) fun n hn _ _ _ _ _ => ?_) (j_lcm (ls := k2) (c := D.str) (f := fun z => .int (hold p l z)) 4 hN (i_tup (j_ixT (j_v (d := kD (k1, k2)) 2) j_int rfl)) fun z hz _ _ _ _ _ => j_call G_l_hold hr (ja_cons (j_v 0) (ja_cons (j_v 1) (ja_cons (j_v 4) ja_nil))) ⟨p, z, b, l, W, h2 z hz, rfl, rfl⟩)) ?_) ja_nil)) ?_)))
  · have e1 : k1.length ≤ 50 := h3
    have e2 : k2.length ≤ 50 := h4
    simp only [List.length_map]; show _ ≤ 100000; omega
  · obtain ⟨l', hl⟩ := shared_pool W (h1 n hn)
    rw [cr_of hl]
    exact j_ixT (j_is (j_call G_l_pool hr (ja_cons (j_v 0) (ja_cons (j_v 3) ja_nil)) ⟨p, n, l', W, hl, rfl, rfl⟩) rfl) j_int rfl
  · rw [List.map_append, List.map_map, List.map_map]; rfl
  · rw [List.sum_append]; rfl
end
end K51
end
section
set_option Elab.async false
set_option linter.all false
set_option maxRecDepth 100000
set_option maxHeartbeats 4000000
/-! The walk: the bag. -/
namespace K51
open PySem PySem.Spec PyProof.Rows L2
section
variable {P : Program} {w : World} {K : PySem.W.Frag} {mg : Str → Option Value} {base : Heap}
def P_l_take (ds : List D) : Prop := ∃ m : Int, 1 ≤ m ∧ m < 2 ^ 200 ∧ ds = [.int m]
def R_l_take (ds : List D) (d : D) : Prop := ∀ m, ds = [.int m] → ∃ v : Nat, (v : Int) < m ∧ d = .int v
theorem emod_nat {a m : Int} (h : 0 < m) : ∃ v : Nat, (v : Int) < m ∧ a % m = v := ⟨(a % m).toNat, by rw [Int.toNat_of_nonneg (Int.emod_nonneg _ (by omega))]; exact Int.emod_lt_of_pos _ h, (Int.toNat_of_nonneg (Int.emod_nonneg _ (by omega))).symm⟩
theorem ixN_of {n : Nat} {i : Int} (h0 : 0 ≤ i) (h : i < n) : ixN n i = some i.toNat := by
  unfold ixN
  rw [if_pos h0, if_pos (by omega)]
abbrev TkS := Int × Int × Int
theorem ok_l_take (T : Facts K mg) : OkG P w K mg base 1 "_law_take" ["_law_bag_here", "_law_many"] (spB K P_l_take R_l_take) := by
  obtain ⟨fd, F⟩ := T.fl_take
  have hN : (["_law_bag_here", "_law_many", "_law_cell", "_law_mixed_here", "_law_value", "_law_begin", "_law_second"] : List Str).Nodup := by decide +kernel
  refine ⟨_, T.g_law_take, fn_bag F (N := ["_law_bag_here", "_law_many", "_law_cell", "_law_mixed_here", "_law_value", "_law_begin", "_law_second"]) ⟨rfl, rfl, rfl, hN, rfl, by decide +kernel, by decide +kernel⟩ (fun ds h => by obtain ⟨m, hm1, hm2, rfl⟩ := h; rfl) (fun _ _ _ _ _ _ us hl => match us, hl with | [_, _], _ => rfl) ?_⟩
  rintro q b0 b1 b2 ns hb ds ⟨m, hm1, hm2, rfl⟩ cdv A0 outer0 s0 H0 E0 hr
  refine c_cons (Ω1 := fun o => ∃ c0 c1 c2 x y, o = .nxt [some (.own q), some (.int m), x, y, none, none, none] [(q, bagD c0 c1 c2 ns)] ∧ bagIn c0 c1 c2 ns) (w_if (Φb := fun _ => True) (te_im (te_borL (i := 0) (j := 0) (t_c cd_eqI (j_ixL (d := .int b0) (j_v (d := bagD b0 b1 b2 ns) 0) j_int rfl) j_int)) fun _ _ => trivial) (fun _ => ?_) fun _ => c_nil ⟨b0, b1, b2, _, _, rfl, hb⟩) (fun ρ1 M1 hx => ?_) (fun o n hx => by obtain ⟨_, _, _, _, _, e, _⟩ := hx; exact absurd e (n _ _))
  · refine c_p (s_set 2 hN j_int) ?_
    refine c_cons (Ω1 := fun o => ∃ cell : Int, 0 ≤ cell ∧ o = .nxt [some (.own q), some (.int m), some (.int cell), none, none, none, none] [(q, bagD b0 b1 b2 ns)]) (w_if (Φb := fun c => c = decide (b2 < (ns.map D.int).length)) (te_borL (i := 0) (j := 0) (t_c cd_lt (j_ixL (d := .int b2) (j_v (d := bagD b0 b1 b2 ns) 0) j_int rfl) (j_f bf_lenL T.b_len (ja_cons (j_ixL (d := .lst (ns.map D.int)) (j_v (d := bagD b0 b1 b2 ns) 0) j_int rfl) ja_nil)))) (fun h => ?_) fun _ => c_nil ⟨0, Int.le_refl _, rfl⟩) (fun ρ1 M1 hx => ?_) (fun o n hx => by obtain ⟨_, _, e⟩ := hx; exact absurd e (n _ _))
    · have hlt : b2 < ns.length := by have := of_decide_eq_true h.symm; rwa [List.length_map] at this
      have hi : b2.toNat < ns.length := by have := hb.2.2.2.2; omega
      refine c_one (c_imS (w_set 2 hN (e_borL' (i := 0) (j := 0) (z := .int ns[b2.toNat]) (j_ixL (j_ixL (d := .lst (ns.map D.int)) (j_v (d := bagD b0 b1 b2 ns) 0) j_int rfl) (j_ixL (d := .int b2) (j_v (d := bagD b0 b1 b2 ns) 0) j_int rfl) ?_) rfl)) fun o ho => ?_)
      · unfold atI
        rw [ixN_of hb.2.2.2.2 (by rw [List.length_map]; exact hlt)]
        show (ns.map D.int)[b2.toNat]? = _
        rw [List.getElem?_map, List.getElem?_eq_getElem hi]
        rfl
      · obtain ⟨d, rfl, e⟩ := ho
        exact ⟨_, hb.2.1 _ (List.getElem_mem hi), e⟩
    obtain ⟨cell, hcell, e⟩ := hx
    cases e
    refine c1 (w_laug (i := 2) (m := 2) (u := b2) 0 (j_v 0) j_int rfl (by decide) rfl rfl j_int) ?_
    refine c_cons (Ω1 := fun o => ∃ c0 : Int, 0 ≤ c0 ∧ o = .nxt [some (.own q), some (.int m), some (.int cell), none, none, none, none] [(q, bagD c0 b1 (b2 + 1) ns)]) (w_if (Φb := fun _ => True) (te_im (te_of (t_c cd_ge (j_v 2) j_int)) fun _ _ => trivial) (fun h => c_one (c_imS (w_lset (i := 0) (m := 0) (l := [.int b0, .int b1, .int (b2 + 1), .lst (ns.map D.int)]) 0 (j_v 0) j_int rfl rfl (e_of (j_v 2))) fun o ho => by obtain ⟨d, rfl, e⟩ := ho; exact ⟨cell, hcell, e⟩)) fun _ => c_nil ⟨b0, hb.2.2.1, rfl⟩) (fun ρ1 M1 hx => ?_) (fun o n hx => by obtain ⟨_, _, e⟩ := hx; exact absurd e (n _ _))
    obtain ⟨c0, hc0, e⟩ := hx
    cases e
    refine c_set 3 hN (e_borL' (i := 0) (j := 0) (j_b bd_addI (j_b bd_addI (j_b (bd_mul (.inr (by decide))) (j_ixL (d := .int b1) (j_v (d := bagD c0 b1 (b2 + 1) ns) 0) j_int rfl) j_int) (j_b (bd_mod (by decide)) (j_f bf_intI T.b_int (ja_cons (j_v 2) ja_nil)) j_int)) (j_b (bd_mul (.inl (by decide))) j_int (j_ixL (d := .int (b2 + 1)) (j_v (d := bagD c0 b1 (b2 + 1) ns) 0) j_int rfl))) rfl) fun d hd => ?_
    subst hd
    refine c_one (c_imS (w_lset (i := 1) (m := 1) (l := [.int c0, .int b1, .int (b2 + 1), .lst (ns.map D.int)]) 0 (j_v 0) j_int rfl rfl (e_of (j_b (bd_mod (by decide)) (j_f bf_intI T.b_int (ja_cons (j_v 3) ja_nil)) j_int))) fun o ho => ?_)
    obtain ⟨d, rfl, e⟩ := ho
    exact ⟨c0, _, b2 + 1, _, _, e, hb.1, hb.2.1, hc0, Int.emod_nonneg _ (by decide), by have := hb.2.2.2.2; omega⟩
  · obtain ⟨c0, c1, c2, x, y, e, hc⟩ := hx
    cases e
    have m0 : 0 < m := by omega
    have m3 : m < 2 ^ 300 := Int.lt_trans hm2 (by decide)
    refine c_grd (Φb := fun _ => True) (te_im (te_borL (i := 0) (j := 0) (t_c cd_gt (j_ixL (d := .int c0) (j_v (d := bagD c0 c1 c2 ns) 0) j_int rfl) j_int)) fun _ _ => trivial) (fun _ => ?_) (fun _ => ?_) fun ρ1 M1 hx => by obtain ⟨_, _, _, _, _, e, _⟩ := hx; cases e
    · obtain ⟨v, hv, ev⟩ := emod_nat (a := c0) m0
      refine c_set 4 hN (e_borL' (i := 0) (j := 0) (j_b (bd_mod m0) (j_f bf_intI T.b_int (ja_cons (j_ixL (d := .int c0) (j_v (d := bagD c0 c1 c2 ns) 0) j_int rfl) ja_nil)) (j_v 1)) rfl) fun d hd => ?_
      subst hd
      refine c_cons (w_lset (i := 0) (m := 0) (l := [.int c0, .int c1, .int c2, .lst (ns.map D.int)]) 0 (j_v 0) j_int rfl rfl (e_borL' (i := 0) (j := 0) (j_b (bd_div m0 m3) (j_ixL (d := .int c0) (j_v (d := bagD c0 c1 c2 ns) 0) j_int rfl) (j_v 1)) rfl)) (fun ρ1 M1 hx => ?_) (fun o n hx => by obtain ⟨_, _, e⟩ := hx; exact absurd e (n _ _))
      obtain ⟨d, rfl, e⟩ := hx
      cases e
      refine c_one (c_imS (w_rem (e_of (j_v 4))) fun o ho => ?_)
      obtain ⟨d, rfl, e⟩ := ho
      refine ⟨_, c0 / m, c1, c2, ns, e, ⟨hc.1, hc.2.1, Int.ediv_nonneg hc.2.2.1 (by omega), hc.2.2.2.1, hc.2.2.2.2⟩, fun m' em => ?_⟩
      cases em
      exact ⟨v, hv, by rw [ev]⟩
    · refine c_set 5 hN (e_borL' (i := 0) (j := 0) (j_b (bd_mod (by decide)) (j_f bf_intI T.b_int (ja_cons (j_b (bd_mul (.inr (by decide))) (j_b bd_addI (j_ixL (d := .int c1) (j_v (d := bagD c0 c1 c2 ns) 0) j_int rfl) j_int) j_int) ja_nil)) j_int) rfl) fun d hd => ?_
      subst hd
      have hB : 0 ≤ ((c1 + 1) * 39373) % 1000000007 ∧ ((c1 + 1) * 39373) % 1000000007 < 1000000007 := ⟨Int.emod_nonneg _ (by decide), Int.emod_lt_of_pos _ (by decide)⟩
      refine c_set 6 hN (e_of (j_b (bd_mod (by decide)) (j_f bf_intI T.b_int (ja_cons (j_b (bd_mul (.inr (by decide))) (j_b (bd_mod (by decide)) (j_f bf_intI T.b_int (ja_cons (j_b (bd_mul (.inl ⟨Int.lt_of_lt_of_le (by decide) hB.1, Int.lt_trans hB.2 (by decide)⟩)) (j_v 5) (j_v 5)) ja_nil)) j_int) j_int) ja_nil)) j_int)) fun d hd => ?_
      subst hd
      refine c_grd (Φb := fun _ => True) (te_im (te_of (t_c cd_gt (j_v 1) j_int)) fun _ _ => trivial) (fun _ => ?_) (fun _ => ?_) fun ρ1 M1 hx => by obtain ⟨_, _, _, _, _, e, _⟩ := hx; cases e
      · refine c_one (c_imS (w_rem (e_of (j_b (bd_mod m0) (j_f bf_intI T.b_int (ja_cons (j_b bd_addI (j_b (bd_mul (.inr (by decide))) (j_v 6) j_int) (j_v 5)) ja_nil)) (j_v 1)))) fun o ho => ?_)
        obtain ⟨d, rfl, e⟩ := ho
        refine ⟨_, c0, c1, c2, ns, e, hc, fun m' em => ?_⟩
        cases em
        obtain ⟨v, hv, ev⟩ := emod_nat (a := _) m0
        exact ⟨v, hv, by rw [ev]⟩
      · refine c_one (c_imS (w_rem (e_of (j_b (bd_mod m0) (j_f bf_intI T.b_int (ja_cons (j_b (bd_div (by decide) (by decide)) (j_v 6) j_int) ja_nil)) (j_v 1)))) fun o ho => ?_)
        obtain ⟨d, rfl, e⟩ := ho
        refine ⟨_, c0, c1, c2, ns, e, hc, fun m' em => ?_⟩
        cases em
        obtain ⟨v, hv, ev⟩ := emod_nat (a := _) m0
        exact ⟨v, hv, by rw [ev]⟩
end
end K51
end
section
set_option Elab.async false
set_option linter.all false
set_option maxRecDepth 100000
set_option maxHeartbeats 4000000
/-! The walk: what is drawn. -/
namespace K51
open PySem PySem.Spec PyProof.Rows L2
section
variable {X : Cx} {M : Mem} {ρ : En} {e0 e1 : Expr} {pos p : Pos} {q : Addr} {n : Nat} {m : Int} {rest : List Stmt} {Ω : Ou → Prop}
/-- a draw -/
theorem e_take (G : OkG X.prog X.w X.K X.mg X.base 1 "_law_take" ["_law_bag_here", "_law_many"] (spB X.K P_l_take R_l_take)) (hr : Room n X.A) (h0 : PE X e0 (tJ X.K ρ (.own q))) (h1 : PE X e1 (tE X.K (some q) M ρ (· = .int m))) (hm : 1 ≤ m) (hm2 : m < 2 ^ 200) (hk : 1 ≤ n := by decide) (hg : Gl X "_law_take" := by rfl)
    (he : starEach [e0, e1] X.env = (false, eval e0 X.env) :: starEach [e1] X.env := by rfl) (he2 : starEach [e1] X.env = (false, eval e1 X.env) :: starEach [] X.env := by rfl) (hpl : (backTo pos (starEach [e1] X.env)).any (·.1) = false := by rfl) :
    PE X (.Call (.Name "_law_take" p) [e0, e1] [] pos) (tE X.K (some q) M ρ fun d => ∃ v : Nat, (v : Int) < m ∧ d = .int v) :=
  e_callB G hr (ae_cons (e_of h0) (ae_cons h1 ae_nil he2) he) (fun ds ⟨d, r, e, hd, d2, r2, e2, hd2, hr2⟩ => by
    subst e; subst hd; subst e2; subst hd2; subst hr2
    exact ⟨_, rfl, ⟨m, hm, hm2, rfl⟩, fun d hd => hd m rfl⟩) hk hg (by decide) he hpl
/-- a, b = e, e a list of two -/
theorem c_unl2 (i j : Nat) {x y : Str} {px py pt : Pos} {kt : Nat} {Φ : D → Prop} {a : Expr} (hN : X.N.Nodup) (h : PE X a (tE X.K (some q) M ρ Φ)) (h2 : ∀ d, Φ d → ∃ d1 d2, d = .lst [d1, d2] ∧ PSs X rest (tW X.K (some q) M ((ρ.set i (some d1)).set j (some d2)) Ω)) (hc : X.calm = true := by rfl) (hi : X.N[i]? = some x := by rfl) (hj : X.N[j]? = some y := by rfl) (hx : Loc X.env.scope x := by first | exact .inl rfl | exact .inr rfl) (hy : Loc X.env.scope y := by first | exact .inl rfl | exact .inr rfl)
    (hf : X.fn x = true ∨ X.env.scope.names.lookup x = some .local := by first | exact .inl rfl | exact .inr rfl) (hf2 : X.fn y = true ∨ X.env.scope.names.lookup y = some .local := by first | exact .inl rfl | exact .inr rfl)
    (hn : (assignEach [.Name x px, .Name y py] X.env).length = 2 := by rfl) (hst : (assignEach [.Name x px, .Name y py] X.env).findIdx? (·.1) = none := by rfl)
    (h3 : (assignEach [.Name x px, .Name y py] X.env).map (·.2) = assign (.Name x px) X.env :: (assignEach [.Name y py] X.env).map (·.2) := by rfl) (h4 : (assignEach [.Name y py] X.env).map (·.2) = assign (.Name y py) X.env :: (assignEach [] X.env).map (·.2) := by rfl)
    (hs : swapsWithSole [.Tuple [.Name x px, .Name y py] kt pt] a pos.line X.env = pure false := by rfl) (hw : swappedStores [.Tuple [.Name x px, .Name y py] kt pt] a X.env = pure none := by rfl)
    (h1 : (assignEach [.Tuple [.Name x px, .Name y py] kt pt] X.env).map (·.2) = [assign (.Tuple [.Name x px, .Name y py] kt pt) X.env] := by rfl) :
    PSs X (.Assign [.Tuple [.Name x px, .Name y py] kt pt] a pos :: rest) (tW X.K (some q) M ρ Ω) :=
  c_cons (Ω1 := fun o => ∃ d1 d2, Φ (.lst [d1, d2]) ∧ o = .nxt ((ρ.set i (some d1)).set j (some d2)) M) ((ps_asg h (pg_unl hc (pgs_cons (pg_name hN hi hx hf) (pgs_cons (pg_name hN hj hy hf2) pgs_nil h4) h3) hn hst) hs hw h1).imp fun E σ H ⟨L, e, env, ow, k⟩ => ⟨L, e, env, ow, fun v H1 L1 d hd g o r => by
    obtain ⟨d1, d2, rfl, _⟩ := h2 d hd
    obtain ⟨c, xs, rfl, hc, rl, _⟩ := r.lst_
    obtain ⟨v, vs2, rfl, r1, r2⟩ := rl.cons_
    obtain ⟨w, vs3, rfl, r3, r4⟩ := r2.cons_
    obtain rfl := r4.nil_
    exact ⟨c, _, rfl, SqL.of (g.sub _ _ hc), rfl, v, [w], rfl, w, [], rfl, rfl, k _ ⟨d1, d2, hd, rfl⟩ _ H1 L1 g.gs o (((env.ex g.lx).set r1).set r3)⟩⟩) (fun ρ1 M1 ⟨d1, d2, hd, e⟩ => by
    cases e
    obtain ⟨e1, e2, he, hP⟩ := h2 _ hd
    cases he
    exact hP) (fun o n h => by obtain ⟨_, _, _, e⟩ := h; exact absurd e (n _ _))
/-- x += e of ints -/
theorem s_aug (i : Nat) {x : Str} {px : Pos} {u v : Int} {a : Expr} (hN : X.N.Nodup) (ha : PE X a (tJ X.K ρ (.int v))) (hρ : ρ[i]? = some (some (.int u)) := by rfl) (hi : X.N[i]? = some x := by rfl) (hx : Loc X.env.scope x := by first | exact .inl rfl | exact .inr rfl) (hf : X.fn x = true ∨ X.env.scope.names.lookup x = some .local := by first | exact .inl rfl | exact .inr rfl) :
    PS X (.AugAssign (.Name x px) .Add a pos) (tS X.K ρ (.nxt (ρ.set i (some (.int (u + v)))))) := (ps_aug hN hi hx ha ip_add hf).imp fun E σ H ⟨L, e, env, k⟩ => by
  obtain ⟨w, hw, rw_⟩ := env.at_ i _ hρ
  obtain rfl := rw_.int_
  exact ⟨.int u, hw, L, e, env, fun y H1 L1 g1 r1 => by
    obtain rfl := r1.int_
    exact ⟨u, v, rfl, rfl, k _ H1 L1 g1 ((env.ex g1.lx).set (.int _))⟩⟩
end
section
variable {P : Program} {w : World} {K : PySem.W.Frag} {mg : Str → Option Value} {base : Heap}
def P_l_mixed (ds : List D) : Prop := ∃ l : List D, l.length ≤ 100 ∧ ds = [.lst l]
def R_l_mixed (ds : List D) (d : D) : Prop := ∀ l, ds = [.lst l] → ∃ l', l'.Perm l ∧ d = .lst l'
theorem ok_l_mixed (T : Facts K mg) : OkG P w K mg base 2 "_law_mixed" ["_law_bag_here", "_law_things"] (spB K P_l_mixed R_l_mixed) := by
  have G_l_take := ok_l_take (P := P) (w := w) (base := base) T
  obtain ⟨fd, F⟩ := T.fl_mixed
  have hN : (["_law_bag_here", "_law_things", "_law_found", "_law_thing"] : List Str).Nodup := by decide +kernel
  refine ⟨_, T.g_law_mixed, fn_B F (N := ["_law_bag_here", "_law_things", "_law_found", "_law_thing"]) ⟨rfl, rfl, rfl, hN, rfl, by decide +kernel, by decide +kernel⟩ (fun ds h => by obtain ⟨l, hl, rfl⟩ := h; rfl) (fun _ _ _ _ _ _ us hl => match us, hl with | [_, _], _ => rfl) ?_⟩
  rintro q ds ⟨l, hl, rfl⟩ cdv A0 outer0 s0 H0 E0 hr
  refine c_new 2 hN n_nil fun q2 d hd => ?_
  subst hd
  refine c_cons (w_for1 (ls := l) (c := fun d => d) 3 (fun j ρ1 M1 => ∃ x acc, acc.Perm (l.take j) ∧ ρ1 = [some (.own q), some (.lst l), some (.own q2), x] ∧ M1 = [(q2, .lst acc)]) hN hp_nox (by rw [List.map_id']; exact i_list (j_v 1)) ⟨_, leE_rf _, none, [], by rw [List.take_zero], rfl, rfl⟩ ?_) (fun ρ1 M1 hx => ?_) (fun o n hx => by obtain ⟨_, _, _, e⟩ := hx; exact absurd e (n _ _))
  · rintro j z hz ρ1 M1 ⟨x, acc, ha, rfl, rfl⟩
    have hj : j < l.length := (List.getElem?_eq_some_iff.mp hz).1
    have la : acc.length = j := by rw [ha.length_eq, List.length_take]; omega
    refine c_one (c_imS (w_ins 2 0 (j_v 2) rfl (e_take (m := (acc.length : Int) + 1) G_l_take hr (j_v 0) (e_borL' (i := 2) (j := 0) (j_b bd_addI (j_f bf_lenL T.b_len (ja_cons (j_v (d := .lst acc) 2) ja_nil)) j_int) rfl) (by omega) (by rw [la]; omega)) (e_of (j_v 3)) (fun d ⟨v, hv, e⟩ => ⟨v, e, by show v ≤ 100000; omega⟩) (by show _ ≤ 100000; omega)) fun o ho => ?_)
    obtain ⟨n, w, _, rfl, e⟩ := ho
    refine ⟨_, _, _, e, leE_rf _, _, _, ?_, rfl, rfl⟩
    have tk : l.take (j + 1) = l.take j ++ [w] := by rw [List.take_add_one, hz]; rfl
    rw [tk]
    refine List.Perm.trans ?_ (ha.append_right [w])
    have : (acc.take n ++ [w] ++ acc.drop n).Perm (acc.take n ++ acc.drop n ++ [w]) := by
      rw [List.append_assoc, List.append_assoc]
      exact (List.perm_append_comm).append_left _
    rwa [List.take_append_drop] at this
  · obtain ⟨ρ', M', ⟨x, acc, ha, rfl, rfl⟩, e⟩ := hx
    cases e
    rw [List.take_length] at ha
    refine c_relL 2 0 (c_one (c_imS (w_pr (s_ret (j_v 2))) fun o ho => ⟨_, ho, fun l2 e => ?_⟩))
    cases e
    exact ⟨acc, ha, rfl⟩
def szB : Int := 40 * 10 ^ 30
def okSc (top scale : Int) : Prop := 1 ≤ top ∧ top ≤ 40 ∧ 1 ≤ scale ∧ scale ≤ 10 ^ 30
def P_l_size (ds : List D) : Prop := ∃ top scale, okSc top scale ∧ ds = [.int top, .int scale]
def R_l_size (ds : List D) (d : D) : Prop := ∃ v : Int, 1 ≤ v ∧ v ≤ szB ∧ d = .int v
theorem ok_l_draw_size (T : Facts K mg) : OkG P w K mg base 2 "_law_draw_size" ["_law_bag_here", "_law_top", "_law_scale"] (spB K P_l_size R_l_size) := by
  have G_l_take := ok_l_take (P := P) (w := w) (base := base) T
  obtain ⟨fd, F⟩ := T.fl_draw_size
  have hN : (["_law_bag_here", "_law_top", "_law_scale"] : List Str).Nodup := by decide +kernel
  refine ⟨_, T.g_law_draw_size, fn_B F (N := ["_law_bag_here", "_law_top", "_law_scale"]) ⟨rfl, rfl, rfl, hN, rfl, by decide +kernel, by decide +kernel⟩ (fun ds h => by obtain ⟨top, scale, ⟨h1, h2, h3, h4⟩, rfl⟩ := h; rfl) (fun _ _ _ _ _ _ us hl => match us, hl with | [_, _, _], _ => rfl) ?_⟩
  rintro q ds ⟨top, scale, ⟨h1, h2, h3, h4⟩, rfl⟩ cdv A0 outer0 s0 H0 E0 hr
  refine c_one (c_imS (w_ret (e_op (Φ := fun d => ∃ u : Int, 1 ≤ u ∧ u ≤ top ∧ d = .int u) (Ψ := fun d => ∃ u : Int, 1 ≤ u ∧ u ≤ 10 ^ 30 ∧ d = .int u) (Θ := R_l_size []) op_mul (e_op (Φ := (· = .int 1)) (Ψ := fun d => ∃ v : Nat, (v : Int) < top ∧ d = .int v) op_add (e_of j_int) (e_take G_l_take hr (j_v 0) (e_of (j_v 1)) h1 (by omega)) ?_) (e_ix (Φ := (· = .lst [.int 1, .int scale])) (Ψ := fun d => ∃ v : Nat, (v : Int) < 2 ∧ d = .int v) (e_of (j_lst (ja_cons j_int (ja_cons (j_v 2) ja_nil)))) (e_take G_l_take hr (j_v 0) (e_of j_int) (by decide) (by decide)) ?_) ?_)) fun o ho => ?_)
  · rintro x y rfl ⟨v, hv, rfl⟩
    exact ⟨_, od_int fun _ => .int _, 1 + v, by omega, by omega, rfl⟩
  · rintro x y rfl ⟨v, hv, rfl⟩
    refine ⟨_, _, .int (if v = 0 then 1 else scale), rfl, rfl, ?_, ?_⟩
    · have : v = 0 ∨ v = 1 := by omega
      rcases this with rfl | rfl <;> rfl
    · refine ⟨_, ?_, ?_, rfl⟩ <;> split <;> omega
  · rintro x y ⟨u, u1, u2, rfl⟩ ⟨v, v1, v2, rfl⟩
    refine ⟨_, od_intC (.inl ⟨by omega, by omega⟩) fun _ => .int _, u * v, ?_, ?_, rfl⟩
    · exact Int.le_trans (by decide) (Int.mul_le_mul u1 v1 (by decide) (by omega))
    · exact Int.le_trans (Int.mul_le_mul (show u ≤ 40 by omega) v2 (by omega) (by decide)) (Int.le_refl _)
  · obtain ⟨d, hd, e⟩ := ho
    exact ⟨d, e, hd⟩
def P_l_tree (n : Nat) (ds : List D) : Prop := ∃ top scale, okSc top scale ∧ ds = [.int top, .int scale, .int n]
def R_l_tree (n : Nat) (ds : List D) (d : D) : Prop := ∃ t, okT n t ∧ 1 ≤ thr t ∧ thr t ≤ szB ∧ d = trD t
end
end K51
end
section
set_option Elab.async false
set_option linter.all false
set_option maxRecDepth 100000
set_option maxHeartbeats 4000000
/-! The walk: trees, pools, groups, streams drawn. -/
namespace K51
open PySem PySem.Spec PyProof.Rows L2
theorem lcR_all {Fe : D → D → Prop} {l rs : List D} (h : LcR (fun _ c => c = true) Fe l rs) : rs.length = l.length ∧ ∀ d ∈ rs, ∃ a ∈ l, Fe a d := by
  induction h with
  | nil => exact ⟨rfl, nofun⟩
  | skip _ e _ => cases e
  | @take l ds a d h1 h2 h3 ih =>
    refine ⟨by rw [List.length_append, List.length_append, ih.1]; rfl, fun x hx => ?_⟩
    rcases List.mem_append.mp hx with q | q
    · obtain ⟨b, hb, hf⟩ := ih.2 x q
      exact ⟨b, List.mem_append_left _ hb, hf⟩
    · rw [List.mem_singleton.mp q]
      exact ⟨a, List.mem_append_right _ (List.mem_singleton.mpr rfl), h3⟩
theorem lcR_two {Fe : D → D → Prop} {x y : D} {rs : List D} (h : LcR (fun _ c => c = true) Fe [x, y] rs) : ∃ d1 d2, rs = [d1, d2] ∧ (∃ a, Fe a d1) ∧ ∃ a, Fe a d2 := by
  obtain ⟨h1, h2⟩ := lcR_all h
  match rs, h1 with
  | [d1, d2], _ =>
    obtain ⟨a, _, ha⟩ := h2 d1 (by simp)
    obtain ⟨b, _, hb⟩ := h2 d2 (by simp)
    exact ⟨d1, d2, rfl, ⟨a, ha⟩, ⟨b, hb⟩⟩
theorem thr_jn {wd : Bool} {l r : Tr} {B : Int} (a1 : 1 ≤ thr l) (a2 : thr l ≤ B) (b1 : 1 ≤ thr r) (b2 : thr r ≤ B) : 1 ≤ thr (.jn wd l r) ∧ thr (.jn wd l r) ≤ B := by
  cases wd with
  | true =>
    show 1 ≤ min (thr l) (thr r) ∧ min (thr l) (thr r) ≤ B
    generalize thr l = x at *
    generalize thr r = y at *
    omega
  | false =>
    show 1 ≤ max (thr l) (thr r) ∧ max (thr l) (thr r) ≤ B
    generalize thr l = x at *
    generalize thr r = y at *
    omega
section
variable {P : Program} {w : World} {K : PySem.W.Frag} {mg : Str → Option Value} {base : Heap}
theorem ok_l_draw_tree (T : Facts K mg) : ∀ n, OkG P w K mg base (n + 3) "_law_draw_tree" ["_law_bag_here", "_law_top", "_law_scale", "_law_depth"] (spB K (P_l_tree n) (R_l_tree n)) := by
  have G_take := ok_l_take (P := P) (w := w) (base := base) T
  have G_size := ok_l_draw_size (P := P) (w := w) (base := base) T
  have hN : (["_law_bag_here", "_law_top", "_law_scale", "_law_depth", "_law_way", "_law_one", "_law_other", "_law_k"] : List Str).Nodup := by decide +kernel
  intro n
  induction n with
  | zero =>
    obtain ⟨fd, F⟩ := T.fl_draw_tree
    refine ⟨_, T.g_law_draw_tree, fn_B F (N := ["_law_bag_here", "_law_top", "_law_scale", "_law_depth", "_law_way", "_law_one", "_law_other", "_law_k"]) ⟨rfl, rfl, rfl, hN, rfl, by decide +kernel, by decide +kernel⟩ (fun ds h => by obtain ⟨_, _, _, rfl⟩ := h; rfl) (fun _ _ _ _ _ _ us hl => match us, hl with | [_, _, _, _], _ => rfl) ?_⟩
    rintro q ds ⟨top, scale, hs, rfl⟩ cdv A0 outer0 s0 H0 E0 hr
    refine c_set 4 hN (e_take G_take hr (j_v 0) (e_of j_int) (by decide) (by decide)) fun d ⟨v, hv, e⟩ => ?_
    subst e
    refine c_grd (Φb := (· = true)) (te_of (t_is (PW.pt (w_or (q := decide ((v : Int) < 2)) (t_c cd_eqI (j_v 3) j_int) fun h => w_or1 (t_c cd_lt (j_v 4) j_int))) rfl)) (fun _ => ?_) (fun h => by cases h) fun ρ1 M1 hx => by obtain ⟨_, e, _⟩ := hx; cases e
    refine c_one (c_imS (w_ret (e_tup (ae_cons (e_of j_str) (ae_cons (e_callB (Θ := R_l_size []) G_size hr (ae_of (ja_cons (j_v 0) (ja_cons (j_v 1) (ja_cons (j_v 2) ja_nil)))) (fun ds e => ⟨_, e, ⟨top, scale, hs, rfl⟩, fun d h => h⟩)) (ae_cons (e_op (Φ := (· = .int 1)) (Ψ := fun d => ∃ v : Nat, (v : Int) < 6 ∧ d = .int v) (Θ := fun d => ∃ u : Int, 1 ≤ u ∧ u ≤ 6 ∧ d = .int u) op_add (e_of j_int) (e_take G_take hr (j_v 0) (e_of j_int) (by decide) (by decide)) (fun x y hx ⟨v, hv, hy⟩ => ⟨_, hx ▸ hy ▸ od_int fun _ => .int _, 1 + v, by omega, by omega, rfl⟩)) ae_nil))) (fun ds ⟨_, _, e, _, _, _, e2, _, _, _, e3, _, e4⟩ => by subst e; subst e2; subst e3; subst e4; show 3 ≤ 100000; decide))) fun o ho => ?_)
    obtain ⟨d, ⟨ds, rfl, _, _, rfl, rfl, _, _, rfl, ⟨a, a1, a2, rfl⟩, _, _, rfl, ⟨u, u1, u2, rfl⟩, rfl⟩, e⟩ := ho
    refine ⟨_, e, .at a u, ⟨a1, u1, u2⟩, ?_, ?_, rfl⟩
    · show 1 ≤ max a u; omega
    · show max a u ≤ szB; unfold szB at *; omega
  | succ n ih =>
    obtain ⟨fd, F⟩ := T.fl_draw_tree
    refine ⟨_, T.g_law_draw_tree, fn_B F (N := ["_law_bag_here", "_law_top", "_law_scale", "_law_depth", "_law_way", "_law_one", "_law_other", "_law_k"]) ⟨rfl, rfl, rfl, hN, rfl, by decide +kernel, by decide +kernel⟩ (fun ds h => by obtain ⟨_, _, _, rfl⟩ := h; rfl) (fun _ _ _ _ _ _ us hl => match us, hl with | [_, _, _, _], _ => rfl) ?_⟩
    rintro q ds ⟨top, scale, hs, rfl⟩ cdv A0 outer0 s0 H0 E0 hr
    refine c_set 4 hN (e_take G_take hr (j_v 0) (e_of j_int) (by decide) (by decide) (by omega)) fun d ⟨v, hv, e⟩ => ?_
    subst e
    have h0 : decide (((n + 1 : Nat) : Int) = 0) = false := decide_eq_false (by omega)
    refine c_grd (Φb := (· = decide ((v : Int) < 2))) (te_of (t_is (PW.pt (w_or (q := decide ((v : Int) < 2)) (t_c cd_eqI (j_v 3) j_int) fun h => w_or1 (t_c cd_lt (j_v 4) j_int))) (by rw [h0]; rfl))) (fun _ => ?_) (fun h => ?_) fun ρ1 M1 hx => by obtain ⟨_, e, _⟩ := hx; cases e
    · refine c_one (c_imS (w_ret (e_tup (ae_cons (e_of j_str) (ae_cons (e_callB (Θ := R_l_size []) G_size hr (ae_of (ja_cons (j_v 0) (ja_cons (j_v 1) (ja_cons (j_v 2) ja_nil)))) (fun ds e => ⟨_, e, ⟨top, scale, hs, rfl⟩, fun d h => h⟩) (by omega)) (ae_cons (e_op (Φ := (· = .int 1)) (Ψ := fun d => ∃ v : Nat, (v : Int) < 6 ∧ d = .int v) (Θ := fun d => ∃ u : Int, 1 ≤ u ∧ u ≤ 6 ∧ d = .int u) op_add (e_of j_int) (e_take G_take hr (j_v 0) (e_of j_int) (by decide) (by decide) (by omega)) (fun x y hx ⟨v, hv, hy⟩ => ⟨_, hx ▸ hy ▸ od_int fun _ => .int _, 1 + v, by omega, by omega, rfl⟩)) ae_nil))) (fun ds ⟨_, _, e, _, _, _, e2, _, _, _, e3, _, e4⟩ => by subst e; subst e2; subst e3; subst e4; show 3 ≤ 100000; decide))) fun o ho => ?_)
      obtain ⟨d, ⟨ds, rfl, _, _, rfl, rfl, _, _, rfl, ⟨a, a1, a2, rfl⟩, _, _, rfl, ⟨u, u1, u2, rfl⟩, rfl⟩, e⟩ := ho
      refine ⟨_, e, .at a u, ⟨a1, u1, u2⟩, ?_, ?_, rfl⟩
      · show 1 ≤ max a u; omega
      · show max a u ≤ szB; unfold szB at *; omega
    · have hv2 : 2 ≤ v := by have := of_decide_eq_false h.symm; omega
      refine c_unl2 5 6 hN (e_lc (Φ := (· = [.int 0, .int 1])) (Ft := fun _ c => c = true) (Fe := fun _ d => R_l_tree n [] d) 7 hN (ie_of (i_range (m := 2) j_int T.b_range (by decide) (by decide))) (fun _ _ _ _ _ _ _ _ _ => tte_nil) fun ds e a ha _ _ _ _ _ _ => e_callB ih hr (ae_of (ja_cons (j_v 0) (ja_cons (j_v 1) (ja_cons (j_v 2) (ja_cons (j_is (d' := .int (n : Int)) (j_b bd_subI (j_v 3) j_int) ?_) ja_nil))))) (fun ds e => ⟨_, e, ⟨top, scale, hs, rfl⟩, fun d h => h⟩) (Nat.le_refl _)) fun d hd => ?_
      · congr 1; omega
      · obtain ⟨ds, rs, rfl, hl, rfl⟩ := hd
        obtain ⟨d1, d2, rfl, ⟨_, t1, k1, b1, c1, rfl⟩, ⟨_, t2, k2, b2, c2, rfl⟩⟩ := lcR_two hl
        refine ⟨_, _, rfl, c_one (c_imS (w_ret (e_of (j_tup (ja_cons (j_ixL (d := .str (if v = 2 then "or" else "and")) (j_lst (ja_cons j_str (ja_cons j_str ja_nil))) (j_b bd_subI (j_v 4) j_int) ?_) (ja_cons (j_v 5) (ja_cons (j_v 6) ja_nil)))))) fun o ho => ?_)⟩
        · have : v = 2 ∨ v = 3 := by omega
          rcases this with rfl | rfl <;> rfl
        · obtain ⟨d, rfl, e⟩ := ho
          refine ⟨_, e, .jn (decide (v = 2)) t1 t2, ⟨k1, k2⟩, ?_, ?_, ?_⟩
          · exact (thr_jn b1 c1 b2 c2).1
          · exact (thr_jn b1 c1 b2 c2).2
          · by_cases h2 : v = 2
            · subst h2; rfl
            · rw [if_neg h2, decide_eq_false h2]; rfl
theorem ok_l_tree1 (T : Facts K mg) : OkG P w K mg base 4 "_law_draw_tree" ["_law_bag_here", "_law_top", "_law_scale", "_law_depth"] (spB K (P_l_tree 1) (R_l_tree 1)) := ok_l_draw_tree T 1
def R_l_pool1 (ds : List D) (d : D) : Prop := ∃ l : Pl, okP l ∧ d = plD trD l
theorem ok_l_draw_pool (T : Facts K mg) : OkG P w K mg base 5 "_law_draw_pool" ["_law_bag_here", "_law_top", "_law_scale"] (spB K P_l_size R_l_pool1) := by
  have G_l_take := ok_l_take (P := P) (w := w) (base := base) T
  have G_l_tree1 := ok_l_tree1 (P := P) (w := w) (base := base) T
  have G_l_draw_size := ok_l_draw_size (P := P) (w := w) (base := base) T
  have G_l_thr1 := ok_l_thr1 (P := P) (w := w) (base := base) T
  obtain ⟨fd, F⟩ := T.fl_draw_pool
  have hN : (["_law_bag_here", "_law_top", "_law_scale", "_law_tree", "_law_when", "_law_worth"] : List Str).Nodup := by decide +kernel
  refine ⟨_, T.g_law_draw_pool, fn_B F (N := ["_law_bag_here", "_law_top", "_law_scale", "_law_tree", "_law_when", "_law_worth"]) ⟨rfl, rfl, rfl, hN, rfl, by decide +kernel, by decide +kernel⟩ (fun ds h => by obtain ⟨top, scale, hs, rfl⟩ := h; rfl) (fun _ _ _ _ _ _ us hl => match us, hl with | [_, _, _], _ => rfl) ?_⟩
  rintro q ds ⟨top, scale, hs, rfl⟩ cdv A0 outer0 s0 H0 E0 hr
  refine c_set 3 hN (e_callB (Θ := R_l_tree 1 []) G_l_tree1 hr (ae_of (ja_cons (j_v 0) (ja_cons (j_v 1) (ja_cons (j_v 2) (ja_cons j_int ja_nil))))) (fun ds e => ⟨_, e, ⟨top, scale, hs, rfl⟩, fun d h => h⟩)) fun d ⟨t, ht, b1, b2, e⟩ => ?_
  subst e
  refine c_set 4 hN (e_ix (Φ := (· = .lst [.str "read", .str "come", .str "read", .str "read"])) (Ψ := fun d => ∃ v : Nat, (v : Int) < 4 ∧ d = .int v) (Θ := fun d => ∃ m : Str, (m = "read" ∨ m = "come") ∧ d = .str m) (e_of (j_lst (ja_cons j_str (ja_cons j_str (ja_cons j_str (ja_cons j_str ja_nil)))))) (e_take G_l_take hr (j_v 0) (e_of j_int) (by decide) (by decide)) ?_) fun d ⟨m, hm, e⟩ => ?_
  · rintro x y rfl ⟨v, hv, rfl⟩
    have : v = 0 ∨ v = 1 ∨ v = 2 ∨ v = 3 := by omega
    rcases this with rfl | rfl | rfl | rfl
    · exact ⟨_, _, _, rfl, rfl, rfl, _, .inl rfl, rfl⟩
    · exact ⟨_, _, _, rfl, rfl, rfl, _, .inr rfl, rfl⟩
    · exact ⟨_, _, _, rfl, rfl, rfl, _, .inl rfl, rfl⟩
    · exact ⟨_, _, _, rfl, rfl, rfl, _, .inl rfl, rfl⟩
  subst e
  refine c_set 5 hN (e_callB (Θ := R_l_size []) G_l_draw_size hr (ae_of (ja_cons (j_v 0) (ja_cons (j_v 1) (ja_cons (j_v 2) ja_nil)))) (fun ds e => ⟨_, e, ⟨top, scale, hs, rfl⟩, fun d h => h⟩)) fun d ⟨v, v1, v2, e⟩ => ?_
  subst e
  have eb : szB + szB ≤ big := by decide
  have fin : ∀ {c : Int}, 1 ≤ c → c ≤ szB + szB → (m = "come" → thr t ≤ c) → okP ⟨c, t, m⟩ := fun h1 h2 h3 => ⟨h1, Int.le_trans h2 eb, ht, hm.imp id fun e => ⟨e, h3 e⟩⟩
  refine c_cons (Ω1 := fun o => ∃ c, 1 ≤ c ∧ c ≤ szB + szB ∧ (m = "come" → thr t ≤ c) ∧ o = .nxt [some (.own q), some (.int top), some (.int scale), some (trD t), some (.str m), some (.int c)] []) (w_if (Φb := (· = decide (m = "come"))) (te_of (t_c cd_eqS (j_v 4) j_str)) (fun h => c_one (c_imS (w_p (s_aug 5 hN (j_b bd_subI (j_call G_l_thr1 hr (ja_cons (j_v 3) ja_nil) ⟨t, ht, rfl, rfl⟩) j_int))) fun o ho => ⟨_, ?_, ?_, fun _ => ?_, ho⟩)) (fun h => c_nil ⟨v, v1, ?_, fun e => absurd e (of_decide_eq_false h.symm), rfl⟩)) (fun ρ1 M1 hx => ?_) (fun o n hx => by obtain ⟨_, _, _, _, e⟩ := hx; exact absurd e (n _ _))
  · omega
  · omega
  · omega
  · have : (0 : Int) ≤ szB := by decide
    omega
  obtain ⟨c, c1, c2, c3, e⟩ := hx
  cases e
  refine c_one (c_imS (w_pr (s_ret (j_tup (ja_cons (j_v 5) (ja_cons (j_v 3) (ja_cons (j_v 4) ja_nil)))))) fun o ho => ⟨_, ho, ⟨c, t, m⟩, fin c1 c2 c3, rfl⟩)
end
end K51
end
section
set_option Elab.async false
set_option linter.all false
set_option maxRecDepth 100000
set_option maxHeartbeats 4000000
/-! The walk: groups and streams drawn. -/
namespace K51
open PySem PySem.Spec PyProof.Rows L2
section
variable {X : Cx} {b : Option Addr} {M : Mem} {ρ : En} {a a2 : Expr} {pos p : Pos} {q : Addr} {n : Nat} {rest : List Stmt} {Ω : Ou → Prop} {Φ Ψ Θ : D → Prop}
/-- an operation, its reading by the values -/
theorem e_opB {op : Operator} (ha : PE X a (tE X.K b M ρ Φ)) (hb : PE X a2 (tE X.K b M ρ Ψ)) (hd : ∀ x y, Φ x → Ψ y → ∃ z, BD X op x y z ∧ Θ z) : PE X (.BinOp a op a2 pos) (tE X.K b M ρ Θ) :=
  e_op (r := fun x y H Q => ∃ r, OpR X (binaryOp op) r ∧ r x y H Q) (fun pins s σ H x y v u Q I rx ry ⟨r, hr, h⟩ => hr pins s σ H x y v u Q I rx ry h) ha hb fun x y hx hy => by
    obtain ⟨z, ⟨r, hr, hz⟩, ht⟩ := hd x y hx hy
    exact ⟨z, fun v w H L Q e rv rw k => ⟨r, hr, hz v w H L Q e rv rw k⟩, ht⟩
theorem te_cmpB {op : CmpOp} {Θb : Bool → Prop} (ha : PE X a (tE X.K b M ρ Φ)) (hb : PE X a2 (tE X.K b M ρ Ψ)) (hd : ∀ x y, Φ x → Ψ y → ∃ z, CD X op x y z ∧ Θb z) (hm : behindInMarks op a2 = false := by first | exact nomark _ | rfl) : PT X (.Compare a [op] [a2] pos) (tTE X.K b M ρ Θb) :=
  te_cmp (r := fun x y H Q => ∃ r, OpR X (compareOp op) r ∧ r x y H Q) (fun pins s σ H x y v u Q I rx ry ⟨r, hr, h⟩ => hr pins s σ H x y v u Q I rx ry h) ha hb (fun x y hx hy => by
    obtain ⟨z, ⟨r, hr, hz⟩, ht⟩ := hd x y hx hy
    exact ⟨z, fun v w H L Q e rv rw k => ⟨r, hr, hz v w H L Q e rv rw k⟩, ht⟩) hm
/-- x, y = e1, e2 -/
theorem c_parE (i j : Nat) {x y : Str} {px py pt : Pos} {kt k2 pt2} (hN : X.N.Nodup) (h1 : PE X a (tE X.K b M ρ Φ)) (h2 : PE X a2 (tE X.K b M ρ Ψ)) (h3 : ∀ d1 d2, Φ d1 → Ψ d2 → PSs X rest (tW X.K b M ((ρ.set i (some d1)).set j (some d2)) Ω))
    (hc : X.calm = true := by rfl) (hi : X.N[i]? = some x := by rfl) (hj : X.N[j]? = some y := by rfl) (hij : i ≠ j := by decide) (hx : X.env.scope.names.lookup x = some .local := by rfl) (hy : X.env.scope.names.lookup y = some .local := by rfl)
    (hw : swappedStores [.Tuple [.Name x px, .Name y py] kt pt] (.Tuple [a, a2] k2 pt2) X.env = pure (some [x, y]) := by rfl)
    (hs : swapsWithSole [.Tuple [.Name x px, .Name y py] kt pt] (.Tuple [a, a2] k2 pt2) pos.line X.env = pure false := by rfl)
    (he : starEach [a, a2] X.env = (false, eval a X.env) :: starEach [a2] X.env := by rfl) (he2 : starEach [a2] X.env = (false, eval a2 X.env) :: starEach [] X.env := by rfl) :
    PSs X (.Assign [.Tuple [.Name x px, .Name y py] kt pt] (.Tuple [a, a2] k2 pt2) pos :: rest) (tW X.K b M ρ Ω) :=
  c_cons (Ω1 := fun o => ∃ d1 d2, Φ d1 ∧ Ψ d2 ∧ o = .nxt ((ρ.set i (some d1)).set j (some d2)) M) ((ps_par hc hN hi hj hij hx hy (ae_cons h1 (ae_cons h2 ae_nil he2) he) hw hs).imp fun E σ H ⟨L, e, env, ow, k⟩ => ⟨L, e, env, ow, fun vs H1 L1 ds ⟨d1, r1, e1, hd1, d2, r2, e2, hd2, hr2⟩ g o1 r => by
    subst e1; subst e2; subst hr2
    obtain ⟨v, vs2, rfl, s1, s2⟩ := r.cons_
    obtain ⟨w, vs3, rfl, s3, s4⟩ := s2.cons_
    obtain rfl := s4.nil_
    exact ⟨v, w, rfl, k _ ⟨d1, d2, hd1, hd2, rfl⟩ _ H1 L1 g.gs o1 (((env.ex g.lx).set s1).set s3)⟩⟩) (fun _ _ ⟨d1, d2, h1, h2, e⟩ => by cases e; exact h3 d1 d2 h1 h2) (fun o n h => by obtain ⟨_, _, _, _, e⟩ := h; exact absurd e (n _ _))
end
theorem dput_new {α : Type} {f : α → D} {t : Tb α} {k : Str} {v : α} (h : k ∉ keys t) : dput (dT f t) k (f v) = dT f (t ++ [(k, v)]) := by
  unfold dput
  have e : ¬ ((dT f t).any fun p => decide (p.1 = k)) = true := fun q => by
    obtain ⟨p, hp, e⟩ := List.any_eq_true.mp q
    obtain ⟨r, hr, rfl⟩ := List.mem_map.mp hp
    exact h (List.mem_map.mpr ⟨r, hr, of_decide_eq_true e⟩)
  rw [if_neg e]
  unfold dT
  rw [List.map_append]
  rfl
/-- None or one of the names -/
def oneOf (ks : List Str) (d : D) : Prop := ∃ o : Option Str, (∀ y, o = some y → y ∈ ks) ∧ d = ofO o
theorem pick_one {ks : List Str} {v : Nat} (h : v < ks.length + 1) : ∃ z, atI (D.non :: ks.map D.str) (v : Int) = some z ∧ oneOf ks z := by
  have hl : (D.non :: ks.map D.str).length = ks.length + 1 := by simp
  have e : atI (D.non :: ks.map D.str) (v : Int) = (D.non :: ks.map D.str)[v]? := by
    unfold atI
    rw [ixN_of (by omega) (by rw [hl]; omega)]
    rfl
  rw [e]
  cases v with
  | zero => exact ⟨.non, rfl, none, nofun, rfl⟩
  | succ i =>
    have hi : i < ks.length := by omega
    refine ⟨.str ks[i], ?_, some ks[i], fun y hy => by cases hy; exact List.getElem_mem hi, rfl⟩
    show (ks.map D.str)[i]? = _
    rw [List.getElem?_map, List.getElem?_eq_getElem hi]
    rfl
section
variable {P : Program} {w : World} {K : PySem.W.Frag} {mg : Str → Option Value} {base : Heap}
def P_l_groups (ds : List D) : Prop := ∃ (ns : List Str) (top scale : Int), ns.Nodup ∧ ns.length ≤ 3 ∧ okSc top scale ∧ ds = [.lst (ns.map D.str), .int top, .int scale]
def okTG (ns : List Str) (t : Tb Gr) : Prop := keys t = ns ∧ WR t.reverse ∧ ∀ x ∈ t, okP x.2.p
def R_l_groups (ds : List D) (d : D) : Prop := ∀ (ns : List Str) (a b : D), ds = [.lst (ns.map D.str), a, b] → ∃ t, okTG ns t ∧ d = .dct (dT (grD trD) t)
theorem strs_inj : ∀ {l m : List Str}, l.map D.str = m.map D.str → l = m
  | [], [], _ => rfl
  | [], _ :: _, h => by simp at h
  | _ :: _, [], h => by simp at h
  | x :: l, y :: m, h => by
    simp only [List.map_cons, List.cons.injEq, D.str.injEq] at h
    rw [h.1, strs_inj h.2]
theorem ok_l_draw_groups (T : Facts K mg) : OkG P w K mg base 6 "_law_draw_groups" ["_law_bag_here", "_law_names", "_law_top", "_law_scale"] (spB K P_l_groups R_l_groups) := by
  have G_l_take := ok_l_take (P := P) (w := w) (base := base) T
  have G_l_draw_pool := ok_l_draw_pool (P := P) (w := w) (base := base) T
  obtain ⟨fd, F⟩ := T.fl_draw_groups
  have hN : (["_law_bag_here", "_law_names", "_law_top", "_law_scale", "_law_found", "_law_name", "_law_around_here"] : List Str).Nodup := by decide +kernel
  refine ⟨_, T.g_law_draw_groups, fn_B F (N := ["_law_bag_here", "_law_names", "_law_top", "_law_scale", "_law_found", "_law_name", "_law_around_here"]) ⟨rfl, rfl, rfl, hN, rfl, by decide +kernel, by decide +kernel⟩ (fun ds h => by obtain ⟨ns, top, scale, nd, h3, hs, rfl⟩ := h; rfl) (fun _ _ _ _ _ _ us hl => match us, hl with | [_, _, _, _], _ => rfl) ?_⟩
  rintro q ds ⟨ns, top, scale, nd, h3, hs, rfl⟩ cdv A0 outer0 s0 H0 E0 hr
  refine c_new 4 hN (n_dict fr_dnil) fun q2 d hd => ?_
  subst hd
  refine c_cons (w_for1 (ls := ns) (c := D.str) 5 (fun j ρ1 M1 => ∃ x y t, okTG (ns.take j) t ∧ ρ1 = [some (.own q), some (.lst (ns.map D.str)), some (.int top), some (.int scale), some (.own q2), x, y] ∧ M1 = [(q2, .dct (dT (grD trD) t))]) hN hp_nox (i_list (j_v 1)) ⟨_, leE_rf _, none, none, [], ⟨by rw [List.take_zero]; rfl, trivial, nofun⟩, rfl, rfl⟩ ?_) (fun ρ1 M1 hx => ?_) (fun o n hx => by obtain ⟨_, _, _, e⟩ := hx; exact absurd e (n _ _))
  · rintro j z hz ρ1 M1 ⟨x, y, t, ⟨t1, t2, t3⟩, rfl, rfl⟩
    have hj : j < ns.length := (List.getElem?_eq_some_iff.mp hz).1
    have tk : ns.take (j + 1) = ns.take j ++ [z] := by rw [List.take_add_one, hz]; rfl
    have lt : t.length = j := by
      have := congrArg List.length t1
      rw [List.length_map, List.length_take] at this
      omega
    have nz : z ∉ keys t := by
      rw [t1]
      have nd2 : (ns.take (j + 1)).Nodup := nd.sublist (List.take_sublist _ _)
      rw [tk] at nd2
      exact fun h => (List.nodup_append.mp nd2).2.2 z h z (List.mem_singleton.mpr rfl) rfl
    refine c_set 6 hN (e_ix (Φ := (· = .lst (.non :: (keys t).map D.str))) (Ψ := fun d => ∃ v : Nat, (v : Int) < (t.length : Int) + 1 ∧ d = .int v) (Θ := oneOf (keys t)) (e_borS (i := 4) (j := 0) (t := dT (grD trD) t) (l := .non :: (keys t).map D.str) (j_is (j_b (bd_addL (l := [.non]) ?_) (j_lst (ja_cons j_non ja_nil)) (j_f (bf_listT' rfl) T.b_list (ja_cons (j_v 4) ja_nil))) rfl) (.cons rfl (f2_strs _))) (e_take G_l_take hr (j_v 0) (e_borD (i := 4) (j := 0) (t := dT (grD trD) t) (j_b bd_addI (j_f bf_lenT' T.b_len (ja_cons (j_v 4) ja_nil)) j_int) rfl) (by omega) (by rw [lt]; omega)) ?_) fun d ⟨o, ho, e⟩ => ?_
    · simp only [List.length_singleton, List.length_map]; show _ ≤ 100000; omega
    · rintro x y rfl ⟨v, hv, rfl⟩
      obtain ⟨z, h1, h2⟩ := pick_one (ks := keys t) (v := v) (by rw [List.length_map]; omega)
      exact ⟨_, _, z, rfl, rfl, h1, h2⟩
    subst e
    refine c_one (c_imS (w_dput 4 0 (Φ := fun d => ∃ g : Gr, okP g.p ∧ g.a = o ∧ d = grD trD g) hr (j_v 4) (j_v 5) rfl (e_opB (Φ := R_l_pool1 []) (Ψ := (· = .tup [ofO o])) (e_callB (Θ := R_l_pool1 []) G_l_draw_pool hr (ae_of (ja_cons (j_v 0) (ja_cons (j_v 2) (ja_cons (j_v 3) ja_nil)))) (fun ds e => ⟨_, e, ⟨top, scale, hs, rfl⟩, fun d h => h⟩)) (e_of (j_tup (ja_cons (j_v 6) ja_nil))) ?_) ?_) fun oo hoo => ?_)
    · rintro x y ⟨l, hl, rfl⟩ rfl
      exact ⟨_, bd_addT (Nat.le_of_ble_eq_true rfl), ⟨l, o⟩, hl, rfl, rfl⟩
    · rw [dT_len]; show _ ≤ 100000; omega
    · obtain ⟨_, ⟨g, hg, rfl, rfl⟩, e⟩ := hoo
      refine ⟨_, _, _, e, leE_rf _, _, _, t ++ [(z, g)], ⟨?_, ?_, fun x hx => ?_⟩, rfl, ?_⟩
      · rw [tk]; show (t ++ [(z, g)]).map (·.1) = _; rw [List.map_append, ← t1]; rfl
      · rw [List.reverse_append]
        have rm : ∀ y, y ∈ keys t → y ∈ keys t.reverse := fun y hy => by simpa [keys] using hy
        exact ⟨fun h => nz (by simpa [keys] using h), fun y hy => rm y (ho y hy), t2⟩
      · rcases List.mem_append.mp hx with h | h
        · exact t3 x h
        · rw [List.mem_singleton.mp h]; exact hg
      · show [(q2, D.dct (dput (dT (grD trD) t) z (grD trD g)))] = _
        rw [dput_new nz]
  · obtain ⟨ρ', M', ⟨x, y, t, ht, rfl, rfl⟩, e⟩ := hx
    cases e
    rw [List.take_length] at ht
    refine c_relD 4 0 (c_one (c_imS (w_pr (s_ret (j_v 4))) fun o ho => ⟨_, ho, fun ns2 a b e => ?_⟩))
    simp only [List.cons.injEq, D.lst.injEq] at e
    rw [← strs_inj e.1]
    exact ⟨t, ht, rfl⟩
end
end K51
end
section
set_option Elab.async false
set_option linter.all false
set_option maxRecDepth 100000
set_option maxHeartbeats 4000000
/-! The walk: a stream drawn; slow streams drawn. -/
namespace K51
open PySem PySem.Spec PyProof.Rows L2
/-- parts, some of the streams drawn -/
structure Pre (p : Pa) : Prop where
  nd : (keys p.st).Nodup
  nm : ∀ x ∈ keys p.st, okN x
  s6 : p.st.length ≤ 6
  h3 : p.ho.length ≤ 3
  k3 : p.ki.length ≤ 3
  sh : ∀ x ∈ p.st, ∀ y, x.2.h = some y → y ∈ keys p.ho
  sk : ∀ x ∈ p.st, ∀ y, x.2.k = some y → y ∈ keys p.ki
/-- a stream that fits the parts -/
structure okM (p : Pa) (m : Sm) : Prop where
  t : okT 1 m.t
  c1 : 1 ≤ m.c
  cb : m.c ≤ big
  q : ∀ q, m.q = some q → 1 ≤ q ∧ q ≤ big
  lo : thr m.t + m.q.getD 1 - 1 ≤ m.c
  h : ∀ y, m.h = some y → y ∈ keys p.ho
  k : ∀ y, m.k = some y → y ∈ keys p.ki
  g : ∀ y, m.g = some y → ∃ m', gt p.st y = some m' ∧ m'.g = none ∧ m'.h = m.h ∧ m'.k = m.k
section
variable {P : Program} {w : World} {K : PySem.W.Frag} {mg : Str → Option Value} {base : Heap}
def P_l_stream (p : Pa) (ds : List D) : Prop := ∃ (top scale : Int), Pre p ∧ okSc top scale ∧ ds = [partsD p, .int top, .int scale]
def R_l_stream (p : Pa) (d : D) : Prop := ∃ m, okM p m ∧ d = smD trD m
def R_l_streamD (p : Pa) (ds : List D) (d : D) : Prop := R_l_stream p d
theorem ok_l_draw_stream (T : Facts K mg) (p : Pa) : OkG P w K mg base 5 "_law_draw_stream" ["_law_bag_here", "_law_parts", "_law_top", "_law_scale"] (spB K (P_l_stream p) (R_l_streamD p)) := by
  have G_l_take := ok_l_take (P := P) (w := w) (base := base) T
  have G_l_draw_size := ok_l_draw_size (P := P) (w := w) (base := base) T
  have G_l_tree1 := ok_l_tree1 (P := P) (w := w) (base := base) T
  have G_l_thr1 := ok_l_thr1 (P := P) (w := w) (base := base) T
  obtain ⟨fd, F⟩ := T.fl_draw_stream
  have hN : (["_law_bag_here", "_law_parts", "_law_top", "_law_scale", "_law_house", "_law_kind", "_law_free", "_law_guide", "_law_tree", "_law_cap", "_law_worth", "_law_name"] : List Str).Nodup := by decide +kernel
  refine ⟨_, T.g_law_draw_stream, fn_B F (N := ["_law_bag_here", "_law_parts", "_law_top", "_law_scale", "_law_house", "_law_kind", "_law_free", "_law_guide", "_law_tree", "_law_cap", "_law_worth", "_law_name"]) ⟨rfl, rfl, rfl, hN, rfl, by decide +kernel, by decide +kernel⟩ (fun ds h => by obtain ⟨top, scale, W, hs, rfl⟩ := h; rfl) (fun _ _ _ _ _ _ us hl => match us, hl with | [_, _, _, _], _ => rfl) ?_⟩
  rintro q ds ⟨top, scale, W, hs, rfl⟩ cdv A0 outer0 s0 H0 E0 hr
  have l1 := W.h3
  have l2 := W.k3
  have l6 := W.s6
  refine c_set 4 hN (e_ix (Φ := (· = .lst (.non :: (keys p.ho).map D.str))) (Ψ := fun d => ∃ v : Nat, (v : Int) < (p.ho.length : Int) + 1 ∧ d = .int v) (Θ := oneOf (keys p.ho)) (e_of (j_is (j_b (bd_addL (l := [.non]) ?_) (j_lst (ja_cons j_non ja_nil)) (j_f (bf_listT' rfl) T.b_list (ja_cons (q_houses hr (j_v 1)) ja_nil))) rfl)) (e_take G_l_take hr (j_v 0) (e_of (j_b bd_addI (j_f bf_lenT' T.b_len (ja_cons (q_houses hr (j_v 1)) ja_nil)) j_int)) (by omega) (by omega)) ?_) fun d ⟨h0, hh0, e⟩ => ?_
  · simp only [List.length_singleton, List.length_map]; show _ ≤ 100000; omega
  · rintro x y rfl ⟨v, hv, rfl⟩
    obtain ⟨z, h1, h2⟩ := pick_one (ks := keys p.ho) (v := v) (by rw [List.length_map]; omega)
    exact ⟨_, _, z, rfl, rfl, h1, h2⟩
  subst e
  refine c_set 5 hN (e_ix (Φ := (· = .lst (.non :: (keys p.ki).map D.str))) (Ψ := fun d => ∃ v : Nat, (v : Int) < (p.ki.length : Int) + 1 ∧ d = .int v) (Θ := oneOf (keys p.ki)) (e_of (j_is (j_b (bd_addL (l := [.non]) ?_) (j_lst (ja_cons j_non ja_nil)) (j_f (bf_listT' rfl) T.b_list (ja_cons (q_kinds hr (j_v 1)) ja_nil))) rfl)) (e_take G_l_take hr (j_v 0) (e_of (j_b bd_addI (j_f bf_lenT' T.b_len (ja_cons (q_kinds hr (j_v 1)) ja_nil)) j_int)) (by omega) (by omega)) ?_) fun d ⟨k0, hk0, e⟩ => ?_
  · simp only [List.length_singleton, List.length_map]; show _ ≤ 100000; omega
  · rintro x y rfl ⟨v, hv, rfl⟩
    obtain ⟨z, h1, h2⟩ := pick_one (ks := keys p.ki) (v := v) (by rw [List.length_map]; omega)
    exact ⟨_, _, z, rfl, rfl, h1, h2⟩
  subst e
  let fr : Str → Bool := fun z => match gt p.st z with | some m => m.g.isNone | none => false
  let free : List Str := (keys p.st).filter fr
  refine c_p (s_setLc (ls := keys p.st) (c := D.str) (f := D.str) (pr := fr) 6 11 hN (i_keysT (q_streams hr (j_v 1))) (fun z hz _ _ _ _ _ => tt_one ?_) fun z hz hp _ _ _ _ _ => j_v 11) ?_
  · obtain ⟨m, hm⟩ := gt_in hz
    have e : fr z = m.g.isNone := by simp only [fr, hm]
    rw [e, ← isN_ofO]
    exact t_c cd_isN (j_ixT (d := ofO m.g) (j_is (j_at hr hm (q_streams hr (j_v 1)) (j_v 11)) rfl) j_int rfl) j_non
  refine c_parE 7 8 hN (e_of j_non) (e_callB (Θ := R_l_tree 1 []) G_l_tree1 hr (ae_of (ja_cons (j_v 0) (ja_cons (j_v 2) (ja_cons (j_v 3) (ja_cons j_int ja_nil))))) (fun ds e => ⟨_, e, ⟨top, scale, hs, rfl⟩, fun d h => h⟩)) fun d1 d2 e1 ⟨t, ht, b1, b2, e2⟩ => ?_
  subst e1; subst e2
  have fm : ∀ y ∈ free, y ∈ keys p.st ∧ ∃ m, gt p.st y = some m ∧ m.g = none := fun y hy => by
    obtain ⟨h1, h2⟩ := List.mem_filter.mp hy
    obtain ⟨m, hm⟩ := gt_in h1
    simp only [fr, hm] at h2
    exact ⟨h1, m, hm, by cases q : m.g with | none => rfl | some z => rw [q] at h2; cases h2⟩
  have fl : free.length ≤ 6 := Nat.le_trans (List.length_filter_le _ _) (by rw [List.length_map]; exact l6)
  have fok : okS free := fun x hx => okN_ok (W.nm x (fm x hx).1)
  refine c_cons (Ω1 := fun o => ∃ h k g : Option Str, (∀ y, h = some y → y ∈ keys p.ho) ∧ (∀ y, k = some y → y ∈ keys p.ki) ∧ (∀ y, g = some y → ∃ m', gt p.st y = some m' ∧ m'.g = none ∧ m'.h = h ∧ m'.k = k) ∧ o = .nxt [some (.own q), some (partsD p), some (.int top), some (.int scale), some (ofO h), some (ofO k), some (.lst (free.map D.str)), some (ofO g), some (trD t), none, none, none] []) (w_if (Φb := fun c => c = true → free ≠ []) (te_im (PW.pt (we_and (Φb := (· = !decide (free = []))) (Ψb := fun _ => True) (te_of (t_c (cd_neL (l := free) (m := []) hr fok nofun) (j_v 6) (j_lst ja_nil))) (we_and1 (te_cmpB (Φ := fun d => ∃ v : Nat, (v : Int) < 3 ∧ d = .int v) (Ψ := (· = .int 0)) (e_take G_l_take hr (j_v 0) (e_of j_int) (by decide) (by decide)) (e_of j_int) fun x y ⟨v, _, hx⟩ hy => by subst hx; subst hy; exact ⟨_, cd_eqI, trivial⟩)))) ?_) (fun hne => ?_) fun _ => c_nil ⟨h0, k0, none, hh0, hk0, nofun, rfl⟩) (fun ρ1 M1 hx => ?_) (fun o n hx => by obtain ⟨_, _, _, _, _, _, e⟩ := hx; exact absurd e (n _ _))
  · rintro c (⟨_, rfl⟩ | ⟨h, _⟩) hc
    · cases hc
    · intro e; rw [e] at h; cases h
  · have fne := hne rfl
    have fpos : 0 < free.length := List.length_pos_iff.mpr fne
    refine c_set 7 hN (e_ix (Φ := (· = .lst (free.map D.str))) (Ψ := fun d => ∃ v : Nat, (v : Int) < (free.length : Int) ∧ d = .int v) (Θ := fun d => ∃ y ∈ free, d = .str y) (e_of (j_v 6)) (e_take (m := (free.length : Int)) G_l_take hr (j_v 0) (e_of (j_is (j_f bf_lenL T.b_len (ja_cons (j_v 6) ja_nil)) (by rw [List.length_map]))) (by omega) (by omega)) ?_) fun d ⟨y, hy, e⟩ => ?_
    · rintro x y rfl ⟨v, hv, rfl⟩
      have hv' : v < free.length := by omega
      refine ⟨_, _, .str free[v], rfl, rfl, ?_, free[v], List.getElem_mem hv', rfl⟩
      unfold atI
      rw [ixN_of (by omega) (by rw [List.length_map]; exact hv)]
      show (free.map D.str)[v]? = _
      rw [List.getElem?_map, List.getElem?_eq_getElem hv']
      rfl
    subst e
    obtain ⟨hy1, m, hm, hg⟩ := fm y hy
    refine c_one (c_imS (w_p (s_un2 4 5 hN (j_slT (j_is (j_at hr hm (q_streams hr (j_v 1)) (j_v (d := .str y) 7)) rfl) (o_some j_int) (o_some j_int)))) fun o ho => ⟨m.h, m.k, some y, W.sh _ (gt_mem hm), W.sk _ (gt_mem hm), fun z hz => by cases hz; exact ⟨m, hm, hg, rfl, rfl⟩, ho⟩)
  obtain ⟨h, k, g, vh, vk, vg, e⟩ := hx
  cases e
  refine c_set 9 hN (e_ix (Φ := fun d => ∃ (a u : Int), 1 ≤ a ∧ a ≤ szB ∧ 1 ≤ u ∧ u ≤ 3 ∧ d = .lst [.non, .int a, .int u]) (Ψ := fun d => ∃ v : Nat, (v : Int) < 3 ∧ d = .int v) (Θ := fun d => ∃ o : Option Int, (∀ n, o = some n → 1 ≤ n ∧ n ≤ szB) ∧ d = ofI o) (e_im (e_lst (ae_cons (e_of j_non) (ae_cons (e_callB (Θ := R_l_size []) G_l_draw_size hr (ae_of (ja_cons (j_v 0) (ja_cons (j_v 2) (ja_cons (j_v 3) ja_nil)))) (fun ds e => ⟨_, e, ⟨top, scale, hs, rfl⟩, fun d h => h⟩)) (ae_cons (e_op (Φ := (· = .int 1)) (Ψ := fun d => ∃ v : Nat, (v : Int) < 3 ∧ d = .int v) (Θ := fun d => ∃ u : Int, 1 ≤ u ∧ u ≤ 3 ∧ d = .int u) op_add (e_of j_int) (e_take G_l_take hr (j_v 0) (e_of j_int) (by decide) (by decide)) (fun x y hx ⟨v, hv, hy⟩ => ⟨_, hx ▸ hy ▸ od_int fun _ => .int _, 1 + v, by omega, by omega, rfl⟩)) ae_nil))) (fun ds ⟨_, _, e, _, _, _, e2, _, _, _, e3, _, e4⟩ => by subst e; subst e2; subst e3; subst e4; show 3 ≤ 100000; decide)) fun d hd => ?_) (e_take G_l_take hr (j_v 0) (e_of j_int) (by decide) (by decide)) ?_) fun d ⟨o, ho, e⟩ => ?_
  · obtain ⟨ds, rfl, _, _, rfl, rfl, _, _, rfl, ⟨a, a1, a2, rfl⟩, _, _, rfl, ⟨u, u1, u2, rfl⟩, rfl⟩ := hd
    exact ⟨a, u, a1, a2, u1, u2, rfl⟩
  · rintro x y ⟨a, u, a1, a2, u1, u2, rfl⟩ ⟨v, hv, rfl⟩
    have sz3 : (3 : Int) ≤ szB := by decide
    have : v = 0 ∨ v = 1 ∨ v = 2 := by omega
    rcases this with rfl | rfl | rfl
    · exact ⟨_, _, _, rfl, rfl, rfl, none, nofun, rfl⟩
    · exact ⟨_, _, _, rfl, rfl, rfl, some a, fun n hn => by cases hn; exact ⟨a1, a2⟩, rfl⟩
    · exact ⟨_, _, _, rfl, rfl, rfl, some u, fun n hn => by cases hn; exact ⟨u1, by omega⟩, rfl⟩
  subst e
  refine c_set 10 hN (e_op (Φ := (· = .int (thr t + o.getD 1 - 2))) (Ψ := R_l_size []) (Θ := fun d => ∃ v : Int, 1 ≤ v ∧ v ≤ szB ∧ d = .int (thr t + o.getD 1 - 2 + v)) op_add (e_of (j_b bd_subI (j_b bd_addI (j_call G_l_thr1 hr (ja_cons (j_v 8) ja_nil) ⟨t, ht, rfl, rfl⟩) (j_orI (o := o) (j_v 9) (j_one j_int) ?_)) j_int)) (e_callB (Θ := R_l_size []) G_l_draw_size hr (ae_of (ja_cons (j_v 0) (ja_cons (j_v 2) (ja_cons (j_v 3) ja_nil)))) (fun ds e => ⟨_, e, ⟨top, scale, hs, rfl⟩, fun d h => h⟩)) (fun x y hx ⟨v, v1, v2, hy⟩ => ⟨_, hx ▸ hy ▸ od_int fun _ => .int _, v, v1, v2, rfl⟩)) fun d ⟨v, v1, v2, e⟩ => ?_
  · cases o with
    | none => rfl
    | some q => exact ⟨by have := (ho q rfl).1; omega, rfl⟩
  subst e
  have sb : szB + szB + szB ≤ big := by decide
  have s1 : (1 : Int) ≤ szB := by decide
  have o1 : 1 ≤ o.getD 1 ∧ o.getD 1 ≤ szB := by
    cases o with
    | none => exact ⟨Int.le_refl _, s1⟩
    | some q => exact ho q rfl
  refine c_one (c_imS (w_pr (s_ret (j_tup (ja_cons (j_v 10) (ja_cons (j_v 8) (ja_cons (j_v (d := ofI o) 9) (ja_cons (j_v (d := ofO h) 4) (ja_cons (j_v (d := ofO k) 5) (ja_cons (j_v (d := ofO g) 7) ja_nil))))))))) fun oo hoo => ⟨_, hoo, ⟨thr t + o.getD 1 - 2 + v, t, o, h, k, g⟩, ⟨ht, ?_, ?_, fun q hq => ?_, ?_, vh, vk, vg⟩, rfl⟩)
  · show 1 ≤ thr t + o.getD 1 - 2 + v; omega
  · show thr t + o.getD 1 - 2 + v ≤ big; omega
  · have := ho q hq; exact ⟨this.1, by omega⟩
  · show thr t + o.getD 1 - 1 ≤ thr t + o.getD 1 - 2 + v; omega
end
end K51
end
section
set_option Elab.async false
set_option linter.all false
set_option maxRecDepth 100000
set_option maxHeartbeats 4000000
/-! The walk: slow streams drawn, plans made. -/
namespace K51
open PySem PySem.Spec PyProof.Rows L2
def unS : D → Str
  | .str x => x
  | _ => ""
theorem perm_strs {l : List D} {m : List Str} (h : l.Perm (m.map D.str)) : ∃ m' : List Str, m'.Perm m ∧ l = m'.map D.str := by
  have e : (m.map D.str).map unS = m := by rw [List.map_map]; exact List.map_id' _
  refine ⟨l.map unS, by have := h.map unS; rwa [e] at this, ?_⟩
  rw [List.map_map]
  have : ∀ d ∈ l, (D.str ∘ unS) d = d := fun d hd => by
    obtain ⟨x, _, rfl⟩ := List.mem_map.mp (h.mem_iff.mp hd)
    rfl
  rw [List.map_congr_left this, List.map_id']
theorem cut_1 (l : List D) : cutD l (some 1) none = l.drop 1 := by
  cases l with
  | nil => rfl
  | cons x r =>
    unfold cutD
    rw [show (HT.sIx (x :: r).length 0 (some 1)) = 1 from by show min 1 (r.length + 1) = 1; omega]
    exact List.take_of_length_le (by show (r.length) ≤ _; show r.length ≤ (r.length + 1) - 1; omega)
theorem cut_0 (l : List D) : cutD l (some 0) none = l := by
  unfold cutD
  rw [show (HT.sIx l.length 0 (some 0)) = 0 from by show min 0 l.length = 0; omega]
  exact List.take_of_length_le (Nat.le_refl _)
theorem lcR_strs {Ft : D → Bool → Prop} {l rs : List D} {m : List Str} (h : LcR Ft (fun a d => d = a) l rs) (e : l = m.map D.str) : ∃ m' : List Str, m'.Sublist m ∧ rs = m'.map D.str := by
  induction h generalizing m with
  | nil => exact ⟨[], List.nil_sublist _, rfl⟩
  | @skip l ds a h1 h2 ih =>
    have e1 : l = (m.take l.length).map D.str := by
      have := congrArg (List.take l.length) e
      rw [List.take_left, ← List.map_take] at this
      exact this
    obtain ⟨m', s, r⟩ := ih e1
    exact ⟨m', s.trans (List.take_sublist _ _), r⟩
  | @take l ds a d h1 h2 h3 ih =>
    have e1 : l = (m.take l.length).map D.str := by
      have := congrArg (List.take l.length) e
      rw [List.take_left, ← List.map_take] at this
      exact this
    have e2 : [a] = (m.drop l.length).map D.str := by
      have := congrArg (List.drop l.length) e
      rw [List.drop_left, ← List.map_drop] at this
      exact this
    obtain ⟨m', s, r⟩ := ih e1
    refine ⟨m' ++ m.drop l.length, ?_, ?_⟩
    · have := s.append (List.Sublist.refl (m.drop l.length))
      rwa [List.take_append_drop] at this
    · rw [List.map_append, ← e2, r, h3]
section
variable {P : Program} {w : World} {K : PySem.W.Frag} {mg : Str → Option Value} {base : Heap}
def P_l_slow (ds : List D) : Prop := ∃ p, WP p ∧ ds = [partsD p]
def R_l_slow (ds : List D) (d : D) : Prop := ∀ p, ds = [partsD p] → ∃ l, WS p l ∧ d = .lst (l.map D.str)
def P_l_slow2 (p : Pa) (ds : List D) : Prop := WP p ∧ ds = [partsD p]
def R_l_slow2 (p : Pa) (ds : List D) (d : D) : Prop := ∃ l, WS p l ∧ d = .lst (l.map D.str)
theorem mixed_strs {ds : List D} {l : List Str} {d : D} (h : R_l_mixed ds d) (e : ds = [.lst (l.map D.str)]) : ∃ l' : List Str, l'.Perm l ∧ d = .lst (l'.map D.str) := by
  obtain ⟨l', h1, h2⟩ := h _ e
  obtain ⟨m, hm, rfl⟩ := perm_strs h1
  exact ⟨m, hm, h2⟩
theorem ok_l_draw_slow (T : Facts K mg) (p : Pa) : OkG P w K mg base 3 "_law_draw_slow" ["_law_bag_here", "_law_parts"] (spB K (P_l_slow2 p) (R_l_slow2 p)) := by
  have G_l_take := ok_l_take (P := P) (w := w) (base := base) T
  have G_l_mixed := ok_l_mixed (P := P) (w := w) (base := base) T
  have G_l_guides := ok_l_guides (P := P) (w := w) (base := base) T
  obtain ⟨fd, F⟩ := T.fl_draw_slow
  have hN : (["_law_bag_here", "_law_parts", "_law_some", "_law_found", "_law_name"] : List Str).Nodup := by decide +kernel
  refine ⟨_, T.g_law_draw_slow, fn_B F (N := ["_law_bag_here", "_law_parts", "_law_some", "_law_found", "_law_name"]) ⟨rfl, rfl, rfl, hN, rfl, by decide +kernel, by decide +kernel⟩ (fun ds h => by obtain ⟨W, rfl⟩ := h; rfl) (fun _ _ _ _ _ _ us hl => match us, hl with | [_, _], _ => rfl) ?_⟩
  rintro q ds ⟨W, rfl⟩ cdv A0 outer0 s0 H0 E0 hr
  have l6 := W.s6
  let sm : List Str := (keys p.st).filter fun z => !decide (z ∈ guides p)
  refine c_p (s_setLc (ls := keys p.st) (c := D.str) (f := D.str) (pr := fun z => !decide (z ∈ guides p)) 2 4 hN (i_keysT (q_streams hr (j_v 1))) (fun z hz _ _ _ _ _ => tt_one (t_c cd_nin (j_v 4) (j_call G_l_guides hr (ja_cons (j_v 1) ja_nil) ⟨p, W, rfl, rfl⟩))) fun z hz hp _ _ _ _ _ => j_v 4) ?_
  have sl : sm.length ≤ 6 := Nat.le_trans (List.length_filter_le _ _) (by rw [List.length_map]; exact l6)
  refine c_setLc (Φ := fun ds => ∃ l' : List Str, l'.Perm sm ∧ ds = l'.map D.str) (Ft := fun _ _ => True) (Fe := fun a d => d = a) 3 4 hN (ie_list (e_callB (Θ := fun d => ∃ ds, d = .lst ds ∧ ∃ l' : List Str, l'.Perm sm ∧ ds = l'.map D.str) G_l_mixed hr (ae_of (ja_cons (j_v 0) (ja_cons (j_v 2) ja_nil))) fun ds e => ⟨_, e, ⟨_, by rw [List.length_map]; exact Nat.le_trans sl (by decide), rfl⟩, fun d hd => ?_⟩)) (fun _ _ a ha _ _ _ _ _ => tte_one (te_cmpB (Φ := fun d => ∃ v : Nat, (v : Int) < 2 ∧ d = .int v) (Ψ := (· = .int 0)) (e_take G_l_take hr (j_v 0) (e_of j_int) (by decide) (by decide)) (e_of j_int) fun x y ⟨v, _, hx⟩ hy => by subst hx; subst hy; exact ⟨_, cd_eqI, trivial⟩)) (fun _ _ a ha _ _ _ _ _ _ => e_of (j_v 4)) fun ds rs ⟨l', hl', e⟩ hr2 => ?_
  · obtain ⟨l', h1, h2⟩ := mixed_strs hd rfl
    exact ⟨_, h2, l', h1, rfl⟩
  obtain ⟨fo, hfo, rfl⟩ := lcR_strs hr2 e
  refine c_one (c_imS (w_pr (s_ret (j_slL (j_v 3) (o_some (j_f bf_intB T.b_int (ja_cons (j_c cd_eqI (j_f bf_lenL T.b_len (ja_cons (j_v 3) ja_nil)) (j_f bf_lenT' T.b_len (ja_cons (q_streams hr (j_v 1)) ja_nil))) ja_nil))) o_none))) fun o ho => ?_)
  have mem : ∀ z ∈ fo, z ∈ keys p.st ∧ z ∉ guides p := fun z hz => by
    have h1 := hl'.mem_iff.mp (hfo.subset hz)
    obtain ⟨h2, h3⟩ := List.mem_filter.mp h1
    exact ⟨h2, by simpa using h3⟩
  have nd : fo.Nodup := (hl'.nodup_iff.mpr (W.ns.sublist List.filter_sublist)).sublist hfo
  have len : fo.length ≤ p.st.length := by have := nd_len nd fun x hx => (mem x hx).1; rwa [List.length_map] at this
  by_cases hc : fo.length = p.st.length
  · refine ⟨_, ho, fo.drop 1, ⟨fun z hz => mem z (List.mem_of_mem_drop hz), nd.sublist (List.drop_sublist _ _), ?_⟩, ?_⟩
    · have := W.s1
      rw [List.length_drop]; omega
    · rw [decide_eq_true (show ((fo.map D.str).length : Int) = p.st.length by rw [List.length_map, hc])]
      show D.lst (cutD (fo.map D.str) (some 1) none) = _
      rw [cut_1, List.map_drop]
  · refine ⟨_, ho, fo, ⟨mem, nd, by omega⟩, ?_⟩
    rw [decide_eq_false (show ¬ ((fo.map D.str).length : Int) = p.st.length by rw [List.length_map]; omega)]
    show D.lst (cutD (fo.map D.str) (some 0) none) = _
    rw [cut_0]
end
end K51
end
section
set_option Elab.async false
set_option linter.all false
set_option maxRecDepth 100000
set_option maxHeartbeats 4000000
/-! The walk: plans made of parts. -/
namespace K51
open PySem PySem.Spec PyProof.Rows L2
section
variable {P : Program} {w : World} {K : PySem.W.Frag} {mg : Str → Option Value} {base : Heap}
theorem sub_perm {α : Type} {l : Tb α} {ks : List Str} (nd : (keys l).Nodup) (h : ks.Perm (keys l)) : ∃ t : Tb α, l.Perm t ∧ keys t = ks ∧ ∀ k, gt t k = gt l k := by
  have key : ∀ ks : List Str, (∀ k ∈ ks, k ∈ keys l) → ∃ t : Tb α, keys t = ks ∧ ∀ p ∈ t, p ∈ l := fun ks => by
    induction ks with
    | nil => exact fun _ => ⟨[], rfl, nofun⟩
    | cons k r ih =>
      intro hk
      obtain ⟨v, hv⟩ := gt_in (hk k List.mem_cons_self)
      obtain ⟨t, h1, h2⟩ := ih fun x hx => hk x (List.mem_cons_of_mem _ hx)
      exact ⟨(k, v) :: t, by show k :: keys t = _; rw [h1], fun p hp => (List.mem_cons.mp hp).elim (fun e => e ▸ gt_mem hv) (h2 p)⟩
  obtain ⟨t, h1, h2⟩ := key ks fun k hk => h.mem_iff.mp hk
  have ndt : (keys t).Nodup := by rw [h1]; exact h.nodup_iff.mpr nd
  have nt : t.Nodup := List.Pairwise.of_map _ (fun a b hab e => hab (congrArg _ e)) ndt
  have nl : l.Nodup := List.Pairwise.of_map _ (fun a b hab e => hab (congrArg _ e)) nd
  have pm : l.Perm t := by
    refine (List.perm_ext_iff_of_nodup nl nt).mpr fun x => ⟨fun hx => ?_, fun hx => h2 x hx⟩
    have hk : x.1 ∈ keys t := by rw [h1]; exact h.mem_iff.mpr (List.mem_map.mpr ⟨x, hx, rfl⟩)
    obtain ⟨v, hv⟩ := gt_in hk
    have h3 := h2 _ (gt_mem hv)
    have e1 := gt_of_mem nd h3
    have e2 := gt_of_mem nd (show (x.1, x.2) ∈ l from hx)
    rw [e1] at e2
    cases e2
    exact gt_mem hv
  exact ⟨t, pm, h1, fun k => gt_perm nd pm⟩
/-- one of the parts' three tables: its name there, its keys, its entries there and in the plan -/
structure Tab where
  nm : Str
  ks : List Str
  fr : Str → D
  fp : Str → D
def okTab (p : Pa) (t : Tab) : Prop := t.ks.length ≤ 6 ∧ t.ks.Nodup ∧ dget (partsL p) t.nm = some (.dct (t.ks.map fun k => (k, t.fr k))) ∧ ∀ k ∈ t.ks, ∃ (c : Int) (tr : Tr) (r : List D), okT 1 tr ∧ r.length ≤ 4 ∧ t.fr k = .tup (.int c :: trD tr :: r) ∧ t.fp k = .tup (.int c :: ruleD tr :: r)
theorem cut_hd (x y : D) (r : List D) : cutD (x :: y :: r) none (some 1) = [x] := by
  unfold cutD
  rw [show HT.sIx (x :: y :: r).length (x :: y :: r).length (some 1) = 1 from by show min 1 (r.length + 1 + 1) = 1; omega]
  rfl
theorem cut_tl (x y : D) (r : List D) : cutD (x :: y :: r) (some 2) none = r := by
  unfold cutD
  rw [show HT.sIx (x :: y :: r).length 0 (some 2) = 2 from by show min 2 (r.length + 1 + 1) = 2; omega]
  exact List.take_of_length_le (by show r.length ≤ r.length + 1 + 1 - 2; omega)
def mkF {α : Type} (f : α → D) (l : Tb α) (k : Str) : D := match gt l k with
  | some x => f x
  | none => .non
theorem mkF_of {α : Type} {f : α → D} {l : Tb α} {k : Str} {x : α} (h : gt l k = some x) : mkF f l k = f x := by unfold mkF; rw [h]
theorem mkF_tab {α : Type} {f : α → D} {l : Tb α} (nd : (keys l).Nodup) : dT f l = (keys l).map fun k => (k, mkF f l k) := by
  have := tab_of (l := dT f l) (F := mkF f l) fun p hp => by
    obtain ⟨q, hq, rfl⟩ := List.mem_map.mp hp
    exact mkF_of (gt_of_mem nd (show (q.1, q.2) ∈ l from hq))
  rw [this, show keys (dT f l) = keys l from dT_keys]
def tabs (p : Pa) : List Tab := [⟨"houses", keys p.ho, mkF (grD trD) p.ho, mkF (grD ruleD) p.ho⟩, ⟨"kinds", keys p.ki, mkF (grD trD) p.ki, mkF (grD ruleD) p.ki⟩, ⟨"streams", keys p.st, mkF (smD trD) p.st, mkF (smD ruleD) p.st⟩]
theorem tabs_ok {p : Pa} (W : WP p) : ∀ t ∈ tabs p, okTab p t := by
  intro t ht
  have l1 := W.h3
  have l2 := W.k3
  have l3 := W.s6
  simp only [tabs, List.mem_cons, List.not_mem_nil, or_false] at ht
  rcases ht with rfl | rfl | rfl
  · refine ⟨by show (keys p.ho).length ≤ 6; rw [List.length_map]; omega, W.nh, ?_, fun k hk => ?_⟩
    · show _ = some (D.dct ((keys p.ho).map fun k => (k, mkF (grD trD) p.ho k))); rw [← mkF_tab W.nh]; rfl
    · obtain ⟨x, hx⟩ := gt_in hk
      exact ⟨x.p.c, x.p.t, [.str x.p.m, ofO x.a], (W.ph _ (gt_mem hx)).2.2.1, by simp, mkF_of hx, mkF_of hx⟩
  · refine ⟨by show (keys p.ki).length ≤ 6; rw [List.length_map]; omega, W.nk, ?_, fun k hk => ?_⟩
    · show _ = some (D.dct ((keys p.ki).map fun k => (k, mkF (grD trD) p.ki k))); rw [← mkF_tab W.nk]; rfl
    · obtain ⟨x, hx⟩ := gt_in hk
      exact ⟨x.p.c, x.p.t, [.str x.p.m, ofO x.a], (W.pk _ (gt_mem hx)).2.2.1, by simp, mkF_of hx, mkF_of hx⟩
  · refine ⟨by show (keys p.st).length ≤ 6; rw [List.length_map]; omega, W.ns, ?_, fun k hk => ?_⟩
    · show _ = some (D.dct ((keys p.st).map fun k => (k, mkF (smD trD) p.st k))); rw [← mkF_tab W.ns]; rfl
    · obtain ⟨x, hx⟩ := gt_in hk
      exact ⟨x.c, x.t, [ofI x.q, ofO x.h, ofO x.k, ofO x.g], (W.so _ (gt_mem hx)).1, by simp, mkF_of hx, mkF_of hx⟩
theorem dget_tab {ks : List Str} {F : Str → D} {k : Str} (h : k ∈ ks) : dget (ks.map fun k => (k, F k)) k = some (F k) := gt_tab h
theorem dput_tab {ks : List Str} {F : Str → D} {k : Str} (h : k ∉ ks) : dput (ks.map fun k => (k, F k)) k (F k) = (ks ++ [k]).map fun k => (k, F k) := by
  have := dput_new (f := fun d : D => d) (t := ks.map fun k => (k, F k)) (k := k) (v := F k) (by unfold keys; rw [List.map_map]; intro q; obtain ⟨x, hx, e⟩ := List.mem_map.mp q; exact h (e ▸ hx))
  have e : ∀ l : List (Str × D), dT (fun d : D => d) l = l := fun l => by unfold dT; exact List.map_id' l
  rw [e, e] at this
  rw [this, List.map_append]
  rfl
/-- what is handed on: one dict for each table, in some order -/
def Hd (p : Pa) (j : Nat) (ds : List D) : Prop := ds.length = j ∧ ∀ i t, (tabs p)[i]? = some t → i < j → ∃ l' : List Str, l'.Perm t.ks ∧ ds[i]? = some (.dct (l'.map fun k => (k, t.fp k)))
def P_l_make (p : Pa) (ds : List D) : Prop := WP p ∧ ds = [partsD p]
def R_l_make (p : Pa) (ds : List D) (d : D) : Prop := d = planD p
theorem ok_l_make_plan (T : Facts K mg) (p : Pa) : OkG P w K mg base 10 "_law_make_plan" ["_law_bag_here", "_law_parts"] (spB K (P_l_make p) (R_l_make p)) := by
  have G_l_mixed := ok_l_mixed (P := P) (w := w) (base := base) T
  have G_Rule_init := ok_Rule_init (P := P) (w := w) (base := base) T
  have G_Plan_init := ok_Plan_init (P := P) (w := w) (base := base) T
  obtain ⟨fd, F⟩ := T.fl_make_plan
  have hN : (["_law_bag_here", "_law_parts", "_law_handed", "_law_word", "_law_some", "_law_made", "_law_name", "_law_worth", "_law_tree", "_law_when"] : List Str).Nodup := by decide +kernel
  refine ⟨_, T.g_law_make_plan, fn_B F (N := ["_law_bag_here", "_law_parts", "_law_handed", "_law_word", "_law_some", "_law_made", "_law_name", "_law_worth", "_law_tree", "_law_when"]) ⟨rfl, rfl, rfl, hN, rfl, by decide +kernel, by decide +kernel⟩ (fun ds h => by obtain ⟨W, rfl⟩ := h; rfl) (fun _ _ _ _ _ _ us hl => match us, hl with | [_, _], _ => rfl) ?_⟩
  rintro q ds ⟨W, rfl⟩ cdv A0 outer0 s0 H0 E0 hr
  refine c_new 2 hN n_nil fun q2 d hd => ?_
  subst hd
  refine c_cons (w_for1 (ls := tabs p) (c := fun t => .str t.nm) 3 (fun j ρ1 M1 => ∃ ds x y z u, Hd p j ds ∧ j ≤ 3 ∧ ρ1 = [some (.own q), some (partsD p), some (.own q2), x, y, z, u, none, none, none] ∧ M1 = [(q2, .lst ds)]) hN hp_nox (i_tup (j_tup (ja_cons j_str (ja_cons j_str (ja_cons j_str ja_nil))))) ⟨_, leE_rf _, [], none, none, none, none, ⟨rfl, fun i t _ h => absurd h (Nat.not_lt_zero _)⟩, Nat.zero_le _, rfl, rfl⟩ ?_) (fun ρ1 M1 hx => ?_) (fun o n hx => by obtain ⟨_, _, _, e⟩ := hx; exact absurd e (n _ _))
  · rintro j t ht ρ1 M1 ⟨ds, x, y, z, u, ⟨hd1, hd2⟩, hj, rfl, rfl⟩
    have hj2 : j < 3 := by have := (List.getElem?_eq_some_iff.mp ht).1; exact this
    obtain ⟨o1, o2, o3, o4⟩ := tabs_ok W t (List.mem_of_getElem? ht)
    refine c_parM 4 5 hN (j_ixD (t := partsL p) hr (j_v (d := partsD p) 1) (j_v 3) o3) (n_dict fr_dnil) fun q3 d hd => ?_
    subst hd
    refine c_cons (w_for (Φ := fun es => ∃ l' : List Str, l'.Perm t.ks ∧ es = l'.map D.str) 6 (fun es i ρ1 M1 => ∃ l' : List Str, l'.Perm t.ks ∧ es = l'.map D.str ∧ ∃ u, ρ1 = [some (.own q), some (partsD p), some (.own q2), some (.str t.nm), some (.dct (t.ks.map fun k => (k, t.fr k))), some (.own q3), u, none, none, none] ∧ M1 = [(q3, .dct ((l'.take i).map fun k => (k, t.fp k))), (q2, .lst ds)]) hN hp_nox (ie_list (e_callB (Θ := fun d => ∃ es, d = .lst es ∧ ∃ l' : List Str, l'.Perm t.ks ∧ es = l'.map D.str) G_l_mixed hr (ae_of (ja_cons (j_v 0) (ja_cons (j_is (d' := .lst (t.ks.map D.str)) (j_f (bf_listD rfl) T.b_list (ja_cons (j_v 4) ja_nil)) ?_) ja_nil))) fun es e => ⟨_, e, ⟨_, by rw [List.length_map]; omega, rfl⟩, fun d hd => ?_⟩)) (fun es ⟨l', h1, h2⟩ => ⟨_, leE_rf _, l', h1, h2, _, rfl, by rw [List.take_zero]; rfl⟩) ?_) (fun ρ1 M1 hx => ?_) (fun o n hx => by obtain ⟨_, _, _, _, _, e⟩ := hx; exact absurd e (n _ _))
    · simp only [List.map_map]; rfl
    · obtain ⟨l', h1, h2⟩ := mixed_strs hd rfl
      exact ⟨_, h2, l', h1, rfl⟩
    · rintro es - i d hd ρ1 M1 ⟨l', hl', rfl, u, rfl, rfl⟩
      rw [List.getElem?_map] at hd
      cases hz : l'[i]? with
      | none => rw [hz] at hd; cases hd
      | some k =>
        rw [hz] at hd
        cases hd
        have hk : k ∈ t.ks := hl'.mem_iff.mp (List.mem_of_getElem? hz)
        have tk : l'.take (i + 1) = l'.take i ++ [k] := by rw [List.take_add_one, hz]; rfl
        have nk : k ∉ l'.take i := by
          have nd2 : (l'.take (i + 1)).Nodup := (hl'.nodup_iff.mpr o2).sublist (List.take_sublist _ _)
          rw [tk] at nd2
          exact fun h => (List.nodup_append.mp nd2).2.2 k h k (List.mem_singleton.mpr rfl) rfl
        obtain ⟨c, tr, r, k1, k2, k3, k4⟩ := o4 k hk
        have ll : l'.length ≤ 6 := by rw [hl'.length_eq]; exact o1
        have ent : ∀ {X : Cx} {ρ : En} {n : Nat} {a b0 : Expr} {pos : Pos} (hr : Room n X.A) (ha : PE X a (tJ X.K ρ (.dct (t.ks.map fun k => (k, t.fr k))))) (hb : PE X b0 (tJ X.K ρ (.str k))) (hs : NoSl b0), PE X (.Subscript a b0 pos) (tJ X.K ρ (.tup (.int c :: trD tr :: r))) := fun hr ha hb hs => j_ixD hr ha hb ((dget_tab hk).trans (congrArg some k3)) hs
        refine c_one (c_imS (w_dput 5 0 hr (j_v 5) (j_v 6) rfl (e_of (j_is (d' := t.fp k) (j_b (bd_addT ?_) (j_b (bd_addT ?_) (j_is (d' := .tup [.int c]) (j_slT (ent hr (j_v 4) (j_v 6) fun _ _ => rfl) o_none (o_some j_int)) (by rw [cut_hd])) (j_tup (ja_cons (j_makeI (C := "Rule") T.k_Rule G_Rule_init hr T.g_Rule (ja_cons (j_ixT (d := trD tr) (ent hr (j_v 4) (j_v 6) fun _ _ => rfl) j_int ?_) ja_nil) ⟨tr, k1, rfl, rfl⟩) ja_nil))) (j_is (d' := .tup r) (j_slT (ent hr (j_v 4) (j_v 6) fun _ _ => rfl) (o_some j_int) o_none) (by rw [cut_tl]))) ?_)) ?_) fun o ho => ?_)
        · show 1 + 1 + r.length ≤ 100000; omega
        · exact Nat.le_of_ble_eq_true rfl
        · unfold atI
          rw [ixN_of (by decide) (by show (1 : Int) < ((r.length + 1 + 1 : Nat) : Int); omega)]
          rfl
        · rw [k4]; rfl
        · rw [List.length_map, List.length_take]; show _ ≤ 100000; omega
        · obtain ⟨_, rfl, e⟩ := ho
          refine ⟨_, _, _, e, leE_rf _, l', hl', rfl, _, rfl, ?_⟩
          rw [tk, ← dput_tab nk]
          rfl
    · obtain ⟨es, ρ', M', -, ⟨l', hl', rfl, u, rfl, rfl⟩, e⟩ := hx
      cases e
      rw [List.length_map, List.take_length]
      refine c_relD 5 0 ?_
      refine c_one (c_imS (w_app 2 0 (j_v 2) rfl (e_of (j_v 5)) (by show _ ≤ 100000; omega)) fun o ho => ?_)
      obtain ⟨_, ⟨_, rfl, rfl⟩, e⟩ := ho
      refine ⟨_, _, _, e, leE_rf _, _, _, _, _, _, ⟨?_, fun i t' hi hlt => ?_⟩, hj2, rfl, rfl⟩
      · rw [List.length_append, hd1]; rfl
      · by_cases e : i = j
        · subst e
          rw [ht] at hi
          cases hi
          exact ⟨l', hl', by rw [List.getElem?_append_right (by omega), hd1, Nat.sub_self]; rfl⟩
        · obtain ⟨l2, h1, h2⟩ := hd2 i t' hi (by omega)
          exact ⟨l2, h1, by rw [List.getElem?_append_left (by omega)]; exact h2⟩
  · obtain ⟨ρ', M', ⟨ds, x, y, z, u, ⟨hd1, hd2⟩, hj, rfl, rfl⟩, e⟩ := hx
    cases e
    obtain ⟨k0, p0, e0⟩ := hd2 0 _ rfl (Nat.le_of_ble_eq_true rfl)
    obtain ⟨k1, p1, e1⟩ := hd2 1 _ rfl (Nat.le_of_ble_eq_true rfl)
    obtain ⟨k2, p2, e2⟩ := hd2 2 _ rfl (Nat.le_of_ble_eq_true rfl)
    obtain ⟨ho, g0, g1, g2⟩ := sub_perm W.nh p0
    obtain ⟨ki, h0, h1, h2⟩ := sub_perm W.nk p1
    obtain ⟨st, i0, i1, i2⟩ := sub_perm W.ns p2
    have eh : (k0.map fun k => (k, mkF (grD ruleD) p.ho k)) = dT (grD ruleD) ho := by
      rw [mkF_tab (((g0.map _).nodup_iff).mp W.nh), g1]
      refine List.map_congr_left fun k _ => ?_
      unfold mkF; rw [g2]
    have ek : (k1.map fun k => (k, mkF (grD ruleD) p.ki k)) = dT (grD ruleD) ki := by
      rw [mkF_tab (((h0.map _).nodup_iff).mp W.nk), h1]
      refine List.map_congr_left fun k _ => ?_
      unfold mkF; rw [h2]
    have es : (k2.map fun k => (k, mkF (smD ruleD) p.st k)) = dT (smD ruleD) st := by
      rw [mkF_tab (((i0.map _).nodup_iff).mp W.ns), i1]
      refine List.map_congr_left fun k _ => ?_
      unfold mkF; rw [i2]
    have at0 : ∀ {i : Nat} {d : D}, i < 3 → ds[i]? = some d → atI ds (i : Int) = some d := fun hi e => by
      unfold atI
      rw [ixN_of (by omega) (by rw [hd1]; exact_mod_cast hi)]
      exact e
    refine c_relL 2 0 (c_p (s_un3 7 8 9 hN (j_is (q_pipe hr (j_v (d := partsD p) 1)) rfl)) (c_one (c_imS (w_pr (s_ret (j_makeI (C := "Plan") (l := planL p) T.k_Plan G_Plan_init hr T.g_Plan (ja_cons (j_tup (ja_cons (j_v 7) (ja_cons (j_makeI (C := "Rule") T.k_Rule G_Rule_init hr T.g_Rule (ja_cons (j_v 8) ja_nil) ⟨p.pipe.t, W.pp.2.2.1, rfl, rfl⟩) (ja_cons (j_v 9) ja_nil)))) (ja_cons (j_ixL (j_v 2) j_int (at0 (i := 0) (by decide) e0)) (ja_cons (j_ixL (j_v 2) j_int (at0 (i := 1) (by decide) e1)) (ja_cons (j_ixL (j_v 2) j_int (at0 (i := 2) (by decide) e2)) ja_nil)))) ⟨p, ho, ki, st, W, g0, h0, i0, ?_, rfl⟩))) fun o hoo => ⟨_, hoo, rfl⟩)))
    show _ = [plD ruleD p.pipe, D.dct (dT (grD ruleD) ho), D.dct (dT (grD ruleD) ki), D.dct (dT (smD ruleD) st)]
    rw [← eh, ← ek, ← es]
    rfl
end
end K51
end
section
set_option Elab.async false
set_option linter.all false
set_option maxRecDepth 100000
set_option maxHeartbeats 4000000
/-! The walk: a fill and a cover drawn. -/
namespace K51
open PySem PySem.Spec PyProof.Rows L2
section
variable {X : Cx} {ρ : En} {e : Expr} {pos p : Pos} {ls : List (Str × D)}
theorem mergeK_new : ∀ {kvs acc : List (Key × V)}, (acc ++ kvs).map (·.1) |>.Nodup → mergeK acc kvs = acc ++ kvs
  | [], acc, _ => by rw [List.append_nil]; rfl
  | p :: r, acc, nd => by
    show mergeK (putK acc p.1 p.2) r = _
    have hn : valV acc p.1 = none := by
      cases q : valV acc p.1 with
      | none => rfl
      | some v =>
        exfalso
        unfold valV at q
        cases q2 : acc.find? fun kv => decide (kv.1 = p.1) with
        | none => rw [q2] at q; cases q
        | some kv =>
          have h1 := List.find?_some q2
          have h2 := List.mem_of_find?_eq_some q2
          rw [List.map_append] at nd
          exact (List.nodup_append.mp nd).2.2 kv.1 (List.mem_map.mpr ⟨kv, h2, rfl⟩) p.1 (by simp) (of_decide_eq_true h1)
    rw [putK_new _ hn]
    have : (acc ++ [(p.1, p.2)]) ++ r = acc ++ p :: r := by simp
    rw [mergeK_new (by rw [this]; exact nd), this]
theorem repL_pairs {K : PySem.W.Frag} {L : Hp} : ∀ {ls : List (Str × D)} {vs : List V}, RepL K L vs (ls.map fun p => D.tup [.str p.1, p.2]) → ∃ (ps : List Addr) (kvs : List (Key × V)), vs = ps.map V.ref ∧ RepK K L kvs ls ∧ Paired (fun p kv => L p = some (.tup [kV kv.1, kv.2])) ps kvs
  | [], _, .nil => ⟨[], [], rfl, .nil, .nil⟩
  | (x, d) :: r, _, .cons h t => by
    obtain ⟨ps, kvs, e, rk, pr⟩ := repL_pairs t
    obtain ⟨a, xs, rfl, ha, rl, _⟩ := h.tup_
    obtain ⟨v1, vs2, rfl, r1, r2⟩ := rl.cons_
    obtain ⟨v2, vs3, rfl, r3, r4⟩ := r2.cons_
    obtain rfl := r4.nil_
    obtain rfl := r1.str_
    exact ⟨a :: ps, (.inr x, v2) :: kvs, by rw [e]; rfl, .cons r3 rk, .cons ha pr⟩
theorem paired_imp {α β : Type} {R S : α → β → Prop} (h : ∀ a b, R a b → S a b) : ∀ {l : List α} {m : List β}, Paired R l m → Paired S l m
  | _, _, .nil => .nil
  | _, _, .cons r t => .cons (h _ _ r) (paired_imp h t)
/-- dict(pairs), the keys unlike -/
theorem fr_dictP (nd : (ls.map (·.1)).Nodup) (ha : PE X e (tJ X.K ρ (.lst (ls.map fun p => D.tup [.str p.1, p.2])))) (hm : X.mg "dict" = none) (hg : Gl X "dict" := by rfl) (he : starEach [e] X.env = (false, eval e X.env) :: starEach [] X.env := by rfl) (hpl : (backTo pos (starEach [] X.env)).any (·.1) = false := by rfl) (hc : X.calm = true := by rfl) :
    PE X (.Call (.Name "dict" p) [e] [] pos) (tF X.K ρ ls) :=
  (pe_callTy (call_dictP hc) hg hm boot_dict (ja_cons ha ja_nil he) (by decide) (by decide) he hpl).imp fun σ H Q ⟨L, e, env, k⟩ => ⟨L, e, env, fun vs H1 L1 g1 r1 => by
    obtain ⟨v, vs2, rfl, r2, r3⟩ := r1.cons_
    obtain rfl := r3.nil_
    obtain ⟨a, xs, rfl, ha, rl, z⟩ := r2.lst_
    obtain ⟨ps, kvs, rfl, rk, pr⟩ := repL_pairs rl
    refine ⟨a, ps, kvs, rfl, SqL.of (g1.sub _ _ ha), paired_imp (fun p kv h => SqT.of (g1.sub _ _ h)) pr, fun c hc => ?_⟩
    have hc0 : H c = none := by
      cases hh : H c with
      | none => rfl
      | some o => rw [g1.ex c o hh] at hc; cases hc
    have nk : (([] ++ kvs : List (Key × V)).map (·.1)).Nodup := by
      show (kvs.map (·.1)).Nodup
      rw [repK_keys rk]
      exact List.Pairwise.map _ (fun a b hab e => hab (Sum.inr.inj e)) nd
    rw [mergeK_new nk]
    exact k c _ L1 kvs ⟨g1.ex.tr (ex_new hc), g1.lx, g1.sub.tr (ex_new hc), g1.old⟩ hc0 (free_sub g1.sub hc) upd_same rk (by rw [List.length_map] at z; exact z)⟩
end
theorem hold_nn {p : Pa} (W : WP p) {l : List Str} {z : Str} (hz : z ∈ keys p.st) : 0 ≤ hold p l z ∧ hold p l z ≤ big := by
  obtain ⟨m, hm⟩ := gt_in hz
  have h := W.so _ (gt_mem hm)
  have e : hold p l z = if (decide (z ∈ l) || m.g.isSome) = true then m.c else match m.q with | some q => q - 1 | none => 0 := by simp only [hold, hm] <;> rfl
  rw [e]
  have c1 : 1 ≤ m.c := h.2.1
  have c2 : m.c ≤ big := h.2.2.1
  split
  · exact ⟨by omega, c2⟩
  · cases hq : m.q with
    | none => exact ⟨Int.le_refl _, by decide⟩
    | some q =>
      have := h.2.2.2.1 q hq
      exact ⟨by show 0 ≤ q - 1; omega, by show q - 1 ≤ big; omega⟩
theorem gi_tput {th : Tb Int} {z k : Str} {v : Int} (h : z ∈ keys th) : gi (tput th z v) k = if k = z then v else gi th k := by
  unfold gi
  have e : gt (tput th z v) k = (gt th k).map fun x => if k = z then v else x := by
    unfold tput
    clear h
    induction th with
    | nil => rfl
    | cons p r ih =>
      obtain ⟨x, a⟩ := p
      rw [List.map_cons]
      show gt ((if x = z then (x, v) else (x, a)) :: _) k = _
      by_cases hx : x = z
      · rw [if_pos hx, gt_cons, gt_cons, ih]
        by_cases hk : x = k
        · rw [if_pos hk, if_pos hk]; show some v = some (if k = z then v else a); rw [if_pos (hk ▸ hx)]
        · rw [if_neg hk, if_neg hk]
      · rw [if_neg hx, gt_cons, gt_cons, ih]
        by_cases hk : x = k
        · rw [if_pos hk, if_pos hk]; show some a = some (if k = z then v else a); rw [if_neg (hk ▸ hx)]
        · rw [if_neg hk, if_neg hk]
  rw [e]
  by_cases hk : k = z
  · subst hk
    obtain ⟨a, ha⟩ := gt_in h
    rw [ha, if_pos rfl]
    show (some (if k = k then v else a)).getD 0 = v
    rw [if_pos rfl]; rfl
  · rw [if_neg hk]
    cases gt th k with
    | none => rfl
    | some a => show (some (if k = z then v else a)).getD 0 = a; rw [if_neg hk]; rfl
theorem sum_tput {th : Tb Int} {z : Str} {v : Int} (h : z ∈ keys th) : ∀ {ks : List Str}, ks.Nodup → (ks.map (gi (tput th z v))).sum = (ks.map (gi th)).sum + if z ∈ ks then v - gi th z else 0
  | [], _ => rfl
  | k :: r, nd => by
    have nd' := List.nodup_cons.mp nd
    rw [List.map_cons, List.sum_cons, List.map_cons, List.sum_cons, sum_tput h nd'.2, gi_tput h]
    by_cases hk : k = z
    · subst hk
      rw [if_pos rfl, if_neg nd'.1, if_pos List.mem_cons_self]
      omega
    · rw [if_neg hk]
      by_cases hz : z ∈ r
      · rw [if_pos hz, if_pos (List.mem_cons_of_mem _ hz)]; omega
      · rw [if_neg hz, if_neg (fun q => (List.mem_cons.mp q).elim (fun e => hk e.symm) hz)]; omega
theorem under_iff {p : Pa} {o z : Str} (hz : z ∈ keys p.st) : z ∈ under p o ↔ o ∈ over p z := by
  unfold under
  rw [List.mem_filter, srt_mem]
  exact ⟨fun h => of_decide_eq_true h.2, fun h => ⟨hz, decide_eq_true h⟩⟩
/-- the sum over what stands under o -/
def sumU (p : Pa) (n : Str) (th : Tb Int) (o : Str) : Int := (((under p o).filter fun z => decide (z ∈ under p n)).map (gi th)).sum
structure pF (p : Pa) (l : List Str) (n : Str) (th : Tb Int) (done : List Str) : Prop where
  ks : keys th = under p n
  cap : ∀ z ∈ under p n, 0 ≤ gi th z ∧ gi th z ≤ hold p l z
  nil : ∀ z ∈ under p n, z ∉ done → gi th z = 0
  sum : ∀ o ∈ rvl p n, sumU p n th o ≤ cr p o
theorem cr_pos {p : Pa} (W : WP p) {o : Str} (h : o ∈ shared p) : 1 ≤ cr p o := by
  obtain ⟨l, hl⟩ := shared_pool W h
  rw [cr_of hl]
  rcases pool_cases hl with ⟨e, rfl⟩ | ⟨e, m, hm, rfl⟩ | ⟨e, hs, g, hg, rfl⟩ | ⟨e, hs, hh, g, hg, rfl⟩
  · exact W.pp.1
  · exact (W.so _ (gt_mem hm)).2.1
  · exact (W.ph _ (gt_mem hg)).1
  · exact (W.pk _ (gt_mem hg)).1
theorem pF_0 {p : Pa} (W : WP p) {l : List Str} {n : Str} : pF p l n ((under p n).map fun z => (z, (0 : Int))) [] := by
  have g0 : ∀ z, gi ((under p n).map fun z => (z, (0 : Int))) z = 0 := fun z => by
    unfold gi
    by_cases h : z ∈ under p n
    · rw [gt_tab h]; rfl
    · rw [gt_out (by unfold keys; rw [List.map_map]; intro q; obtain ⟨x, hx, e⟩ := List.mem_map.mp q; exact h ((show x = z from e) ▸ hx))]; rfl
  refine ⟨by unfold keys; rw [List.map_map]; exact List.map_id' (under p n), fun z hz => by rw [g0]; exact ⟨Int.le_refl _, (hold_nn W (under_sub hz)).1⟩, fun z _ _ => g0 z, fun o ho => ?_⟩
  have : ∀ ks : List Str, (ks.map (gi ((under p n).map fun z => (z, (0 : Int))))).sum = 0 := fun ks => by
    induction ks with
    | nil => rfl
    | cons k r ih => rw [List.map_cons, List.sum_cons, ih, g0]; rfl
  unfold sumU
  rw [this]
  have := cr_pos W (rvl_sub ho)
  omega
theorem pF_put {p : Pa} (W : WP p) {l : List Str} {n z : Str} {th : Tb Int} {done : List Str} {v r : Int} (F : pF p l n th done) (hz : z ∈ under p n) (hd : z ∉ done) (h0 : 0 ≤ v) (h1 : v ≤ r) (h2 : r ≤ hold p l z) (h3 : ∀ o ∈ rvl p n, o ∈ over p z → r ≤ cr p o - sumU p n th o) : pF p l n (tput th z v) (done ++ [z]) := by
  have zk : z ∈ keys th := by rw [F.ks]; exact hz
  refine ⟨tput_keys.trans F.ks, fun y hy => ?_, fun y hy hyd => ?_, fun o ho => ?_⟩
  · rw [gi_tput zk]
    split
    · next e => subst e; omega
    · exact F.cap y hy
  · rw [gi_tput zk, if_neg fun e : y = z => hyd (e ▸ List.mem_append_right _ (List.mem_singleton.mpr rfl))]
    exact F.nil y hy fun q => hyd (List.mem_append_left _ q)
  · have nd : ((under p o).filter fun z => decide (z ∈ under p n)).Nodup := (under_nd W).sublist List.filter_sublist
    unfold sumU
    rw [sum_tput zk nd, F.nil z hz hd]
    have hs := F.sum o ho
    unfold sumU at hs
    split
    · next q =>
      have := h3 o ho ((under_iff (under_sub hz)).mp (List.mem_filter.mp q).1)
      unfold sumU at this
      omega
    · omega
section
variable {P : Program} {w : World} {K : PySem.W.Frag} {mg : Str → Option Value} {base : Heap}
def P_l_fill (p : Pa) (n : Str) (b : Bool) (l : List Str) (ds : List D) : Prop := WP p ∧ ds = [partsD p, .str n, sqD b l]
def R_l_fill (p : Pa) (n : Str) (l : List Str) (ds : List D) (d : D) : Prop := ∃ th, isF p l n th ∧ d = .dct (dT D.int th)
theorem ok_l_some_fill (T : Facts K mg) (p : Pa) (n : Str) (b : Bool) (l : List Str) : OkG P w K mg base 4 "_law_some_fill" ["_law_bag_here", "_law_parts", "_law_name", "_law_slow"] (spB K (P_l_fill p n b l) (R_l_fill p n l)) := by
  have G_l_take := ok_l_take (P := P) (w := w) (base := base) T
  have G_l_mixed := ok_l_mixed (P := P) (w := w) (base := base) T
  have G_l_under := ok_l_under (P := P) (w := w) (base := base) T
  have G_l_hold := ok_l_hold (P := P) (w := w) (base := base) T
  have G_l_rivals := ok_l_rivals (P := P) (w := w) (base := base) T
  have G_l_over := ok_l_over (P := P) (w := w) (base := base) T
  have G_l_pool := ok_l_pool (P := P) (w := w) (base := base) T
  obtain ⟨fd, F⟩ := T.fl_some_fill
  have hN : (["_law_bag_here", "_law_parts", "_law_name", "_law_slow", "_law_found", "_law_stream", "_law_room", "_law_other", "_law_used", "_law_one"] : List Str).Nodup := by decide +kernel
  refine ⟨_, T.g_law_some_fill, fn_B F (N := ["_law_bag_here", "_law_parts", "_law_name", "_law_slow", "_law_found", "_law_stream", "_law_room", "_law_other", "_law_used", "_law_one"]) ⟨rfl, rfl, rfl, hN, rfl, by decide +kernel, by decide +kernel⟩ (fun ds h => by obtain ⟨W, rfl⟩ := h; rfl) (fun _ _ _ _ _ _ us hl => match us, hl with | [_, _, _, _], _ => rfl) ?_⟩
  rintro q ds ⟨W, rfl⟩ cdv A0 outer0 s0 H0 E0 hr
  have u6 : (under p n).length ≤ 6 := Nat.le_trans (nd_len (under_nd W (n := n)) fun x hx => under_sub hx) (by rw [List.length_map]; exact W.s6)
  refine c_new 4 hN (n_dict (fr_dictP (ls := (under p n).map fun z => (z, D.int 0)) ?_ (j_is (j_lcm (ls := under p n) (c := D.str) (f := fun z => .tup [.str z, .int 0]) 5 hN (i_list (j_call G_l_under hr (ja_cons (j_v 1) (ja_cons (j_v 2) ja_nil)) ⟨p, n, W, rfl, rfl⟩)) fun z hz _ _ _ _ _ => j_tup (ja_cons (j_v 5) (ja_cons j_int ja_nil))) (by rw [List.map_map]; rfl)) T.b_dict)) fun q2 d hd => ?_
  · rw [List.map_map]; exact (List.map_id' (under p n)).symm ▸ under_nd W
  have e0 : d = .dct (dT D.int ((under p n).map fun z => (z, (0 : Int)))) := by rw [hd]; unfold dT; rw [List.map_map]; rfl
  subst e0
  refine c_cons (w_for (Φ := fun es => ∃ l' : List Str, l'.Perm (under p n) ∧ es = l'.map D.str) 5 (fun es j ρ1 M1 => ∃ l' : List Str, l'.Perm (under p n) ∧ es = l'.map D.str ∧ ∃ th x y z u, pF p l n th (l'.take j) ∧ ρ1 = [some (.own q), some (partsD p), some (.str n), some (sqD b l), some (.own q2), x, y, z, u, none] ∧ M1 = [(q2, .dct (dT D.int th))]) hN hp_nox (ie_list (e_callB (Θ := fun d => ∃ es, d = .lst es ∧ ∃ l' : List Str, l'.Perm (under p n) ∧ es = l'.map D.str) G_l_mixed hr (ae_cons (e_of (j_v 0)) (ae_cons (e_borS (i := 4) (j := 0) (t := dT D.int ((under p n).map fun z => (z, (0 : Int)))) (l := (under p n).map D.str) (j_is (j_f (bf_listT' rfl) T.b_list (ja_cons (j_v 4) ja_nil)) ?_) (f2_strs _)) ae_nil)) fun es he => ?_)) (fun es ⟨l', h1, h2⟩ => ⟨_, leE_rf _, l', h1, h2, _, none, none, none, none, by rw [List.take_zero]; exact pF_0 W, rfl, rfl⟩) ?_) (fun ρ1 M1 hx => ?_) (fun o n hx => by obtain ⟨_, _, _, _, _, e⟩ := hx; exact absurd e (n _ _))
  · unfold keys; simp only [List.map_map]; rfl
  · obtain ⟨_, _, rfl, rfl, _, _, rfl, rfl, rfl⟩ := he
    refine ⟨_, rfl, ⟨_, by rw [List.length_map]; omega, rfl⟩, fun d hd => ?_⟩
    obtain ⟨l', h1, h2⟩ := mixed_strs hd rfl
    exact ⟨_, h2, l', h1, rfl⟩
  · rintro es - j d hd ρ1 M1 ⟨l', hl', rfl, th, x, y, z0, u, F, rfl, rfl⟩
    rw [List.getElem?_map] at hd
    cases hz : l'[j]? with
    | none => rw [hz] at hd; cases hd
    | some z =>
      rw [hz] at hd
      cases hd
      have zu : z ∈ under p n := hl'.mem_iff.mp (List.mem_of_getElem? hz)
      have zs := under_sub zu
      have tk : l'.take (j + 1) = l'.take j ++ [z] := by rw [List.take_add_one, hz]; rfl
      have nz : z ∉ l'.take j := by
        have nd2 : (l'.take (j + 1)).Nodup := (hl'.nodup_iff.mpr (under_nd W)).sublist (List.take_sublist _ _)
        rw [tk] at nd2
        exact fun h => (List.nodup_append.mp nd2).2.2 z h z (List.mem_singleton.mpr rfl) rfl
      have hh := hold_nn W (l := l) zs
      have zk : z ∈ keys th := by rw [F.ks]; exact zu
      refine c_p (s_set 6 hN (j_call G_l_hold hr (ja_cons (j_v 1) (ja_cons (j_v 3) (ja_cons (j_v 5) ja_nil))) ⟨p, z, b, l, W, zs, rfl, rfl⟩)) ?_
      refine c_cons (w_for1 (ls := rvl p n) (c := D.str) 7 (fun i ρ1 M1 => ∃ (r : Int) (a c : Option D), 0 ≤ r ∧ r ≤ hold p l z ∧ (∀ o ∈ (rvl p n).take i, o ∈ over p z → r ≤ cr p o - sumU p n th o) ∧ ρ1 = [some (.own q), some (partsD p), some (.str n), some (sqD b l), some (.own q2), some (.str z), some (.int r), a, c, none] ∧ M1 = [(q2, .dct (dT D.int th))]) hN hp_nox (i_list (j_call G_l_rivals hr (ja_cons (j_v 1) (ja_cons (j_v 2) ja_nil)) ⟨p, n, W, rfl, rfl⟩)) ⟨_, leE_rf _, _, _, _, hh.1, Int.le_refl _, (fun o ho => by rw [List.take_zero] at ho; cases ho), rfl, rfl⟩ ?_) (fun ρ1 M1 hx => ?_) (fun o n hx => by obtain ⟨_, _, _, e⟩ := hx; exact absurd e (n _ _))
      · rintro i o ho ρ1 M1 ⟨r, a, c, r0, r1, r2, rfl, rfl⟩
        have ho' := List.mem_of_getElem? ho
        obtain ⟨pl, hpl⟩ := shared_pool W (rvl_sub ho')
        have tk2 : (rvl p n).take (i + 1) = (rvl p n).take i ++ [o] := by rw [List.take_add_one, ho]; rfl
        have up : ∀ {r' : Int}, r' ≤ r → (o ∈ over p z → r' ≤ cr p o - sumU p n th o) → ∀ o' ∈ (rvl p n).take (i + 1), o' ∈ over p z → r' ≤ cr p o' - sumU p n th o' := fun h1 h2 o' ho' h3 => by
          rw [tk2] at ho'
          rcases List.mem_append.mp ho' with q | q
          · exact Int.le_trans h1 (r2 o' q h3)
          · rw [List.mem_singleton.mp q] at h3 ⊢; exact h2 h3
        refine c_one (w_if (Φb := (· = decide (o ∈ over p z))) (te_of (t_c cd_in (j_v 7) (j_call G_l_over hr (ja_cons (j_v 1) (ja_cons (j_v 5) ja_nil)) ⟨p, z, W, zs, rfl, rfl⟩))) (fun h => ?_) fun h => c_nil ⟨_, _, _, rfl, leE_rf _, r, _, _, r0, r1, up (Int.le_refl _) fun q => absurd q (of_decide_eq_false h.symm), rfl, rfl⟩)
        refine c_set 8 hN (e_borD (i := 4) (j := 0) (t := dT D.int th) (z := .int (sumU p n th o)) (j_f (bf_sum (ns := ((under p o).filter fun z => decide (z ∈ under p n)).map (gi th)) rfl) T.b_sum (ja_cons (j_is (j_lc (ls := under p o) (c := D.str) (pr := fun z => decide (z ∈ under p n)) (f := fun z => .int (gi th z)) 9 hN (i_list (j_call G_l_under hr (ja_cons (j_v 1) (ja_cons (j_v 7) ja_nil)) ⟨p, o, W, rfl, rfl⟩)) (fun z hz _ _ _ _ _ => tt_one (t_is (t_c (cd_inT2 hr) (j_v 9) (j_v 4)) (by rw [F.ks]))) fun z hz hp _ _ _ _ _ => j_at hr (gi_of (by rw [F.ks]; exact of_decide_eq_true hp)) (j_v 4) (j_v 9)) (by rw [List.map_map]; rfl)) ja_nil)) rfl) fun d hd => ?_
        subst hd
        have s0 := F.sum o ho'
        refine c_one (c_imS (w_p (s_set 6 hN (j_f (bf_min2 rfl) T.b_min (ja_cons (j_v 6) (ja_cons (j_b bd_subI (j_ixT (d := .int pl.c) (j_is (j_call G_l_pool hr (ja_cons (j_v 1) (ja_cons (j_v 7) ja_nil)) ⟨p, o, pl, W, hpl, rfl, rfl⟩) rfl) j_int rfl) (j_v 8)) ja_nil))))) fun oo hoo => ⟨_, _, _, hoo, leE_rf _, min r (pl.c - sumU p n th o), _, _, ?_, ?_, up ?_ fun _ => ?_, rfl, rfl⟩)
        · rw [cr_of hpl] at s0; omega
        · omega
        · omega
        · rw [cr_of hpl]; omega
      obtain ⟨ρ', M', ⟨r, a, c, r0, r1, r2, rfl, rfl⟩, e⟩ := hx
      cases e
      rw [List.take_length] at r2
      have hb2 : big + 1 < 2 ^ 200 := by decide
      refine c_one (c_imS (w_dput 4 0 (Φ := fun d => ∃ v : Int, 0 ≤ v ∧ v ≤ r ∧ d = .int v) hr (j_v 4) (j_v 5) rfl (e_ix (Φ := fun d => ∃ v : Nat, (v : Int) < r + 1 ∧ d = .lst [.int r, .int v]) (Ψ := fun d => ∃ v : Nat, (v : Int) < 2 ∧ d = .int v) (e_im (e_lst (ae_cons (e_of (j_v 6)) (ae_cons (e_take (m := r + 1) G_l_take hr (j_v 0) (e_of (j_b bd_addI (j_v 6) j_int)) (by omega) (by omega)) ae_nil)) (fun ds h => by obtain ⟨_, _, rfl, _, _, _, rfl, _, rfl⟩ := h; show 2 ≤ 100000; decide)) fun d hd => ?_) (e_take G_l_take hr (j_v 0) (e_of j_int) (by decide) (by decide)) ?_) ?_) fun oo hoo => ?_)
      · obtain ⟨ds, rfl, _, _, rfl, rfl, _, _, rfl, ⟨v, hv, rfl⟩, rfl⟩ := hd
        exact ⟨v, hv, rfl⟩
      · rintro x y ⟨v, hv, rfl⟩ ⟨k, hk, rfl⟩
        have : k = 0 ∨ k = 1 := by omega
        rcases this with rfl | rfl
        · exact ⟨_, _, .int r, rfl, rfl, rfl, r, r0, Int.le_refl _, rfl⟩
        · exact ⟨_, _, .int v, rfl, rfl, rfl, v, by omega, by omega, rfl⟩
      · have : th.length = (under p n).length := by rw [← F.ks, List.length_map]
        rw [dT_len]; show _ ≤ 100000; omega
      · obtain ⟨_, ⟨v, v0, v1, rfl⟩, e⟩ := hoo
        refine ⟨_, _, _, e, leE_rf _, l', hl', rfl, tput th z v, _, _, _, _, ?_, rfl, ?_⟩
        · rw [tk]; exact pF_put W F zu nz v0 v1 r1 r2
        · show [(q2, D.dct (dput (dT D.int th) z (.int v)))] = _
          rw [dput_tput zk]
  · obtain ⟨es, ρ', M', -, ⟨l', hl', rfl, th, x, y, z, u, F, rfl, rfl⟩, e⟩ := hx
    cases e
    refine c_relD 4 0 (c_one (c_imS (w_pr (s_ret (j_v 4))) fun o ho => ⟨_, ho, th, ⟨by rw [F.ks]; exact under_nd W, fun z => by rw [F.ks], F.cap, F.sum⟩, rfl⟩))
end
end K51
end
section
set_option Elab.async false
set_option linter.all false
set_option maxRecDepth 100000
set_option maxHeartbeats 4000000
/-! The walk: a cover drawn. -/
namespace K51
open PySem PySem.Spec PyProof.Rows L2
theorem rvl_sorted {p : Pa} {n : Str} : (rvl p n).Pairwise leS := ((srt_sorted _).sublist List.filter_sublist).sublist List.filter_sublist
theorem shared_nd {p : Pa} (W : WP p) : (shared p).Nodup := by
  unfold shared
  refine (srt_perm _).nodup_iff.mpr (List.nodup_append.mpr ⟨?_, by simp, fun a ha b hb e => ?_⟩)
  · have h := W.nd
    rw [List.append_assoc] at h
    exact (List.nodup_append.mp h).2.1
  · rw [List.mem_singleton.mp hb] at e
    rcases List.mem_append.mp ha with q | q
    · exact (W.no (.inr (.inl q))).2 e
    · exact (W.no (.inr (.inr q))).2 e
theorem rvl_nd {p : Pa} (W : WP p) {n : Str} : (rvl p n).Nodup := ((shared_nd W).sublist List.filter_sublist).sublist List.filter_sublist
theorem under_sorted {p : Pa} {n : Str} : (under p n).Pairwise leS := (srt_sorted _).sublist List.filter_sublist
section
variable {P : Program} {w : World} {K : PySem.W.Frag} {mg : Str → Option Value} {base : Heap}
def R_l_cover1 (p : Pa) (n : Str) (l : List Str) (ds : List D) (d : D) : Prop := ∃ k, isC p l n k ∧ d = kD k
theorem ok_l_some_cover (T : Facts K mg) (p : Pa) (n : Str) (b : Bool) (l : List Str) : OkG P w K mg base 4 "_law_some_cover" ["_law_bag_here", "_law_parts", "_law_name", "_law_slow"] (spB K (P_l_fill p n b l) (R_l_cover1 p n l)) := by
  have G_l_take := ok_l_take (P := P) (w := w) (base := base) T
  have G_l_under := ok_l_under (P := P) (w := w) (base := base) T
  have G_l_hold := ok_l_hold (P := P) (w := w) (base := base) T
  have G_l_rivals := ok_l_rivals (P := P) (w := w) (base := base) T
  have G_l_over := ok_l_over (P := P) (w := w) (base := base) T
  obtain ⟨fd, F⟩ := T.fl_some_cover
  have hN : (["_law_bag_here", "_law_parts", "_law_name", "_law_slow", "_law_pools", "_law_streams", "_law_stream", "_law_bare", "_law_other"] : List Str).Nodup := by decide +kernel
  refine ⟨_, T.g_law_some_cover, fn_B F (N := ["_law_bag_here", "_law_parts", "_law_name", "_law_slow", "_law_pools", "_law_streams", "_law_stream", "_law_bare", "_law_other"]) ⟨rfl, rfl, rfl, hN, rfl, by decide +kernel, by decide +kernel⟩ (fun ds h => by obtain ⟨W, rfl⟩ := h; rfl) (fun _ _ _ _ _ _ us hl => match us, hl with | [_, _, _, _], _ => rfl) ?_⟩
  rintro q ds ⟨W, rfl⟩ cdv A0 outer0 s0 H0 E0 hr
  have u6 : (under p n).length ≤ 6 := Nat.le_trans (nd_len (under_nd W (n := n)) fun x hx => under_sub hx) (by rw [List.length_map]; exact W.s6)
  refine c_setLc (Φ := (· = (rvl p n).map D.str)) (Ft := fun _ _ => True) (Fe := fun a d => d = a) 4 8 hN (ie_of (i_list (j_call G_l_rivals hr (ja_cons (j_v 1) (ja_cons (j_v 2) ja_nil)) ⟨p, n, W, rfl, rfl⟩))) (fun _ _ a ha _ _ _ _ _ => tte_one (te_cmpB (Φ := fun d => ∃ v : Nat, (v : Int) < 3 ∧ d = .int v) (Ψ := (· = .int 0)) (e_take G_l_take hr (j_v 0) (e_of j_int) (by decide) (by decide)) (e_of j_int) fun x y ⟨v, _, hx⟩ hy => by subst hx; subst hy; exact ⟨_, cd_eqI, trivial⟩)) (fun _ _ a ha _ _ _ _ _ _ => e_of (j_v 8)) fun ds rs e hr2 => ?_
  obtain ⟨m, hm, rfl⟩ := lcR_strs hr2 e
  have okm : okS m := fun x hx => shared_ok W (rvl_sub (hm.subset hx))
  refine c_new 5 hN n_nil fun q2 d hd => ?_
  subst hd
  refine c_cons (w_for1 (ls := under p n) (c := D.str) 6 (fun j ρ1 M1 => ∃ (acc : List Str) (x y : Option D), acc.Sublist ((under p n).take j) ∧ (∀ z ∈ (under p n).take j, (m.filter fun o => decide (o ∈ over p z)) = [] → 0 < hold p l z → z ∈ acc) ∧ ρ1 = [some (.own q), some (partsD p), some (.str n), some (sqD b l), some (.lst (m.map D.str)), some (.own q2), x, y, none] ∧ M1 = [(q2, .lst (acc.map D.str))]) hN hp_nox (i_list (j_call G_l_under hr (ja_cons (j_v 1) (ja_cons (j_v 2) ja_nil)) ⟨p, n, W, rfl, rfl⟩)) ⟨_, leE_rf _, [], none, none, List.nil_sublist _, (fun z hz => by rw [List.take_zero] at hz; cases hz), rfl, rfl⟩ ?_) (fun ρ1 M1 hx => ?_) (fun o n hx => by obtain ⟨_, _, _, e⟩ := hx; exact absurd e (n _ _))
  · rintro j z hz ρ1 M1 ⟨acc, x, y, ha, hc, rfl, rfl⟩
    have zu : z ∈ under p n := List.mem_of_getElem? hz
    have zs := under_sub zu
    have tk : (under p n).take (j + 1) = (under p n).take j ++ [z] := by rw [List.take_add_one, hz]; rfl
    have la : acc.length ≤ 6 := Nat.le_trans ha.length_le (Nat.le_trans (List.length_take_le' _ _) u6)
    let bare : Bool := decide ((m.filter fun o => decide (o ∈ over p z)) = [])
    refine c_p (s_set 7 hN (j_c (cd_eqL (l := m.filter fun o => decide (o ∈ over p z)) (m := []) hr (fun x hx => okm x (List.mem_filter.mp hx).1) nofun) (j_lc (ls := m) (c := D.str) (f := D.str) (pr := fun o => decide (o ∈ over p z)) 8 hN (i_list (j_v 4)) (fun o ho _ _ _ _ _ => tt_one (t_c cd_in (j_v 8) (j_call G_l_over hr (ja_cons (j_v 1) (ja_cons (j_v 6) ja_nil)) ⟨p, z, W, zs, rfl, rfl⟩))) fun o ho hp _ _ _ _ _ => j_v 8) (j_lst ja_nil))) ?_
    refine c_one (w_if (Φb := fun c => c = false → ¬ (bare = true ∧ 0 < hold p l z)) (te_im (PW.pt (we_or (Φb := fun c => c = (bare && decide (0 < hold p l z))) (Ψb := fun _ => True) (te_of (PW.pt (w_and (t_v (j_v (d := .bl bare) 7)) fun _ => w_and1 (t_c cd_gt (j_call G_l_hold hr (ja_cons (j_v 1) (ja_cons (j_v 3) (ja_cons (j_v 6) ja_nil))) ⟨p, z, b, l, W, zs, rfl, rfl⟩) j_int)))) (we_or1 (te_cmpB (Φ := fun d => ∃ v : Nat, (v : Int) < 6 ∧ d = .int v) (Ψ := (· = .int 0)) (e_take G_l_take hr (j_v 0) (e_of j_int) (by decide) (by decide)) (e_of j_int) fun x y ⟨v, _, hx⟩ hy => by subst hx; subst hy; exact ⟨_, cd_eqI, trivial⟩)))) ?_) (fun _ => ?_) fun hn => ?_)
    · rintro c (⟨_, rfl⟩ | ⟨h, _⟩) hc0 ⟨h1, h2⟩
      · cases hc0
      · rw [h1, decide_eq_true h2] at h; cases h
    · refine c_one (c_imS (w_app 5 0 (j_v 5) rfl (e_of (j_v 6)) (by rw [List.length_map]; show _ ≤ 100000; omega)) fun o ho => ?_)
      obtain ⟨_, ⟨_, rfl, rfl⟩, e⟩ := ho
      refine ⟨_, _, _, e, leE_rf _, acc ++ [z], _, _, ?_, fun y hy h1 h2 => ?_, rfl, ?_⟩
      · rw [tk]; exact ha.append (List.Sublist.refl _)
      · rw [tk] at hy
        rcases List.mem_append.mp hy with q | q
        · exact List.mem_append_left _ (hc y q h1 h2)
        · exact List.mem_append_right _ q
      · show [(q2, D.lst (acc.map D.str ++ [.str z]))] = _
        rw [List.map_append]; rfl
    · refine c_nil ⟨_, _, _, rfl, leE_rf _, acc, _, _, ?_, fun y hy h1 h2 => ?_, rfl, rfl⟩
      · rw [tk]; exact ha.trans (List.sublist_append_left _ _)
      · rw [tk] at hy
        rcases List.mem_append.mp hy with q | q
        · exact hc y q h1 h2
        · rw [List.mem_singleton.mp q] at h1 h2
          exact absurd ⟨decide_eq_true h1, h2⟩ (hn rfl)
  · obtain ⟨ρ', M', ⟨acc, x, y, ha, hc, rfl, rfl⟩, e⟩ := hx
    cases e
    rw [List.take_length] at ha hc
    refine c_relL 5 0 (c_one (c_imS (w_pr (s_ret (j_tup (ja_cons (j_f bf_tupL T.b_tuple (ja_cons (j_v 4) ja_nil)) (ja_cons (j_f bf_tupL T.b_tuple (ja_cons (j_v 5) ja_nil)) ja_nil))))) fun o ho => ⟨_, ho, (m, acc), ⟨fun x hx => hm.subset hx, fun x hx => ha.subset hx, rvl_sorted.sublist hm, under_sorted.sublist ha, (rvl_nd W).sublist hm, (under_nd W).sublist ha, fun z hz h0 => ?_⟩, rfl⟩))
    by_cases hf : (m.filter fun o => decide (o ∈ over p z)) = []
    · exact .inl (hc z hz hf h0)
    · obtain ⟨o, ho⟩ := List.exists_mem_of_ne_nil _ hf
      obtain ⟨h1, h2⟩ := List.mem_filter.mp ho
      exact .inr ⟨o, h1, of_decide_eq_true h2⟩
end
end K51
end
section
set_option Elab.async false
set_option linter.all false
set_option maxRecDepth 100000
set_option maxHeartbeats 1000000
/-! Two owned dicts, one within the other, lent to an expression. -/
namespace K51
open PySem PySem.Spec PyProof.Rows L2
/-- flat things and tuples of them -/
inductive TO : D → Prop
  | non : TO .non
  | bl (b : Bool) : TO (.bl b)
  | int (i : Int) : TO (.int i)
  | str (x : Str) : TO (.str x)
  | tup {l : List D} : (∀ d ∈ l, TO d) → TO (.tup l)
theorem to_trD : ∀ t, TO (trD t)
  | .at a b => .tup fun d hd => by
    simp only [List.mem_cons, List.not_mem_nil, or_false] at hd
    rcases hd with rfl | rfl | rfl
    · exact .str _
    · exact .int _
    · exact .int _
  | .jn w l r => .tup fun d hd => by
    simp only [List.mem_cons, List.not_mem_nil, or_false] at hd
    rcases hd with rfl | rfl | rfl
    · exact .str _
    · exact to_trD l
    · exact to_trD r
theorem to_ofO (o : Option Str) : TO (ofO o) := by cases o <;> constructor
theorem to_ofI (o : Option Int) : TO (ofI o) := by cases o <;> constructor
theorem to_smD (m : Sm) : TO (smD trD m) := .tup fun d hd => by
  simp only [List.mem_cons, List.not_mem_nil, or_false] at hd
  rcases hd with rfl | rfl | rfl | rfl | rfl | rfl
  · exact .int _
  · exact to_trD _
  · exact to_ofI _
  · exact to_ofO _
  · exact to_ofO _
  · exact to_ofO _
section
variable {K : PySem.W.Frag} {L L' : Hp}
mutual
theorem rep_to (m : ∀ a xs, L a = some (.tup xs) → L' a = some (.tup xs)) : ∀ {v : V} {d : D}, TO d → Rep K L v d → Rep K L' v d
  | _, _, _, .non => .non
  | _, _, _, .bl b => .bl b
  | _, _, _, .int i => .int i
  | _, _, _, .str x => .str x
  | _, _, h, .lst _ _ _ => nomatch h
  | _, _, .tup h, .tup e r z => .tup (m _ _ e) (repL_to m h r) z
  | _, _, h, .dct _ _ _ => nomatch h
  | _, _, h, .obj _ _ => nomatch h
  | _, _, h, .own _ => nomatch h
theorem repL_to (m : ∀ a xs, L a = some (.tup xs) → L' a = some (.tup xs)) : ∀ {vs : List V} {ds : List D}, (∀ d ∈ ds, TO d) → RepL K L vs ds → RepL K L' vs ds
  | _, _, _, .nil => .nil
  | _, _, h, .cons r s => .cons (rep_to m (h _ List.mem_cons_self) r) (repL_to m (fun d hd => h d (List.mem_cons_of_mem _ hd)) s)
end
/-- the inner dict shown within the outer one -/
theorem repK_in {q2 : Addr} {d2 : D} (e : Ex L L') (h2 : Rep K L' (.ref q2) d2) : ∀ {kvs : List (Key × V)} {t t' : List (Str × D)}, RepK K L kvs t → Paired (fun p p' => p.1 = p'.1 ∧ (p.2 = p'.2 ∨ (p.2 = .own q2 ∧ p'.2 = d2))) t t' → RepK K L' kvs t'
  | _, _, _, .nil, .nil => .nil
  | _, _, _, .cons (x := x) h r, .cons (b := b) w s => by
    obtain ⟨k, d⟩ := b
    obtain ⟨rfl, w⟩ := w
    rcases w with w | ⟨w, w2⟩
    · cases w; exact .cons (h.ex e) (repK_in e h2 r s)
    · cases w; cases w2
      obtain rfl := h.own_
      exact .cons h2 (repK_in e h2 r s)
end
section
variable {X : Cx} {ρ : En} {e : Expr} {q q1 q2 : Addr} {i : Nat} {Φ : D → Prop} {t1 t1' t2 : List (Str × D)}
/-- an expression reads the outer dict and the inner one -/
theorem e_lend (h : PE X e (tE X.K (some q) [] (ρ.set i (some (.dct t1'))) Φ)) (hto : ∀ d, Φ d → TO d) (ht : Paired (fun p p' => p.1 = p'.1 ∧ (p.2 = p'.2 ∨ (p.2 = D.own q2 ∧ p'.2 = D.dct t2))) t1 t1') (hi : ρ[i]? = some (some (.own q1))) : PE X e (tE X.K (some q) [(q1, .dct t1), (q2, .dct t2)] ρ Φ) := (pe_lock (pe_lock h)).imp fun σ H Q ⟨L, ex, env, ow, k⟩ => by
  obtain ⟨k1, h1, r1, z1⟩ := (ow.sh (q1, .dct t1) (by simp)).dct_
  obtain ⟨k2, h2, r2, z2⟩ := (ow.sh (q2, .dct t2) (by simp)).dct_
  have u1 : L q1 = none := ow.un (q1, .dct t1) (by simp)
  have u2 : L q2 = none := ow.un (q2, .dct t2) (by simp)
  have n12 : q1 ≠ q2 := by
    have := ow.nd
    simp [Mem.ks] at this
    exact this
  obtain ⟨uq, bq, nq⟩ := ow.bg q rfl
  have qn1 : q ≠ q1 := fun z => nq (by simp [Mem.ks, z])
  have qn2 : q ≠ q2 := fun z => nq (by simp [Mem.ks, z])
  simp only at h1 h2
  refine ⟨q1, .dK k1, h1, trivial, fun od1 => ⟨q2, .dK k2, by rw [upd_ne n12.symm]; exact h2, trivial, fun od2 => ?_⟩⟩
  have La : ∀ {a o}, L a = some o → a ≠ q1 ∧ a ≠ q2 := fun h => ⟨ne_of_none h u1, ne_of_none h u2⟩
  let Lp : Hp := upd (upd L q1 (.frz od1 (.dK k1))) q2 (.frz od2 (.dK k2))
  let Hq : Hp := upd (upd H q1 (.frz od1 (.dK k1))) q2 (.frz od2 (.dK k2))
  have lp : ∀ {a}, a ≠ q1 → a ≠ q2 → Lp a = L a := fun x y => by show upd _ _ _ _ = _; rw [upd_ne y, upd_ne x]
  have hp : ∀ {a}, a ≠ q1 → a ≠ q2 → Hq a = H a := fun x y => by show upd _ _ _ _ = _; rw [upd_ne y, upd_ne x]
  have lp1 : Lp q1 = some (.frz od1 (.dK k1)) := by show upd _ _ _ _ = _; rw [upd_ne n12, upd_same]
  have lp2 : Lp q2 = some (.frz od2 (.dK k2)) := upd_same
  have hp1 : Hq q1 = some (.frz od1 (.dK k1)) := by show upd _ _ _ _ = _; rw [upd_ne n12, upd_same]
  have hp2 : Hq q2 = some (.frz od2 (.dK k2)) := upd_same
  have lx : Ex L Lp := fun a o h => by rw [lp (La h).1 (La h).2]; exact h
  have sub : Ex Lp Hq := fun a o h => by
    by_cases e1 : a = q1
    · rw [e1, lp1] at h; rw [e1, hp1]; exact h
    · by_cases e2 : a = q2
      · rw [e2, lp2] at h; rw [e2, hp2]; exact h
      · rw [lp e1 e2] at h; rw [hp e1 e2]; exact ex a o h
  have rep2 : Rep X.K Lp (.ref q2) (.dct t2) := .dct ⟨od2, lp2⟩ (r2.mo lx.mo) z2
  have lent : t1.length = t1'.length := Paired.length ht
  have rep1 : Rep X.K Lp (.ref q1) (.dct t1') := .dct ⟨od1, lp1⟩ (repK_in lx rep2 r1 ht) (by omega)
  have ow0 : Ow X.K (some q) [] Lp Hq := ⟨.nil, nofun, nofun, fun c hc => by
    cases hc
    exact ⟨by rw [lp qn1 qn2]; exact uq, bq.go lx (hp qn1 qn2), nofun⟩⟩
  refine ⟨Lp, sub, env_bor (env.ex lx) hi rep1, ow0, fun v H' L' d hd g o' rv => ?_⟩
  have x1 : H' q1 = some (.frz od1 (.dK k1)) := g.ex q1 _ (fun z => qn1 (Option.some.inj z)) hp1
  have x2 : H' q2 = some (.frz od2 (.dK k2)) := g.ex q2 _ (fun z => qn2 (Option.some.inj z)) hp2
  refine ⟨x2, by rw [upd_ne n12]; exact x1, ?_⟩
  let Lo : Hp := fun a => if a = q1 ∨ a = q2 then none else L' a
  have lo : ∀ {a}, a ≠ q1 → a ≠ q2 → Lo a = L' a := fun x y => if_neg fun z => z.elim x y
  have lo1 : Lo q1 = none := if_pos (.inl rfl)
  have lo2 : Lo q2 = none := if_pos (.inr rfl)
  have y1 : L' q1 = some (.frz od1 (.dK k1)) := g.lx _ _ lp1
  have y2 : L' q2 = some (.frz od2 (.dK k2)) := g.lx _ _ lp2
  let Ho : Hp := upd (upd H' q2 (.dK k2)) q1 (.dK k1)
  have ho : ∀ {a}, a ≠ q1 → a ≠ q2 → Ho a = H' a := fun x y => by show upd _ _ _ _ = _; rw [upd_ne x, upd_ne y]
  have ho1 : Ho q1 = some (.dK k1) := upd_same
  have ho2 : Ho q2 = some (.dK k2) := by show upd _ _ _ _ = _; rw [upd_ne n12.symm, upd_same]
  have gl : Ex L Lo := fun a o h => by rw [lo (La h).1 (La h).2]; exact g.lx a o (lx a o h)
  have tupk : ∀ a xs, L' a = some (.tup xs) → Lo a = some (.tup xs) := fun a xs h => by
    rw [lo (fun z => by rw [z, y1] at h; cases h) fun z => by rw [z, y2] at h; cases h]; exact h
  have gg : Gx (some q) H L Ho Lo := by
    refine ⟨fun a o n h => ?_, gl, fun a o h => ?_, fun a n => ?_, fun a n => ?_⟩
    · by_cases e1 : a = q1
      · rw [e1] at h ⊢; rw [ho1, ← h1]; exact h
      · by_cases e2 : a = q2
        · rw [e2] at h ⊢; rw [ho2, ← h2]; exact h
        · rw [ho e1 e2]; exact g.ex a o n (show Hq a = some o by rw [hp e1 e2]; exact h)
    · by_cases e1 : a = q1
      · rw [e1, lo1] at h; cases h
      · by_cases e2 : a = q2
        · rw [e2, lo2] at h; cases h
        · rw [lo e1 e2] at h; rw [ho e1 e2]; exact g.sub a o h
    · by_cases e1 : a = q1
      · rw [e1, lo1, u1]
      · by_cases e2 : a = q2
        · rw [e2, lo2, u2]
        · rw [lo e1 e2, g.old a (show Hq a ≠ none by rw [hp e1 e2]; exact n), lp e1 e2]
    · by_cases e1 : a = q1
      · rw [e1, ho1]; exact nofun
      · by_cases e2 : a = q2
        · rw [e2, ho2]; exact nofun
        · rw [ho e1 e2]; exact g.dom a (show Hq a ≠ none by rw [hp e1 e2]; exact n)
  refine k v Ho Lo d hd gg ⟨ow.nd, fun p hp => ?_, fun p hp => ?_, fun c hc => ?_⟩ (rep_to tupk (hto d hd) rv)
  · simp only [List.mem_cons, List.not_mem_nil, or_false] at hp
    rcases hp with rfl | rfl
    · exact lo1
    · exact lo2
  · simp only [List.mem_cons, List.not_mem_nil, or_false] at hp
    rcases hp with rfl | rfl
    · exact .dct ho1 (r1.mo gl.mo) z1
    · exact .dct ho2 (r2.mo gl.mo) z2
  · cases hc
    obtain ⟨w1, ⟨b0, b1, b2, c, ns, v1, v2, v3⟩, w3⟩ := o'.bg q rfl
    have c1 : c ≠ q1 := fun z => by rw [z, y1] at v2; cases v2
    have c2 : c ≠ q2 := fun z => by rw [z, y2] at v2; cases v2
    exact ⟨by rw [lo qn1 qn2]; exact w1, ⟨b0, b1, b2, c, ns, by rw [ho qn1 qn2]; exact v1, by rw [lo c1 c2]; exact v2, v3⟩, nq⟩
end
end K51
end
section
set_option Elab.async false
set_option linter.all false
set_option maxRecDepth 100000
/-! Texts: split, join, signs, slices, repetition; three at once. -/
namespace K51
open PySem PySem.Spec PyProof.Rows L2
section
variable {X : Cx} {b : Option Addr} {M : Mem} {ρ : En} {a e i0 : Expr} {pos p apos p2 : Pos} {x y : Str} {n : Nat} {rest : List Stmt} {Ω : Ou → Prop}
theorem j_split (hy : (y.length == 0) = false) (hx : x.length ≤ lim) (hl : (Txt.split x y).length ≤ lim) (ho : PE X a (tJ X.K ρ (.str x))) (ha : PE X e (tJ X.K ρ (.str y)))
    (hbase : attributeBase a "split" X.env (eval a X.env) = eval a X.env := by rfl)
    (hfew : ((backTo pos (starEach [e] X.env)).all (fun x => !x.1) && (backToKw pos (keywordEach [] X.env)).all (fun x => x.1.isSome)
      && decide ([e].length + ([] : List Keyword).length + (if ([] : List Keyword).isEmpty then 0 else 1) < 30)) = true := by rfl)
    (hline : (apos.endLine == pos.line) = true := by rfl) (hs : starEach [e] X.env = (false, eval e X.env) :: starEach [] X.env := by rfl) (hplain : (backTo pos (starEach [] X.env)).any (·.1) = false := by rfl) :
    PE X (.Call (.Attribute a "split" apos) [e] [] pos) (tJ X.K ρ (.lst ((Txt.split x y).map D.str))) :=
  (pe_bm PySem.F.plainAttrs_str PySem.F.slot_str_split PySem.F.type_str_split mt_split ho (ja_cons ha ja_nil hs) hbase hfew hline hs hplain).imp fun σ H Q ⟨L, e, env, k⟩ => ⟨L, e, env, fun v H1 L1 g1 r1 => by
    obtain rfl := r1.str_
    refine ⟨rfl, L1, g1.sub, env.ex g1.lx, fun vs H2 L2 g2 r2 => ?_⟩
    obtain ⟨w, vs2, rfl, r3, r4⟩ := r2.cons_
    obtain rfl := r4.nil_
    obtain rfl := r3.str_
    refine ⟨x, y, rfl, rfl, hy, Nat.le_trans (Nat.add_le_add_right hx 2) (by decide), fun q hq => ?_⟩
    have g3 := Go.new (o := .lst ((Txt.split x y).map V.str)) g2.sub hq
    exact k _ _ _ ((g1.tr g2).tr g3) (.lst upd_same (RepL.ofStrs _) (by rw [List.length_map]; exact hl))⟩
/-- x.join(e), the texts drawn -/
theorem e_join {Ps : List Str → Prop} (ho : PE X a (tJ X.K ρ (.str x))) (hz : ∀ ys, Ps ys → (ys.map (·.length)).sum + ys.length * x.length ≤ 16777216) (ha : PE X e (tE X.K b M ρ fun d => ∃ ys : List Str, Ps ys ∧ d = .lst (ys.map D.str)))
    (hbase : attributeBase a "join" X.env (eval a X.env) = eval a X.env := by rfl)
    (hfew : ((backTo pos (starEach [e] X.env)).all (fun x => !x.1) && (backToKw pos (keywordEach [] X.env)).all (fun x => x.1.isSome)
      && decide ([e].length + ([] : List Keyword).length + (if ([] : List Keyword).isEmpty then 0 else 1) < 30)) = true := by rfl)
    (hline : (apos.endLine == pos.line) = true := by rfl) (hs : starEach [e] X.env = (false, eval e X.env) :: starEach [] X.env := by rfl) (hplain : (backTo pos (starEach [] X.env)).any (·.1) = false := by rfl) :
    PE X (.Call (.Attribute a "join" apos) [e] [] pos) (tE X.K b M ρ fun d => ∃ ys, Ps ys ∧ d = .str (Txt.join x ys)) :=
  (pe_bm PySem.F.plainAttrs_str PySem.F.slot_str_join PySem.F.type_str_join mt_join ho (ae_cons ha ae_nil hs) hbase hfew hline hs hplain).imp fun σ H Q ⟨L, e, env, ow, k⟩ => ⟨L, e, env, fun v H1 L1 g1 r1 => by
    obtain rfl := r1.str_
    refine ⟨rfl, L1, g1.sub, env.ex g1.lx, ow.go g1, fun vs H2 L2 ds hds g2 o2 r2 => ?_⟩
    obtain ⟨_, _, rfl, ⟨ys, hy, rfl⟩, rfl⟩ := hds
    obtain ⟨w, vs2, rfl, r3, r4⟩ := r2.cons_
    obtain rfl := r4.nil_
    obtain ⟨q, us, rfl, hq, rl, _⟩ := r3.lst_
    have eu := rl.strs
    subst eu
    exact ⟨x, q, ys, rfl, rfl, .inl (SqL.of (g2.sub _ _ hq)), hz ys hy, k _ H2 L2 _ ⟨ys, hy, rfl⟩ (g1.gx.tr g2) o2 (.str _)⟩⟩
theorem ix_sub {z : Str} {i : Int} {c : Nat} (hz : z.length ≤ lim) (h : atI z.cps.toList i = some c) (ha : PE X a (tJ X.K ρ (.str z))) (hi : PE X i0 (tJ X.K ρ (.int i))) (hs : PlainIx i0 := by exact fun _ _ => rfl) : PE X (.Subscript a i0 pos) (tJ X.K ρ (.str (sg c))) :=
  (pe_ix ix_str ha hi hs).imp fun σ H Q ⟨L, e, env, k⟩ => ⟨L, e, env, fun v H1 L1 g1 r1 => ⟨L1, g1.sub, env.ex g1.lx, fun w H2 L2 g2 r2 => by
    obtain rfl := r1.str_
    obtain rfl := r2.int_
    exact ⟨z, i, c, rfl, rfl, lim_le hz, h, k _ H2 L2 (g1.tr g2) (.str _)⟩⟩⟩
theorem j_slS {z : Str} {lo hi : Option Expr} {i j : Option Int} (hz : z.length ≤ lim) (ha : PE X a (tJ X.K ρ (.str z))) (hl : PO X lo (tO X.K ρ i)) (hh : PO X hi (tO X.K ρ j)) : PE X (.Subscript a (.Slice lo hi none p2) pos) (tJ X.K ρ (.str (cutS z i j))) :=
  (pe_slice sl_str ha hl hh).imp fun σ H Q ⟨L, e, env, k⟩ => ⟨L, e, env, fun v H1 L1 g1 r1 => ⟨L1, g1.sub, env.ex g1.lx, fun H2 L2 g2 => ⟨L2, g2.sub, (env.ex g1.lx).ex g2.lx, fun H3 L3 g3 => by
    obtain rfl := r1.str_
    exact ⟨z, rfl, lim_le hz, k _ H3 L3 ((g1.tr g2).tr g3) (.str _)⟩⟩⟩⟩
/-- text * number -/
theorem op_mulS : OpR X (binaryOp .Mult) (fun x y H Q => ∃ z k, x = .str z ∧ y = .int k ∧ PySem.MulOk z k ∧ Q (.str (PySem.Txt.mul z k)) H) := by
  intro pins s σ H x y v u Q I rx ry h
  obtain ⟨z, k, rfl, rfl, hk, q⟩ := h
  obtain ⟨t, rfl⟩ := rx
  obtain ⟨t', rfl⟩ := ry
  exact PySem.SB.mul hk fun t2 k2 => ⟨.str _, H, I.tok _, ⟨_, rfl⟩, q⟩
theorem bd_mulS {z : Str} {k : Int} (h : PySem.MulOk z k) : BD X .Mult (.str z) (.int k) (.str (PySem.Txt.mul z k)) := ⟨_, op_mulS, fun v w H L Q e rv rw k' => ⟨z, k, rv.str_, rw.int_, h, k' _ H L (Go.rf e) (.str _)⟩⟩
/-- int(text) -/
theorem bf_intS {z : Str} {n : Int} (h : PySem.intText? z = some n) (hl : z.length ≤ 640) : BF X "int" [.str z] (.int n) := ⟨_, .inr ⟨_, boot_int, call_int_str⟩, cd1 fun v H L Q e r k => ⟨z, n, by rw [r.str_], h, hl, k _ H L (Go.rf e) (.int _)⟩⟩
/-- range of a drawn number -/
theorem ie_range {tg : Expr} {Ψ : Nat → Prop} (ha : PE X a (tE X.K b M ρ fun d => ∃ n : Nat, Ψ n ∧ d = .int n)) (hΨ : ∀ n, Ψ n → n ≤ 1000) (hm : X.mg "range" = none) (hg : Gl X "range" := by rfl) (hs : starEach [a] X.env = [(false, eval a X.env)] := by rfl) (hs2 : starEach [a] X.env = (false, eval a X.env) :: starEach [] X.env := by rfl) :
    PI X tg (.Call (.Name "range" p) [a] [] pos) (tIE X.K b M ρ fun ds => ∃ n : Nat, Ψ n ∧ ds = (List.range n).map fun (i : Nat) => .int (i : Int)) := (pi_range1 hg hm (ae_cons ha ae_nil hs2) hs).imp fun σ H R ⟨L, e, env, ow, k⟩ => ⟨L, e, env, ow, fun vs H1 L1 ds hds g1 o1 r1 => by
  obtain ⟨_, _, rfl, ⟨n, hn, rfl⟩, rfl⟩ := hds
  obtain ⟨v, w, rfl, r2, r3⟩ := r1.cons_
  obtain rfl := r3.nil_
  obtain rfl := r2.int_
  have hb := hΨ n hn
  refine ⟨n, rfl, by omega, by omega, k _ H1 L1 _ ⟨n, hn, rfl⟩ g1 o1 ⟨by rw [List.length_map, List.length_range]; show n ≤ 100000; omega, fun i H' L' hi _ _ => ?_, fun H' L' _ _ => ?_, fun i d H' L' v H'' hd gl gs hy => ?_⟩⟩
  · rw [List.length_map, List.length_range] at hi
    show i < ((n : Int)).toNat
    omega
  · show ((n : Int)).toNat ≤ _
    rw [List.length_map, List.length_range]
    omega
  · obtain ⟨rfl, rfl⟩ := hy
    rw [List.getElem?_map] at hd
    have hi : i < n := by
      cases q : (List.range n)[i]? with
      | none => rw [q] at hd; cases hd
      | some j =>
        have := (List.getElem?_eq_some_iff.mp q).1
        rw [List.length_range] at this
        exact this
    rw [List.getElem?_range hi] at hd
    cases hd
    refine ⟨L', Go.rf gs, ?_⟩
    rw [Int.zero_add]
    exact .int _⟩
end
section
variable {X : Cx} {b : Option Addr} {M : Mem} {ρ : En} {e : Expr} {pos : Pos} {rest : List Stmt} {Ω : Ou → Prop} {Ψ : D → D → D → Prop}
/-- a, b, c = e, e a tuple of three -/
theorem c_un3E (i j m : Nat) {x y z : Str} {px py pz pt : Pos} {kt : Nat} (hN : X.N.Nodup) (h : PE X e (tE X.K b M ρ fun d => ∃ d1 d2 d3, Ψ d1 d2 d3 ∧ d = .tup [d1, d2, d3])) (h5 : ∀ d1 d2 d3, Ψ d1 d2 d3 → PSs X rest (tW X.K b M (((ρ.set i (some d1)).set j (some d2)).set m (some d3)) Ω)) (hc : X.calm = true := by rfl) (hi : X.N[i]? = some x := by rfl) (hj : X.N[j]? = some y := by rfl) (hm : X.N[m]? = some z := by rfl) (hx : Loc X.env.scope x := by first | exact .inl rfl | exact .inr rfl) (hy : Loc X.env.scope y := by first | exact .inl rfl | exact .inr rfl) (hz : Loc X.env.scope z := by first | exact .inl rfl | exact .inr rfl)
    (hf : X.fn x = true ∨ X.env.scope.names.lookup x = some .local := by first | exact .inl rfl | exact .inr rfl) (hf2 : X.fn y = true ∨ X.env.scope.names.lookup y = some .local := by first | exact .inl rfl | exact .inr rfl) (hf3 : X.fn z = true ∨ X.env.scope.names.lookup z = some .local := by first | exact .inl rfl | exact .inr rfl)
    (hn : (assignEach [.Name x px, .Name y py, .Name z pz] X.env).length = 3 := by rfl) (hst : (assignEach [.Name x px, .Name y py, .Name z pz] X.env).findIdx? (·.1) = none := by rfl)
    (h2 : (assignEach [.Name x px, .Name y py, .Name z pz] X.env).map (·.2) = assign (.Name x px) X.env :: (assignEach [.Name y py, .Name z pz] X.env).map (·.2) := by rfl) (h3 : (assignEach [.Name y py, .Name z pz] X.env).map (·.2) = assign (.Name y py) X.env :: (assignEach [.Name z pz] X.env).map (·.2) := by rfl) (h4 : (assignEach [.Name z pz] X.env).map (·.2) = assign (.Name z pz) X.env :: (assignEach [] X.env).map (·.2) := by rfl)
    (hs : swapsWithSole [.Tuple [.Name x px, .Name y py, .Name z pz] kt pt] e pos.line X.env = pure false := by rfl) (hw : swappedStores [.Tuple [.Name x px, .Name y py, .Name z pz] kt pt] e X.env = pure none := by rfl)
    (h1 : (assignEach [.Tuple [.Name x px, .Name y py, .Name z pz] kt pt] X.env).map (·.2) = [assign (.Tuple [.Name x px, .Name y py, .Name z pz] kt pt) X.env] := by rfl) :
    PSs X (.Assign [.Tuple [.Name x px, .Name y py, .Name z pz] kt pt] e pos :: rest) (tW X.K b M ρ Ω) :=
  c_cons (Ω1 := fun o => ∃ d1 d2 d3, Ψ d1 d2 d3 ∧ o = .nxt (((ρ.set i (some d1)).set j (some d2)).set m (some d3)) M) ((ps_asg h (pg_tup hc (pgs_cons (pg_name hN hi hx hf) (pgs_cons (pg_name hN hj hy hf2) (pgs_cons (pg_name hN hm hz hf3) pgs_nil h4) h3) h2) hn hst) hs hw h1).imp fun E σ H ⟨L, e, env, ow, k⟩ => ⟨L, e, env, ow, fun v H1 L1 d ⟨d1, d2, d3, hd, ed⟩ g o r => by
    subst ed
    obtain ⟨q, xs, rfl, hq, rl, _⟩ := r.tup_
    obtain ⟨v, vs2, rfl, r1, r2⟩ := rl.cons_
    obtain ⟨w, vs3, rfl, r3, r4⟩ := r2.cons_
    obtain ⟨u, vs4, rfl, r5, r6⟩ := r4.cons_
    obtain rfl := r6.nil_
    exact ⟨q, _, rfl, SqT.of (g.sub _ _ hq), rfl, v, _, rfl, w, _, rfl, u, [], rfl, rfl, k _ ⟨d1, d2, d3, hd, rfl⟩ _ H1 L1 g.gs o ((((env.ex g.lx).set r1).set r3).set r5)⟩⟩) (fun _ _ ⟨d1, d2, d3, hd, e⟩ => by cases e; exact h5 d1 d2 d3 hd) (fun o n h => by obtain ⟨_, _, _, _, e⟩ := h; exact absurd e (n _ _))
end
end K51
end
section
set_option Elab.async false
set_option linter.all false
set_option maxRecDepth 100000
set_option maxHeartbeats 4000000
/-! The walk: names drawn. -/
namespace K51
open PySem PySem.Spec PyProof.Rows L2
def wl : List Str := (["begin", "send", "put", "read", "fetch", "pass", "wait", "come", "house"] : List Str) ++ (["kind", "stream", "gone", "pool", "back", "again", "plan", "log", "run"] : List Str)
abbrev SIGNS : Str := "abcdefghijklmnopqrstuvwxyz"
theorem wl_split : Txt.split "begin send put read fetch pass wait come house kind stream gone pool back again plan log run" " " = wl := by decide +kernel
/-- names that can be drawn -/
structure Good (l : List Str) : Prop where
  len : l.length = 12
  nd : l.Nodup
  nm : ∀ x ∈ l, okN x
  pp : ¬ (("pipe" : Str) ∈ l ∧ ("pipes" : Str) ∈ l)
def okNb (x : Str) : Bool := decide (1 ≤ x.length) && decide (x.length ≤ 8) && x.cps.toList.all fun c => decide (97 ≤ c) && decide (c ≤ 122)
theorem okNb_ok {x : Str} (h : okNb x = true) : okN x := by
  unfold okNb at h
  simp only [Bool.and_eq_true, decide_eq_true_eq, List.all_eq_true] at h
  exact ⟨h.1.1, h.1.2, fun c hc => h.2 c hc⟩
def goodb (l : List Str) : Bool := decide (l.length = 12) && decide l.Nodup && l.all okNb && !(decide (("pipe" : Str) ∈ l))
theorem goodb_ok {l : List Str} (h : goodb l = true) : Good l := by
  unfold goodb at h
  simp only [Bool.and_eq_true, decide_eq_true_eq, List.all_eq_true, Bool.not_eq_true', decide_eq_false_iff_not] at h
  exact ⟨h.1.1.1, h.1.1.2, fun x hx => okNb_ok (h.1.2 x hx), fun q => h.2 q.1⟩
theorem good0 {t : Nat} (h : t < 18) : Good ((wl.drop t ++ wl.take t).take 12) := by
  have : ∀ t : Fin 18, goodb ((wl.drop t.1 ++ wl.take t.1).take 12) = true := by decide +kernel
  exact goodb_ok (this ⟨t, h⟩)
def cix (t k : Nat) : Nat := 97 + (t + 3 * k) % 26
theorem cix_ok (t k : Nat) : 97 ≤ cix t k ∧ cix t k ≤ 122 := by unfold cix; omega
theorem cix_nd {t : Nat} (h : t < 18) : ((List.range 12).map (cix t)).Nodup := by
  have : ∀ t : Fin 18, ((List.range 12).map (cix t.1)).Nodup := by decide +kernel
  exact this ⟨t, h⟩
theorem nd_by {α β : Type} {f : α → β} {g : β → Nat} {h : α → Nat} {l : List α} (e : ∀ a ∈ l, g (f a) = h a) (nd : (l.map h).Nodup) : (l.map f).Nodup := by
  have : ((l.map f).map g).Nodup := by rw [List.map_map, List.map_congr_left (f := g ∘ f) (g := h) e]; exact nd
  exact List.Pairwise.of_map g (fun a b hab e => hab (congrArg g e)) this
/-- letters, at most seven -/
def okB (b : Str) : Prop := b.length ≤ 7 ∧ ∀ c ∈ b.cps.toList, 97 ≤ c ∧ c ≤ 122
theorem tlA (x y : Str) : (x ++ y).cps.toList = x.cps.toList ++ y.cps.toList := TL.tl_append x y
theorem lenT (x : Str) : x.length = x.cps.toList.length := TL.len_tl x
theorem good2 {b : Str} {t : Nat} (hb : okB b) (h : t < 18) : Good ((List.range 12).map fun k => b ++ sg (cix t k)) := by
  have tle : ∀ k, (b ++ sg (cix t k)).cps.toList = b.cps.toList ++ [cix t k] := fun k => tlA _ _
  have ll : ∀ k, (b ++ sg (cix t k)).length = b.length + 1 := fun k => by rw [lenT, tle, List.length_append, ← lenT]; rfl
  refine ⟨by simp, nd_by (g := fun x => x.cps.toList.getLastD 0) (h := cix t) (fun k _ => by rw [tle]; simp) (cix_nd h), fun x hx => ?_, fun q => ?_⟩
  · obtain ⟨k, _, rfl⟩ := List.mem_map.mp hx
    refine ⟨by rw [ll]; omega, by rw [ll]; have := hb.1; omega, fun c hc => ?_⟩
    rw [tle] at hc
    rcases List.mem_append.mp hc with q | q
    · exact hb.2 c q
    · rw [List.mem_singleton.mp q]; exact cix_ok t k
  · obtain ⟨k, _, e1⟩ := List.mem_map.mp q.1
    obtain ⟨j, _, e2⟩ := List.mem_map.mp q.2
    have h1 := congrArg Str.length e1
    have h2 := congrArg Str.length e2
    rw [ll] at h1 h2
    have p1 : ("pipe" : Str).length = 4 := by decide +kernel
    have p2 : ("pipes" : Str).length = 5 := by decide +kernel
    omega
theorem good1 {b : Str} {t : Nat} (hb : okB b) (h : t < 18) : Good ((List.range 12).map fun k => sg (cix t k) ++ cutS b none (some (((t + k : Nat) : Int) % 8))) := by
  let T : Nat → List Nat := fun k => (b.cps.toList.drop 0).take (HT.sIx b.length b.length (some (((t + k : Nat) : Int) % 8)) - 0)
  have tle : ∀ k, (sg (cix t k) ++ cutS b none (some (((t + k : Nat) : Int) % 8))).cps.toList = cix t k :: T k := fun k => tlA _ _
  have tl7 : ∀ k, (T k).length ≤ 7 := fun k => by
    have h1 : (T k).length ≤ (b.cps.toList.drop 0).length := List.length_take_le' _ _
    rw [List.drop_zero, ← lenT] at h1
    exact Nat.le_trans h1 hb.1
  have tsub : ∀ k, ∀ c ∈ T k, c ∈ b.cps.toList := fun k c hc => by
    have := List.mem_of_mem_take hc
    rwa [List.drop_zero] at this
  have nd : ((List.range 12).map fun k => sg (cix t k) ++ cutS b none (some (((t + k : Nat) : Int) % 8))).Nodup := nd_by (g := fun x => x.cps.toList.headD 0) (h := cix t) (fun k _ => by rw [tle]; rfl) (cix_nd h)
  refine ⟨by simp, nd, fun x hx => ?_, fun q => ?_⟩
  · obtain ⟨k, _, rfl⟩ := List.mem_map.mp hx
    refine ⟨?_, ?_, fun c hc => ?_⟩
    · rw [lenT, tle, List.length_cons]; omega
    · rw [lenT, tle, List.length_cons]; have := tl7 k; omega
    · rw [tle] at hc
      rcases List.mem_cons.mp hc with q | q
      · rw [q]; exact cix_ok t k
      · exact hb.2 c (tsub k c q)
  · obtain ⟨k, hk, e1⟩ := List.mem_map.mp q.1
    obtain ⟨j, hj, e2⟩ := List.mem_map.mp q.2
    have h1 := congrArg (fun x : Str => x.cps.toList.headD 0) e1
    have h2 := congrArg (fun x : Str => x.cps.toList.headD 0) e2
    simp only [tle] at h1 h2
    have p1 : ("pipe" : Str).cps.toList.headD 0 = 112 := by decide +kernel
    have p2 : ("pipes" : Str).cps.toList.headD 0 = 112 := by decide +kernel
    rw [p1] at h1
    rw [p2] at h2
    have ec : cix t k = cix t j := h1.trans h2.symm
    have hk' := List.mem_range.mp hk
    have hj' := List.mem_range.mp hj
    have ekj : k = j := by
      have nd3 := cix_nd h
      have := (List.getElem_inj (h₀ := by simp; omega) (h₁ := by simp; omega) nd3 (i := k) (j := j)).mp (by simp; exact ec)
      exact this
    rw [ekj] at e1
    rw [e1] at e2
    exact absurd e2 (by decide +kernel)
/-- the pipe's own name is changed -/
def fixN (x : Str) : Str := if x = "pipe" then "pipes" else x
structure Names (l : List Str) : Prop where
  len : l.length = 12
  nd : l.Nodup
  nm : ∀ x ∈ l, okN x ∧ x ≠ "pipe"
theorem names_of {l : List Str} (g : Good l) : Names (l.map fixN) := by
  refine ⟨by rw [List.length_map]; exact g.len, ?_, fun x hx => ?_⟩
  · refine List.pairwise_map.mpr (List.Pairwise.imp_of_mem (fun {a b} ha hb hne e => ?_) g.nd)
    unfold fixN at e
    by_cases h1 : a = "pipe" <;> by_cases h2 : b = "pipe"
    · exact hne (h1.trans h2.symm)
    · rw [if_pos h1, if_neg h2] at e
      exact g.pp ⟨h1 ▸ ha, e ▸ hb⟩
    · rw [if_neg h1, if_pos h2] at e
      exact g.pp ⟨h2 ▸ hb, e ▸ ha⟩
    · rw [if_neg h1, if_neg h2] at e
      exact hne e
  · obtain ⟨y, hy, rfl⟩ := List.mem_map.mp hx
    unfold fixN
    split
    · exact ⟨okNb_ok (by decide +kernel), by decide +kernel⟩
    · next h => exact ⟨g.nm y hy, h⟩
theorem sign_at {i : Nat} (h : i < 26) : atI SIGNS.cps.toList (i : Int) = some (97 + i) := by
  have : ∀ i : Fin 26, atI SIGNS.cps.toList (i.1 : Int) = some (97 + i.1) := by decide +kernel
  exact this ⟨i, h⟩
theorem cut_from {l : List D} {t : Nat} (h : t ≤ l.length) : cutD l (some (t : Int)) none = l.drop t := by
  unfold cutD
  rw [HT.sIx_nat, Nat.min_eq_left h]
  exact List.take_of_length_le (by rw [List.length_drop]; exact Nat.le_refl _)
theorem cut_to {l : List D} {t : Nat} (h : t ≤ l.length) : cutD l none (some (t : Int)) = l.take t := by
  unfold cutD
  rw [HT.sIx_nat, Nat.min_eq_left h]
  rfl
theorem flat_sg : ∀ (ys : List Str), (∀ y ∈ ys, ∃ c, (97 ≤ c ∧ c ≤ 122) ∧ y = sg c) → (Str.join "" ys).cps.toList.length ≤ ys.length ∧ ∀ c ∈ (Str.join "" ys).cps.toList, 97 ≤ c ∧ c ≤ 122
  | [], _ => ⟨Nat.le_refl _, fun c hc => by cases hc⟩
  | [y], h => by
    obtain ⟨c, hc, rfl⟩ := h y List.mem_cons_self
    exact ⟨Nat.le_refl _, fun d hd => by rw [List.mem_singleton.mp hd]; exact hc⟩
  | x :: z :: r, h => by
    obtain ⟨c, hc, rfl⟩ := h x List.mem_cons_self
    obtain ⟨h1, h2⟩ := flat_sg (z :: r) fun y hy => h y (List.mem_cons_of_mem _ hy)
    have e : (Str.join "" (sg c :: z :: r)).cps.toList = c :: (Str.join "" (z :: r)).cps.toList := by
      show (sg c ++ "" ++ Str.join "" (z :: r)).cps.toList = _
      rw [tlA, tlA]
      rfl
    rw [e]
    refine ⟨by rw [List.length_cons, List.length_cons]; exact Nat.succ_le_succ h1, fun d hd => ?_⟩
    rcases List.mem_cons.mp hd with q | q
    · rw [q]; exact hc
    · exact h2 d q
theorem lcR_map {Fe : D → D → Prop} {l rs : List D} (h : LcR (fun _ c => c = true) Fe l rs) {F : D → Str → Prop} (hf : ∀ a d, Fe a d → ∃ y, F a y ∧ d = .str y) : ∃ ys : List Str, ys.length = l.length ∧ rs = ys.map D.str ∧ ∀ y ∈ ys, ∃ a, F a y := by
  induction h with
  | nil => exact ⟨[], rfl, rfl, nofun⟩
  | skip _ e _ => cases e
  | @take l ds a d h1 h2 h3 ih =>
    obtain ⟨ys, e1, e2, e3⟩ := ih
    obtain ⟨y, hy, rfl⟩ := hf a d h3
    refine ⟨ys ++ [y], by rw [List.length_append, List.length_append, e1]; rfl, by rw [List.map_append, e2]; rfl, fun z hz => ?_⟩
    rcases List.mem_append.mp hz with q | q
    · exact e3 z q
    · rw [List.mem_singleton.mp q]; exact ⟨a, hy⟩
section
variable {P : Program} {w : World} {K : PySem.W.Frag} {mg : Str → Option Value} {base : Heap}
theorem e_ixS {X : Cx} {b : Option Addr} {M : Mem} {ρ : En} {a i0 : Expr} {pos : Pos} {z : Str} {Ψ Θ : D → Prop} (hz : z.length ≤ lim) (ha : PE X a (tJ X.K ρ (.str z))) (hi : PE X i0 (tE X.K b M ρ Ψ)) (h : ∀ d, Ψ d → ∃ (u : Nat) (c : Nat), d = .int u ∧ atI z.cps.toList (u : Int) = some c ∧ Θ (.str (sg c))) (hs : PlainIx i0 := by exact fun _ _ => rfl) : PE X (.Subscript a i0 pos) (tE X.K b M ρ Θ) :=
  (pe_ix ix_str ha hi hs).imp fun σ H Q ⟨L, e, env, ow, k⟩ => ⟨L, e, env, fun v H1 L1 g1 r1 => ⟨L1, g1.sub, env.ex g1.lx, ow.go g1, fun w H2 L2 d hd g2 o2 r2 => by
    obtain rfl := r1.str_
    obtain ⟨u, c, rfl, hc, ht⟩ := h d hd
    obtain rfl := r2.int_
    exact ⟨z, u, c, rfl, rfl, lim_le hz, hc, k _ H2 L2 _ ht (g1.gx.tr g2) o2 (.str _)⟩⟩⟩
def P_l_names (ds : List D) : Prop := ds = [.int 12]
def R_l_names (ds : List D) (d : D) : Prop := ∃ l, Names l ∧ d = .lst (l.map D.str)
theorem mulS01 {n : Int} (h : n = 0 ∨ n = 1) : PySem.MulOk "s" n ∧ PySem.Txt.mul "s" n = if n = 1 then ("s" : Str) else ("" : Str) := by
  rcases h with rfl | rfl
  · exact ⟨⟨by decide, fun h => absurd (by decide) h, fun h => absurd (by decide) h⟩, by decide +kernel⟩
  · exact ⟨⟨by decide, fun _ h => absurd h (by decide), fun _ h => absurd h (by decide)⟩, by decide +kernel⟩
theorem fix_eq (x : Str) : x ++ (if (if decide (x = "pipe") = true then (1 : Int) else 0) = 1 then ("s" : Str) else ("" : Str)) = fixN x := by
  unfold fixN
  by_cases h : x = "pipe"
  · rw [if_pos h, h]; decide +kernel
  · rw [if_neg h, decide_eq_false h]
    show x ++ "" = x
    have : (x ++ "").cps.toList = x.cps.toList := by rw [tlA]; exact List.append_nil _
    exact PySem.W.str_of_cps this
theorem ok_l_draw_names (T : Facts K mg) : OkG P w K mg base 2 "_law_draw_names" ["_law_bag_here", "_law_many"] (spB K P_l_names R_l_names) := by
  have G_l_take := ok_l_take (P := P) (w := w) (base := base) T
  obtain ⟨fd, F⟩ := T.fl_draw_names
  have hN : (["_law_bag_here", "_law_many", "_law_signs", "_law_words", "_law_way", "_law_turn", "_law_base", "_law_found", "_law_k", "_law_name"] : List Str).Nodup := by decide +kernel
  refine ⟨_, T.g_law_draw_names, fn_B F (N := ["_law_bag_here", "_law_many", "_law_signs", "_law_words", "_law_way", "_law_turn", "_law_base", "_law_found", "_law_k", "_law_name"]) ⟨rfl, rfl, rfl, hN, rfl, by decide +kernel, by decide +kernel⟩ (fun ds h => by obtain rfl := h; rfl) (fun _ _ _ _ _ _ us hl => match us, hl with | [_, _], _ => rfl) ?_⟩
  rintro q ds rfl cdv A0 outer0 s0 H0 E0 hr
  refine c_p (s_set 2 hN j_str) (c_p (s_set 3 hN j_str) ?_)
  refine c_un3E (Ψ := fun a b c => ∃ v t : Nat, v < 3 ∧ t < 18 ∧ a = .lst (wl.map D.str) ∧ b = .int v ∧ c = .int t) 3 4 5 hN (e_im (e_tup (ae_cons (e_of (j_is (d' := .lst (wl.map D.str)) (j_split (x := "begin send put read fetch pass wait come house kind stream gone pool back again plan log run") (y := " ") (by decide +kernel) (by decide +kernel) (by rw [wl_split]; decide) (j_v 3) j_str) (by rw [wl_split]))) (ae_cons (e_take (m := 3) G_l_take hr (j_v 0) (e_of j_int) (by decide) (by decide)) (ae_cons (e_take (m := 18) G_l_take hr (j_v 0) (e_of j_int) (by decide) (by decide)) ae_nil))) (fun ds h => by obtain ⟨_, _, rfl, _, _, _, rfl, _, _, _, rfl, _, rfl⟩ := h; show 3 ≤ 100000; decide)) fun d hd => ?_) fun a b c ⟨v, t, hv, ht, e1, e2, e3⟩ => ?_
  · obtain ⟨_, rfl, _, _, rfl, rfl, _, _, rfl, ⟨v, hv, rfl⟩, _, _, rfl, ⟨t, ht, rfl⟩, rfl⟩ := hd
    exact ⟨_, _, _, ⟨v, t, by omega, by omega, rfl, rfl, rfl⟩, rfl⟩
  subst e1; subst e2; subst e3
  have s26 : SIGNS.length ≤ lim := by decide +kernel
  refine c_set 6 hN (e_join (Ps := fun ys => ys.length ≤ 7 ∧ ∀ y ∈ ys, ∃ c, (97 ≤ c ∧ c ≤ 122) ∧ y = sg c) j_str ?_ (e_im (e_lc (Ft := fun _ c => c = true) (Fe := fun _ d => ∃ c, (97 ≤ c ∧ c ≤ 122) ∧ d = .str (sg c)) 8 hN (ie_range (Ψ := fun n => n < 8) (e_im (e_take (m := 8) G_l_take hr (j_v 0) (e_of j_int) (by decide) (by decide)) fun d ⟨n, hn, e⟩ => ⟨n, by omega, e⟩) (fun n hn => by omega) T.b_range) (fun _ _ _ _ _ _ _ _ _ => tte_nil) fun _ _ a _ _ _ _ _ _ _ => ?_) fun d hd => ?_)) fun d hd => ?_
  · rintro ys ⟨h1, h2⟩
    have : (ys.map (·.length)).sum ≤ ys.length := by
      clear h1
      induction ys with
      | nil => exact Nat.le_refl _
      | cons y r ih =>
        obtain ⟨c, _, rfl⟩ := h2 y List.mem_cons_self
        have := ih fun z hz => h2 z (List.mem_cons_of_mem _ hz)
        rw [List.map_cons, List.sum_cons, List.length_cons]
        have e : (sg c).length = 1 := rfl
        omega
    have e : ("" : Str).length = 0 := rfl
    rw [e, Nat.mul_zero]
    omega
  · exact e_ixS (z := SIGNS) s26 (j_v 2) (e_take (m := 26) G_l_take hr (j_v 0) (e_of j_int) (by decide) (by decide)) fun d ⟨u, hu, e⟩ => ⟨u, _, e, sign_at (show u < 26 by omega), _, ⟨by omega, by omega⟩, rfl⟩
  · obtain ⟨ds, rs, ⟨n, hn, rfl⟩, hl, rfl⟩ := hd
    obtain ⟨ys, e1, e2, e3⟩ := lcR_map hl (F := fun _ y => ∃ c, (97 ≤ c ∧ c ≤ 122) ∧ y = sg c) fun a d ⟨c, hc, e⟩ => ⟨sg c, ⟨c, hc, rfl⟩, e⟩
    rw [List.length_map, List.length_range] at e1
    exact ⟨ys, ⟨by omega, fun y hy => (e3 y hy).elim fun _ h => h⟩, by rw [e2]⟩
  obtain ⟨ys, ⟨y1, y2⟩, rfl⟩ := hd
  have okb : okB (Txt.join "" ys) := by
    rw [TL.join_eq]
    obtain ⟨h1, h2⟩ := flat_sg ys y2
    exact ⟨by rw [lenT]; omega, h2⟩
  generalize Txt.join "" ys = bs at okb ⊢
  have bl : bs.length ≤ 7 := okb.1
  have c26 : ∀ k : Nat, atI SIGNS.cps.toList (((t : Int) + 3 * (k : Int)) % 26) = some (cix t k) := fun k => by
    have e : ((t : Int) + 3 * (k : Int)) % 26 = (((t + 3 * k) % 26 : Nat) : Int) := by omega
    rw [e]
    exact sign_at (Nat.mod_lt _ (by decide))
  have rg : ∀ {X : Cx} {ρ : En} {tg : Expr} {p q : Pos} {a : Expr}, X.mg = mg → PE X a (tJ X.K ρ (.int 12)) → True := fun _ _ => trivial
  refine c_p (s_setLc (ls := List.range 12) (c := fun (k : Nat) => .int (k : Int)) (f := fun k => .str (bs ++ sg (cix t k))) (pr := fun _ => true) 7 8 hN (i_range (m := 12) (j_v 1) T.b_range (by decide) (by decide)) (fun _ _ _ _ _ _ _ => tt_nil) fun k hk _ _ _ _ _ _ => j_b (bd_addS ?_) (j_v 6) (ix_sub s26 (c26 k) (j_v 2) (j_b (bd_mod (by decide)) (j_f bf_intI T.b_int (ja_cons (j_b bd_addI (j_v 5) (j_b (bd_mul (.inl (by decide))) j_int (j_v 8))) ja_nil)) j_int))) ?_
  · show bs.length + 1 ≤ 100000; omega
  have e2 : (.lst (((List.range 12).filter fun _ => true).map fun k => D.str (bs ++ sg (cix t k))) : D) = .lst (((List.range 12).map fun k => bs ++ sg (cix t k)).map D.str) := by
    rw [List.filter_eq_self.mpr fun _ _ => rfl, List.map_map]; rfl
  rw [e2]
  refine c_cons (Ω1 := fun o => ∃ l : List Str, (v = 0 → Good l) ∧ (v = 2 → Good l) ∧ o = .nxt [some (.own q), some (.int 12), some (.str SIGNS), some (.lst (wl.map D.str)), some (.int v), some (.int t), some (.str bs), some (.lst (l.map D.str)), none, none] []) (w_if (Φb := (· = decide ((v : Int) = 0))) (te_of (t_c cd_eqI (j_v 4) j_int)) (fun h => ?_) fun h => c_nil ⟨_, fun e => absurd (of_decide_eq_false h.symm) (by rw [e]; exact fun z => z rfl), fun _ => good2 okb ht, rfl⟩) (fun ρ1 M1 hx => ?_) (fun o n hx => by obtain ⟨_, _, _, e⟩ := hx; exact absurd e (n _ _))
  · have tle : t ≤ (wl.map D.str).length := by show t ≤ 18; omega
    refine c_one (c_imS (w_p (s_set 7 hN (j_slL (j_b (bd_addL ?_) (j_slL (j_v 3) (o_some (j_v 5)) o_none) (j_slL (j_v 3) o_none (o_some (j_v 5)))) o_none (o_some (j_v 1))))) fun o ho => ⟨(wl.drop t ++ wl.take t).take 12, fun _ => good0 ht, fun e => absurd (of_decide_eq_true h.symm) (by rw [e]; decide), ?_⟩)
    · rw [cut_from tle, cut_to tle, List.length_drop, List.length_take]
      show 18 - t + min t 18 ≤ 100000; omega
    · rw [ho, cut_from tle, cut_to tle, ← List.map_drop, ← List.map_take, ← List.map_append]
      have e3 : cutD ((wl.drop t ++ wl.take t).map D.str) none (some 12) = ((wl.drop t ++ wl.take t).take 12).map D.str := by
        have hl : (12 : Nat) ≤ ((wl.drop t ++ wl.take t).map D.str).length := by
          rw [List.length_map, List.length_append, List.length_drop, List.length_take]
          show 12 ≤ 18 - t + min t 18; omega
        rw [show (12 : Int) = ((12 : Nat) : Int) from rfl, cut_to hl, List.map_take]
      rw [e3]
      rfl
  obtain ⟨l, g0, g2, e⟩ := hx
  cases e
  refine c_cons (Ω1 := fun o => ∃ l : List Str, Good l ∧ o = .nxt [some (.own q), some (.int 12), some (.str SIGNS), some (.lst (wl.map D.str)), some (.int v), some (.int t), some (.str bs), some (.lst (l.map D.str)), none, none] []) (w_if (Φb := (· = decide ((v : Int) = 1))) (te_of (t_c cd_eqI (j_v 4) j_int)) (fun h => ?_) fun h => c_nil ⟨l, ?_, rfl⟩) (fun ρ1 M1 hx => ?_) (fun o n hx => by obtain ⟨_, _, e⟩ := hx; exact absurd e (n _ _))
  · have e8 : ∀ k : Nat, (t : Int) + (k : Int) = ((t + k : Nat) : Int) := fun k => by omega
    refine c_one (c_imS (w_p (s_setLc (ls := List.range 12) (c := fun (k : Nat) => .int (k : Int)) (f := fun k => .str (sg (cix t k) ++ cutS bs none (some (((t + k : Nat) : Int) % 8)))) (pr := fun _ => true) 7 8 hN (i_range (m := 12) (j_v 1) T.b_range (by decide) (by decide)) (fun _ _ _ _ _ _ _ => tt_nil) fun k hk _ _ _ _ _ _ => j_b (bd_addS ?_) (ix_sub s26 (c26 k) (j_v 2) (j_b (bd_mod (by decide)) (j_f bf_intI T.b_int (ja_cons (j_b bd_addI (j_v 5) (j_b (bd_mul (.inl (by decide))) j_int (j_v 8))) ja_nil)) j_int)) (j_slS (by show _ ≤ 100000; omega) (j_v 6) o_none (o_some (j_is (j_b (bd_mod (by decide)) (j_f bf_intI T.b_int (ja_cons (j_b bd_addI (j_v 5) (j_v 8)) ja_nil)) j_int) (by rw [e8])))))) fun o ho => ⟨_, good1 okb ht, ?_⟩)
    · have h1 : (cutS bs none (some (((t + k : Nat) : Int) % 8))).length ≤ bs.length := by
        rw [lenT, lenT]
        exact Nat.le_trans (List.length_take_le' _ _) (by rw [List.length_drop]; exact Nat.sub_le _ _)
      show 1 + _ ≤ 100000; omega
    · rw [ho]
      have e4 : (.lst (((List.range 12).filter fun _ => true).map fun k => D.str (sg (cix t k) ++ cutS bs none (some (((t + k : Nat) : Int) % 8)))) : D) = .lst (((List.range 12).map fun k => sg (cix t k) ++ cutS bs none (some (((t + k : Nat) : Int) % 8))).map D.str) := by
        rw [List.filter_eq_self.mpr fun _ _ => rfl, List.map_map]; rfl
      rw [e4]
      rfl
  · have h1 : (v : Int) ≠ 1 := of_decide_eq_false h.symm
    have : v = 0 ∨ v = 2 := by omega
    exact this.elim g0 g2
  obtain ⟨l, gd, e⟩ := hx
  cases e
  refine c_one (c_imS (w_pr (s_ret (j_lcm (ls := l) (c := D.str) (f := fun x => .str (fixN x)) 9 hN (i_list (j_v 7)) fun x hx _ _ _ _ _ => j_is (j_b (bd_addS ?_) (j_v 9) (j_b (bd_mulS (mulS01 (n := if decide (x = "pipe") = true then 1 else 0) (by split <;> simp)).1) j_str (j_f bf_intB T.b_int (ja_cons (j_c cd_eqS (j_v 9) j_str) ja_nil)))) ?_))) fun o ho => ⟨_, ho, l.map fixN, names_of gd, by rw [List.map_map]; rfl⟩)
  · rw [(mulS01 (n := if decide (x = "pipe") = true then 1 else 0) (by split <;> simp)).2]
    have := (gd.nm x hx).2.1
    have h2 : ∀ b : Bool, (if (if b = true then (1 : Int) else 0) = 1 then ("s" : Str) else ("" : Str)).length ≤ 1 := by decide +kernel
    have h3 := h2 (decide (x = "pipe"))
    show _ ≤ 100000; omega
  · rw [(mulS01 (n := if decide (x = "pipe") = true then 1 else 0) (by split <;> simp)).2, fix_eq]
end
end K51
end
section
set_option Elab.async false
set_option linter.all false
set_option maxRecDepth 100000
set_option maxHeartbeats 1000000
/-! A dict that holds another, both owned. -/
namespace K51
open PySem PySem.Spec PyProof.Rows L2
theorem dput_out {t : List (Str × D)} {k : Str} {d : D} (h : k ∉ t.map (·.1)) : dput t k d = t ++ [(k, d)] := by
  unfold dput
  rw [if_neg fun q => by
    obtain ⟨p, hp, e⟩ := List.any_eq_true.mp q
    exact h (List.mem_map.mpr ⟨p, hp, of_decide_eq_true e⟩)]
section
variable {X : Cx} {b : Option Addr} {M : Mem} {ρ : En} {e a a2 v1 : Expr} {pos pos' : Pos} {q q1 q2 : Addr} {i j n : Nat} {Φ : D → Prop} {t t1 t1' t2 : List (Str × D)} {rest : List Stmt} {Ω : Ou → Prop}
/-- d[k] of an owned dict: another owned one -/
theorem e_oget {s : Str} (hr : Room n X.A) (ho : PE X a (tJ X.K ρ (.own q1))) (hk : PE X a2 (tJ X.K ρ (.str s))) (hM : M[j]? = some (q1, .dct t)) (hg : dget t s = some (.own q2)) (hs : NoSl a2 := by exact fun _ _ => rfl) : PE X (.Subscript a a2 pos) (tE X.K b M ρ (· = .own q2)) :=
  (pe_dget (hu_of hr) ho hk hs).imp fun σ H Q ⟨L, e, env, ow, k⟩ => ⟨L, e, env, fun v H1 L1 g1 r1 => ⟨L1, g1.sub, env.ex g1.lx, fun w H2 L2 g2 r2 => by
    obtain rfl := r1.own_
    obtain rfl := r2.str_
    have o2 := (ow.go g1).go g2
    obtain ⟨kvs, h1, r, z⟩ := (o2.sh _ (List.mem_of_getElem? hM)).dct_
    rcases repK_get (k := s) r with ⟨v, d, e1, e2, e3⟩ | ⟨_, e2⟩
    · rw [hg] at e2
      cases e2
      obtain rfl := e3.own_
      exact ⟨q1, .ref q2, rfl, by rw [← e1]; exact DGet.k (k := .inr s) h1, k _ H2 L2 _ rfl (g1.tr g2).gx o2 (.own _)⟩
    · rw [hg] at e2; cases e2⟩⟩
/-- found[k] = e, found told by an expression -/
theorem w_dput2 (j : Nat) {s : Str} {tp : Pos} (hr : Room n X.A) (ho : PE X a (tE X.K b M ρ (· = .own q))) (hk : PE X a2 (tJ X.K ρ (.str s))) (hM : M[j]? = some (q, .dct t)) (ha : PE X e (tE X.K b M ρ Φ)) (hz : t.length + 1 ≤ lim)
    (hs : swapsWith e (some (.Subscript a a2 tp)) pos.line X.env = pure false := by rfl) :
    PS X (.Assign [.Subscript a a2 tp] e pos) (tW X.K b M ρ fun o => ∃ w, Φ w ∧ o = .nxt ρ (M.set j (q, .dct (dput t s w)))) :=
  (ps_dput (hu_of hr) ho hk ha hs).imp fun E σ H ⟨L, e, env, ow, k⟩ => ⟨L, e, env, ow, fun v H1 L1 w hw g1 o1 r1 => ⟨L1, g1.sub, env.ex g1.lx, o1, fun u H2 L2 d hd g2 o2 r2 => ⟨L2, g2.sub, (env.ex g1.lx).ex g2.lx, fun y H3 L3 g3 r3 => by
    subst hd
    obtain rfl := r2.own_
    obtain rfl := r3.str_
    have o3 := o2.go g3
    have hm := List.mem_of_getElem? hM
    obtain ⟨kvs, h, r, z⟩ := (o3.sh _ hm).dct_
    have rw_ := (r1.ex g2.lx).ex g3.lx
    have nz := dput_len (t := t) s w
    obtain ⟨o4, g4, _⟩ := o3.put (u := .dK (putK kvs (.inr s) v)) g3.sub hM (.dct upd_same (repK_put (k := s) r rw_) (by omega))
    exact ⟨q, _, rfl, DPut.k (k := .inr s) h (by rw [r.len]; exact lim_lt (by omega)), k _ ⟨w, hw, rfl⟩ σ _ L3 (((g1.tr g2).tr g3.gx).gs.tr g4) o4 (((env.ex g1.lx).ex g2.lx).ex g3.lx)⟩⟩⟩⟩
/-- both are data from here on -/
theorem c_relP (i : Nat) (ht : Paired (fun p p' => p.1 = p'.1 ∧ (p.2 = p'.2 ∨ (p.2 = D.own q2 ∧ p'.2 = D.dct t2))) t1 t1') (h : PSs X rest (tW X.K b [] (ρ.set i (some (.dct t1'))) Ω)) (hi : ρ[i]? = some (some (.own q1)) := by rfl) : PSs X rest (tW X.K b [(q1, .dct t1), (q2, .dct t2)] ρ Ω) := (PSs.fz (PSs.fz h)).imp fun E σ H ⟨L, ex, env, ow, k⟩ => by
  obtain ⟨k1, h1, r1, z1⟩ := (ow.sh (q1, .dct t1) (by simp)).dct_
  obtain ⟨k2, h2, r2, z2⟩ := (ow.sh (q2, .dct t2) (by simp)).dct_
  have n12 : q1 ≠ q2 := by
    have := ow.nd
    simp [Mem.ks] at this
    exact this
  simp only at h1 h2
  refine ⟨q1, .dK k1, h1, trivial, fun od1 => ⟨q2, .dK k2, by rw [upd_ne n12.symm]; exact h2, trivial, fun od2 => ?_⟩⟩
  obtain ⟨o2, g2⟩ := ow.rel (j := 0) (v := .frz od1 (.dK k1)) ex rfl
  obtain ⟨o3, g3⟩ := o2.rel (j := 0) (v := .frz od2 (.dK k2)) g2.sub rfl
  refine ⟨_, g3.sub, ?_, o3, fun o ho => OuK.go (g2.tr g3) (k o ho)⟩
  have lx : Ex L _ := g2.lx.tr g3.lx
  have rep2 : Rep X.K (upd (upd L q1 (.frz od1 (.dK k1))) q2 (.frz od2 (.dK k2))) (.ref q2) (.dct t2) := .dct ⟨od2, upd_same⟩ (r2.mo lx.mo) z2
  have lent : t1.length = t1'.length := Paired.length ht
  exact env_bor (env.ex lx) hi (.dct ⟨od1, by rw [upd_ne n12, upd_same]⟩ (repK_in lx rep2 r1 ht) (by omega))
/-- x = {k1: v1, k2: {}}: two new dicts, one within the other -/
theorem c_newP (i : Nat) {x k1 k2 : Str} {j1 j2 : Nat} {p1 p2 p3 p4 px : Pos} (hN : X.N.Nodup) (hk : k1 ≠ k2) (h : ∀ p, PE X v1 (tE X.K b ((p, .dct []) :: M) ρ Φ)) (h2 : ∀ q1 q2 d, Φ d → PSs X rest (tW X.K b ((q1, .dct [(k1, d), (k2, .own q2)]) :: (q2, .dct []) :: M) (ρ.set i (some (.own q1))) Ω)) (hi : X.N[i]? = some x := by rfl) (hx : Loc X.env.scope x := by first | exact .inl rfl | exact .inr rfl)
    (hs : swapsWith (.Dict [some (.Constant (.str k1) j1 p1), some (.Constant (.str k2) j2 p2)] [v1, .Dict [] [] p3] p4) (some (.Name x px)) pos.line X.env = pure false := by rfl) (hf : X.fn x = true ∨ X.env.scope.names.lookup x = some .local := by first | exact .inl rfl | exact .inr rfl) :
    PSs X (.Assign [.Name x px] (.Dict [some (.Constant (.str k1) j1 p1), some (.Constant (.str k2) j2 p2)] [v1, .Dict [] [] p3] p4) pos :: rest) (tW X.K b M ρ Ω) := by
  have w : PE X v1 (fun σ H Q => ∃ p, tE X.K b ((p, .dct []) :: M) ρ Φ σ H Q) := PE.any h
  refine c_cons (Ω1 := fun o => ∃ q1 q2 d, Φ d ∧ o = .nxt (ρ.set i (some (.own q1))) ((q1, .dct [(k1, d), (k2, .own q2)]) :: (q2, .dct []) :: M)) ((ps_set hN hi hx (pe_disp (pps_cons pe_str w (pps_cons pe_str pe_dnewK pps_nil)) rfl rfl (by exact nofun) (Nat.le_of_ble_eq_true rfl)) hs hf).imp fun E σ H ⟨L, e, env, ow, k⟩ => ?_) (fun _ _ ⟨q1, q2, d, hd, e⟩ => by cases e; exact h2 q1 q2 d hd) (fun o n h => by obtain ⟨_, _, _, _, e⟩ := h; exact absurd e (n _ _))
  intro p hp
  have lp : L p = none := free_sub e hp
  have e1 : Ex L (upd H p (.dK [])) := fun a o h => by rw [upd_ne (ne_of_none h lp)]; exact e a o h
  have g0 : Go H L (upd H p (.dK [])) L := ⟨ex_new hp, Ex.rf, e1, fun _ _ => rfl⟩
  obtain ⟨oA, gA⟩ := (ow.go g0).add (q := p) (d := .dct []) g0.gx hp lp ow.there.1 ow.there.2 (.dct upd_same .nil (Nat.zero_le _))
  refine ⟨p, L, e1, env, oA, fun v H1 L1 d hd g1 o1 r1 => ?_⟩
  intro p2 hp2
  have o1p : ∃ kvs, H1 p = some (.dK kvs) ∧ RepK X.K L1 kvs [] := by
    obtain ⟨kvs, hh, rr, _⟩ := (o1.sh (p, .dct []) (by simp)).dct_
    exact ⟨kvs, hh, rr⟩
  obtain ⟨kvs, hkp, rk⟩ := o1p
  have ek : kvs = [] := by cases rk; rfl
  subst ek
  have npp : p2 ≠ p := fun z => by rw [z, hkp] at hp2; cases hp2
  have lp2 : L1 p2 = none := free_sub g1.sub hp2
  have e2 : Ex L1 (upd H1 p2 (.dK [])) := fun a o h => by rw [upd_ne (ne_of_none h lp2)]; exact g1.sub a o h
  have g2 : Go H1 L1 (upd H1 p2 (.dK [])) L1 := ⟨ex_new hp2, Ex.rf, e2, fun _ _ => rfl⟩
  have o2 := o1.go g2
  obtain ⟨oB, gB⟩ := o2.add (q := p2) (d := .dct []) g2.gx hp2 lp2 o1.there.1 o1.there.2 (.dct upd_same .nil (Nat.zero_le _))
  refine ⟨by rw [upd_ne npp.symm]; exact hkp, [((Sum.inr k1 : Key), v), ((Sum.inr k2 : Key), V.ref p2)], rfl, by show 2 ≤ 15; decide, ?_⟩
  have em : mergeK [] [((Sum.inr k1 : Key), v), ((Sum.inr k2 : Key), V.ref p2)] = [((Sum.inr k1 : Key), v), ((Sum.inr k2 : Key), V.ref p2)] := by
    show putK (putK [] (Sum.inr k1 : Key) v) (Sum.inr k2 : Key) (V.ref p2) = _
    rw [putK_new v rfl]
    show putK [((Sum.inr k1 : Key), v)] (Sum.inr k2 : Key) (V.ref p2) = _
    rw [putK_new (.ref p2) (by rw [valV_neg (show ¬ ((Sum.inr k1 : Key), v).1 = Sum.inr k2 from fun z => hk (Sum.inr.inj z))]; rfl)]
    rfl
  rw [em]
  obtain ⟨oC, gC, _⟩ := oB.put (j := 1) (q := p) (d := .dct []) (u := .dK [((Sum.inr k1 : Key), v), ((Sum.inr k2 : Key), V.ref p2)]) (d' := .dct [(k1, d), (k2, .own p2)]) e2 rfl (.dct upd_same (.cons r1 (.cons (.own p2) .nil)) (show 2 ≤ 100000 by decide))
  have gT := ((gA.tr g1.gs).tr gB).tr gC
  have oD : Ow X.K b ((p, .dct [(k1, d), (k2, .own p2)]) :: (p2, .dct []) :: M) L1 _ := ⟨by
      have := oC.nd
      simp only [List.set, Mem.ks, List.map_cons, List.nodup_cons, List.mem_cons, not_or] at this ⊢
      exact ⟨⟨fun z => this.1.1 z.symm, this.2.1⟩, this.1.2, this.2.2⟩, fun x hx => oC.un x (by simp only [List.set, List.mem_cons] at hx ⊢; rcases hx with h | h | h <;> simp [h]), fun x hx => oC.sh x (by simp only [List.set, List.mem_cons] at hx ⊢; rcases hx with h | h | h <;> simp [h]), fun c hc => ⟨(oC.bg c hc).1, (oC.bg c hc).2.1, fun z => (oC.bg c hc).2.2 (by simp only [List.set, Mem.ks, List.map_cons, List.mem_cons] at z ⊢; rcases z with h | h | h <;> simp [h])⟩⟩
  exact k _ ⟨p, p2, d, hd, rfl⟩ _ _ L1 ⟨gT.ex, gT.lx, gT.sub, gT.old, gT.dom, fun a ha => gT.fr a (by simp only [List.set, Mem.ks, List.map_cons, List.mem_cons] at ha ⊢; rcases ha with h | h | h <;> simp [h])⟩ oD ((env.ex g1.lx).set (.own p))
end
end K51
end
section
set_option Elab.async false
set_option linter.all false
set_option maxRecDepth 100000
set_option maxHeartbeats 4000000
/-! The walk: parts drawn. -/
namespace K51
open PySem PySem.Spec PyProof.Rows L2
def scS (k : Nat) : Str := ("1" : Str) ++ PySem.Txt.mul "0" (k : Int)
def scB (k : Nat) : Bool := match PySem.intText? (scS k) with
  | some n => decide (1 ≤ n) && decide (n ≤ 10 ^ 30) && decide ((scS k).length ≤ 31)
  | none => false
theorem scB_ok : ∀ k : Fin 31, scB k.1 = true := by decide +kernel
theorem sc_ok {k : Nat} (h : k ≤ 30) : ∃ n, PySem.intText? (scS k) = some n ∧ 1 ≤ n ∧ n ≤ 10 ^ 30 ∧ (scS k).length ≤ 31 := by
  have := scB_ok ⟨k, by omega⟩
  unfold scB at this
  split at this
  · next n e =>
    simp only [Bool.and_eq_true, decide_eq_true_eq] at this
    exact ⟨n, e, this.1.1, this.1.2, this.2⟩
  · cases this
theorem sc_mul {k : Nat} (h : k ≤ 30) : PySem.MulOk "0" (k : Int) := by
  have t : ∀ k : Fin 31, (decide ((k.1 : Int) < -(2 ^ 63 : Int)) || decide ((k.1 : Int) ≥ 2 ^ 63)) = false ∧ (¬ (k.1 : Int) < 1 → ((k.1 : Int) == 1 || ("0" : Str).length == 0) = false → ¬ ((("0" : Str).length : Int) > (2 ^ 63 - 1) / (k.1 : Int))) ∧ (¬ (k.1 : Int) < 1 → ((k.1 : Int) == 1 || ("0" : Str).length == 0) = false → PySem.Builtin.Str.tooLong (("0" : Str).length * (k.1 : Int).toNat) = false) := by decide +kernel
  exact t ⟨k, by omega⟩
theorem cut_mid {l : List D} {a b : Nat} (h : a + b ≤ l.length) : cutD l (some (a : Int)) (some ((a : Int) + (b : Int))) = (l.drop a).take b := by
  unfold cutD
  rw [HT.sIx_nat, show ((a : Int) + (b : Int)) = ((a + b : Nat) : Int) by omega, HT.sIx_nat, Nat.min_eq_left h, Nat.min_eq_left (show a ≤ l.length by omega), Nat.add_sub_cancel_left]
theorem names_perm {l m : List Str} (h : l.Perm m) (n : Names m) : Names l := ⟨h.length_eq.trans n.len, h.nodup_iff.mpr n.nd, fun x hx => n.nm x (h.mem_iff.mp hx)⟩
theorem parts_sub {l : List Str} {m f s : Nat} (hm : m ≤ 6) (hf : f ≤ 3) : (l.take m ++ (l.drop 6).take f ++ (l.drop 9).take s).Sublist l := by
  have h1 : (l.take m).Sublist (l.take 6) := by
    have := List.take_sublist m (l.take 6)
    rwa [List.take_take, Nat.min_eq_left hm] at this
  have h2 : ((l.drop 6).take f).Sublist ((l.drop 6).take 3) := by
    have := List.take_sublist f ((l.drop 6).take 3)
    rwa [List.take_take, Nat.min_eq_left hf] at this
  have e : l.take 6 ++ (l.drop 6).take 3 ++ l.drop 9 = l := by
    rw [show l.drop 9 = (l.drop 6).drop 3 by rw [List.drop_drop], List.append_assoc, List.take_append_drop, List.take_append_drop]
  have := (h1.append h2).append (List.take_sublist s (l.drop 9))
  rwa [e] at this
theorem ae_im {X : Cx} {b : Option Addr} {M : Mem} {ρ : En} {es : List Expr} {Φs Ψs : List D → Prop} (h : PA X es (tAE X.K b M ρ Φs)) (i : ∀ ds, Φs ds → Ψs ds) : PA X es (tAE X.K b M ρ Ψs) := h.imp fun σ H Q ⟨L, e, env, ow, k⟩ => ⟨L, e, env, ow, fun v H' L' d h => k v H' L' d (i d h)⟩
section
variable {P : Program} {w : World} {K : PySem.W.Frag} {mg : Str → Option Value} {base : Heap}
def P_l_parts (ds : List D) : Prop := ∃ top : Int, 1 ≤ top ∧ top ≤ 40 ∧ ds = [.int 6, .int 3, .int top]
def R_l_parts (ds : List D) (d : D) : Prop := ∃ p, WP p ∧ d = partsD p
theorem okM_more {pl : Pl} {st : Tb Sm} {ho ki : Tb Gr} {z : Str} {a : Sm} {m : Sm} (h : okM ⟨pl, st, ho, ki⟩ m) : okM ⟨pl, st ++ [(z, a)], ho, ki⟩ m :=
  ⟨h.t, h.c1, h.cb, h.q, h.lo, h.h, h.k, fun y hy => by
    obtain ⟨m', e, r⟩ := h.g y hy
    refine ⟨m', ?_, r⟩
    show gt (st ++ [(z, a)]) y = some m'
    have e' : gt st y = some m' := e
    clear e r h hy
    induction st with
    | nil => cases e'
    | cons q r ih =>
      obtain ⟨x, b⟩ := q
      rw [List.cons_append, gt_cons]
      rw [gt_cons] at e'
      split
      · next hx => rw [if_pos hx] at e'; exact e'
      · next hx => rw [if_neg hx] at e'; exact ih e'⟩
theorem ok_l_draw_parts (T : Facts K mg) : OkG P w K mg base 7 "_law_draw_parts" ["_law_bag_here", "_law_streams", "_law_groups", "_law_top"] (spB K P_l_parts R_l_parts) := by
  have G_l_take := ok_l_take (P := P) (w := w) (base := base) T
  have G_l_mixed := ok_l_mixed (P := P) (w := w) (base := base) T
  have G_l_draw_names := ok_l_draw_names (P := P) (w := w) (base := base) T
  have G_l_draw_pool := ok_l_draw_pool (P := P) (w := w) (base := base) T
  have G_l_draw_groups := ok_l_draw_groups (P := P) (w := w) (base := base) T
  have G_l_draw_stream := ok_l_draw_stream (P := P) (w := w) (base := base) T
  obtain ⟨fd, F⟩ := T.fl_draw_parts
  have hN : (["_law_bag_here", "_law_streams", "_law_groups", "_law_top", "_law_scale", "_law_many", "_law_names", "_law_first", "_law_second", "_law_parts", "_law_name"] : List Str).Nodup := by decide +kernel
  refine ⟨_, T.g_law_draw_parts, fn_B F (N := ["_law_bag_here", "_law_streams", "_law_groups", "_law_top", "_law_scale", "_law_many", "_law_names", "_law_first", "_law_second", "_law_parts", "_law_name"]) ⟨rfl, rfl, rfl, hN, rfl, by decide +kernel, by decide +kernel⟩ (fun ds h => by obtain ⟨top, t1, t2, rfl⟩ := h; rfl) (fun _ _ _ _ _ _ us hl => match us, hl with | [_, _, _, _], _ => rfl) ?_⟩
  rintro q ds ⟨top, t1, t2, rfl⟩ cdv A0 outer0 s0 H0 E0 hr
  refine c_set 4 hN (e_ty (Φs := fun ds => ∃ k : Nat, k ≤ 30 ∧ ds = [.str (scS k)]) (Θ := fun d => ∃ n : Int, 1 ≤ n ∧ n ≤ 10 ^ 30 ∧ d = .int n) call_int_str boot_int T.b_int ?_ fun ds ⟨k, hk, e⟩ => ?_) fun d ⟨sc, s1, s2, e⟩ => ?_
  · refine ae_im (ae_cons (e_opB (Φ := (· = .str "1")) (Ψ := fun d => ∃ k : Nat, k ≤ 30 ∧ d = .str (PySem.Txt.mul "0" (k : Int))) (Θ := fun d => ∃ k : Nat, k ≤ 30 ∧ d = .str (scS k)) (e_of j_str) (e_opB (Φ := (· = .str "0")) (Ψ := fun d => ∃ k : Nat, k ≤ 30 ∧ d = .int k) (e_of j_str) (e_opB (Φ := fun d => ∃ v : Nat, (v : Int) < 31 ∧ d = .int v) (Ψ := fun d => ∃ v : Nat, (v : Int) < 2 ∧ d = .int v) (e_take G_l_take hr (j_v 0) (e_of j_int) (by decide) (by decide)) (e_take G_l_take hr (j_v 0) (e_of j_int) (by decide) (by decide)) ?_) ?_) ?_) ae_nil) fun ds ⟨d, r, e, ⟨k, hk, e2⟩, e3⟩ => ⟨k, hk, by rw [e, e2, e3]⟩
    · rintro x y ⟨v, hv, rfl⟩ ⟨u, hu, rfl⟩
      refine ⟨_, bd_mul (.inl (by omega)), v * u, ?_, by rw [Int.natCast_mul]⟩
      have : u = 0 ∨ u = 1 := by omega
      rcases this with rfl | rfl <;> omega
    · rintro x y rfl ⟨k, hk, rfl⟩
      exact ⟨_, bd_mulS (sc_mul hk), k, hk, rfl⟩
    · rintro x y rfl ⟨k, hk, rfl⟩
      obtain ⟨_, _, _, _, hl⟩ := sc_ok hk
      refine ⟨_, bd_addS ?_, k, hk, rfl⟩
      have e : (scS k).length = ("1" : Str).length + (PySem.Txt.mul "0" (k : Int)).length := by
        unfold scS
        rw [lenT, tlA, List.length_append, ← lenT, ← lenT]
      show _ ≤ 100000; omega
  · obtain ⟨n, h1, h2, h3, h4⟩ := sc_ok hk
    subst e
    exact ⟨.int n, cd1 fun v H L Q e r k2 => ⟨_, n, by rw [r.str_], h1, by omega, k2 _ H L (Go.rf e) (.int _)⟩, n, h2, h3, rfl⟩
  subst e
  have hs : okSc top sc := ⟨t1, t2, s1, s2⟩
  refine c_parE 5 6 (Φ := fun d => ∃ m : Nat, 1 ≤ m ∧ m ≤ 6 ∧ d = .int m) (Ψ := R_l_names []) hN (e_opB (Φ := (· = .int 1)) (Ψ := fun d => ∃ v : Nat, (v : Int) < 6 ∧ d = .int v) (e_of j_int) (e_take G_l_take hr (j_v 0) (e_of (j_v 1)) (by decide) (by decide)) ?_) (e_callB (Θ := R_l_names []) G_l_mixed hr (ae_cons (e_of (j_v 0)) (ae_cons (e_callB (Θ := R_l_names []) G_l_draw_names hr (ae_of (ja_cons (j_v 0) (ja_cons j_int ja_nil))) fun ds e => ⟨_, e, rfl, fun d h => h⟩) ae_nil)) ?_) fun d1 d2 ⟨m, m1, m6, e1⟩ ⟨l, nl, e2⟩ => ?_
  · rintro x y rfl ⟨v, hv, rfl⟩
    exact ⟨_, bd_addI, v + 1, by omega, by omega, by rw [Int.natCast_add, Int.add_comm]; rfl⟩
  · rintro ds ⟨_, _, rfl, rfl, _, _, rfl, ⟨l, nl, rfl⟩, rfl⟩
    refine ⟨_, rfl, ⟨_, by rw [List.length_map, nl.len]; decide, rfl⟩, fun d hd => ?_⟩
    obtain ⟨l', h1, h2⟩ := mixed_strs hd rfl
    exact ⟨l', names_perm h1 nl, h2⟩
  subst e1; subst e2
  refine c_parE 7 8 (Φ := fun d => ∃ v : Nat, v ≤ 3 ∧ d = .int v) (Ψ := fun d => ∃ v : Nat, v ≤ 3 ∧ d = .int v) hN (e_im (e_take (m := 4) G_l_take hr (j_v 0) (e_of (j_b bd_addI (j_v 2) j_int)) (by decide) (by decide)) fun d ⟨v, h, e⟩ => ⟨v, by omega, e⟩) (e_im (e_take (m := 4) G_l_take hr (j_v 0) (e_of (j_b bd_addI (j_v 2) j_int)) (by decide) (by decide)) fun d ⟨v, h, e⟩ => ⟨v, by omega, e⟩) fun d1 d2 ⟨f, hf, e1⟩ ⟨g, hg, e2⟩ => ?_
  subst e1; subst e2
  have ll : (l.map D.str).length = 12 := by rw [List.length_map, nl.len]
  have ndp := nl.nd.sublist (parts_sub (l := l) (s := g) m6 hf)
  have ndh : ((l.drop 6).take f).Nodup := nl.nd.sublist ((List.take_sublist _ _).trans (List.drop_sublist _ _))
  have ndk : ((l.drop 9).take g).Nodup := nl.nd.sublist ((List.take_sublist _ _).trans (List.drop_sublist _ _))
  refine c_newP 9 (Φ := R_l_pool1 []) hN (by decide) (fun p => e_callB (Θ := R_l_pool1 []) G_l_draw_pool hr (ae_of (ja_cons (j_v 0) (ja_cons (j_v 3) (ja_cons (j_v 4) ja_nil)))) fun ds e => ⟨_, e, ⟨top, sc, hs, rfl⟩, fun d h => h⟩) fun q1 q2 d ⟨pl, okpl, e⟩ => ?_
  subst e
  refine c_cons (w_dput 9 0 (Φ := fun d => ∃ t, okTG ((l.drop 6).take f) t ∧ d = .dct (dT (grD trD) t)) hr (j_v 9) j_str rfl (e_callB (Θ := fun d => ∃ t, okTG ((l.drop 6).take f) t ∧ d = .dct (dT (grD trD) t)) G_l_draw_groups hr (ae_of (ja_cons (j_v 0) (ja_cons (j_is (j_slL (j_v 6) (o_some j_int) (o_some (j_b bd_addI j_int (j_v 7)))) (by rw [show (6 : Int) = ((6 : Nat) : Int) from rfl, cut_mid (by rw [ll]; omega), ← List.map_drop, ← List.map_take])) (ja_cons (j_v 3) (ja_cons (j_v 4) ja_nil))))) fun ds e => ⟨_, e, ⟨_, top, sc, ndh, ?_, hs, rfl⟩, fun d h => h _ _ _ rfl⟩) ?_) (fun ρ1 M1 hx => ?_) (fun o n hx => by obtain ⟨_, _, e⟩ := hx; exact absurd e (n _ _))
  · rw [List.length_take]; omega
  · show 2 + 1 ≤ 100000; decide
  obtain ⟨_, ⟨ho, oho, rfl⟩, e⟩ := hx
  cases e
  rw [dput_out (by show ("houses" : Str) ∉ [("pipe" : Str), "streams"]; decide)]
  refine c_cons (w_dput 9 0 (Φ := fun d => ∃ t, okTG ((l.drop 9).take g) t ∧ d = .dct (dT (grD trD) t)) hr (j_v 9) j_str rfl (e_callB (Θ := fun d => ∃ t, okTG ((l.drop 9).take g) t ∧ d = .dct (dT (grD trD) t)) G_l_draw_groups hr (ae_of (ja_cons (j_v 0) (ja_cons (j_is (j_slL (j_v 6) (o_some j_int) (o_some (j_b bd_addI j_int (j_v 8)))) (by rw [show (9 : Int) = ((9 : Nat) : Int) from rfl, cut_mid (by rw [ll]; omega), ← List.map_drop, ← List.map_take])) (ja_cons (j_v 3) (ja_cons (j_v 4) ja_nil))))) fun ds e => ⟨_, e, ⟨_, top, sc, ndk, ?_, hs, rfl⟩, fun d h => h _ _ _ rfl⟩) ?_) (fun ρ1 M1 hx => ?_) (fun o n hx => by obtain ⟨_, _, e⟩ := hx; exact absurd e (n _ _))
  · rw [List.length_take]; omega
  · show 3 + 1 ≤ 100000; decide
  obtain ⟨_, ⟨ki, oki, rfl⟩, e⟩ := hx
  cases e
  rw [dput_out (by show ("kinds" : Str) ∉ [("pipe" : Str), "streams", "houses"]; decide)]
  obtain ⟨oh1, oh2, oh3⟩ := oho
  obtain ⟨ok1, ok2, ok3⟩ := oki
  have lho : ho.length ≤ 3 := by
    have := congrArg List.length oh1
    rw [List.length_map, List.length_take] at this; omega
  have lki : ki.length ≤ 3 := by
    have := congrArg List.length ok1
    rw [List.length_map, List.length_take] at this; omega
  have prd : ∀ st : Tb Sm, Paired (fun p p' : Str × D => p.1 = p'.1 ∧ (p.2 = p'.2 ∨ (p.2 = D.own q2 ∧ p'.2 = D.dct (dT (smD trD) st)))) [("pipe", plD trD pl), ("streams", .own q2), ("houses", .dct (dT (grD trD) ho)), ("kinds", .dct (dT (grD trD) ki))] [("pipe", plD trD pl), ("streams", .dct (dT (smD trD) st)), ("houses", .dct (dT (grD trD) ho)), ("kinds", .dct (dT (grD trD) ki))] := fun st => .cons ⟨rfl, .inl rfl⟩ (.cons ⟨rfl, .inr ⟨rfl, rfl⟩⟩ (.cons ⟨rfl, .inl rfl⟩ (.cons ⟨rfl, .inl rfl⟩ .nil)))
  refine c_cons (w_for1 (ls := l.take m) (c := D.str) 10 (fun j ρ1 M1 => ∃ x st, keys st = (l.take m).take j ∧ (∀ y ∈ st, okM ⟨pl, st, ho, ki⟩ y.2) ∧ ρ1 = [some (.own q), some (.int 6), some (.int 3), some (.int top), some (.int sc), some (.int m), some (.lst (l.map D.str)), some (.int f), some (.int g), some (.own q1), x] ∧ M1 = [(q1, .dct [("pipe", plD trD pl), ("streams", .own q2), ("houses", .dct (dT (grD trD) ho)), ("kinds", .dct (dT (grD trD) ki))]), (q2, .dct (dT (smD trD) st))]) hN hp_nox (i_list (j_is (j_slL (j_v 6) o_none (o_some (j_v 5))) (by rw [cut_to (by rw [ll]; omega), ← List.map_take]))) ⟨_, leE_rf _, none, [], by rw [List.take_zero]; rfl, nofun, rfl, rfl⟩ ?_) (fun ρ1 M1 hx => ?_) (fun o n hx => by obtain ⟨_, _, _, e⟩ := hx; exact absurd e (n _ _))
  · rintro j z hz ρ1 M1 ⟨x, st, k1, k2, rfl, rfl⟩
    have tk : (l.take m).take (j + 1) = (l.take m).take j ++ [z] := by rw [List.take_add_one, hz]; rfl
    have ndm : (l.take m).Nodup := nl.nd.sublist (List.take_sublist _ _)
    have ndj : ((l.take m).take (j + 1)).Nodup := ndm.sublist (List.take_sublist _ _)
    have nz : z ∉ keys st := by
      rw [tk] at ndj
      rw [k1]
      exact fun h => (List.nodup_append.mp ndj).2.2 z h z (List.mem_singleton.mpr rfl) rfl
    have ls : st.length ≤ 6 := by
      have := congrArg List.length k1
      rw [List.length_map, List.length_take, List.length_take] at this; omega
    have pre : Pre ⟨pl, st, ho, ki⟩ := ⟨by rw [show keys (⟨pl, st, ho, ki⟩ : Pa).st = keys st from rfl, k1]; exact ndm.sublist (List.take_sublist _ _), fun x hx => (nl.nm x (List.mem_of_mem_take (List.mem_of_mem_take (show x ∈ (l.take m).take j by rw [← k1]; exact hx)))).1, ls, lho, lki, fun x hx => (k2 x hx).h, fun x hx => (k2 x hx).k⟩
    refine c_one (c_imS (w_dput2 1 (Φ := R_l_stream ⟨pl, st, ho, ki⟩) hr (e_oget (j := 0) hr (j_v 9) j_str rfl rfl) (j_v 10) rfl (e_lend (i := 9) (t1' := [("pipe", plD trD pl), ("streams", .dct (dT (smD trD) st)), ("houses", .dct (dT (grD trD) ho)), ("kinds", .dct (dT (grD trD) ki))]) (e_callB (Θ := R_l_stream ⟨pl, st, ho, ki⟩) (G_l_draw_stream ⟨pl, st, ho, ki⟩) hr (ae_of (ja_cons (j_v 0) (ja_cons (j_v 9) (ja_cons (j_v 3) (ja_cons (j_v 4) ja_nil))))) fun ds e => ⟨_, e, ⟨top, sc, pre, hs, rfl⟩, fun d h => h⟩) ?_ (prd st) rfl) ?_) fun o hx => ?_)
    · rintro d ⟨a, _, rfl⟩
      exact to_smD a
    · rw [dT_len]; show _ ≤ 100000; omega
    · obtain ⟨_, ⟨a, ha, rfl⟩, e⟩ := hx
      refine ⟨_, _, _, e, leE_rf _, _, st ++ [(z, a)], ?_, fun y hy => ?_, rfl, ?_⟩
      · rw [tk]; show (st ++ [(z, a)]).map (·.1) = _; rw [List.map_append, ← k1]; rfl
      · rcases List.mem_append.mp hy with h | h
        · exact okM_more (k2 y h)
        · rw [List.mem_singleton.mp h]; exact okM_more ha
      · show [_, (q2, D.dct (dput (dT (smD trD) st) z (smD trD a)))] = _
        rw [dput_new nz]
  obtain ⟨ρ', M', ⟨x, st, k1, k2, rfl, rfl⟩, e⟩ := hx
  cases e
  rw [List.take_length] at k1
  refine c_relP 9 (prd st) (c_one (c_imS (w_pr (s_ret (j_v 9))) fun o ho2 => ⟨_, ho2, ⟨pl, st, ho, ki⟩, ?_, rfl⟩))
  have lst : st.length = m := by
    have := congrArg List.length k1
    rw [List.length_map, List.length_take, nl.len] at this; omega
  have ek : keys st ++ keys ho ++ keys ki = l.take m ++ (l.drop 6).take f ++ (l.drop 9).take g := by rw [k1, oh1, ok1]
  refine ⟨fun x hx => nl.nm x ((parts_sub m6 hf).subset (show x ∈ l.take m ++ (l.drop 6).take f ++ (l.drop 9).take g by rw [← ek]; exact hx)), by show (keys st ++ keys ho ++ keys ki).Nodup; rw [ek]; exact ndp, by show 1 ≤ st.length; omega, by show st.length ≤ 6; omega, lho, lki, oh2, ok2, okpl, oh3, ok3, fun x hx => ⟨(k2 x hx).t, (k2 x hx).c1, (k2 x hx).cb, (k2 x hx).q, (k2 x hx).lo⟩, fun x hx => (k2 x hx).h, fun x hx => (k2 x hx).k, fun x hx => (k2 x hx).g⟩
end
end K51
end
section
set_option Elab.async false
set_option linter.all false
set_option maxRecDepth 100000
set_option maxHeartbeats 1000000
/-! == of two things that show the same data. -/
namespace K51
open PySem PySem.Spec PyProof.Rows L2
/-- to be told in full: texts of at most eight signs, short numbers, at most twelve items; n deep -/
def Tl : Nat → D → Prop
  | _, .bl _ => True
  | _, .int i => i.natAbs < 10 ^ 60
  | _, .str x => x.length ≤ 8 ∧ ∀ c ∈ x.cps.toList, c ≤ 122
  | n + 1, .tup l => l.length ≤ 12 ∧ ∀ d ∈ l, Tl n d
  | n + 1, .dct t => t.length ≤ 12 ∧ ∀ p ∈ t, (p.1.length ≤ 8 ∧ ∀ c ∈ p.1.cps.toList, c ≤ 122) ∧ Tl n p.2
  | _, _ => False
section
variable {K : PySem.W.Frag} {L : Hp} {n : Nat}
/-- the two show one data of depth n -/
def Two (K : PySem.W.Frag) (L : Hp) (n : Nat) (x y : V) : Prop := ∃ d, Tl n d ∧ Rep K L x d ∧ Rep K L y d
theorem two_items : ∀ {xs ys : List V} {l : List D}, RepL K L xs l → RepL K L ys l → (∀ d ∈ l, Tl n d) → Paired (Two K L n) xs ys
  | _, _, _, .nil, .nil, _ => .nil
  | _, _, _, .cons a r, .cons b s, h => .cons ⟨_, h _ List.mem_cons_self, a, b⟩ (two_items r s fun d hd => h d (List.mem_cons_of_mem _ hd))
theorem two_keys : ∀ {ks ls : List (Key × V)} {t : List (Str × D)}, RepK K L ks t → RepK K L ls t → (∀ p ∈ t, Tl n p.2) → (ks.map (·.1)).Nodup → ∀ p ∈ ks, ∃ u, valV ls p.1 = some u ∧ Two K L n p.2 u
  | _, _, _, .nil, .nil, _, _, p, hp => nomatch hp
  | _, _, _, .cons a r, .cons b s, h, nd, p, hp => by
    have nd' := List.nodup_cons.mp nd
    rcases List.mem_cons.mp hp with rfl | hm
    · exact ⟨_, valV_pos rfl, _, h _ List.mem_cons_self, a, b⟩
    · obtain ⟨u, e, z⟩ := two_keys r s (fun q hq => h q (List.mem_cons_of_mem _ hq)) nd'.2 p hm
      refine ⟨u, ?_, z⟩
      rw [valV_neg]
      · exact e
      · exact fun z => nd'.1 (List.mem_map.mpr ⟨p, hm, z.symm⟩)
end
theorem kv_keys {ks : List (Key × V)} {va : List (Key × Value)} (r : KV ks va) : ks.map (·.1) = va.map (·.1) := by
  unfold KV at r
  induction r with
  | nil => rfl
  | cons h _ k => rw [List.map_cons, List.map_cons, h.1, k]
section
variable {X : Cx} {pins : List (Addr × Obj)} {σ : L2.St} {H L : Hp} {s : Shared}
/-- two lists, tuples or dicts -/
theorem two_rc (I : Inv X pins σ H s) (e : Ex L H) {n : Nat} {A : Around} (hu0 : A.units < cLine) (ih : ∀ x y v u, Two X.K L n x y → RelV x v → RelV y u → SeqAt.EqP X.prog X.w A.in1 s v u true) {a b : Addr} {d : D} (hd : Tl (n + 1) d) (r1 : Rep X.K L (.ref a) d) (r2 : Rep X.K L (.ref b) d)
    (E Q : Value → Shared → Prop) (q : Q (.bool true) s) : wpAny (model X.prog X.w) A (richCompare .Eq (.ref a) (.ref b)) Q E s := by
  cases r1 with
  | own _ => exact hd.elim
  | obj _ _ => exact hd.elim
  | lst _ _ _ => exact hd.elim
  | @tup _ xs l h1 r z =>
    cases r2 with
    | @tup _ ys _ h2 r' z' =>
      have pr := two_items r r' hd.2
      obtain ⟨us, v1, p1, _⟩ := I.tuple (SqT.of (e _ _ h1))
      obtain ⟨ws, v2, p2, _⟩ := I.tuple (SqT.of (e _ _ h2))
      have len := Paired.length pr
      refine GQ.rc_tupG (by rw [List.size_toArray, List.size_toArray, ← v1.length, ← v2.length]; exact len) hu0 (fun _ s' => s' = s) p1 p2 (fun i a1 a2 s' es => ?_) (fun s' es => by subst es; exact q) rfl
      subst es
      have k := items_run ih pr v1 v2 i (by simpa using a1) (by simpa using a2)
      exact k E _ ⟨rfl, rfl⟩
  | @dct _ ks t h1 r z =>
    cases r2 with
    | @dct _ ls _ h2 r' z' =>
      obtain ⟨o1, g1⟩ := h1
      obtain ⟨o2, g2⟩ := h2
      obtain ⟨_, _, ya, va, ra, da⟩ := (show ObjOk X.prog X.w H s.heap a (.frz o1 (.dK ks)) from I.hok a _ (e _ _ g1))
      obtain ⟨_, _, yb, vb, rb, db⟩ := (show ObjOk X.prog X.w H s.heap b (.frz o2 (.dK ls)) from I.hok b _ (e _ _ g2))
      have nd : (ks.map (·.1)).Nodup := by
        obtain ⟨_, _, _, _, _, _, _, _, nd⟩ := da
        rw [kv_keys ra]; exact nd
      refine PySem.W.rcP_dicts (knd := mixKind X.prog X.w) (r := true) ya yb da db hu0 (fun _ => hits_run ih rb ra (two_keys r r' (fun p hp => (hd.2 p hp).2) nd)) E Q ?_
      have e3 : va.length = vb.length := by rw [← ra.length, ← rb.length, r.len, r'.len]
      rw [show (va.length == vb.length && true) = true from by rw [e3]; simp]
      exact q
theorem two_run (I : Inv X pins σ H s) (e : Ex L H) : ∀ (n : Nat) (A : Around), A.units + n < cLine → ∀ x y v u, Two X.K L n x y → RelV x v → RelV y u → SeqAt.EqP X.prog X.w A s v u true := by
  intro n
  induction n with
  | zero =>
    rintro A hu x y v u ⟨d, hd, r1, r2⟩ rx ry
    cases r1 with
    | bl b => cases r2; exact (eqAt_same rx ry rfl).eqP
    | int i => cases r2; exact (eqAt_same rx ry rfl).eqP
    | str z => cases r2; exact (eqAt_same rx ry rfl).eqP
    | _ => exact hd.elim
  | succ n ih =>
    rintro A hu x y v u ⟨d, hd, r1, r2⟩ rx ry
    have hin : A.in1.units + n < cLine := by show A.units + 1 + n < cLine; omega
    have refs : ∀ a b, x = .ref a → y = .ref b → SeqAt.EqP X.prog X.w A s v u true := fun a b ex ey => by
      subst ex; subst ey
      cases (show v = Value.ref a from rx)
      cases (show u = Value.ref b from ry)
      by_cases ab : a = b
      · subst ab; exact (SeqAt.EqAt.same _).eqP
      · exact SeqAt.eqP_refs ab (two_rc I e (by omega) (ih A.in1 hin) hd r1 r2)
    cases r1 with
    | bl b => cases r2; exact (eqAt_same rx ry rfl).eqP
    | int i => cases r2; exact (eqAt_same rx ry rfl).eqP
    | str z => cases r2; exact (eqAt_same rx ry rfl).eqP
    | non => exact hd.elim
    | own _ => exact hd.elim
    | obj _ _ => exact hd.elim
    | lst _ _ _ => exact hd.elim
    | tup h1 r z => cases r2 with | tup h2 r' z' => exact refs _ _ rfl rfl
    | dct h1 r z => cases r2 with | dct h2 r' z' => exact refs _ _ rfl rfl
end
section
variable {X : Cx} {n : Nat}
def rTwo (K : PySem.W.Frag) : R2 := fun x y H Q => ∃ L a b l, Ex L H ∧ x = .ref a ∧ y = .ref b ∧ (∀ d ∈ l, Tl 2 d) ∧ Rep K L x (.lst l) ∧ Rep K L y (.lst l) ∧ Q (.bl true) H
theorem op_two (hu : X.A.units + 8 < cLine) : OpR X (compareOp .Eq) (rTwo X.K) := by
  intro pins s σ H x y v u Q I rx ry ⟨L, a, b, l, e, ex, ey, hd, r1, r2, q⟩
  subst ex; subst ey
  obtain ⟨_, xs, e1, h1, i1, _⟩ := r1.lst_
  obtain ⟨_, ys, e2, h2, i2, _⟩ := r2.lst_
  cases e1; cases e2
  exact eqR_run I (A := X.A) (by omega) (two_run I e 2 X.A.in1 (by show X.A.units + 1 + 2 < cLine; omega)) (.inl ⟨a, b, xs, ys, rfl, rfl, SqL.of (e _ _ h1), SqL.of (e _ _ h2), two_items i1 i2 hd⟩) rx ry _ _ ⟨.bl true, H, I, rfl, q⟩
theorem cd_two {l : List D} (hr : Room n X.A) (h : ∀ d ∈ l, Tl 2 d) : CD X .Eq (.lst l) (.lst l) true := ⟨_, op_two (by have := hr.un; omega), fun v w H L Q e rv rw k => by
  obtain ⟨a, _, rfl, _⟩ := rv.lst_
  obtain ⟨b, _, rfl, _⟩ := rw.lst_
  exact ⟨L, a, b, _, e, rfl, rfl, h, rv, rw, k _ H L (Go.rf e) (.bl _)⟩⟩
end
end K51
end
section
set_option Elab.async false
set_option linter.all false
set_option maxRecDepth 100000
set_option maxHeartbeats 1000000
/-! repr of a thing that shows data. -/
namespace K51
open PySem PySem.Spec PyProof.Rows L2
mutual
def pdD : D → PyData
  | .bl b => .bool b
  | .int i => .int i
  | .str x => .str x
  | .lst l => .list (pdL l)
  | .tup l => .tuple (pdL l)
  | .dct t => .dict (pdK t)
  | .non => .none
  | .obj _ _ => .none
  | .own _ => .none
def pdL : List D → List PyData
  | [] => []
  | d :: r => pdD d :: pdL r
def pdK : List (Str × D) → List (PyData × PyData)
  | [] => []
  | (k, d) :: r => (.str k, pdD d) :: pdK r
end
theorem pdL_map : ∀ l : List D, pdL l = l.map pdD
  | [] => by simp only [pdL, List.map_nil]
  | d :: r => by simp only [pdL, List.map_cons, pdL_map r]
theorem pdK_map : ∀ t : List (Str × D), pdK t = t.map fun p => (.str p.1, pdD p.2)
  | [] => by simp only [pdK, List.map_nil]
  | (k, d) :: r => by simp only [pdK, List.map_cons, pdK_map r]
theorem shAll : ∀ l : List PyData, PyData.showableAll l = l.all PyData.showable
  | [] => by simp only [PyData.showableAll, List.all_nil]
  | d :: r => by simp only [PyData.showableAll, List.all_cons, shAll r]
theorem shKv : ∀ l : List (PyData × PyData), PyData.showableKv l = l.all fun p => p.1.showable && p.2.showable
  | [] => by simp only [PyData.showableKv, List.all_nil]
  | (k, d) :: r => by simp only [PyData.showableKv, List.all_cons, shKv r]
theorem sAll : ∀ l : List PyData, PyData.shownAll l = l.map PyData.shown
  | [] => by simp only [PyData.shownAll, List.map_nil]
  | d :: r => by simp only [PyData.shownAll, List.map_cons, sAll r]
theorem sKv : ∀ l : List (PyData × PyData), PyData.shownKv l = l.map fun p => p.1.shown ++ (": " : Str) ++ p.2.shown
  | [] => by simp only [PyData.shownKv, List.map_nil]
  | (k, d) :: r => by simp only [PyData.shownKv, List.map_cons, sKv r]
theorem sum_le {ts : List Str} {B : Nat} (h : ∀ t ∈ ts, t.length ≤ B) : (ts.map (·.length)).sum ≤ ts.length * B := by
  induction ts with
  | nil => simp
  | cons t r ih =>
    have h1 := h t List.mem_cons_self
    have h2 := ih fun x hx => h x (List.mem_cons_of_mem _ hx)
    rw [List.map_cons, List.sum_cons, List.length_cons, Nat.succ_mul]
    omega
def bnd : Nat → Nat
  | 0 => 100
  | n + 1 => 12 * (bnd n + 100) + 27
theorem bnd_ge : ∀ n, 100 ≤ bnd n
  | 0 => Nat.le_refl _
  | n + 1 => by have := bnd_ge n; unfold bnd; omega
theorem str_len {x : Str} (h : x.length ≤ 8 ∧ ∀ c ∈ x.cps.toList, c ≤ 122) : (PyData.shown (.str x)).length ≤ 82 := by
  have := StrLaws.reprText_len x fun c hc => Nat.lt_of_le_of_lt (h.2 c hc) (by decide)
  simp only [PyData.shown]
  omega
theorem tl_ok : ∀ n d, Tl n d → (pdD d).showable = true ∧ (pdD d).shown.length ≤ bnd n
  | n, .bl b, _ => by
    have := bnd_ge n
    refine ⟨by simp only [pdD, PyData.showable], ?_⟩
    simp only [pdD, PyData.shown]
    have h : ∀ b : Bool, (if b = true then ("True" : Str) else ("False" : Str)).length ≤ 5 := by decide +kernel
    exact Nat.le_trans (h b) (by omega)
  | n, .int i, h => by
    have := bnd_ge n
    have h' : i.natAbs < 10 ^ 60 := by cases n <;> exact h
    refine ⟨?_, ?_⟩
    · simp only [pdD, PyData.showable, decide_eq_true_eq]
      by_cases z : i.natAbs = 0
      · rw [z]; decide
      · exact (Nat.log2_lt z).mpr (Nat.lt_trans h' (by decide +kernel))
    · have e := int_text_length_le10 (k := 60) (by decide) h'
      simp only [pdD, PyData.shown]
      show (Str.ofString (toString i)).length ≤ _
      rw [PySem.ofString_length]; omega
  | n, .str x, h => by
    have := bnd_ge n
    have h' : x.length ≤ 8 ∧ ∀ c ∈ x.cps.toList, c ≤ 122 := by cases n <;> exact h
    have := str_len h'
    exact ⟨by simp only [pdD, PyData.showable], by simp only [pdD]; omega⟩
  | n + 1, .tup l, h => by
    have ih := fun d hd => tl_ok n d (h.2 d hd)
    refine ⟨?_, ?_⟩
    · simp only [pdD, PyData.showable, shAll, pdL_map, List.all_map, List.all_eq_true]
      exact fun d hd => (ih d hd).1
    · simp only [pdD, PyData.shown, sAll, pdL_map, List.map_map]
      refine Nat.le_trans (tupleText_len_le _) ?_
      have := sum_le (ts := l.map (PyData.shown ∘ pdD)) (B := bnd n) fun t ht => by
        obtain ⟨d, hd, rfl⟩ := List.mem_map.mp ht
        exact (ih d hd).2
      rw [List.length_map] at this ⊢
      have hl := h.1
      have h3 : l.length * bnd n ≤ 12 * bnd n := Nat.mul_le_mul_right _ hl
      show _ ≤ 12 * (bnd n + 100) + 27
      omega
  | n + 1, .dct t, h => by
    have ih := fun p hp => tl_ok n p.2 (h.2 p hp).2
    refine ⟨?_, ?_⟩
    · simp only [pdD, PyData.showable, shKv, pdK_map, List.all_map, List.all_eq_true]
      intro p hp
      simp only [Function.comp, PyData.showable, Bool.true_and]
      exact (ih p hp).1
    · simp only [pdD, PyData.shown, sKv, pdK_map, List.map_map]
      refine Nat.le_trans (dictText_len_le _) ?_
      have := sum_le (ts := t.map ((fun p : PyData × PyData => p.1.shown ++ (": " : Str) ++ p.2.shown) ∘ fun p : Str × D => (PyData.str p.1, pdD p.2))) (B := bnd n + 84) fun x hx => by
        obtain ⟨p, hp, rfl⟩ := List.mem_map.mp hx
        have h1 := (ih p hp).2
        have h2 := str_len (h.2 p hp).1
        simp only [Function.comp]
        rw [strLen_append, strLen_append]
        have h3 : (": " : Str).length = 2 := rfl
        omega
      rw [List.length_map] at this ⊢
      have hl := h.1
      have h3 : t.length * (bnd n + 84) ≤ 12 * (bnd n + 84) := Nat.mul_le_mul_right _ hl
      show _ ≤ 12 * (bnd n + 100) + 27
      omega
  | 0, .tup l, h => h.elim
  | 0, .dct t, h => h.elim
  | 0, .lst t, h => h.elim
  | n + 1, .lst t, h => h.elim
  | 0, .non, h => h.elim
  | n + 1, .non, h => h.elim
  | 0, .obj _ _, h => h.elim
  | n + 1, .obj _ _, h => h.elim
  | 0, .own _, h => h.elim
  | n + 1, .own _, h => h.elim
section
variable {X : Cx} {pins : List (Addr × Obj)} {σ : L2.St} {H L : Hp} {s : Shared}
theorem reads_pairs {n : Nat} (ih : ∀ d x v, Tl n d → Rep X.K L x d → RelV x v → ∃ as, Reads s.heap v (pdD d) as ∧ sysModules ∉ as) : ∀ {ks : List (Key × V)} {t : List (Str × D)} {va : List (Key × Value)} {es : List DictEntry}, RepK X.K L ks t → (∀ p ∈ t, Tl n p.2) → KV ks va → Pairs (mixKind X.prog X.w) es va →
    ∃ as, ReadsAll s.heap (es.map (·.key)) ((pdK t).map (·.1)) [] ∧ ReadsAll s.heap (es.map (·.val)) ((pdK t).map (·.2)) as ∧ sysModules ∉ as
  | _, _, _, _, .nil, _, .nil, .nil => ⟨[], .nil, .nil, nofun⟩
  | _, _, _, _, .cons (x := x) (d := d) r rr, h, .cons (b := q) k1 kk, .cons (e := e) p1 p2 pp => by
    obtain ⟨as, a1, a2, a3⟩ := reads_pairs ih rr (fun p hp => h p (List.mem_cons_of_mem _ hp)) kk pp
    have k2 : Sum.inr x = q.1 := k1.1
    rw [← k2] at p1
    have p3 : Value.isStrOf x e.key = true := p1
    obtain ⟨bs, b1, b2⟩ := ih d _ _ (h _ List.mem_cons_self) r k1.2
    have ek : ∃ t, e.key = .str x t := by
      cases hk : e.key with
      | str y t =>
        rw [hk] at p3
        have z : y = x := by first | exact of_decide_eq_true p3 | exact eq_of_beq p3 | (simpa [Value.isStrOf] using p3)
        exact ⟨t, by rw [z]⟩
      | _ => rw [hk] at p3; cases p3
    obtain ⟨tk, ek⟩ := ek
    refine ⟨bs ++ as, ?_, ?_, fun z => (List.mem_append.mp z).elim b2 a3⟩
    · rw [List.map_cons, ek]
      simp only [pdK, List.map_cons]
      exact .cons (as := []) (.str x tk) a1
    · rw [List.map_cons, p2]
      simp only [pdK, List.map_cons]
      exact .cons b1 a2
theorem reads_items {n : Nat} (ih : ∀ d x v, Tl n d → Rep X.K L x d → RelV x v → ∃ as, Reads s.heap v (pdD d) as ∧ sysModules ∉ as) : ∀ {xs : List V} {l : List D} {us : List Value}, RepL X.K L xs l → (∀ d ∈ l, Tl n d) → Vals xs us → ∃ as, ReadsAll s.heap us (pdL l) as ∧ sysModules ∉ as
  | _, _, _, .nil, _, .nil => ⟨[], by simp only [pdL]; exact .nil, nofun⟩
  | _, _, _, .cons r rr, h, .cons v vv => by
    obtain ⟨as, a1, a2⟩ := reads_items ih rr (fun d hd => h d (List.mem_cons_of_mem _ hd)) vv
    obtain ⟨bs, b1, b2⟩ := ih _ _ _ (h _ List.mem_cons_self) r v
    exact ⟨bs ++ as, by simp only [pdL]; exact .cons b1 a1, fun z => (List.mem_append.mp z).elim b2 a2⟩
theorem reads_run (I : Inv X pins σ H s) (e : Ex L H) : ∀ (n : Nat) (d : D) (x : V) (v : Value), Tl n d → Rep X.K L x d → RelV x v → ∃ as, Reads s.heap v (pdD d) as ∧ sysModules ∉ as := by
  intro n
  have flat : ∀ (d : D) (x : V) (v : Value), Tl 0 d → Rep X.K L x d → RelV x v → ∃ as, Reads s.heap v (pdD d) as ∧ sysModules ∉ as := fun d x v hd r rx => by
    cases r with
    | bl b => cases (show v = Value.bool b from rx); exact ⟨[], by simp only [pdD]; exact .bool b, nofun⟩
    | int i => obtain ⟨t, rfl⟩ := rx; exact ⟨[], by simp only [pdD]; exact .int i t, nofun⟩
    | str z => obtain ⟨t, rfl⟩ := rx; exact ⟨[], by simp only [pdD]; exact .str z t, nofun⟩
    | _ => exact hd.elim
  induction n with
  | zero => exact flat
  | succ n ih =>
    intro d x v hd r rx
    cases r with
    | bl b => exact flat _ _ _ hd (.bl b) rx
    | int i => exact flat _ _ _ hd (.int i) rx
    | str z => exact flat _ _ _ hd (.str z) rx
    | non => exact hd.elim
    | own _ => exact hd.elim
    | obj _ _ => exact hd.elim
    | lst _ _ _ => exact hd.elim
    | @tup a xs l h1 r z =>
      cases (show v = Value.ref a from rx)
      obtain ⟨us, v1, ⟨o, g1, g2, m, g3⟩, _⟩ := I.tuple (SqT.of (e _ _ h1))
      obtain ⟨as, a1, a2⟩ := reads_items ih r hd.2 v1
      exact ⟨as, by simp only [pdD]; exact .tuple g1 g2 g3 a1, a2⟩
    | @dct a ks t h1 r z =>
      cases (show v = Value.ref a from rx)
      obtain ⟨o1, g1⟩ := h1
      obtain ⟨_, _, ya, va, ra, o, es, ep, da, db, dc, _, dp, _⟩ := (show ObjOk X.prog X.w H s.heap a (.frz o1 (.dK ks)) from I.hok a _ (e _ _ g1))
      obtain ⟨as, a1, a2, a3⟩ := reads_pairs ih r (fun p hp => (hd.2 p hp).2) ra dp
      refine ⟨a :: [] ++ as, by simp only [pdD]; exact .dict da db.1 dc a1 a2, fun m => ?_⟩
      rcases List.mem_cons.mp m with q | q
      · rw [← q] at ya; exact absurd ya (by decide)
      · exact a3 q
end
end K51
end
section
set_option Elab.async false
set_option linter.all false
set_option maxRecDepth 100000
set_option maxHeartbeats 1000000
/-! repr, called. -/
namespace K51
open PySem PySem.Spec PyProof.Rows L2
theorem tl_dep : ∀ n d, Tl n d → (pdD d).depth ≤ n
  | n, .bl b, _ => by simp only [pdD, PyData.depth]; omega
  | n, .int i, _ => by simp only [pdD, PyData.depth]; omega
  | n, .str x, _ => by simp only [pdD, PyData.depth]; omega
  | n + 1, .tup l, h => by
    have ih := fun d hd => tl_dep n d (h.2 d hd)
    simp only [pdD, PyData.depth]
    have : ∀ l : List D, (∀ d ∈ l, (pdD d).depth ≤ n) → PyData.depthAll (pdL l) ≤ n := fun l => by
      induction l with
      | nil => intro _; simp only [pdL, PyData.depthAll]; omega
      | cons d r k =>
        intro h
        have h1 := h d List.mem_cons_self
        have h2 := k fun x hx => h x (List.mem_cons_of_mem _ hx)
        simp only [pdL, PyData.depthAll]
        omega
    have := this l ih
    omega
  | n + 1, .dct t, h => by
    have ih := fun p hp => tl_dep n p.2 (h.2 p hp).2
    simp only [pdD, PyData.depth]
    have : ∀ l : List (Str × D), (∀ p ∈ l, (pdD p.2).depth ≤ n) → PyData.depthKv (pdK l) ≤ n := fun l => by
      induction l with
      | nil => intro _; simp only [pdK, PyData.depthKv]; omega
      | cons d r k =>
        intro h
        have h1 := h d List.mem_cons_self
        have h2 := k fun x hx => h x (List.mem_cons_of_mem _ hx)
        obtain ⟨x, y⟩ := d
        simp only [pdK, PyData.depthKv, PyData.depth]
        have h1' : (pdD y).depth ≤ n := h1
        omega
    have := this t ih
    omega
  | 0, .tup l, h => h.elim
  | 0, .dct t, h => h.elim
  | 0, .lst t, h => h.elim
  | n + 1, .lst t, h => h.elim
  | 0, .non, h => h.elim
  | n + 1, .non, h => h.elim
  | 0, .obj _ _, h => h.elim
  | n + 1, .obj _ _, h => h.elim
  | 0, .own _, h => h.elim
  | n + 1, .own _, h => h.elim
/-- what repr is asked of -/
def Shw (d : D) : Prop := (∃ i : Int, d = .int i ∧ i.natAbs < 10 ^ 60) ∨ (∃ l, d = .tup l ∧ Tl 2 d) ∨ ∃ l, d = .lst l ∧ l.length ≤ 12 ∧ ∀ d ∈ l, Tl 2 d
def rRepr (K : PySem.W.Frag) : List V → Hp → VK → Prop := fun vs H Q => ∃ L x d, Ex L H ∧ vs = [x] ∧ Shw d ∧ Rep K L x d ∧ Q (.str (pdD d).shown) H
theorem lst_len {l : List D} (h : l.length ≤ 12) (h2 : ∀ d ∈ l, Tl 2 d) : (listText (PyData.shownAll (pdL l))).length ≤ sizeLine := by
  refine Nat.le_trans (listText_len_le _) ?_
  rw [show PyData.shownAll (pdL l) = l.map (PyData.shown ∘ pdD) by rw [sAll, pdL_map, List.map_map]]
  have := sum_le (ts := l.map (PyData.shown ∘ pdD)) (B := bnd 2) fun t ht => by
    obtain ⟨d, hd, rfl⟩ := List.mem_map.mp ht
    exact (tl_ok 2 d (h2 d hd)).2
  rw [List.length_map] at this ⊢
  have h3 : l.length * bnd 2 ≤ 12 * bnd 2 := Nat.mul_le_mul_right _ h
  have h4 : 12 * bnd 2 ≤ 1000000 := by decide
  show _ ≤ 16777216
  omega
theorem cr_repr {X : Cx} (hg : X.A.guards = some []) (hu : X.A.units + 16 < cLine) : CallR X (.builtin "repr") (rRepr X.K) := by
  intro pins s σ H xs us Q I rv ⟨L, x, d, e, ex, hd, r, q⟩
  subst ex
  cases rv with
  | @cons _ u _ _ rx rn =>
    cases rn
    have fin : ∀ h' u tk, (∀ b o, s.heap.get? b = some o → h'.get? b = some o) → EP X pins σ Q (.str (pdD d).shown u) { s with heap := h', toks := tk } := fun h' u tk hk => ⟨.str (pdD d).shown, H, I.kept hk, ⟨u, rfl⟩, q⟩
    rcases hd with ⟨i, rfl, hi⟩ | ⟨l, rfl, hl⟩ | ⟨l, rfl, h12, hl⟩
    · obtain rfl := r.int_
      obtain ⟨t, rfl⟩ := rx
      refine P.repr_of_int ?_ ?_
      · by_cases z : i.natAbs = 0
        · rw [z]; decide
        · exact (Nat.log2_lt z).mpr (Nat.lt_trans hi (by decide +kernel))
      · have k := fin s.heap s.toks (s.toks + 1) fun _ _ z => z
        simp only [pdD, PyData.shown] at k
        exact k
    · obtain ⟨a, _, e1, _⟩ := r.tup_
      subst e1
      cases (show u = Value.ref a from rx)
      obtain ⟨as, k1, k2⟩ := reads_run I e 2 _ _ _ hl r rfl
      have dp := tl_dep 2 _ hl
      obtain ⟨s1, s2⟩ := tl_ok 2 _ hl
      refine repr_of_reads' k1 s1 (fun _ => k2) hg (by omega) (fun _ _ z => z) fin (Nat.le_trans s2 ?_)
      show bnd 2 ≤ 16777216
      decide
    · obtain ⟨a, ys, e1, g, rl, _⟩ := r.lst_
      subst e1
      cases (show u = Value.ref a from rx)
      obtain ⟨_, its, m, vv, ho⟩ := (show ObjOk X.prog X.w H s.heap a (.lst ys) from I.hok a _ (e _ _ g))
      obtain ⟨as, k1, k2⟩ := reads_items (fun d x v h1 h2 h3 => reads_run I e 2 d x v h1 h2 h3) rl hl vv
      have sh := lst_len h12 hl
      have shw : PyData.showableAll (pdL l) = true := by
        rw [shAll, pdL_map, List.all_map, List.all_eq_true]
        exact fun d hd => (tl_ok 2 d (hl d hd)).1
      obtain ⟨bs, b1, b2⟩ := ReprAllK.of_readsAll (prog := X.prog) (w := X.w) k1 shw (fun _ => k2) fun t ht => Nat.le_trans (listText_mem_le ht) sh
      have dl : PyData.depthAll (pdL l) ≤ 2 := by
        have : ∀ l : List D, (∀ d ∈ l, Tl 2 d) → PyData.depthAll (pdL l) ≤ 2 := fun l => by
          induction l with
          | nil => intro _; simp only [pdL, PyData.depthAll]; omega
          | cons d r k =>
            intro h
            have h1 := tl_dep 2 _ (h d List.mem_cons_self)
            have h2 := k fun x hx => h x (List.mem_cons_of_mem _ hx)
            simp only [pdL, PyData.depthAll]
            omega
        exact this l hl
      have na : a ∉ bs := not_mem_of_deeper (.list ho rfl rfl k1) (by simp only [PyData.depth]; omega) b1
      simp only [pdD, PyData.shown] at fin
      refine call_repr_slot (T := "list") (idr := "list.__repr__") (by omega) ⟨_, ho, rfl⟩ F.slot_list_repr.toG ?_
      have fin2 : ∀ h' u tk, (∀ b o, s.heap.get? b = some o → h'.get? b = some o) → ∃ x t, Value.str (listText (PyData.shownAll (pdL l))) u = .str x t ∧ EP X pins σ Q (.str (listText (PyData.shownAll (pdL l))) u) { s with heap := h', toks := tk } := fun h' u tk hk => ⟨_, _, rfl, fin h' u tk hk⟩
      cases its with
      | nil =>
        cases vv
        cases rl
        simp only [pdL, PyData.shownAll, listText_nil] at fin2
        exact call_list_repr_empty ⟨_, ho, rfl⟩ ho rfl (fin2 s.heap _ _ fun _ _ z => z)
      | cons y r0 => exact call_list_reprK ho rfl rfl na (by simpa using b2.length_eq) (fun i y z => b2.item i y (by simpa using z)) hg (fun b _ => Clear.nil b) (by show X.A.units + 1 + _ < cLine; omega) (fun _ _ z => z) fin2 sh
theorem bf_repr {X : Cx} {d : D} (hg : X.A.guards = some []) (hu : X.A.units + 16 < cLine) (h : Shw d) : BF X "repr" [d] (.str (pdD d).shown) := ⟨_, .inl ⟨_, rfl, cr_repr hg hu⟩, cd1 fun v H L Q e r k => ⟨L, v, d, e, rfl, h, r, k _ H L (Go.rf e) (.str _)⟩⟩
end K51
end
section
set_option Elab.async false
set_option linter.all false
set_option maxRecDepth 100000
set_option maxHeartbeats 1000000
/-! Defs that are called where nothing is being shown. -/
namespace K51
open PySem PySem.Spec PyProof.Rows L2
structure FnG (P : Program) (w : World) (K : PySem.W.Frag) (mg : Str → Option Value) (base : Heap) (k : Nat) (f : Addr) (fd : FuncData) (ps : List Str) (sp : Sp) : Prop where
  ln : ∀ vs H Q E, sp vs H Q E → vs.length = ps.length
  go : ∀ (A : Around) (st : List Env) (s : Shared) (H : Hp) (ar : Args) (us : List Value) (vs : List V) (Q : VK) (E : XK), A.guards = some [] → Room k A → Env0 P w K mg base A st s H → BindsTo s fd ar (ps.zip us) → Vals vs us → sp vs H Q E →
    codeAny (model P w) A (.call (.ref f) ar) (CR CX0 st P w H s Q E) s
section
variable {P : Program} {w : World} {K : PySem.W.Frag} {mg : Str → Option Value} {base : Heap} {k : Nat} {f : Addr} {fd : FuncData} {ps N : List Str} {sp : Sp} {x qual : Str} {params : Arguments} {body : List Stmt} {scope : Scope}
theorem fng (F : FunD K x qual params body scope [] [] f fd) (S : FnScope N ps scope) (ln : ∀ vs H Q E, sp vs H Q E → vs.length = ps.length)
    (hb : ∀ (cdv : Value) (A : Around) (st : List Env) (s : Shared) (H : Hp) (vs : List V) (Q : VK) (E : XK), A.guards = some [] → Room k (A.deeper (envOfC qual scope s.heap.objs.size f cdv)) → sp vs H Q E →
      ∃ t, PSs (cxOf CX0 P w K mg base N qual scope f cdv A st s H E) body t ∧ t { nx := fun _ H' => Q .non H', rt := Q } (start N vs) H) : FnG P w K mg base (k + 1) f fd ps sp := by
  obtain ⟨oc, od, dV, kV, doc, pm, an, cdv, ct, osl, rfl, lk, code, _, _⟩ := F.ex
  constructor
  · exact ln
  intro A st s H ar us vs Q E hg hr ev bd rv h
  have n1 := ln _ _ _ _ h
  have in1 : K.In s.heap := ev.mod.kin.keeps fun c o z => (ev.bs c o z).1
  have lim1 : s.heap.NoLimit := ev.mod.nolimit.keeps fun c o z => (ev.bs c o z).1
  refine codeAny_call_function hr.depth (in1 _ _ lk) rfl S.co S.gen rfl (PySem.W.codeRec_of in1 code) (bd _ _ _ _ ?_)
  refine wpAny_newFunctionEnv_cells S.kind (fun p hp => (S.par p.1 (List.of_mem_zip (show (p.1, p.2) ∈ _ from hp)).1).imp id fun z => ⟨z, PySem.W.cellsFrom_some _ _ _ (.inl z)⟩) fun en he s1 y => ?_
  subst he
  refine ⟨lim1.keeps y.toInCall.keep, codeAny_func ?_⟩
  obtain ⟨t, pt, q⟩ := hb cdv A st s H vs Q E hg (hr.deeper _) h
  have J : Inv (cxOf CX0 P w K mg base N qual scope f cdv A st s H E) [] (start N vs) H s1 := inv_start S hr.hd ev n1 rv y
  refine wpAny_mono (pt.run [] s1 (start N vs) H _ J q) (fun fl s2 z => ?_) fun _ _ z => z
  cases fl with
  | next => obtain ⟨_, H2, J2, q2⟩ := z; exact ⟨.non, H2, J2.os, J2.bare, J2.base, J2.hok, rfl, q2⟩
  | ret u => obtain ⟨v, _, H2, J2, r2, q2⟩ := z; exact ⟨v, H2, J2.os, J2.bare, J2.base, J2.hok, r2, q2⟩
  | brk => obtain ⟨_, _, _, q2⟩ := z; exact q2.elim
  | cont => obtain ⟨_, _, _, q2⟩ := z; exact q2.elim
end
/-- f(e, ..), nothing being shown -/
theorem pe_callG {X : Cx} {k : Nat} {f : Addr} {fd : FuncData} {ps : List Str} {sp : Sp} {x : Str} {p pos : Pos} {e : Expr} {es : List Expr} {t : TA} (F : FnG X.prog X.w X.K X.mg X.base k f fd ps sp) (gs : X.A.guards = some []) (hr : Room k X.A) (hg : Gl X x) (hm : X.mg x = some (.ref f)) (hk : PySem.W.keepIn X.K (.ref f) = true) (hb : Binds X.K fd ps [])
    (hx : Passes CX0 X E0) (ha : PA X (e :: es) t) (hdb : (x == ("__debug__" : Str)) = false := by decide) (he : starEach (e :: es) X.env = (false, eval e X.env) :: starEach es X.env := by rfl) (hpl : (backTo pos (starEach es X.env)).any (·.1) = false := by rfl) :
    PE X (.Call (.Name x p) (e :: es) [] pos) (tCall sp [] E0 t) := by
  constructor
  intro pins s σ H Q I h
  refine wpAny_Call_Name_kw (ld_glob I hg hm ?_ hdb)
  refine PySem.W.callWith_K (h₀ := X.base) I.ok.mod.kin hk (thn (ha.run pos pins s σ H _ I h) fun us s1 ⟨vs, H1, I1, r, q⟩ => ⟨I1.kIn, ?_⟩) he hpl
  have r' : Vals (vs ++ []) (us ++ []) := by rw [List.append_nil, List.append_nil]; exact r
  have n2 : (us ++ []).length = ps.length := by rw [← r'.length]; exact F.ln _ _ _ _ q
  refine wpAny_call (codeAny_mono (F.go X.A X.stack s1 H1 ⟨us, []⟩ (us ++ []) (vs ++ []) Q E0 gs hr I1.env0 (hb s1 us I1.kIn n2) r' q) fun r2 s2 z => ?_)
  cases r2 with
  | error ex => exact hx pins σ H1 s1 ex s2 I1 z
  | ok fl => cases fl with
    | ret u => exact I1.after z
    | next => exact z.elim
    | brk => exact z.elim
    | cont => exact z.elim
end K51
end
section
set_option Elab.async false
set_option linter.all false
set_option maxRecDepth 100000
set_option maxHeartbeats 1000000
/-! The bag is made. -/
namespace K51
open PySem PySem.Spec PyProof.Rows L2
section
variable {X : Cx} {ρ : En} {e : Expr} {pos p p2 : Pos} {a : Addr} {ns : List Int} {i j : Option Int} {lo hi : Option Expr}
/-- what was frozen at the start stays so -/
theorem pe_h0 {t t' : TE} (h : PE X e t) (f : ∀ σ H Q, (∀ b o u, X.H_0 b = some (.frz o u) → H b = some (.frz o u)) → t' σ H Q → t σ H Q) : PE X e t' := ⟨fun pins s σ H Q I q => h.run pins s σ H Q I (f σ H Q I.base.frzs q)⟩
/-- a list that no step can change: frozen, or the module's own -/
def SqF (K : PySem.W.Frag) (H : Hp) (a : Addr) (xs : List V) : Prop := (∃ o, H a = some (.frz o (.lst xs))) ∨ SqL K (fun _ => none) a xs
theorem SqF.later {K : PySem.W.Frag} {H0 H : Hp} {xs : List V} (f : ∀ b o u, H0 b = some (.frz o u) → H b = some (.frz o u)) (h : SqF K H0 a xs) : SqF K H a xs := h.imp (fun ⟨o, e⟩ => ⟨o, f _ _ _ e⟩) id
theorem SqF.sql {K : PySem.W.Frag} {H : Hp} {xs : List V} (h : SqF K H a xs) : SqL K H a xs := by
  rcases h with ⟨o, e⟩ | h
  · exact .inl (.inr ⟨o, e⟩)
  · rcases h with h | h
    · rcases h with h | ⟨o, h⟩ <;> cases h
    · exact .inr h
/-- script[i:j] -/
theorem j_slScr (hS : SqF X.K X.H_0 a (ns.map V.int)) (hz : ns.length ≤ lim) (ha : PE X e (tJ X.K ρ (.own a))) (hl : PO X lo (tO X.K ρ i)) (hh : PO X hi (tO X.K ρ j)) :
    PE X (.Subscript e (.Slice lo hi none p2) pos) (tJ X.K ρ (.lst (cutD (ns.map D.int) i j))) := by
  refine pe_h0 (pe_slice sl_list ha hl hh) fun σ H Q f ⟨L, e, env, k⟩ => ⟨L, e, env, fun v H1 L1 g1 r1 => ⟨L1, g1.sub, env.ex g1.lx, fun H2 L2 g2 => ⟨L2, g2.sub, (env.ex g1.lx).ex g2.lx, fun H3 L3 g3 => ?_⟩⟩⟩
  obtain rfl := r1.own_
  refine ⟨a, _, rfl, (hS.later fun b o u z => g3.ex _ _ (g2.ex _ _ (g1.ex _ _ (f b o u z)))).sql, fun q hq => ?_⟩
  have g4 := Go.new (o := .lst (cutV (ns.map V.int) i j)) g3.sub hq
  exact k _ _ _ (((g1.tr g2).tr g3).tr g4) (.lst upd_same (cut_rep (RepL.ofInts ns)) (Nat.le_trans (cutD_len _ _) (by rw [List.length_map]; exact hz)))
end
end K51
end
section
set_option Elab.async false
set_option linter.all false
set_option maxRecDepth 100000
set_option maxHeartbeats 1000000
/-! The bag is made: the def. -/
namespace K51
open PySem PySem.Spec PyProof.Rows L2
theorem bf_abs {X : Cx} {i : Int} : BF X "abs" [.int i] (.int i.natAbs) := ⟨_, .inl ⟨_, rfl, call_abs⟩, cd1 fun v H L Q e r k => ⟨i, by rw [r.int_], by
  have z : (if i < 0 then -i else i) = (i.natAbs : Int) := by split <;> omega
  rw [z]
  exact k _ H L (Go.rf e) (.int _)⟩⟩
def spBag (K : PySem.W.Frag) : Sp := fun vs H Q _ => ∃ (a : Addr) (ns : List Int), vs = [.ref a] ∧ SqF K H a (ns.map V.int) ∧ ns.length ≤ 63 ∧
  ∀ (q c : Addr) (ms : List Int) (H' : Hp), Ex H H' → H q = none → H c = none → c ≠ q → H' q = some (.lst [.int 0, .int 1234567891, .int 0, .ref c]) → H' c = some (.lst (ms.map V.int)) → ms.length ≤ 63 → (∀ n ∈ ms, 0 ≤ n) → Q (.ref q) H'
section
variable {P : Program} {w : World} {K : PySem.W.Frag} {mg : Str → Option Value} {base : Heap}
theorem cut_63 {ns : List Int} (h : ns.length ≤ 63) : cutD (ns.map D.int) none (some 63) = ns.map D.int := by
  unfold cutD
  rw [show (63 : Int) = ((63 : Nat) : Int) from rfl, HT.sIx_nat, List.length_map, Nat.min_eq_right h]
  exact List.take_of_length_le (by rw [List.length_drop, List.length_map]; exact Nat.le_refl _)
theorem ok_l_bag (T : Facts K mg) : OkG P w K mg base 1 "_law_bag" ["_law_script"] (spBag K) := by
  obtain ⟨fd, F⟩ := T.fl_bag
  have hN : (["_law_script", "_law_cell"] : List Str).Nodup := by decide +kernel
  refine ⟨_, T.g_law_bag, ⟨fd, F.ok (N := ["_law_script", "_law_cell"]) ⟨rfl, rfl, rfl, hN, rfl, by decide +kernel, by decide +kernel⟩ (fun vs H Q E h => by obtain ⟨_, _, rfl, _⟩ := h; rfl) fun cdv A outer s H vs Q E hr h => ?_, F.bindsN fun _ _ _ _ _ _ us hl => match us, hl with | [_], _ => rfl⟩, F.kp⟩
  obtain ⟨a, ns, rfl, hS, hz, q⟩ := h
  refine ⟨_, PSs.nox (pss_one (ps_ret (pe_lst (ja_cons (ρ := [some (.own a), none]) j_int (ja_cons j_int (ja_cons j_int (ja_cons (j_lcm (ls := ns) (c := D.int) (f := fun i => .int i.natAbs) 1 hN (i_list (j_is (j_slScr hS (Nat.le_trans hz (by decide)) (j_v 0) o_none (o_some j_int)) (by rw [cut_63 hz]))) fun x hx _ _ _ _ _ => j_f bf_abs T.b_abs (ja_cons (j_v 1) ja_nil)) ja_nil))))))), fun _ => none, nofun, start_env (.cons (.own a) .nil), fun us H1 L1 g r => ⟨by rw [r.len]; exact lim_le (show 4 ≤ 100000 by decide), fun p hp => ?_⟩⟩
  obtain ⟨v1, us1, rfl, r1, r2⟩ := r.cons_
  obtain ⟨v2, us2, rfl, r3, r4⟩ := r2.cons_
  obtain ⟨v3, us3, rfl, r5, r6⟩ := r4.cons_
  obtain ⟨v4, us4, rfl, r7, r8⟩ := r6.cons_
  obtain rfl := r8.nil_
  obtain rfl := r1.int_
  obtain rfl := r3.int_
  obtain rfl := r5.int_
  obtain ⟨c, xs, rfl, hc, rl, _⟩ := r7.lst_
  have ex : xs = (ns.map fun i => (i.natAbs : Int)).map V.int := RepL.ints (l := ns.map fun i => (i.natAbs : Int)) (by rw [List.map_map]; exact rl)
  subst ex
  have hc1 := g.sub _ _ hc
  have cp : c ≠ p := fun z => by rw [z, hp] at hc1; cases hc1
  refine q p c (ns.map fun i => (i.natAbs : Int)) _ (fun b o z => ?_) ?_ ?_ cp upd_same (by rw [upd_ne cp]; exact hc1) (by rw [List.length_map]; exact hz) fun n hn => ?_
  · rw [upd_ne (fun y => by rw [y] at z; have := g.ex _ _ z; rw [hp] at this; cases this)]; exact g.ex _ _ z
  · cases z : H p with
    | none => rfl
    | some o => rw [g.ex _ _ z] at hp; cases hp
  · cases z : H c with
    | none => rfl
    | some o =>
      have := g.old c (by rw [z]; exact nofun)
      rw [hc] at this; cases this
  · obtain ⟨i, _, rfl⟩ := List.mem_map.mp hn
    exact Int.natCast_nonneg _
end
end K51
end
section
set_option Elab.async false
set_option linter.all false
set_option maxRecDepth 100000
set_option maxHeartbeats 1000000
/-! sum(d.values()); defs called where nothing is being shown, by data. -/
namespace K51
open PySem PySem.Spec PyProof.Rows L2
theorem presum {is : List Int} : ∀ n, n ≤ is.length → preSum (fun i => is.getD i 0) n = (is.take n).sum
  | 0, _ => by rw [List.take_zero]; rfl
  | n + 1, h => by
    have hn : n < is.length := h
    show preSum _ n + is.getD n 0 = _
    have e : is.take (n + 1) = is.take n ++ [is[n]] := by rw [List.take_add_one, List.getElem?_eq_getElem hn]; rfl
    rw [presum n (Nat.le_of_succ_le h), e, List.sum_append, List.getD_eq_getElem?_getD, List.getElem?_eq_getElem hn]
    simp
def tSumV (td : TE) : TE := fun σ H Q => td σ H fun x H1 => ∃ (a : Addr) (o : Obj) (kvs : List (Key × V)) (is : List Int), x = V.ref a ∧ H1 a = some (.frz o (.dK kvs)) ∧ kvs.map (·.2) = is.map V.int ∧ Q (.int is.sum) H1
section
variable {X : Cx} {e : Expr} {p pos apos mpos : Pos} {td : TE}
theorem pe_sumV (hc : X.calm = true) (hg : Gl X "sum") (hm : X.mg "sum" = none) (hd : PE X e td) (hbase : attributeBase e "values" X.env (eval e X.env) = eval e X.env := by rfl) (hline : (apos.endLine == mpos.line) = true := by rfl)
    (hse : starEach [Expr.Call (.Attribute e "values" apos) [] [] mpos] X.env = [(false, eval (Expr.Call (.Attribute e "values" apos) [] [] mpos) X.env)] := by rfl) :
    PE X (.Call (.Name "sum" p) [.Call (.Attribute e "values" apos) [] [] mpos] [] pos) (tSumV td) := by
  constructor
  intro pins s σ H Q I h
  refine wpAny_Call_Name_kw (ld_blt I hg hm (u := .builtin "sum") (by first | rfl | decide +kernel) ?_ (by first | decide +kernel | decide) (by first | decide +kernel | decide))
  rw [hse]
  refine PySem.callWith_builtin1 (wpAny_Call_method0_late hbase hline (thn (hd.run pins s σ H _ I h) fun v s1 ⟨x, H1, I1, r1, a, od, kvs, is, ex, ha, hv, q⟩ => ?_))
  subst ex
  cases (show v = Value.ref a from r1)
  obtain ⟨_, _, lowa, vs, rel, dof⟩ := (show ObjOk X.prog X.w H1 s1.heap a (.frz od (.dK kvs)) from I1.hok a _ ha)
  obtain ⟨ep, dat⟩ := dof.dictAt
  obtain ⟨ob, es, ho, exd, hdat, hko, hpr, hnd⟩ := id dat
  refine ⟨"dict", "dict.values", F.plainAttrs_dict, F.slot_dict_values, F.type_dict_values, ⟨ob, ho, exd.1⟩, fun b z => ?_, Calls.callWith_builtin rfl (PySem.evalArgs_none ?_)⟩
  · cases z; exact ⟨ob, ho, exd.2.1⟩
  refine call_meetsIn F.slot_dict_values ⟨ob, ho, exd.1⟩ F.entry_dict_values (F.args_dict_values_1 _) (meets_dict_values (mixKind X.prog X.w) a lowa) ⟨⟨vs, dof⟩, ?_⟩
  let h1 : Heap := s1.heap.push { cls := .type "dict_values", data := .fields #[.ref a] }
  have k1 : ∀ b u, s1.heap.get? b = some u → h1.get? b = some u := fun b u z => Heap.get?_push_of_some _ z
  have d1 : h1.DictAt (mixKind X.prog X.w) a vs ep := dat.keep k1
  have lenV : vs.length = is.length := by
    have z := congrArg List.length hv
    rw [List.length_map, List.length_map] at z
    rw [← z]
    exact (KV.length rel).symm
  have val : ∀ (i : Nat) (v : Value), (∃ k, vs[i]? = some (k, v)) → ∃ t, v = Value.int (is.getD i 0) t := fun i v ⟨k, hk⟩ => by
    obtain ⟨x, y1, y2⟩ := KV.at' rel hk
    have z1 : (kvs.map (·.2))[i]? = some x := by rw [List.getElem?_map, y1]; rfl
    rw [hv, List.getElem?_map] at z1
    obtain ⟨j, hj, z2⟩ := Option.map_eq_some_iff.mp z1
    subst z2
    obtain ⟨t, z3⟩ := y2
    exact ⟨t, by rw [z3, List.getD_eq_getElem?_getD, hj]; rfl⟩
  have alt : a < s1.heap.objs.size := Heap.lt_size ho
  have sz : h1.objs.size = s1.heap.objs.size + 1 := Heap.size_push _ _
  refine call_sum_walkG (wpAny_pyIter_values (v := s1.heap.objs.size) (d := a) ⟨_, Heap.get?_push_size _ rfl, rfl, rfl⟩ d1 ?_)
  refine ⟨_, _, _, _, _, _, fun i => is.getD i 0, rfl, Walks.dictValues (knd := mixKind X.prog X.w) (A := X.A.in1) (I.ok.hd hc) h1.objs.size a (by rw [sz]; exact Nat.ne_of_lt (Nat.lt_succ_of_lt alt)) vs ep,
    ⟨⟨_, Heap.get?_push_size _ rfl, rfl, rfl⟩, d1.keep fun b u z => Heap.get?_push_of_some _ z⟩, fun b hb => ?_, val, fun h' tk t' hk => ?_⟩
  · show b < ((s1.heap.push _).push _).objs.size
    rw [Heap.size_push, Heap.size_push]
    rcases List.mem_cons.mp hb with z | hb
    · rw [z, sz]; exact Nat.lt_succ_self _
    · rw [List.mem_singleton.mp hb]
      exact Nat.lt_succ_of_lt (Nat.lt_succ_of_lt alt)
  · rw [lenV, presum _ (Nat.le_refl _), List.take_length]
    refine ⟨.int is.sum, H1, I1.kept (t' := tk) fun b u z => hk b u (fun hmem => ?_) (Heap.get?_push_of_some _ (k1 b u z)), ⟨t', rfl⟩, q⟩
    have z1 : b = h1.objs.size := List.mem_singleton.mp hmem
    have z2 := Heap.lt_size z
    rw [sz] at z1
    rw [z1] at z2
    exact absurd z2 (Nat.not_lt.mpr (Nat.le_succ _))
theorem repK_ints {K : PySem.W.Frag} {L : Hp} : ∀ {ks : List (Key × V)} {th : Tb Int}, RepK K L ks (dT D.int th) → ks.map (·.2) = (th.map (·.2)).map V.int
  | _, [], .nil => rfl
  | _, (x, i) :: r, .cons a b => by
    obtain rfl := a.int_
    exact congrArg (V.int i :: ·) (repK_ints b)
/-- sum(d.values()) -/
theorem j_sumV {ρ : En} {th : Tb Int} (hm : X.mg "sum" = none) (hd : PE X e (tJ X.K ρ (.dct (dT D.int th)))) (hc : X.calm = true := by rfl) (hg : Gl X "sum" := by rfl) (hbase : attributeBase e "values" X.env (eval e X.env) = eval e X.env := by rfl) (hline : (apos.endLine == mpos.line) = true := by rfl)
    (hse : starEach [Expr.Call (.Attribute e "values" apos) [] [] mpos] X.env = [(false, eval (Expr.Call (.Attribute e "values" apos) [] [] mpos) X.env)] := by rfl) :
    PE X (.Call (.Name "sum" p) [.Call (.Attribute e "values" apos) [] [] mpos] [] pos) (tJ X.K ρ (.int (th.map (·.2)).sum)) := (pe_sumV hc hg hm hd hbase hline hse).imp fun σ H Q ⟨L, ex, env, k⟩ => ⟨L, ex, env, fun v H1 L1 g1 r1 => by
  obtain ⟨a, o, kvs, rfl, ha, rk, _⟩ := r1.dctF_
  exact ⟨a, o, kvs, _, rfl, g1.sub _ _ ha, repK_ints rk, k _ H1 L1 g1 (.int _)⟩⟩
end
end K51
end
section
set_option Elab.async false
set_option linter.all false
set_option maxRecDepth 100000
set_option maxHeartbeats 1000000
/-! Defs called where nothing is being shown, by data; d.clear(); the bag from here on. -/
namespace K51
open PySem PySem.Spec PyProof.Rows L2
structure OkH (P : Program) (w : World) (K : PySem.W.Frag) (mg : Str → Option Value) (base : Heap) (k : Nat) (x : Str) (ps : List Str) (sp : Sp) : Prop where
  ex : ∃ f fd, mg x = some (.ref f) ∧ FnG P w K mg base k f fd ps sp ∧ Binds K fd ps [] ∧ PySem.W.keepIn K (.ref f) = true
section
variable {P : Program} {w : World} {K : PySem.W.Frag} {mg : Str → Option Value} {base : Heap}
variable {x qual : Str} {params : Arguments} {body : List Stmt} {scope : Scope} {f : Addr} {fd : FuncData} {N ps : List Str} {k : Nat} {R : List D → D → Prop} {Pr : List D → Prop}
theorem fn_H (F : FunD K x qual params body scope [] [] f fd) (S : FnScope N ps scope) (ln : ∀ ds d, R ds d → ds.length = ps.length)
    (hb : ∀ (kV doc pm : Value) (an : Option Addr) (cdv ct : Value) (us : List Value), us.length = ps.length → bindArgs (PySem.W.fnOf x qual params body scope .none kV doc pm an cdv ct) ⟨us, []⟩ = pure (ps.zip us))
    (hbody : ∀ (ds : List D) (d : D), R ds d → ∀ (cdv : Value) (A : Around) (outer : List Env) (s : Shared) (H : Hp) (E : XK), A.guards = some [] → Room k (A.deeper (envOfC qual scope s.heap.objs.size f cdv)) →
      PSs (cxOf CX0 P w K mg base N qual scope f cdv A outer s H E).nox body (tW K none [] (ds.map some ++ List.replicate (N.length - ds.length) none) fun o => o = .ret d)) :
    FnG P w K mg base (k + 1) f fd ps (spD K R) ∧ Binds K fd ps [] ∧ PySem.W.keepIn K (.ref f) = true := by
  refine ⟨fng F S (fun vs H Q E ⟨L, ds, d, _, r, h, _⟩ => r.len.trans (ln ds d h)) fun cdv A outer s H vs Q E hg hr ⟨L, ds, d, e, r, h, q⟩ => ?_, F.bindsN hb, F.kp⟩
  refine ⟨_, (hbody ds d h cdv A outer s H E hg hr).nox, L, e, start_env r, ow0, fun o ho => ?_⟩
  subst ho
  exact fun v H' L' g _ rv => q v H' L' g.gx.go rv
theorem fn_HB (F : FunD K x qual params body scope [] [] f fd) (S : FnScope N ps scope) (ln : ∀ ds, Pr ds → ds.length + 1 = ps.length)
    (hb : ∀ (kV doc pm : Value) (an : Option Addr) (cdv ct : Value) (us : List Value), us.length = ps.length → bindArgs (PySem.W.fnOf x qual params body scope .none kV doc pm an cdv ct) ⟨us, []⟩ = pure (ps.zip us))
    (hbody : ∀ (q : Addr) (ds : List D), Pr ds → ∀ (cdv : Value) (A : Around) (outer : List Env) (s : Shared) (H : Hp) (E : XK), A.guards = some [] → Room k (A.deeper (envOfC qual scope s.heap.objs.size f cdv)) →
      PSs (cxOf CX0 P w K mg base N qual scope f cdv A outer s H E).nox body (tW K (some q) [] ((.own q :: ds).map some ++ List.replicate (N.length - (D.own q :: ds).length) none) fun o => ∃ d, o = .ret d ∧ R ds d)) :
    FnG P w K mg base (k + 1) f fd ps (spB K Pr R) ∧ Binds K fd ps [] ∧ PySem.W.keepIn K (.ref f) = true := by
  refine ⟨fng F S (fun vs H Q E ⟨L, q, us, ds, _, ev, r, _, h, _⟩ => by rw [ev, List.length_cons, r.len]; exact ln ds h) fun cdv A outer s H vs Q E hg hr ⟨L, q, us, ds, e, ev, r, ow, h, k⟩ => ?_, F.bindsN hb, F.kp⟩
  subst ev
  refine ⟨_, (hbody q ds h cdv A outer s H E hg hr).nox, L, e, start_env (.cons (.own q) r), ow, fun o ⟨d, ho, hd⟩ => ?_⟩
  subst ho
  exact fun v H' L' g o rv => k v H' L' d hd g.gx o rv
end
section
variable {X : Cx} {b : Option Addr} {M : Mem} {ρ : En} {d : D} {e a : Expr} {es : List Expr} {pos p apos : Pos} {Φ Θ : D → Prop} {Ω : Ou → Prop} {n k : Nat} {q : Addr} {t : List (Str × D)} {ds : List D} {rest : List Stmt}
theorem j_callH {f : Str} {ps : List Str} {R : List D → D → Prop} (G : OkH X.prog X.w X.K X.mg X.base k f ps (spD X.K R)) (gs : X.A.guards = some []) (hr : Room n X.A) (ha : PA X (e :: es) (tJA X.K ρ ds)) (h : R ds d) (hk : k ≤ n := by decide) (hg : Gl X f := by rfl)
    (hdb : (f == ("__debug__" : Str)) = false := by decide) (he : starEach (e :: es) X.env = (false, eval e X.env) :: starEach es X.env := by rfl) (hpl : (backTo pos (starEach es X.env)).any (·.1) = false := by rfl) :
    PE X (.Call (.Name f p) (e :: es) [] pos) (tJ X.K ρ d) := by
  obtain ⟨fa, fd, hm, F, B, kp⟩ := G.ex
  exact (pe_callG F gs (hr.mono hk) hg hm kp B pass0 ha hdb he hpl).imp fun σ H Q ⟨L, e, env, k⟩ => ⟨L, e, env, fun vs H1 L1 g1 r1 => ⟨L1, ds, d, g1.sub, by rw [List.append_nil]; exact r1, h, fun v H2 L2 g2 r2 => k v H2 L2 (g1.tr g2) r2⟩⟩
theorem e_callHB {f : Str} {ps : List Str} {Pr : List D → Prop} {R : List D → D → Prop} {Φs : List D → Prop} (G : OkH X.prog X.w X.K X.mg X.base k f ps (spB X.K Pr R)) (gs : X.A.guards = some []) (hr : Room n X.A) (ha : PA X (e :: es) (tAE X.K (some q) M ρ Φs)) (h : ∀ ds, Φs ds → ∃ r, ds = .own q :: r ∧ Pr r ∧ ∀ d, R r d → Θ d) (hk : k ≤ n := by decide) (hg : Gl X f := by rfl)
    (hdb : (f == ("__debug__" : Str)) = false := by decide) (he : starEach (e :: es) X.env = (false, eval e X.env) :: starEach es X.env := by rfl) (hpl : (backTo pos (starEach es X.env)).any (·.1) = false := by rfl) :
    PE X (.Call (.Name f p) (e :: es) [] pos) (tE X.K (some q) M ρ Θ) := by
  obtain ⟨fa, fd, hm, F, B, kp⟩ := G.ex
  refine (pe_callG F gs (hr.mono hk) hg hm kp B pass0 ha hdb he hpl).imp fun σ H Q ⟨L, e, env, ow, k⟩ => ⟨L, e, env, ow, fun vs H1 L1 ds hds g1 o1 r1 => ?_⟩
  obtain ⟨r, rfl, hp, hR⟩ := h ds hds
  obtain ⟨v, us, rfl, r2, r3⟩ := r1.cons_
  obtain rfl := r2.own_
  exact ⟨L1, q, us, r, g1.sub, by rw [List.append_nil], r3, o1.nil, hp, fun v H2 L2 d hd g2 o2 r2 => k v H2 L2 d (hR d hd) (g1.tr g2) (o1.back g2 o2) r2⟩
/-- d.clear(), d owned -/
theorem w_clear (j : Nat) (ho : PE X a (tJ X.K ρ (.own q))) (hM : M[j]? = some (q, .dct t)) (hbase : attributeBase a "clear" X.env (eval a X.env) = eval a X.env := by rfl) (hline : (apos.endLine == pos.line) = true := by rfl) {sp : Pos} (hsw : swapsWith (.Call (.Attribute a "clear" apos) [] [] pos) none sp.line X.env = pure false := by rfl) :
    PS X (.Expr (.Call (.Attribute a "clear" apos) [] [] pos) sp) (tW X.K b M ρ (· = .nxt ρ (M.set j (q, .dct [])))) :=
  (ps_expr (pe_dclear ho hbase hline) hsw).imp fun E σ H ⟨L, e, env, ow, k⟩ => ⟨L, e, env, fun v H1 L1 g1 r1 => by
    obtain rfl := r1.own_
    have o1 := ow.go g1
    obtain ⟨kvs, h, r, z⟩ := (o1.sh _ (List.mem_of_getElem? hM)).dct_
    obtain ⟨o2, g2, _⟩ := o1.put (u := .dK []) (d' := .dct []) g1.sub hM (.dct upd_same .nil (Nat.zero_le _))
    exact ⟨.inr (.inr (.inl ⟨rfl, .inl ⟨kvs, h⟩⟩)), q, kvs, rfl, rfl, h, k _ rfl σ _ L1 (g1.gx.gs.tr g2) o2 (env.ex g1.lx)⟩⟩
end
end K51
end
section
set_option Elab.async false
set_option linter.all false
set_option maxRecDepth 100000
set_option maxHeartbeats 4000000
/-! The walk: alike; sums right. -/
namespace K51
open PySem PySem.Spec PyProof.Rows L2
section
variable {P : Program} {w : World} {K : PySem.W.Frag} {mg : Str → Option Value} {base : Heap}
def okAl (d : D) : Prop := (∃ i : Int, d = .int i ∧ i.natAbs < 10 ^ 60) ∨ ∃ l, d = .lst l ∧ l.length ≤ 12 ∧ ∀ x ∈ l, Tl 2 x
def R_l_alike (ds : List D) (r : D) : Prop := ∃ d, okAl d ∧ ds = [d, d] ∧ r = .bl true
theorem ok_l_alike (T : Facts K mg) : OkH P w K mg base 1 "_law_alike" ["_law_found", "_law_due"] (spD K R_l_alike) := by
  obtain ⟨fd, F⟩ := T.fl_alike
  have hN : (["_law_found", "_law_due"] : List Str).Nodup := by decide +kernel
  refine ⟨_, fd, T.g_law_alike, fn_H F (N := ["_law_found", "_law_due"]) ⟨rfl, rfl, rfl, hN, rfl, by decide +kernel, by decide +kernel⟩ (fun ds d h => by obtain ⟨d, hd, rfl, rfl⟩ := h; rfl) (fun _ _ _ _ _ _ us hl => match us, hl with | [_, _], _ => rfl) ?_⟩
  rintro ds r ⟨d, hd, rfl, rfl⟩ cdv A0 outer0 s0 H0 E0 hgd hr
  have hsh : Shw d := hd.elim (fun h => .inl h) fun h => .inr (.inr h)
  have hu : (cxOf CX0 P w K mg base ["_law_found", "_law_due"] "_law_alike" (defScope sl_alike) (He.ga K "_law_alike") cdv A0 outer0 s0 H0 E0).nox.A.units + 16 < cLine := by have := hr.un; show (A0.deeper _).units + 16 < cLine; omega
  refine c_one (c_imS (w_pr (s_ret (d := .bl true) ?_)) fun o ho => ho)
  rcases hd with ⟨i, rfl, _⟩ | ⟨l, rfl, _, hl⟩
  · exact j_is (j_and (j_c cd_eqI (j_v 0) (j_v 1)) fun _ => j_one (j_c cd_eqS (j_f (bf_repr hgd hu hsh) T.b_repr (ja_cons (j_v 0) ja_nil)) (j_f (bf_repr hgd hu hsh) T.b_repr (ja_cons (j_v 1) ja_nil)))) (by rw [decide_eq_true rfl, decide_eq_true rfl]; rfl)
  · exact j_is (j_and (j_c (cd_two hr hl) (j_v 0) (j_v 1)) fun _ => j_one (j_c cd_eqS (j_f (bf_repr hgd hu hsh) T.b_repr (ja_cons (j_v 0) ja_nil)) (j_f (bf_repr hgd hu hsh) T.b_repr (ja_cons (j_v 1) ja_nil)))) (by rw [decide_eq_true rfl]; rfl)
end
end K51
end
section
set_option Elab.async false
set_option linter.all false
/-! Largest fill, least cover: in the abstract. -/
namespace K51
theorem sum_perm {l m : List Int} (h : l.Perm m) : l.sum = m.sum := by
  induction h with
  | nil => rfl
  | cons x _ ih => rw [List.sum_cons, List.sum_cons, ih]
  | swap x y l => simp only [List.sum_cons]; omega
  | trans _ _ a b => exact a.trans b
theorem sum_bd {l : List Int} {B : Int} (h : ∀ x ∈ l, 0 ≤ x ∧ x ≤ B) : 0 ≤ l.sum ∧ l.sum ≤ l.length * B := by
  induction l with
  | nil => exact ⟨Int.le_refl _, by simp⟩
  | cons x r ih =>
    obtain ⟨h1, h2⟩ := h x List.mem_cons_self
    obtain ⟨h3, h4⟩ := ih fun y hy => h y (List.mem_cons_of_mem _ hy)
    rw [List.sum_cons, List.length_cons, Int.natCast_add, Int.add_mul]
    omega
section
variable {α : Type} [DecidableEq α]
def sm (l : List α) (f : α → Int) : Int := (l.map f).sum
variable {l S A B : List α} {f g h : α → Int} {m : α → α → Bool} {rk rk2 : α → Nat} {u c x : α → Int} {P Q QA QB PA PB : α → Bool} {z : α}
theorem sm_cons {a : α} : sm (a :: l) f = f a + sm l f := List.sum_cons
theorem sm_le : (∀ x ∈ l, f x ≤ g x) → sm l f ≤ sm l g := by
  induction l with
  | nil => intro _; exact Int.le_refl _
  | cons a r ih =>
    intro h
    rw [sm_cons, sm_cons]
    have h1 := h a List.mem_cons_self
    have h2 := ih fun x hx => h x (List.mem_cons_of_mem _ hx)
    omega
theorem sm_eq (h : ∀ x ∈ l, f x = g x) : sm l f = sm l g := Int.le_antisymm (sm_le fun x hx => Int.le_of_eq (h x hx)) (sm_le fun x hx => Int.le_of_eq (h x hx).symm)
theorem sm_add : sm l (fun x => f x + g x) = sm l f + sm l g := by
  induction l with
  | nil => rfl
  | cons a r ih => rw [sm_cons, sm_cons, sm_cons, ih]; omega
theorem sm_zero : (∀ x ∈ l, f x = 0) → sm l f = 0 := by
  induction l with
  | nil => intro _; rfl
  | cons a r ih =>
    intro h
    rw [sm_cons, h a List.mem_cons_self, ih fun x hx => h x (List.mem_cons_of_mem _ hx)]
    rfl
theorem sm_nn (h : ∀ x ∈ l, 0 ≤ f x) : 0 ≤ sm l f := by
  have := sm_le (l := l) (f := fun _ => 0) (g := f) h
  rwa [sm_zero fun _ _ => rfl] at this
theorem sm_pt {k : Int} (nd : l.Nodup) (hz : z ∈ l) : sm l (fun x => if x = z then k else 0) = k := by
  induction l with
  | nil => cases hz
  | cons a r ih =>
    have nd' := List.nodup_cons.mp nd
    rw [sm_cons]
    by_cases e : a = z
    · rw [if_pos e, sm_zero fun x hx => if_neg fun (w : x = z) => nd'.1 (by rw [e, ← w]; exact hx)]
      omega
    · rw [if_neg e, ih nd'.2 ((List.mem_cons.mp hz).resolve_left fun w => e w.symm)]
      omega
theorem sm_pick (h : ∀ x ∈ l, 0 ≤ f x) (p : 0 < sm l f) : ∃ x ∈ l, 0 < f x := by
  apply Classical.byContradiction
  intro n
  have : sm l f ≤ sm l fun _ => 0 := sm_le fun x hx => by
    apply Classical.byContradiction
    intro w
    exact n ⟨x, hx, by omega⟩
  rw [sm_zero fun _ _ => rfl] at this
  omega
/-- pools nest, or have no stream in common -/
def Lam (S A : List α) (m : α → α → Bool) (rk : α → Nat) : Prop := ∀ s ∈ S, ∀ p ∈ A, ∀ q ∈ A, m s p = true → m s q = true →
  p = q ∨ (rk q < rk p ∧ ∀ t ∈ S, m t p = true → m t q = true) ∨ (rk p < rk q ∧ ∀ t ∈ S, m t q = true → m t p = true)
def cov (A : List α) (m : α → α → Bool) (Q : α → Bool) (s : α) : Bool := A.any fun p => Q p && m s p
theorem cov_iff {s : α} : cov A m Q s = true ↔ ∃ p ∈ A, Q p = true ∧ m s p = true := by
  unfold cov
  rw [List.any_eq_true]
  exact ⟨fun ⟨p, a, b⟩ => ⟨p, a, (Bool.and_eq_true _ _ ▸ b)⟩, fun ⟨p, a, b⟩ => ⟨p, a, by rw [b.1, b.2]; rfl⟩⟩
def wt (A : List α) (u : α → Int) (Q : α → Bool) : Int := sm A fun p => if Q p then u p else 0
def unc (S A B : List α) (m : α → α → Bool) (c : α → Int) (QA QB : α → Bool) : Int := sm S fun s => if cov A m QA s || cov B m QB s then 0 else c s
def cost (S A B : List α) (m : α → α → Bool) (u c : α → Int) (QA QB : α → Bool) : Int := wt A u QA + wt B u QB + unc S A B m c QA QB
/-- p lies in q -/
def inn (S : List α) (m : α → α → Bool) (rk : α → Nat) (p q : α) : Bool := decide (p = q) || (decide (rk q < rk p) && S.all fun t => !m t p || m t q)
theorem inn_iff {p q : α} : inn S m rk p q = true ↔ p = q ∨ (rk q < rk p ∧ ∀ t ∈ S, m t p = true → m t q = true) := by
  unfold inn
  rw [Bool.or_eq_true, Bool.and_eq_true, decide_eq_true_iff, decide_eq_true_iff, List.all_eq_true]
  refine or_congr_right (and_congr_right fun _ => forall_congr' fun t => forall_congr' fun _ => ?_)
  cases m t p <;> cases m t q <;> decide
theorem inn_m {p q s : α} (h : inn S m rk p q = true) (hs : s ∈ S) (hp : m s p = true) : m s q = true := by
  rcases inn_iff.mp h with rfl | ⟨_, w⟩
  · exact hp
  · exact w s hs hp
theorem inn_tot (L : Lam S A m rk) {s p q : α} (hs : s ∈ S) (hp : p ∈ A) (hq : q ∈ A) (h1 : m s p = true) (h2 : m s q = true) : inn S m rk p q = true ∨ inn S m rk q p = true := by
  rcases L s hs p hp q hq h1 h2 with rfl | h | h
  · exact .inl (inn_iff.mpr (.inl rfl))
  · exact .inl (inn_iff.mpr (.inr h))
  · exact .inr (inn_iff.mpr (.inr h))
/-- an outermost one over a stream -/
theorem outer_ {s : α} : ∀ (n : Nat) (p : α), rk p ≤ n → p ∈ A → Q p = true → m s p = true → ∃ q ∈ A, Q q = true ∧ m s q = true ∧ ∀ r ∈ A, Q r = true → m s r = true → ¬ rk r < rk q
  | 0, p, h, hp, hq, hm => ⟨p, hp, hq, hm, fun r _ _ _ => by omega⟩
  | n + 1, p, h, hp, hq, hm => by
    by_cases e : ∃ r ∈ A, Q r = true ∧ m s r = true ∧ rk r < rk p
    · obtain ⟨r, h1, h2, h3, h4⟩ := e
      exact outer_ n r (by omega) h1 h2 h3
    · exact ⟨p, hp, hq, hm, fun r h1 h2 h3 h4 => e ⟨r, h1, h2, h3, h4⟩⟩
theorem outer (s : α) (h : cov A m Q s = true) : ∃ q ∈ A, Q q = true ∧ m s q = true ∧ ∀ r ∈ A, Q r = true → m s r = true → ¬ rk r < rk q := by
  obtain ⟨p, h1, h2, h3⟩ := cov_iff.mp h
  exact outer_ (rk p) p (Nat.le_refl _) h1 h2 h3
/-- two choices made one that covers what both do, and one that covers what either does -/
theorem uncross (L : Lam S A m rk) (P Q : α → Bool) : ∃ I U : α → Bool, wt A u I + wt A u U = wt A u P + wt A u Q ∧ (∀ s ∈ S, cov A m P s = true → cov A m Q s = true → cov A m I s = true) ∧ (∀ s ∈ S, cov A m P s = true ∨ cov A m Q s = true → cov A m U s = true) := by
  let uq : α → Bool := fun x => A.any fun q => Q q && inn S m rk x q
  let up : α → Bool := fun x => A.any fun q => P q && inn S m rk x q
  have uqI : ∀ {x}, uq x = true ↔ ∃ q ∈ A, Q q = true ∧ inn S m rk x q = true := fun {x} => by
    show (A.any fun q => Q q && inn S m rk x q) = true ↔ _
    rw [List.any_eq_true]
    exact exists_congr fun q => and_congr_right fun _ => by rw [Bool.and_eq_true]
  have upI : ∀ {x}, up x = true ↔ ∃ q ∈ A, P q = true ∧ inn S m rk x q = true := fun {x} => by
    show (A.any fun q => P q && inn S m rk x q) = true ↔ _
    rw [List.any_eq_true]
    exact exists_congr fun q => and_congr_right fun _ => by rw [Bool.and_eq_true]
  have self : ∀ x, inn S m rk x x = true := fun x => inn_iff.mpr (.inl rfl)
  refine ⟨fun x => (P x && uq x) || (Q x && up x), fun x => (P x && Q x) || ((P x && !uq x) || (Q x && !up x)), ?_, fun s hs hp hq => ?_, fun s hs h => ?_⟩
  · unfold wt
    rw [← sm_add, ← sm_add]
    refine sm_eq fun x hx => ?_
    have e1 : Q x = true → uq x = true := fun h => uqI.mpr ⟨x, hx, h, self x⟩
    have e2 : P x = true → up x = true := fun h => upI.mpr ⟨x, hx, h, self x⟩
    show (if ((P x && uq x) || (Q x && up x)) = true then u x else 0) + (if ((P x && Q x) || ((P x && !uq x) || (Q x && !up x))) = true then u x else 0) = _
    revert e1 e2
    cases P x <;> cases Q x <;> cases uq x <;> cases up x <;> simp
  · obtain ⟨p, p1, p2, p3⟩ := cov_iff.mp hp
    obtain ⟨q, q1, q2, q3⟩ := cov_iff.mp hq
    rcases inn_tot L hs p1 q1 p3 q3 with h | h
    · exact cov_iff.mpr ⟨p, p1, by show ((P p && uq p) || (Q p && up p)) = true; rw [p2, uqI.mpr ⟨q, q1, q2, h⟩]; rfl, p3⟩
    · exact cov_iff.mpr ⟨q, q1, by show ((P q && uq q) || (Q q && up q)) = true; rw [q2, upI.mpr ⟨p, p1, p2, h⟩]; simp, q3⟩
  · have h' : cov A m (fun x => P x || Q x) s = true := by
      rcases h with h | h
      · obtain ⟨p, p1, p2, p3⟩ := cov_iff.mp h
        exact cov_iff.mpr ⟨p, p1, by show (P p || Q p) = true; rw [p2]; rfl, p3⟩
      · obtain ⟨p, p1, p2, p3⟩ := cov_iff.mp h
        exact cov_iff.mpr ⟨p, p1, by show (P p || Q p) = true; rw [p2, Bool.or_true], p3⟩
    obtain ⟨q, q1, q2, q3, q4⟩ := outer (rk := rk) s h'
    have top : ∀ r ∈ A, (P r || Q r) = true → inn S m rk q r = true → q = r := fun r hr h1 h2 => by
      rcases inn_iff.mp h2 with e | ⟨e, e2⟩
      · exact e
      · exact absurd e (q4 r hr h1 (e2 s hs q3))
    refine cov_iff.mpr ⟨q, q1, ?_, q3⟩
    show ((P q && Q q) || ((P q && !uq q) || (Q q && !up q))) = true
    have f1 : uq q = true → Q q = true := fun w => by
      obtain ⟨r, r1, r2, r3⟩ := uqI.mp w
      rw [top r r1 (by rw [r2, Bool.or_true]) r3]; exact r2
    have f2 : up q = true → P q = true := fun w => by
      obtain ⟨r, r1, r2, r3⟩ := upI.mp w
      rw [top r r1 (by rw [r2]; rfl) r3]; exact r2
    have q2' : (P q || Q q) = true := q2
    revert f1 f2 q2'
    cases P q <;> cases Q q <;> cases uq q <;> cases up q <;> simp
/-- the outermost alone -/
theorem thin (L : Lam S A m rk) (Q : α → Bool) : ∃ P : α → Bool, (∀ p, P p = true → Q p = true) ∧ (∀ s ∈ S, cov A m Q s = true → cov A m P s = true) ∧ ∀ s ∈ S, ∀ p ∈ A, ∀ q ∈ A, P p = true → P q = true → m s p = true → m s q = true → p = q := by
  let hi : α → Bool := fun x => A.any fun q => Q q && (!decide (x = q) && inn S m rk x q)
  have hiI : ∀ {x}, hi x = true ↔ ∃ q ∈ A, Q q = true ∧ x ≠ q ∧ inn S m rk x q = true := fun {x} => by
    show (A.any fun q => Q q && (!decide (x = q) && inn S m rk x q)) = true ↔ _
    rw [List.any_eq_true]
    refine exists_congr fun q => and_congr_right fun _ => ?_
    rw [Bool.and_eq_true, Bool.and_eq_true]
    by_cases e : x = q <;> simp [e]
  refine ⟨fun x => Q x && !hi x, fun p h => (Bool.and_eq_true _ _ ▸ h : Q p = true ∧ _).1, fun s hs h => ?_, fun s hs p hp q hq h1 h2 m1 m2 => ?_⟩
  · obtain ⟨q, q1, q2, q3, q4⟩ := outer (rk := rk) s h
    refine cov_iff.mpr ⟨q, q1, ?_, q3⟩
    show (Q q && !hi q) = true
    rw [q2, Bool.true_and]
    cases e : hi q with
    | false => rfl
    | true =>
      obtain ⟨r, r1, r2, r3, r4⟩ := hiI.mp e
      rcases inn_iff.mp r4 with e | ⟨e, e2⟩
      · exact absurd e r3
      · exact absurd e (q4 r r1 r2 (e2 s hs q3))
  · have h1' : Q p = true ∧ hi p = false := by
      have : (Q p && !hi p) = true := h1
      revert this
      cases Q p <;> cases hi p <;> simp
    have h2' : Q q = true ∧ hi q = false := by
      have : (Q q && !hi q) = true := h2
      revert this
      cases Q q <;> cases hi q <;> simp
    apply Classical.byContradiction
    intro n
    rcases inn_tot L hs hp hq m1 m2 with h | h
    · have := hiI.mpr ⟨q, hq, h2'.1, n, h⟩
      rw [h1'.2] at this; cases this
    · have := hiI.mpr ⟨p, hp, h1'.1, fun w => n w.symm, h⟩
      rw [h2'.2] at this; cases this
/-! fills -/
structure Fl (S A B : List α) (m : α → α → Bool) (u c x : α → Int) : Prop where
  b : ∀ s ∈ S, 0 ≤ x s ∧ x s ≤ c s
  a : ∀ p ∈ A, (sm S fun s => if m s p then x s else 0) ≤ u p
  k : ∀ p ∈ B, (sm S fun s => if m s p then x s else 0) ≤ u p
theorem cov_bound (h : ∀ s ∈ S, 0 ≤ x s) : ∀ {A : List α}, (∀ p ∈ A, (sm S fun s => if m s p then x s else 0) ≤ u p) → (sm S fun s => if cov A m Q s then x s else 0) ≤ wt A u Q
  | [], _ => by
    show sm S (fun s => if false = true then x s else 0) ≤ 0
    rw [sm_zero fun s _ => if_neg Bool.false_ne_true]
    exact Int.le_refl _
  | p :: r, ha => by
    have ih := cov_bound h (A := r) fun q hq => ha q (List.mem_cons_of_mem _ hq)
    have h1 := ha p List.mem_cons_self
    show _ ≤ sm (p :: r) _
    rw [sm_cons]
    show _ ≤ (if Q p then u p else 0) + wt r u Q
    have e : (sm S fun s => if cov (p :: r) m Q s then x s else 0) ≤ (if Q p then (sm S fun s => if m s p then x s else 0) else 0) + sm S fun s => if cov r m Q s then x s else 0 := by
      cases q : Q p with
      | true =>
        rw [if_pos rfl, ← sm_add]
        refine sm_le fun s hs => ?_
        have z := h s hs
        show (if ((Q p && m s p) || cov r m Q s) = true then x s else 0) ≤ _
        rw [q]
        cases m s p <;> cases cov r m Q s <;> simp <;> omega
      | false =>
        rw [if_neg Bool.false_ne_true, Int.zero_add]
        refine sm_le fun s hs => ?_
        show (if ((Q p && m s p) || cov r m Q s) = true then x s else 0) ≤ _
        rw [q]
        exact Int.le_refl _
    cases q : Q p with
    | true => rw [q, if_pos rfl] at e; rw [if_pos rfl]; omega
    | false => rw [q, if_neg Bool.false_ne_true] at e; rw [if_neg Bool.false_ne_true]; omega
/-- no fill has more than a cut -/
theorem weak (F : Fl S A B m u c x) : sm S x ≤ cost S A B m u c QA QB := by
  have h0 : ∀ s ∈ S, 0 ≤ x s := fun s hs => (F.b s hs).1
  have h1 := cov_bound (Q := QA) h0 F.a
  have h2 := cov_bound (Q := QB) h0 F.k
  have h3 : sm S x ≤ (sm S fun s => if cov A m QA s then x s else 0) + (sm S fun s => if cov B m QB s then x s else 0) + unc S A B m c QA QB := by
    unfold unc
    rw [← sm_add, ← sm_add]
    refine sm_le fun s hs => ?_
    have z := F.b s hs
    show _ ≤ (if cov A m QA s = true then x s else 0) + (if cov B m QB s = true then x s else 0) + (if (cov A m QA s || cov B m QB s) = true then 0 else c s)
    cases cov A m QA s <;> cases cov B m QB s <;> simp <;> omega
  unfold cost
  omega
def dec (f : α → Int) (z : α) : α → Int := fun s => if s = z then f s - 1 else f s
theorem sm_dec (nd : S.Nodup) (hz : z ∈ S) : sm S (dec f z) = sm S f - 1 := by
  have : sm S f = sm S (fun s => dec f z s + if s = z then 1 else 0) := sm_eq fun s _ => by
    unfold dec
    by_cases e : s = z <;> simp [e]
  rw [this, sm_add, sm_pt nd hz]
  omega
theorem unc_dec (nd : S.Nodup) (hz : z ∈ S) : unc S A B m c QA QB = unc S A B m (dec c z) QA QB + if cov A m QA z || cov B m QB z then 0 else 1 := by
  have e := sm_pt (k := if cov A m QA z || cov B m QB z then (0 : Int) else 1) nd hz
  rw [← e]
  unfold unc
  rw [← sm_add]
  refine sm_eq fun s _ => ?_
  unfold dec
  by_cases e : s = z
  · rw [e]; cases cov A m QA z <;> cases cov B m QB z <;> simp
  · simp [e]
/-- one more covers a stream more -/
theorem unc_more {PA PB : α → Bool} (nd : S.Nodup) (hz : z ∈ S) (hc : ∀ s ∈ S, 0 ≤ c s) (h1 : ∀ s ∈ S, cov A m QA s = true → cov A m PA s = true) (h2 : ∀ s ∈ S, cov B m QB s = true → cov B m PB s = true) (n : (cov A m QA z || cov B m QB z) = false) (y : (cov A m PA z || cov B m PB z) = true) :
    unc S A B m c PA PB + c z ≤ unc S A B m c QA QB := by
  have e := sm_pt (k := c z) nd hz
  have : unc S A B m c PA PB + (sm S fun x => if x = z then c z else 0) ≤ unc S A B m c QA QB := by
    unfold unc
    rw [← sm_add]
    refine sm_le fun s hs => ?_
    have z0 := hc s hs
    by_cases e : s = z
    · subst e
      rw [if_pos y, if_pos rfl, n]
      simp
    · rw [if_neg e]
      have a1 := h1 s hs
      have a2 := h2 s hs
      revert a1 a2
      cases cov A m QA s <;> cases cov B m QB s <;> cases cov A m PA s <;> cases cov B m PB s <;> simp <;> omega
  omega
theorem wt_dec {Q : α → Bool} (nd : A.Nodup) (un : ∀ p ∈ A, ∀ q ∈ A, Q p = true → Q q = true → m z p = true → m z q = true → p = q) :
    wt A u Q = wt A (fun p => if m z p then u p - 1 else u p) Q + if cov A m Q z then 1 else 0 := by
  have e : (sm A fun p => if Q p && m z p then 1 else 0) = if cov A m Q z then 1 else 0 := by
    cases h : cov A m Q z with
    | false =>
      refine sm_zero fun p hp => ?_
      cases w : (Q p && m z p) with
      | false => rfl
      | true =>
        have w' : Q p = true ∧ m z p = true := by rwa [Bool.and_eq_true] at w
        have := cov_iff.mpr ⟨p, hp, w'⟩
        rw [h] at this; cases this
    | true =>
      obtain ⟨p, hp, h1, h2⟩ := cov_iff.mp h
      have : sm A (fun p => if Q p && m z p then (1 : Int) else 0) = sm A fun q => if q = p then 1 else 0 := sm_eq fun q hq => by
        by_cases w : q = p
        · rw [w, h1, h2]; simp
        · rw [if_neg w]
          cases w1 : Q q <;> cases w2 : m z q <;> simp
          exact w (un q hq p hp w1 h1 w2 h2)
      rw [this, sm_pt nd hp]
      rfl
  rw [← e]
  unfold wt
  rw [← sm_add]
  refine sm_eq fun p _ => ?_
  cases Q p <;> cases h : m z p <;> simp [h]
theorem wt_less (hu : ∀ p ∈ A, 0 ≤ u p) (h : ∀ p, P p = true → Q p = true) : wt A u P ≤ wt A u Q := sm_le fun p hp => by
  have := hu p hp
  have h1 := h p
  revert h1
  cases P p <;> cases Q p <;> simp <;> omega
theorem unc_less {PA PB : α → Bool} (hc : ∀ s ∈ S, 0 ≤ c s) (h1 : ∀ s ∈ S, cov A m QA s = true → cov A m PA s = true) (h2 : ∀ s ∈ S, cov B m QB s = true → cov B m PB s = true) : unc S A B m c PA PB ≤ unc S A B m c QA QB := sm_le fun s hs => by
  have z0 := hc s hs
  have a1 := h1 s hs
  have a2 := h2 s hs
  revert a1 a2
  cases cov A m QA s <;> cases cov B m QB s <;> cases cov A m PA s <;> cases cov B m PB s <;> simp <;> omega
theorem wt_free {p : α} {u : α → Int} (h : u p = 0) : wt A u (fun q => Q q || decide (q = p)) = wt A u Q := sm_eq fun q _ => by
  by_cases e : q = p
  · rw [e, h]; simp
  · simp [e]
theorem cov_free {p s : α} (h : cov A m Q s = true) : cov A m (fun q => Q q || decide (q = p)) s = true := by
  obtain ⟨q, h1, h2, h3⟩ := cov_iff.mp h
  exact cov_iff.mpr ⟨q, h1, by show (Q q || decide (q = p)) = true; rw [h2]; rfl, h3⟩
theorem cov_self {p s : α} (hp : p ∈ A) (h : m s p = true) : cov A m (fun q => Q q || decide (q = p)) s = true := cov_iff.mpr ⟨p, hp, by show (Q p || decide (p = p)) = true; rw [decide_eq_true rfl, Bool.or_true], h⟩
theorem sm_inc (nd : S.Nodup) (hz : z ∈ S) {p : α} : (sm S fun s => if m s p then x s + (if s = z then 1 else 0) else 0) = (sm S fun s => if m s p then x s else 0) + if m z p then 1 else 0 := by
  have e := sm_pt (k := if m z p then (1 : Int) else 0) nd hz
  rw [← e, ← sm_add]
  refine sm_eq fun s _ => ?_
  by_cases w : s = z
  · subst w; cases m s p <;> simp
  · cases m s p <;> simp [w]
/-- some fill has as much as some cut -/
theorem strong (LA : Lam S A m rk) (LB : Lam S B m rk2) (ns : S.Nodup) (na : A.Nodup) (nb : B.Nodup) : ∀ (n : Nat) (u c : α → Int), (∀ s ∈ S, 0 ≤ c s) → (∀ p ∈ A, 0 ≤ u p) → (∀ p ∈ B, 0 ≤ u p) → (sm S c).toNat = n → ∃ (x : α → Int) (QA QB : α → Bool), Fl S A B m u c x ∧ cost S A B m u c QA QB = sm S x := by
  intro n
  induction n with
  | zero =>
    intro u c hc ha hb e
    have n0 := sm_nn hc
    have e0 : sm S c = 0 := by omega
    have zz : ∀ (p : α), (sm S fun s => if m s p then (0 : Int) else 0) = 0 := fun p => sm_zero fun s _ => by split <;> rfl
    refine ⟨fun _ => 0, fun _ => false, fun _ => false, ⟨fun s hs => ⟨Int.le_refl _, hc s hs⟩, fun p hp => by rw [zz]; exact ha p hp, fun p hp => by rw [zz]; exact hb p hp⟩, ?_⟩
    have c0 : ∀ (A : List α) s, cov A m (fun _ => false) s = false := fun A s => by
      unfold cov
      rw [List.any_eq_false]
      intro p _
      simp
    have w0 : ∀ (A : List α), wt A u (fun _ => false) = 0 := fun A => sm_zero fun _ _ => rfl
    unfold cost
    rw [w0, w0]
    show 0 + 0 + unc S A B m c _ _ = _
    unfold unc
    rw [sm_eq (g := c) fun s _ => by rw [c0, c0]; rfl, e0, sm_zero fun _ _ => rfl]
    rfl
  | succ n ih =>
    intro u c hc ha hb e
    obtain ⟨z, hz, cz⟩ := sm_pick hc (by omega)
    have hc1 : ∀ s ∈ S, 0 ≤ dec c z s := fun s hs => by
      have := hc s hs
      unfold dec
      split
      · next e => subst e; omega
      · exact this
    have e1 : (sm S (dec c z)).toNat = n := by rw [sm_dec ns hz]; omega
    have lec : ∀ s, dec c z s ≤ c s := fun s => by unfold dec; split <;> omega
    obtain ⟨x, QA, QB, F, E⟩ := ih u (dec c z) hc1 ha hb e1
    have Fc : Fl S A B m u c x := ⟨fun s hs => ⟨(F.b s hs).1, Int.le_trans (F.b s hs).2 (lec s)⟩, F.a, F.k⟩
    have ud := fun (QA QB : α → Bool) => unc_dec (A := A) (B := B) (m := m) (c := c) (QA := QA) (QB := QB) ns hz
    by_cases hq : (cov A m QA z || cov B m QB z) = true
    · refine ⟨x, QA, QB, Fc, ?_⟩
      have := ud QA QB
      rw [if_pos hq] at this
      unfold cost at E ⊢
      omega
    have hq' : (cov A m QA z || cov B m QB z) = false := by revert hq; cases (cov A m QA z || cov B m QB z) <;> simp
    have cQ : cost S A B m u c QA QB = sm S x + 1 := by
      have := ud QA QB
      rw [if_neg hq] at this
      unfold cost at E ⊢
      omega
    by_cases hm : ∃ PA PB, cost S A B m u c PA PB ≤ sm S x
    · obtain ⟨PA, PB, h⟩ := hm
      exact ⟨x, PA, PB, Fc, Int.le_antisymm h (weak Fc)⟩
    have low : ∀ PA PB, sm S x + 1 ≤ cost S A B m u c PA PB := fun PA PB => by
      apply Classical.byContradiction
      intro w
      exact hm ⟨PA, PB, by omega⟩
    have ha1 : ∀ p ∈ A, 0 ≤ (fun p => if m z p then u p - 1 else u p) p := fun p hp => by
      have h0 := ha p hp
      show 0 ≤ if m z p then u p - 1 else u p
      split
      · next mz =>
        apply Classical.byContradiction
        intro w
        have u0 : u p = 0 := by omega
        have l1 := low (fun q => QA q || decide (q = p)) QB
        have l2 := unc_more (A := A) (B := B) (m := m) (QA := QA) (QB := QB) (PA := fun q => QA q || decide (q = p)) (PB := QB) ns hz hc (fun s _ h => cov_free h) (fun _ _ h => h) hq' (by rw [cov_self hp mz]; rfl)
        unfold cost at l1 cQ
        rw [wt_free u0] at l1
        omega
      · exact h0
    have hb1 : ∀ p ∈ B, 0 ≤ (fun p => if m z p then u p - 1 else u p) p := fun p hp => by
      have h0 := hb p hp
      show 0 ≤ if m z p then u p - 1 else u p
      split
      · next mz =>
        apply Classical.byContradiction
        intro w
        have u0 : u p = 0 := by omega
        have l1 := low QA (fun q => QB q || decide (q = p))
        have l2 := unc_more (A := A) (B := B) (m := m) (QA := QA) (QB := QB) (PA := QA) (PB := fun q => QB q || decide (q = p)) ns hz hc (fun _ _ h => h) (fun s _ h => cov_free h) hq' (by rw [cov_self hp mz, Bool.or_true])
        unfold cost at l1 cQ
        rw [wt_free u0] at l1
        omega
      · exact h0
    obtain ⟨x1, RA, RB, F1, E1⟩ := ih (fun p => if m z p then u p - 1 else u p) (dec c z) hc1 ha1 hb1 e1
    obtain ⟨PA, t1, t2, t3⟩ := thin LA RA
    obtain ⟨PB, t4, t5, t6⟩ := thin LB RB
    have wk := weak (QA := PA) (QB := PB) F1
    have E2 : cost S A B m (fun p => if m z p then u p - 1 else u p) (dec c z) PA PB = sm S x1 := by
      have i1 := wt_less ha1 t1
      have i2 := wt_less hb1 t4
      have i3 := unc_less (A := A) (B := B) (m := m) hc1 t2 t5
      unfold cost at E1 wk ⊢
      omega
    have d1 := wt_dec (u := u) (m := m) (z := z) na fun p hp q hq => t3 z hz p hp q hq
    have d2 := wt_dec (u := u) (m := m) (z := z) nb fun p hp q hq => t6 z hz p hp q hq
    have d3 := ud PA PB
    let x' : α → Int := fun s => x1 s + if s = z then 1 else 0
    have sx : sm S x' = sm S x1 + 1 := by
      show sm S (fun s => x1 s + if s = z then 1 else 0) = _
      rw [sm_add, sm_pt ns hz]
    have F' : Fl S A B m u c x' := by
      refine ⟨fun s hs => ?_, fun p hp => ?_, fun p hp => ?_⟩
      · have := F1.b s hs
        have hd : dec c z s = if s = z then c s - 1 else c s := rfl
        rw [hd] at this
        show 0 ≤ x1 s + (if s = z then 1 else 0) ∧ x1 s + (if s = z then 1 else 0) ≤ c s
        by_cases e : s = z
        · rw [if_pos e] at this ⊢; omega
        · rw [if_neg e] at this ⊢; omega
      · have := F1.a p hp
        show (sm S fun s => if m s p then x1 s + (if s = z then 1 else 0) else 0) ≤ u p
        rw [sm_inc ns hz]
        have this : _ ≤ if m z p then u p - 1 else u p := this
        revert this
        cases m z p <;> simp <;> omega
      · have := F1.k p hp
        show (sm S fun s => if m s p then x1 s + (if s = z then 1 else 0) else 0) ≤ u p
        rw [sm_inc ns hz]
        have this : _ ≤ if m z p then u p - 1 else u p := this
        revert this
        cases m z p <;> simp <;> omega
    by_cases both : cov A m PA z = true ∧ cov B m PB z = true
    · refine ⟨x', QA, QB, F', ?_⟩
      obtain ⟨b1, b2⟩ := both
      obtain ⟨IA, UA, a1, a2, a3⟩ := uncross (u := u) LA QA PA
      obtain ⟨IB, UB, k1, k2, k3⟩ := uncross (u := u) LB QB PB
      have l1 := low UA IB
      have l2 := low IA UB
      rw [b1, b2] at d3
      rw [b1] at d1
      rw [b2] at d2
      have nA : cov A m QA z = false := by revert hq'; cases cov A m QA z <;> simp
      have nB : cov B m QB z = false := by revert hq'; cases cov A m QA z <;> cases cov B m QB z <;> simp
      have big : unc S A B m c UA IB + unc S A B m c IA UB + c z ≤ unc S A B m c QA QB + unc S A B m c PA PB := by
        have e := sm_pt (k := c z) ns hz
        have : unc S A B m c UA IB + unc S A B m c IA UB + (sm S fun x => if x = z then c z else 0) ≤ unc S A B m c QA QB + unc S A B m c PA PB := by
          unfold unc
          rw [← sm_add, ← sm_add, ← sm_add]
          refine sm_le fun s hs => ?_
          have z0 := hc s hs
          have g1 := a2 s hs
          have g2 := a3 s hs
          have g3 := k2 s hs
          have g4 := k3 s hs
          by_cases e : s = z
          · subst e
            rw [nA, nB, b1, b2]
            rw [g2 (.inr b1), g4 (.inr b2)]
            simp
          · rw [if_neg e]
            revert g1 g2 g3 g4
            cases cov A m QA s <;> cases cov B m QB s <;> cases cov A m PA s <;> cases cov B m PB s <;> cases cov A m UA s <;> cases cov B m IB s <;> cases cov A m IA s <;> cases cov B m UB s <;> simp <;> omega
        omega
      have w' := weak (QA := QA) (QB := QB) F'
      simp at d1 d2 d3
      unfold cost at E2 l1 l2 cQ w' ⊢
      omega
    · refine ⟨x', PA, PB, F', ?_⟩
      have w' := weak (QA := PA) (QB := PB) F'
      unfold cost at E2 w' ⊢
      revert both d1 d2 d3
      cases cov A m PA z <;> cases cov B m PB z <;> simp <;> omega
end
end K51
end
section
set_option Elab.async false
set_option linter.all false
set_option maxRecDepth 100000
set_option maxHeartbeats 1000000
/-! Largest fill, least cover: the plans. -/
namespace K51
open PySem PySem.Spec PyProof.Rows L2
/-! chains nest -/
theorem chn_cons {x : Str} {g : Gr} {r : Tb Gr} {o : Option Str} : chn ((x, g) :: r) o = if o = some x then x :: chn r g.a else chn r o := rfl
theorem chn_suf : ∀ {l : Tb Gr} {o : Option Str} {y : Str}, WR l → y ∈ chn l o → chn l (some y) <:+ chn l o
  | [], _, _, _, h => by cases h
  | (x, g) :: r, o, y, W, h => by
    obtain ⟨w1, w2, w3⟩ := W
    have sk : ∀ o', y ∈ chn r o' → chn ((x, g) :: r) (some y) <:+ chn r o' := fun o' h' => by
      have yx : y ≠ x := fun e => w1 (e ▸ chn_sub r o' y h')
      rw [chn_cons, if_neg fun e => yx (Option.some.inj e)]
      exact chn_suf w3 h'
    rw [chn_cons] at h
    by_cases e : o = some x
    · rw [if_pos e] at h
      rcases List.mem_cons.mp h with q | q
      · rw [q, ← e]; exact List.suffix_refl _
      · rw [chn_cons (o := o), if_pos e]
        exact (sk _ q).trans (List.suffix_cons _ _)
    · rw [if_neg e] at h
      rw [chn_cons (o := o), if_neg e]
      exact sk _ h
theorem chn_hd : ∀ {l : Tb Gr} {y : Str}, y ∈ keys l → ∃ t, chn l (some y) = y :: t
  | (x, g) :: r, y, h => by
    rw [chn_cons]
    by_cases e : y = x
    · rw [if_pos (by rw [e])]; exact ⟨_, by rw [e]⟩
    · rw [if_neg fun q => e (Option.some.inj q)]; exact chn_hd ((List.mem_cons.mp h).resolve_left e)
theorem chn_in {l : Tb Gr} {y z : Str} (W : WR l) (hz : z ∈ keys l) (h : chn l (some z) <:+ chn l (some y)) : ∀ o', y ∈ chn l o' → z ∈ chn l o' := fun o' hy => by
  obtain ⟨t, e⟩ := chn_hd hz
  exact (h.trans (chn_suf W hy)).subset (by rw [e]; exact List.mem_cons_self)
theorem chn_lam {l : Tb Gr} {o : Option Str} {y z : Str} (W : WR l) (hy : y ∈ chn l o) (hz : z ∈ chn l o) :
    y = z ∨ ((chn l (some z)).length < (chn l (some y)).length ∧ ∀ o', y ∈ chn l o' → z ∈ chn l o') ∨ ((chn l (some y)).length < (chn l (some z)).length ∧ ∀ o', z ∈ chn l o' → y ∈ chn l o') := by
  have sy := chn_suf W hy
  have sz := chn_suf W hz
  have ky := chn_sub l o y hy
  have kz := chn_sub l o z hz
  rcases Nat.lt_trichotomy (chn l (some z)).length (chn l (some y)).length with h | h | h
  · exact .inr (.inl ⟨h, chn_in W kz (List.suffix_of_suffix_length_le sz sy (Nat.le_of_lt h))⟩)
  · have e := (List.suffix_of_suffix_length_le sz sy (Nat.le_of_eq h)).eq_of_length h
    obtain ⟨t, e1⟩ := chn_hd kz
    obtain ⟨t2, e2⟩ := chn_hd ky
    rw [e1, e2] at e
    exact .inl (List.cons.inj e).1.symm
  · exact .inr (.inr ⟨h, chn_in W ky (List.suffix_of_suffix_length_le sy sz (Nat.le_of_lt h))⟩)
/-! over a stream -/
theorem over_eq {p : Pa} {s : Str} {m : Sm} (h : gt p.st s = some m) : over p s = s :: (chn p.ho.reverse m.h ++ chn p.ki.reverse m.k ++ [("pipe" : Str)]) := by unfold over; rw [h]
theorem nd_sh {p : Pa} (W : WP p) {x : Str} (h1 : x ∈ keys p.st) (h2 : x ∈ keys p.ho) : False := by
  have h := W.nd
  rw [List.append_assoc] at h
  exact (List.nodup_append.mp h).2.2 x h1 x (List.mem_append_left _ h2) rfl
theorem nd_sk {p : Pa} (W : WP p) {x : Str} (h1 : x ∈ keys p.st) (h2 : x ∈ keys p.ki) : False := by
  have h := W.nd
  rw [List.append_assoc] at h
  exact (List.nodup_append.mp h).2.2 x h1 x (List.mem_append_right _ h2) rfl
theorem nd_hk {p : Pa} (W : WP p) {x : Str} (h1 : x ∈ keys p.ho) (h2 : x ∈ keys p.ki) : False := (List.nodup_append.mp W.nd).2.2 x (List.mem_append_right _ h1) x h2 rfl
theorem over_ho {p : Pa} (W : WP p) {s o : Str} {m : Sm} (h : gt p.st s = some m) (ho : o ∈ keys p.ho) : o ∈ over p s ↔ o ∈ chn p.ho.reverse m.h := by
  have hs : s ∈ keys p.st := List.mem_map.mpr ⟨_, gt_mem h, rfl⟩
  rw [over_eq h]
  constructor
  · intro q
    rcases List.mem_cons.mp q with q | q
    · subst q; exact (nd_sh W hs ho).elim
    · rcases List.mem_append.mp q with q | q
      · rcases List.mem_append.mp q with q | q
        · exact q
        · exact (nd_hk W ho ((WP.rk W).mp (chn_sub _ _ _ q))).elim
      · exact absurd (List.mem_singleton.mp q) (W.no (.inr (.inl ho))).2
  · exact fun q => List.mem_cons_of_mem _ (List.mem_append_left _ (List.mem_append_left _ q))
theorem over_ki {p : Pa} (W : WP p) {s o : Str} {m : Sm} (h : gt p.st s = some m) (ho : o ∈ keys p.ki) : o ∈ over p s ↔ o ∈ chn p.ki.reverse m.k := by
  have hs : s ∈ keys p.st := List.mem_map.mpr ⟨_, gt_mem h, rfl⟩
  rw [over_eq h]
  constructor
  · intro q
    rcases List.mem_cons.mp q with q | q
    · subst q; exact (nd_sk W hs ho).elim
    · rcases List.mem_append.mp q with q | q
      · rcases List.mem_append.mp q with q | q
        · exact (nd_hk W ((WP.rh W).mp (chn_sub _ _ _ q)) ho).elim
        · exact q
      · exact absurd (List.mem_singleton.mp q) (W.no (.inr (.inr ho))).2
  · exact fun q => List.mem_cons_of_mem _ (List.mem_append_left _ (List.mem_append_right _ q))
theorem over_pipe {p : Pa} {s : Str} (hs : s ∈ keys p.st) : ("pipe" : Str) ∈ over p s := by
  obtain ⟨m, h⟩ := gt_in hs
  rw [over_eq h]
  exact List.mem_cons_of_mem _ (List.mem_append_right _ (List.mem_singleton.mpr rfl))
/-- houses and the pipe; kinds -/
def inA (p : Pa) (o : Str) : Bool := decide (o ∈ keys p.ho) || decide (o = "pipe")
def mm (p : Pa) (s o : Str) : Bool := decide (o ∈ over p s)
def rkA (p : Pa) (o : Str) : Nat := if o = "pipe" then 0 else (chn p.ho.reverse (some o)).length
def rkB (p : Pa) (o : Str) : Nat := (chn p.ki.reverse (some o)).length
def pA (p : Pa) (n : Str) : List Str := (rvl p n).filter (inA p)
def pB (p : Pa) (n : Str) : List Str := (rvl p n).filter fun o => !inA p o
theorem inA_iff {p : Pa} {o : Str} : inA p o = true ↔ o ∈ keys p.ho ∨ o = "pipe" := by
  unfold inA
  rw [Bool.or_eq_true, decide_eq_true_iff, decide_eq_true_iff]
theorem pB_ki {p : Pa} {n o : Str} (h : o ∈ pB p n) : o ∈ keys p.ki := by
  obtain ⟨h1, h2⟩ := List.mem_filter.mp h
  have h3 : o ∈ keys p.ho ++ keys p.ki ++ [("pipe" : Str)] := srt_mem.mp (rvl_sub h1)
  have h4 : ¬ (o ∈ keys p.ho ∨ o = "pipe") := fun q => by rw [inA_iff.mpr q] at h2; cases h2
  rcases List.mem_append.mp h3 with q | q
  · rcases List.mem_append.mp q with q | q
    · exact absurd (.inl q) h4
    · exact q
  · exact absurd (.inr (List.mem_singleton.mp q)) h4
theorem rkA_pos {p : Pa} (W : WP p) {o : Str} (h : o ∈ keys p.ho) : 0 < rkA p o := by
  unfold rkA
  rw [if_neg (W.no (.inr (.inl h))).2]
  obtain ⟨t, e⟩ := chn_hd ((WP.rh W).mpr h)
  rw [e]
  exact Nat.zero_lt_succ _
theorem lamA {p : Pa} (W : WP p) (n : Str) : Lam (under p n) (pA p n) (mm p) (rkA p) := by
  intro s hs a ha b hb ma mb
  have ha' := inA_iff.mp (List.mem_filter.mp ha).2
  have hb' := inA_iff.mp (List.mem_filter.mp hb).2
  have pip : ∀ t ∈ under p n, mm p t "pipe" = true := fun t ht => decide_eq_true (over_pipe (under_sub ht))
  by_cases ea : a = "pipe"
  · by_cases eb : b = "pipe"
    · exact .inl (ea.trans eb.symm)
    · subst ea
      exact .inr (.inr ⟨rkA_pos W (hb'.resolve_right eb), fun t ht _ => pip t ht⟩)
  · by_cases eb : b = "pipe"
    · subst eb
      exact .inr (.inl ⟨rkA_pos W (ha'.resolve_right ea), fun t ht _ => pip t ht⟩)
    · have ka := ha'.resolve_right ea
      have kb := hb'.resolve_right eb
      obtain ⟨m, hm⟩ := gt_in (under_sub hs)
      have key : ∀ {x : Str}, x ∈ keys p.ho → ∀ t ∈ under p n, (mm p t x = true ↔ ∃ m, gt p.st t = some m ∧ x ∈ chn p.ho.reverse m.h) := fun {x} hx t ht => by
        obtain ⟨m, hm⟩ := gt_in (under_sub ht)
        unfold mm
        rw [decide_eq_true_iff, over_ho W hm hx]
        exact ⟨fun q => ⟨m, hm, q⟩, fun ⟨m', h1, h2⟩ => by rw [hm] at h1; cases h1; exact h2⟩
      have ra : rkA p a = (chn p.ho.reverse (some a)).length := if_neg ea
      have rb : rkA p b = (chn p.ho.reverse (some b)).length := if_neg eb
      obtain ⟨m1, g1, ca⟩ := (key ka s hs).mp ma
      obtain ⟨m2, g2, cb⟩ := (key kb s hs).mp mb
      rw [hm] at g1 g2
      cases g1; cases g2
      rcases chn_lam W.wh ca cb with e | ⟨e, f⟩ | ⟨e, f⟩
      · exact .inl e
      · exact .inr (.inl ⟨by rw [ra, rb]; exact e, fun t ht q => by obtain ⟨m, h1, h2⟩ := (key ka t ht).mp q; exact (key kb t ht).mpr ⟨m, h1, f _ h2⟩⟩)
      · exact .inr (.inr ⟨by rw [ra, rb]; exact e, fun t ht q => by obtain ⟨m, h1, h2⟩ := (key kb t ht).mp q; exact (key ka t ht).mpr ⟨m, h1, f _ h2⟩⟩)
theorem lamB {p : Pa} (W : WP p) (n : Str) : Lam (under p n) (pB p n) (mm p) (rkB p) := by
  intro s hs a ha b hb ma mb
  have ka := pB_ki ha
  have kb := pB_ki hb
  obtain ⟨m, hm⟩ := gt_in (under_sub hs)
  have key : ∀ {x : Str}, x ∈ keys p.ki → ∀ t ∈ under p n, (mm p t x = true ↔ ∃ m, gt p.st t = some m ∧ x ∈ chn p.ki.reverse m.k) := fun {x} hx t ht => by
    obtain ⟨m, hm⟩ := gt_in (under_sub ht)
    unfold mm
    rw [decide_eq_true_iff, over_ki W hm hx]
    exact ⟨fun q => ⟨m, hm, q⟩, fun ⟨m', h1, h2⟩ => by rw [hm] at h1; cases h1; exact h2⟩
  obtain ⟨m1, g1, ca⟩ := (key ka s hs).mp ma
  obtain ⟨m2, g2, cb⟩ := (key kb s hs).mp mb
  rw [hm] at g1 g2
  cases g1; cases g2
  rcases chn_lam W.wk ca cb with e | ⟨e, f⟩ | ⟨e, f⟩
  · exact .inl e
  · exact .inr (.inl ⟨e, fun t ht q => by obtain ⟨m, h1, h2⟩ := (key ka t ht).mp q; exact (key kb t ht).mpr ⟨m, h1, f _ h2⟩⟩)
  · exact .inr (.inr ⟨e, fun t ht q => by obtain ⟨m, h1, h2⟩ := (key kb t ht).mp q; exact (key ka t ht).mpr ⟨m, h1, f _ h2⟩⟩)
/-! sums -/
section
variable {α : Type} [DecidableEq α] {l m : List α} {f : α → Int}
theorem sm_filter (b : α → Bool) : sm (l.filter b) f = sm l fun x => if b x then f x else 0 := by
  induction l with
  | nil => rfl
  | cons a r ih =>
    rw [sm_cons, List.filter_cons, ← ih]
    cases b a
    · rw [if_neg Bool.false_ne_true, if_neg Bool.false_ne_true, Int.zero_add]
    · rw [if_pos rfl, if_pos rfl, sm_cons]
theorem sm_perm (h : l.Perm m) : sm l f = sm m f := sum_perm (h.map f)
theorem sm_split (b : α → Bool) : sm l f = sm (l.filter b) f + sm (l.filter fun x => !b x) f := by
  rw [sm_filter, sm_filter]
  induction l with
  | nil => rfl
  | cons a r ih =>
    rw [sm_cons, sm_cons, sm_cons, ih]
    cases b a
    · show f a + _ = (if false = true then f a else 0) + _ + ((if true = true then f a else 0) + _)
      rw [if_neg Bool.false_ne_true, if_pos rfl]
      omega
    · show f a + _ = (if true = true then f a else 0) + _ + ((if false = true then f a else 0) + _)
      rw [if_neg Bool.false_ne_true, if_pos rfl]
      omega
end
theorem subl_perm {ps os : List Str} (nd : os.Nodup) (h : ps.Sublist os) : ps.Perm (os.filter fun o => decide (o ∈ ps)) :=
  (List.perm_ext_iff_of_nodup (nd.sublist h) (nd.sublist List.filter_sublist)).mpr fun o => by
    rw [List.mem_filter, decide_eq_true_iff]
    exact ⟨fun q => ⟨h.subset q, q⟩, fun q => q.2⟩
/-- what is covered -/
theorem cov_ps {p : Pa} {n s : Str} {QA QB : Str → Bool} : (cov (pA p n) (mm p) QA s || cov (pB p n) (mm p) QB s) = true ↔ ∃ o ∈ rvl p n, (if inA p o then QA o else QB o) = true ∧ o ∈ over p s := by
  rw [Bool.or_eq_true, cov_iff, cov_iff]
  constructor
  · rintro (⟨o, h1, h2, h3⟩ | ⟨o, h1, h2, h3⟩)
    · obtain ⟨a, b⟩ := List.mem_filter.mp h1
      exact ⟨o, a, by rw [b, if_pos rfl]; exact h2, of_decide_eq_true h3⟩
    · obtain ⟨a, b⟩ := List.mem_filter.mp h1
      have b' : inA p o = false := by revert b; cases inA p o <;> simp
      exact ⟨o, a, by rw [b', if_neg Bool.false_ne_true]; exact h2, of_decide_eq_true h3⟩
  · rintro ⟨o, h1, h2, h3⟩
    cases b : inA p o with
    | true => rw [b, if_pos rfl] at h2; exact .inl ⟨o, List.mem_filter.mpr ⟨h1, b⟩, h2, decide_eq_true h3⟩
    | false => rw [b, if_neg Bool.false_ne_true] at h2; exact .inr ⟨o, List.mem_filter.mpr ⟨h1, by rw [b]; rfl⟩, h2, decide_eq_true h3⟩
abbrev cst (p : Pa) (n : Str) (c : Str → Int) (QA QB : Str → Bool) : Int := cost (under p n) (pA p n) (pB p n) (mm p) (cr p) c QA QB
abbrev FlP (p : Pa) (n : Str) (c x : Str → Int) : Prop := Fl (under p n) (pA p n) (pB p n) (mm p) (cr p) c x
/-- a cut's sum -/
theorem csum_cost {p : Pa} (W : WP p) {n : Str} {cs : Tb Int} (hk : keys cs = under p n) (h0 : ∀ s ∈ under p n, 0 ≤ gi cs s) {ps : List Str} (hp : ps.Sublist (rvl p n)) {QA QB : Str → Bool} (hQ : ∀ o ∈ rvl p n, decide (o ∈ ps) = if inA p o then QA o else QB o) :
    csum p cs (ps, left p cs ps) = cst p n (gi cs) QA QB := by
  unfold csum cst cost
  have e1 : (ps.map (cr p)).sum = wt (pA p n) (cr p) QA + wt (pB p n) (cr p) QB := by
    show sm ps (cr p) = _
    rw [sm_perm (subl_perm (rvl_nd W) hp), sm_filter, sm_split (inA p)]
    unfold wt
    refine congr (congrArg _ (sm_eq fun o ho => ?_)) (sm_eq fun o ho => ?_)
    · obtain ⟨a, b⟩ := List.mem_filter.mp ho
      have := hQ o a
      rw [b, if_pos rfl] at this
      rw [this]
    · obtain ⟨a, b⟩ := List.mem_filter.mp ho
      have b' : inA p o = false := by revert b; cases inA p o <;> simp
      have := hQ o a
      rw [b', if_neg Bool.false_ne_true] at this
      rw [this]
  have e2 : ((left p cs ps).map (gi cs)).sum = unc (under p n) (pA p n) (pB p n) (mm p) (gi cs) QA QB := by
    show sm (left p cs ps) (gi cs) = _
    unfold left unc
    rw [sm_filter, sm_perm (srt_perm _), hk]
    refine sm_eq fun s hs => ?_
    have z := h0 s hs
    have e : (ps.filter fun o => decide (o ∈ over p s)).isEmpty = !(cov (pA p n) (mm p) QA s || cov (pB p n) (mm p) QB s) := by
      cases c : (cov (pA p n) (mm p) QA s || cov (pB p n) (mm p) QB s) with
      | true =>
        obtain ⟨o, h1, h2, h3⟩ := cov_ps.mp c
        rw [← hQ o h1] at h2
        cases f : ps.filter fun o => decide (o ∈ over p s) with
        | nil =>
          have : o ∈ ps.filter fun o => decide (o ∈ over p s) := List.mem_filter.mpr ⟨of_decide_eq_true h2, decide_eq_true h3⟩
          rw [f] at this
          cases this
        | cons a r => rfl
      | false =>
        cases f : ps.filter fun o => decide (o ∈ over p s) with
        | nil => rfl
        | cons a r =>
          have : a ∈ ps.filter fun o => decide (o ∈ over p s) := by rw [f]; exact List.mem_cons_self
          obtain ⟨h1, h2⟩ := List.mem_filter.mp this
          have := cov_ps (n := n) (QA := QA) (QB := QB).mpr ⟨a, hp.subset h1, by rw [← hQ a (hp.subset h1)]; exact decide_eq_true h1, of_decide_eq_true h2⟩
          rw [c] at this
          cases this
    rw [e]
    cases (cov (pA p n) (mm p) QA s || cov (pB p n) (mm p) QB s) with
    | true => rw [Bool.not_true, Bool.and_false]; rfl
    | false =>
      rw [Bool.not_false, Bool.and_true]
      by_cases g : 0 < gi cs s
      · rw [decide_eq_true g]; rfl
      · rw [decide_eq_false g]
        show (0 : Int) = gi cs s
        omega
  rw [e1, e2]
theorem pick_ps {p : Pa} {n : Str} (QA QB : Str → Bool) : ∀ o ∈ rvl p n, decide (o ∈ (rvl p n).filter fun o => if inA p o then QA o else QB o) = if inA p o then QA o else QB o := fun o ho => by
  cases h : (if inA p o then QA o else QB o) with
  | true => exact decide_eq_true (List.mem_filter.mpr ⟨ho, h⟩)
  | false => exact decide_eq_false fun q => by have := (List.mem_filter.mp q).2; rw [h] at this; cases this
/-! the least cut -/
theorem least_le {p : Pa} {cs : Tb Int} {os : List Str} {k : Cut} (h : k ∈ cuts p cs os) : (least p cs os).1 ≤ csum p cs k := by
  have hm : ((csum p cs k, k.1, k.2) : T3) ∈ (cuts p cs os).map fun k => ((csum p cs k, k.1, k.2) : T3) := List.mem_map.mpr ⟨k, h, rfl⟩
  unfold least
  cases e : (cuts p cs os).map fun k => ((csum p cs k, k.1, k.2) : T3) with
  | nil => rw [e] at hm; cases hm
  | cons t l => rw [e] at hm; exact min3_le t l _ hm
theorem least_mem (p : Pa) (cs : Tb Int) (os : List Str) : (least p cs os).2 ∈ cuts p cs os ∧ (least p cs os).1 = csum p cs (least p cs os).2 := by
  have ne : (cuts p cs os).map (fun k => ((csum p cs k, k.1, k.2) : T3)) ≠ [] := fun h => allp_ne os (List.map_eq_nil_iff.mp (List.map_eq_nil_iff.mp h))
  obtain ⟨t, l, e⟩ := List.exists_cons_of_ne_nil ne
  have hm : least p cs os ∈ (cuts p cs os).map fun k => ((csum p cs k, k.1, k.2) : T3) := by
    unfold least
    rw [e]
    exact min3_mem t l
  obtain ⟨k, hk, ek⟩ := List.mem_map.mp hm
  rw [← ek]
  exact ⟨hk, rfl⟩
section
variable {p : Pa} (W : WP p) {n : Str} {cs ct : Tb Int} (hk : keys cs = under p n) (h0 : ∀ s ∈ under p n, 0 ≤ gi cs s)
include W hk h0
theorem least_weak {x : Str → Int} (F : FlP p n (gi cs) x) : sm (under p n) x ≤ (least p cs (rvl p n)).1 := by
  obtain ⟨h1, h2⟩ := least_mem p cs (rvl p n)
  obtain ⟨ps, hps, e⟩ := cuts_mem h1
  rw [h2, e, csum_cost W hk h0 (allp_sl _ ps hps) (QA := fun o => decide (o ∈ ps)) (QB := fun o => decide (o ∈ ps)) fun o _ => by split <;> rfl]
  exact weak F
theorem least_cost (QA QB : Str → Bool) : (least p cs (rvl p n)).1 ≤ cst p n (gi cs) QA QB := by
  have hs : ((rvl p n).filter fun o => if inA p o then QA o else QB o).Sublist (rvl p n) := List.filter_sublist
  have := least_le (List.mem_map.mpr ⟨_, allp_all hs, rfl⟩ : (((rvl p n).filter fun o => if inA p o then QA o else QB o), left p cs ((rvl p n).filter fun o => if inA p o then QA o else QB o)) ∈ cuts p cs (rvl p n))
  rwa [csum_cost W hk h0 hs (pick_ps QA QB)] at this
theorem least_strong : ∃ x, FlP p n (gi cs) x ∧ sm (under p n) x = (least p cs (rvl p n)).1 := by
  have nn : ∀ o ∈ rvl p n, 0 ≤ cr p o := fun o ho => by have := cr_pos W (rvl_sub ho); omega
  obtain ⟨x, QA, QB, F, e⟩ := strong (lamA W n) (lamB W n) (under_nd W) ((rvl_nd W).sublist List.filter_sublist) ((rvl_nd W).sublist List.filter_sublist) _ (cr p) (gi cs) h0 (fun o ho => nn o (List.mem_filter.mp ho).1) (fun o ho => nn o (List.mem_filter.mp ho).1) rfl
  refine ⟨x, F, Int.le_antisymm (least_weak W hk h0 F) ?_⟩
  rw [← e]
  exact least_cost W hk h0 QA QB
theorem least_mono (hk2 : keys ct = under p n) (h : ∀ s ∈ under p n, gi cs s ≤ gi ct s) : (least p cs (rvl p n)).1 ≤ (least p ct (rvl p n)).1 := by
  obtain ⟨x, F, e⟩ := least_strong W hk h0
  rw [← e]
  exact least_weak W hk2 (fun s hs => Int.le_trans (h0 s hs) (h s hs)) ⟨fun s hs => ⟨(F.b s hs).1, Int.le_trans (F.b s hs).2 (h s hs)⟩, F.a, F.k⟩
/-- one stream left out takes at most what it held away -/
theorem least_drop {z : Str} (hz : z ∈ under p n) {x : Str → Int} (F : FlP p n (gi cs) x) : sm (under p n) x - x z ≤ (least p (tput cs z 0) (rvl p n)).1 := by
  have zk : z ∈ keys cs := hk ▸ hz
  have gz : ∀ s, gi (tput cs z 0) s = if s = z then 0 else gi cs s := fun s => gi_tput zk
  have le : ∀ s ∈ under p n, (if s = z then 0 else x s) ≤ x s := fun s hs => by
    have := (F.b s hs).1
    split <;> omega
  have F' : FlP p n (gi (tput cs z 0)) fun s => if s = z then 0 else x s := by
    refine ⟨fun s hs => ?_, fun o ho => Int.le_trans (sm_le fun s hs => ?_) (F.a o ho), fun o ho => Int.le_trans (sm_le fun s hs => ?_) (F.k o ho)⟩
    · have := F.b s hs
      rw [gz]
      show 0 ≤ (if s = z then 0 else x s) ∧ (if s = z then 0 else x s) ≤ _
      split <;> omega
    · have := le s hs
      show (if mm p s o = true then (if s = z then 0 else x s) else 0) ≤ _
      split
      · exact this
      · exact Int.le_refl _
    · have := le s hs
      show (if mm p s o = true then (if s = z then 0 else x s) else 0) ≤ _
      split
      · exact this
      · exact Int.le_refl _
  have w := least_weak W (tput_keys.trans hk) (fun s hs => by rw [gz]; have := h0 s hs; split <;> omega) F'
  have e : sm (under p n) x = sm (under p n) (fun s => if s = z then 0 else x s) + x z := by
    have pt := sm_pt (k := x z) (under_nd W (n := n)) hz
    rw [← pt, ← sm_add]
    refine sm_eq fun s _ => ?_
    by_cases h : s = z
    · rw [if_pos h, if_pos h, h]; omega
    · rw [if_neg h, if_neg h]; omega
  omega
end
/-! the fill -/
structure FiIv (p : Pa) (l : List Str) (n : Str) (done : List Str) (cs : Tb Int) : Prop where
  ks : keys cs = under p n
  bd : ∀ s ∈ under p n, 0 ≤ gi cs s ∧ gi cs s ≤ hold p l s
  ls : (least p cs (rvl p n)).1 = (best p l n).1
  cri : ∀ z ∈ done, (least p (tput cs z 0) (rvl p n)).1 ≤ (best p l n).1 - gi cs z
theorem fi_step {p : Pa} (W : WP p) {l : List Str} {n : Str} {done : List Str} {cs : Tb Int} (I : FiIv p l n done cs) {z : Str} (hz : z ∈ under p n) (hd : ∀ y ∈ done, y ∈ under p n) : FiIv p l n (z :: done) (fstep p (rvl p n) (best p l n).1 cs z) := by
  have h0 : ∀ s ∈ under p n, 0 ≤ gi cs s := fun s hs => (I.bd s hs).1
  have zk : z ∈ keys cs := I.ks ▸ hz
  let g : Int := (least p (tput cs z 0) (rvl p n)).1
  let b : Int := (best p l n).1
  have g0 : ∀ v s, gi (tput cs z v) s = if s = z then v else gi cs s := fun v s => gi_tput zk
  have k0 : ∀ v, keys (tput cs z v) = under p n := fun v => tput_keys.trans I.ks
  have hg1 : g ≤ b := by
    show _ ≤ (best p l n).1
    rw [← I.ls]
    exact least_mono W (k0 0) (fun s hs => by rw [g0]; have := h0 s hs; split <;> omega) I.ks fun s hs => by rw [g0]; have := h0 s hs; split <;> omega
  have hg2 : b - gi cs z ≤ g := by
    obtain ⟨x, F, e⟩ := least_strong W I.ks h0
    have := least_drop W I.ks h0 hz F
    have hx := (F.b z hz).2
    rw [e, I.ls] at this
    show (best p l n).1 - gi cs z ≤ (least p (tput cs z 0) (rvl p n)).1
    omega
  have e : fstep p (rvl p n) (best p l n).1 cs z = tput cs z (b - g) := rfl
  rw [e]
  have nn : ∀ s ∈ under p n, 0 ≤ gi (tput cs z (b - g)) s := fun s hs => by
    rw [g0]
    have := h0 s hs
    split <;> omega
  have le : ∀ s ∈ under p n, gi (tput cs z (b - g)) s ≤ gi cs s := fun s hs => by
    rw [g0]
    split
    · next h => subst h; omega
    · exact Int.le_refl _
  have tt : ∀ y ∈ under p n, ∀ v s, gi (tput (tput cs z v) y 0) s = if s = y then 0 else gi (tput cs z v) s := fun y hy v s => gi_tput (by rw [k0]; exact hy)
  refine ⟨k0 _, fun s hs => ⟨nn s hs, Int.le_trans (le s hs) (I.bd s hs).2⟩, Int.le_antisymm ?_ ?_, fun y hy => ?_⟩
  · rw [← I.ls]
    exact least_mono W (k0 _) nn I.ks le
  · -- a least cut, whether it covers z or not
    obtain ⟨x, QA, QB, F, ec⟩ := strong (lamA W n) (lamB W n) (under_nd W) ((rvl_nd W).sublist List.filter_sublist) ((rvl_nd W).sublist List.filter_sublist) _ (cr p) (gi (tput cs z (b - g))) nn (fun o ho => by have := cr_pos W (rvl_sub (List.mem_filter.mp ho).1); omega) (fun o ho => by have := cr_pos W (rvl_sub (List.mem_filter.mp ho).1); omega) rfl
    refine Int.le_trans ?_ (least_weak W (k0 _) nn F)
    rw [← ec]
    have pt := fun k => sm_pt (k := k) (under_nd W (n := n)) hz
    by_cases hc : (cov (pA p n) (mm p) QA z || cov (pB p n) (mm p) QB z) = true
    · have := least_cost W I.ks h0 QA QB
      rw [I.ls] at this
      refine Int.le_trans this ?_
      unfold cst cost
      refine Int.add_le_add_left (sm_le fun s hs => ?_) _
      by_cases h : s = z
      · rw [h, if_pos hc, if_pos hc]; exact Int.le_refl _
      · rw [g0, if_neg h]; exact Int.le_refl _
    · have := least_cost W (k0 0) (fun s hs => by rw [g0]; have := h0 s hs; split <;> omega) QA QB
      have e2 : unc (under p n) (pA p n) (pB p n) (mm p) (gi (tput cs z (b - g))) QA QB = unc (under p n) (pA p n) (pB p n) (mm p) (gi (tput cs z 0)) QA QB + sm (under p n) (fun x => if x = z then b - g else 0) := by
        unfold unc
        rw [← sm_add]
        refine sm_eq fun s hs => ?_
        by_cases h : s = z
        · subst h
          rw [if_neg hc, if_neg hc, g0, g0, if_pos rfl, if_pos rfl, if_pos rfl]; omega
        · rw [g0, g0, if_neg h, if_neg h, if_neg h, Int.add_zero]
      rw [pt (b - g)] at e2
      unfold cst cost at this
      unfold cost
      have this : g ≤ _ := this
      show b ≤ _
      omega
  · rcases List.mem_cons.mp hy with h | h
    · subst h
      have : ∀ s ∈ under p n, gi (tput (tput cs y (b - g)) y 0) s ≤ gi (tput cs y 0) s := fun s hs => by
        rw [tt y hz, g0, g0]
        split <;> exact Int.le_refl _
      have m := least_mono W (tput_keys.trans (k0 (b - g))) (fun s hs => by rw [tt y hz]; have := nn s hs; split <;> omega) (k0 0) this
      rw [g0, if_pos rfl]
      have m : _ ≤ g := m
      show _ ≤ b - (b - g)
      omega
    · have yu := hd y h
      have m := least_mono (cs := tput (tput cs z (b - g)) y 0) (ct := tput cs y 0) W (tput_keys.trans (k0 (b - g))) (fun s hs => by rw [tt y yu]; have := nn s hs; split <;> omega) (tput_keys.trans I.ks) fun s hs => by
        have t2 : gi (tput cs y 0) s = if s = y then 0 else gi cs s := gi_tput (by rw [I.ks]; exact yu)
        rw [tt y yu, t2]
        by_cases q : s = y
        · rw [if_pos q, if_pos q]; exact Int.le_refl _
        · rw [if_neg q, if_neg q]; exact le s hs
      have c := I.cri y h
      have := le y yu
      omega
theorem fi_fold {p : Pa} (W : WP p) {l : List Str} {n : Str} : ∀ (zs done : List Str) (cs : Tb Int), FiIv p l n done cs → (∀ y ∈ zs, y ∈ under p n) → (∀ y ∈ done, y ∈ under p n) → ∃ d, (∀ y, y ∈ zs → y ∈ d) ∧ (∀ y, y ∈ done → y ∈ d) ∧ FiIv p l n d (zs.foldl (fstep p (rvl p n) (best p l n).1) cs)
  | [], done, cs, I, _, _ => ⟨done, nofun, fun _ h => h, I⟩
  | z :: r, done, cs, I, hz, hd => by
    have zu := hz z List.mem_cons_self
    obtain ⟨d, d1, d2, J⟩ := fi_fold W r (z :: done) _ (fi_step W I zu hd) (fun y hy => hz y (List.mem_cons_of_mem _ hy)) fun y hy => (List.mem_cons.mp hy).elim (fun e => e ▸ zu) (hd y)
    exact ⟨d, fun y hy => (List.mem_cons.mp hy).elim (fun e => e ▸ d2 _ List.mem_cons_self) (d1 y), fun y hy => d2 y (List.mem_cons_of_mem _ hy), J⟩
theorem sum_gi {cs : Tb Int} {S : List Str} (nd : S.Nodup) (hk : keys cs = S) : (cs.map (·.2)).sum = sm S (gi cs) := by
  subst hk
  have e := tab_of (l := cs) (F := gi cs) fun q hq => by
    unfold gi
    rw [gt_of_mem nd (show (q.1, q.2) ∈ cs from hq)]
    rfl
  unfold sm
  rw [show cs.map (·.2) = (keys cs).map (gi cs) from by
    conv => lhs; rw [e]
    rw [List.map_map]; rfl]
theorem sumU_eq {p : Pa} (W : WP p) {n o : Str} {f : Str → Int} : (((under p o).filter fun z => decide (z ∈ under p n)).map f).sum = sm (under p n) fun s => if mm p s o then f s else 0 := by
  rw [← sm_filter]
  refine sm_perm ((List.perm_ext_iff_of_nodup ((under_nd W).sublist List.filter_sublist) ((under_nd W).sublist List.filter_sublist)).mpr fun z => ?_)
  rw [List.mem_filter, List.mem_filter, decide_eq_true_iff]
  unfold mm
  rw [decide_eq_true_iff]
  exact ⟨fun h => ⟨h.2, (under_iff (under_sub h.2)).mp h.1⟩, fun h => ⟨(under_iff (under_sub h.1)).mpr h.2, h.1⟩⟩
theorem rv_ab {p : Pa} {n o : Str} (h : o ∈ rvl p n) : o ∈ pA p n ∨ o ∈ pB p n := by
  cases b : inA p o with
  | true => exact .inl (List.mem_filter.mpr ⟨h, b⟩)
  | false => exact .inr (List.mem_filter.mpr ⟨h, by rw [b]; rfl⟩)
theorem fl_isF {p : Pa} (W : WP p) {l : List Str} {n : Str} {th : Tb Int} (F : isF p l n th) : FlP p n (gi (caps p l n)) (gi th) :=
  ⟨fun s hs => by rw [gi_caps hs]; exact F.cap s hs, fun o ho => by rw [← sumU_eq W]; exact F.sum o (List.mem_filter.mp ho).1, fun o ho => by rw [← sumU_eq W]; exact F.sum o (List.mem_filter.mp ho).1⟩
theorem caps_nn {p : Pa} (W : WP p) {l : List Str} {n : Str} : ∀ s ∈ under p n, 0 ≤ gi (caps p l n) s := fun s hs => by rw [gi_caps hs]; exact (hold_nn W (under_sub hs)).1
theorem fill_ok {p : Pa} {l : List Str} {n : Str} (W : WP p) (S : WS p l) (hn : n ∈ rdp p) : isF p l n (fillT p l n) ∧ ((fillT p l n).map (·.2)).sum = (best p l n).1 := by
  obtain ⟨d, d1, _, I⟩ := fi_fold W (l := l) (srt (under p n)) [] (caps p l n) ⟨caps_keys, fun s hs => by rw [gi_caps hs]; exact ⟨(hold_nn W (under_sub hs)).1, Int.le_refl _⟩, rfl, nofun⟩ (fun y hy => srt_mem.mp hy) nofun
  have I : FiIv p l n d (fillT p l n) := I
  have h0 : ∀ s ∈ under p n, 0 ≤ gi (fillT p l n) s := fun s hs => (I.bd s hs).1
  obtain ⟨x, F, e⟩ := least_strong W I.ks h0
  have ex : ∀ s ∈ under p n, x s = gi (fillT p l n) s := fun s hs => by
    have c := I.cri s (d1 s (srt_mem.mpr hs))
    have dr := least_drop W I.ks h0 hs F
    have b := (F.b s hs).2
    rw [e, I.ls] at dr
    omega
  refine ⟨⟨by rw [I.ks]; exact under_nd W, fun z => by rw [I.ks], I.bd, fun o ho => ?_⟩, ?_⟩
  · rw [sumU_eq W, ← sm_eq (f := fun s => if mm p s o then x s else 0) fun s hs => by rw [ex s hs]]
    rcases rv_ab ho with h | h
    · exact F.a o h
    · exact F.k o h
  · rw [sum_gi (under_nd W) I.ks, ← sm_eq ex, e, I.ls]
theorem fill_le {p : Pa} {l : List Str} {n : Str} {th : Tb Int} (W : WP p) (S : WS p l) (hn : n ∈ rdp p) (F : isF p l n th) : (th.map (·.2)).sum ≤ (best p l n).1 := by
  have pk : (keys th).Perm (under p n) := (List.perm_ext_iff_of_nodup F.nd (under_nd W)).mpr F.mem
  rw [sum_gi F.nd rfl, sm_perm pk]
  exact least_weak W caps_keys (caps_nn W) (fl_isF W F)
theorem best_cut {p : Pa} {l : List Str} {n : Str} : ∃ ps, ps.Sublist (rvl p n) ∧ (best p l n).2 = (ps, left p (caps p l n) ps) ∧ (best p l n).1 = csum p (caps p l n) (ps, left p (caps p l n) ps) := by
  obtain ⟨h1, h2⟩ := least_mem p (caps p l n) (rvl p n)
  obtain ⟨ps, hps, e⟩ := cuts_mem h1
  exact ⟨ps, allp_sl _ ps hps, e, by rw [← e]; exact h2⟩
theorem csum_eq {p : Pa} {l : List Str} {n : Str} {k : Cut} (W : WP p) (C : isC p l n k) : csum p (caps p l n) k = hsum p l k := by
  unfold csum hsum
  rw [List.map_congr_left (f := gi (caps p l n)) fun z hz => gi_caps (C.s2 z hz)]
theorem best_isC {p : Pa} {l : List Str} {n : Str} (W : WP p) : isC p l n (best p l n).2 := by
  obtain ⟨ps, hs, e, _⟩ := best_cut (p := p) (l := l) (n := n)
  rw [e]
  have lu : ∀ x ∈ left p (caps p l n) ps, x ∈ under p n := fun x hx => caps_keys (l := l) ▸ left_sub hx
  refine ⟨fun x hx => hs.subset hx, lu, rvl_sorted.sublist hs, (srt_sorted _).sublist List.filter_sublist, (rvl_nd W).sublist hs, (show (srt (keys (caps p l n))).Nodup from (srt_perm _).nodup_iff.mpr (by rw [caps_keys]; exact under_nd W)).sublist List.filter_sublist, fun z hz h0 => ?_⟩
  cases f : ps.filter fun o => decide (o ∈ over p z) with
  | nil => exact .inl (List.mem_filter.mpr ⟨srt_mem.mpr (by rw [caps_keys]; exact hz), by rw [gi_caps hz, decide_eq_true h0, f]; rfl⟩)
  | cons a r =>
    have : a ∈ ps.filter fun o => decide (o ∈ over p z) := by rw [f]; exact List.mem_cons_self
    obtain ⟨h1, h2⟩ := List.mem_filter.mp this
    exact .inr ⟨a, h1, of_decide_eq_true h2⟩
theorem best_ok {p : Pa} {l : List Str} {n : Str} (W : WP p) (S : WS p l) (hn : n ∈ rdp p) : isC p l n (best p l n).2 ∧ hsum p l (best p l n).2 = (best p l n).1 := by
  refine ⟨best_isC W, ?_⟩
  rw [← csum_eq W (best_isC W)]
  obtain ⟨ps, hs, e, e2⟩ := best_cut (p := p) (l := l) (n := n)
  rw [e, e2]
theorem cut_ge {p : Pa} {l : List Str} {n : Str} {k : Cut} (W : WP p) (S : WS p l) (hn : n ∈ rdp p) (C : isC p l n k) : (best p l n).1 ≤ hsum p l k := by
  obtain ⟨x, F, e⟩ := least_strong W caps_keys (caps_nn W (l := l) (n := n))
  have F : FlP p n (gi (caps p l n)) x := F
  have w := weak (QA := fun o => decide (o ∈ k.1)) (QB := fun o => decide (o ∈ k.1)) F
  show (least p (caps p l n) (rvl p n)).1 ≤ _
  rw [← e]
  refine Int.le_trans w ?_
  have nd : ((rvl p n).filter fun o => decide (o ∈ k.1)).Perm k.1 := (List.perm_ext_iff_of_nodup ((rvl_nd W).sublist List.filter_sublist) C.n1).mpr fun o => by
    rw [List.mem_filter, decide_eq_true_iff]
    exact ⟨fun q => q.2, fun q => ⟨C.s1 o q, q⟩⟩
  have e1 : (k.1.map (cr p)).sum = wt (pA p n) (cr p) (fun o => decide (o ∈ k.1)) + wt (pB p n) (cr p) (fun o => decide (o ∈ k.1)) := by
    show sm k.1 (cr p) = _
    rw [← sm_perm nd, sm_filter, sm_split (inA p)]
    rfl
  have nd2 : ((under p n).filter fun o => decide (o ∈ k.2)).Perm k.2 := (List.perm_ext_iff_of_nodup ((under_nd W).sublist List.filter_sublist) C.n2).mpr fun o => by
    rw [List.mem_filter, decide_eq_true_iff]
    exact ⟨fun q => q.2, fun q => ⟨C.s2 o q, q⟩⟩
  have e2 : unc (under p n) (pA p n) (pB p n) (mm p) (gi (caps p l n)) (fun o => decide (o ∈ k.1)) (fun o => decide (o ∈ k.1)) ≤ (k.2.map (hold p l)).sum := by
    show _ ≤ sm k.2 (hold p l)
    rw [← sm_perm nd2, sm_filter]
    refine sm_le fun s hs => ?_
    rw [gi_caps hs]
    have h0 := (hold_nn W (l := l) (under_sub hs)).1
    by_cases c : (cov (pA p n) (mm p) (fun o => decide (o ∈ k.1)) s || cov (pB p n) (mm p) (fun o => decide (o ∈ k.1)) s) = true
    · rw [if_pos c]
      split
      · exact h0
      · exact Int.le_refl _
    · rw [if_neg c]
      by_cases hp : 0 < hold p l s
      · rcases C.cov s hs hp with h | ⟨o, h1, h2⟩
        · rw [if_pos (decide_eq_true h)]; exact Int.le_refl _
        · exact absurd (cov_ps.mpr ⟨o, C.s1 o h1, by split <;> exact decide_eq_true h1, h2⟩) c
      · split <;> omega
  unfold cost hsum
  rw [e1]
  omega
theorem best_bd {p : Pa} {l : List Str} {n : Str} (W : WP p) (S : WS p l) (hn : n ∈ rdp p) : (best p l n).1.natAbs < 10 ^ 60 := by
  obtain ⟨F, e⟩ := fill_ok W S hn
  have l6 : (fillT p l n).length ≤ 6 := by
    rw [isF_len W F]
    exact Nat.le_trans (nd_len (under_nd W (n := n)) fun x hx => under_sub hx) (by rw [List.length_map]; exact W.s6)
  have b0 : (0 : Int) ≤ big := by decide
  obtain ⟨a1, a2⟩ := sum_bd (l := (fillT p l n).map (·.2)) (B := big) fun v hv => by
    obtain ⟨q, hq, rfl⟩ := List.mem_map.mp hv
    have hk : q.1 ∈ under p n := (F.mem q.1).mp (List.mem_map.mpr ⟨q, hq, rfl⟩)
    have g : gi (fillT p l n) q.1 = q.2 := by
      unfold gi
      rw [gt_of_mem F.nd (show (q.1, q.2) ∈ _ from hq)]
      rfl
    have c := F.cap q.1 hk
    have h := hold_nn W (l := l) (under_sub hk)
    rw [g] at c
    omega
  rw [List.length_map, e] at a2
  rw [e] at a1
  have m1 : ((fillT p l n).length : Int) * big ≤ 6 * big := Int.mul_le_mul_of_nonneg_right (by omega) b0
  have m3 : (6 * big).natAbs < 10 ^ 60 := by decide +kernel
  have m4 : (0 : Int) ≤ 6 * big := by decide
  omega
end K51
end
section
set_option Elab.async false
set_option linter.all false
set_option maxRecDepth 100000
set_option maxHeartbeats 4000000
/-! The walk: sums right. -/
namespace K51
open PySem PySem.Spec PyProof.Rows L2
section
variable {X : Cx} {bq : Option Addr} {M : Mem} {ρ : En} {e : Expr} {i j : Nat} {q : Addr} {t : List (Str × D)} {c : Bool}
theorem pt_lock {t : TT} (h : PT X e t) : PT X e (fun σ H Q => ∃ d u, H d = some u ∧ Mut (some u) ∧ ∀ od, t σ (upd H d (.frz od u)) fun b H' => H' d = some (.frz od u) ∧ Q b (upd H' d u)) := by
  constructor
  intro pins s σ H Q I ⟨d, u, hd, mu, hw⟩
  obtain ⟨od, I1⟩ := I.lock hd mu
  exact thn (h.run pins s σ _ _ I1 (hw od)) fun b s1 ⟨H1, I2, e2, q⟩ => ⟨_, I2.unlock e2 (I.nofrz hd mu), q⟩
/-- a test reads an owned dict -/
theorem te_borD (h : PT X e (tT X.K (ρ.set i (some (.dct t))) c)) (hi : ρ[i]? = some (some (.own q)) := by rfl) (hM : M[j]? = some (q, .dct t) := by rfl) : PT X e (tTE X.K bq M ρ (· = c)) := (pt_lock h).imp fun σ H Q ⟨L, e, env, ow, k⟩ => by
  have hm := List.mem_of_getElem? hM
  obtain ⟨kvs, h1, r, zl⟩ := (ow.sh _ hm).dct_
  have h1' : H q = some (.dK kvs) := h1
  refine ⟨q, _, h1', trivial, fun od => ?_⟩
  have lx : Ex L (upd L q (.frz od (.dK kvs))) := ex_new (ow.un _ hm)
  refine ⟨_, sub_new e, env_bor (env.ex lx) hi (.dct ⟨od, upd_same⟩ (r.ex lx) zl), fun H' L' g => ?_⟩
  obtain ⟨w1, w2⟩ := go_lock (σ := σ) e ow hM h1' g
  have g2 : Go H L (upd H' q (.dK kvs)) L := ⟨w2, Ex.rf, e.tr w2, fun _ _ => rfl⟩
  exact ⟨w1, k c _ L rfl g2.gx (ow.go g2)⟩
end
theorem tl_str {n : Nat} {x : Str} (h : okN x) : Tl n (.str x) := by
  cases n <;> exact ⟨h.2.1, fun c hc => (h.2.2 c hc).2⟩
theorem pipe_okN : okN "pipe" := okNb_ok (by decide +kernel)
theorem tl_cut {p : Pa} {l : List Str} {n : Str} {k : Cut} (W : WP p) (C : isC p l n k) : Tl 2 (kD k) := by
  have o3 := (rvl_os W (n := n)).2
  have l1 : k.1.length ≤ (rvl p n).length := nd_len C.n1 fun x hx => C.s1 x hx
  have l2 : k.2.length ≤ (under p n).length := nd_len C.n2 fun x hx => C.s2 x hx
  have l4 : (under p n).length ≤ 6 := Nat.le_trans (nd_len (under_nd W (n := n)) fun x hx => under_sub hx) (by rw [List.length_map]; exact W.s6)
  refine ⟨show 2 ≤ 12 by decide, fun d hd => ?_⟩
  simp only [List.mem_cons, List.not_mem_nil, or_false] at hd
  rcases hd with rfl | rfl
  · refine ⟨by rw [List.length_map]; omega, fun d hd => ?_⟩
    obtain ⟨x, hx, rfl⟩ := List.mem_map.mp hd
    have hx2 : x ∈ keys p.ho ++ keys p.ki ++ [("pipe" : Str)] := (srt_perm _).mem_iff.mp (rvl_sub (C.s1 x hx))
    rcases List.mem_append.mp hx2 with h | h
    · rcases List.mem_append.mp h with h | h
      · exact tl_str (W.no (.inr (.inl h))).1
      · exact tl_str (W.no (.inr (.inr h))).1
    · rw [List.mem_singleton.mp h]; exact tl_str pipe_okN
  · refine ⟨by rw [List.length_map]; omega, fun d hd => ?_⟩
    obtain ⟨x, hx, rfl⟩ := List.mem_map.mp hd
    exact tl_str (W.no (.inl (under_sub (C.s2 x hx)))).1
theorem hold_bd {p : Pa} {l : List Str} {x : Str} (W : WP p) : hold p l x ≤ big ∧ 0 ≤ hold p l x := by
  have b0 : (0 : Int) ≤ big := by decide
  unfold hold
  split
  · next m hm =>
    obtain ⟨_, h1, h2, h3, _⟩ := W.so _ (gt_mem hm)
    split
    · exact ⟨h2, by have h1' : 1 ≤ m.c := h1; omega⟩
    · split
      · next q hq =>
        obtain ⟨a, b⟩ := h3 q hq
        exact ⟨by omega, by omega⟩
      · exact ⟨b0, Int.le_refl _⟩
  · exact ⟨b0, Int.le_refl _⟩
theorem tl_fill {p : Pa} {l : List Str} {n : Str} {th : Tb Int} (W : WP p) (F : isF p l n th) : Tl 2 (.dct (dT D.int th)) := by
  have fl := isF_len W F
  have l4 : (under p n).length ≤ 6 := Nat.le_trans (nd_len (under_nd W (n := n)) fun x hx => under_sub hx) (by rw [List.length_map]; exact W.s6)
  refine ⟨by rw [dT_len]; omega, fun q hq => ?_⟩
  obtain ⟨⟨x, i⟩, hx, rfl⟩ := List.mem_map.mp hq
  have xu : x ∈ under p n := (F.mem x).mp (List.mem_map.mpr ⟨_, hx, rfl⟩)
  have gi_e : gi th x = i := by unfold gi; rw [gt_of_mem F.nd hx]; rfl
  obtain ⟨c1, c2⟩ := F.cap x xu
  rw [gi_e] at c1 c2
  have hb := (hold_bd (l := l) (x := x) W).1
  have okx := (W.no (.inl (under_sub xu))).1
  refine ⟨⟨okx.2.1, fun c hc => (okx.2.2 c hc).2⟩, show i.natAbs < 10 ^ 60 from ?_⟩
  have e1 : big.natAbs < 10 ^ 60 := by decide +kernel
  have e2 : i ≤ big := Int.le_trans c2 hb
  omega
section
variable {P : Program} {w : World} {K : PySem.W.Frag} {mg : Str → Option Value} {base : Heap}
def R_l_sums (ds : List D) (r : D) : Prop := ∃ p n b l, WP p ∧ WS p l ∧ n ∈ rdp p ∧ ds = [planD p, planD p, partsD p, .str n, sqD b l] ∧ r = .bl true
theorem ok_l_sums_right (T : Facts K mg) : OkH P w K mg base 8 "_law_sums_right" ["_law_plan", "_law_twin", "_law_parts", "_law_name", "_law_slow"] (spD K R_l_sums) := by
  have G_fill := ok_fill (P := P) (w := w) (base := base) T
  have G_cover := ok_cover (P := P) (w := w) (base := base) T
  have G_l_alike := ok_l_alike (P := P) (w := w) (base := base) T
  have G_l_is_sum := ok_l_is_sum (P := P) (w := w) (base := base) T
  have G_l_covers := ok_l_covers (P := P) (w := w) (base := base) T
  have G_l_cover_sum := ok_l_cover_sum (P := P) (w := w) (base := base) T
  have G_cover_sum := ok_cover_sum (P := P) (w := w) (base := base) T
  have G_filled := ok_filled (P := P) (w := w) (base := base) T
  have G_is_fill := ok_is_fill (P := P) (w := w) (base := base) T
  have G_is_cover := ok_is_cover (P := P) (w := w) (base := base) T
  obtain ⟨fd, F⟩ := T.fl_sums_right
  have hN : (["_law_plan", "_law_twin", "_law_parts", "_law_name", "_law_slow", "_law_some", "_law_cut", "_law_best"] : List Str).Nodup := by decide +kernel
  refine ⟨_, fd, T.g_law_sums_right, fn_H F (N := ["_law_plan", "_law_twin", "_law_parts", "_law_name", "_law_slow", "_law_some", "_law_cut", "_law_best"]) ⟨rfl, rfl, rfl, hN, rfl, by decide +kernel, by decide +kernel⟩ (fun ds d h => by obtain ⟨p, n, b, l, W, S, hn, rfl, rfl⟩ := h; rfl) (fun _ _ _ _ _ _ us hl => match us, hl with | [_, _, _, _, _], _ => rfl) ?_⟩
  rintro ds r ⟨p, n, b, l, W, S, hn, rfl, rfl⟩ cdv A0 outer0 s0 H0 E0 hgd hr
  obtain ⟨F, fs⟩ := fill_ok W S hn
  obtain ⟨C, cs⟩ := best_ok W S hn
  have bd := best_bd W S hn
  have tf := tl_fill W F
  have tc := tl_cut W C
  let th := fillT p l n
  let k := (best p l n).2
  have k1 : k.1.length ≤ 50 := by have := (rvl_os W (n := n)).2; have := nd_len C.n1 fun x hx => C.s1 x hx; show (best p l n).2.1.length ≤ 50; omega
  have k2 : k.2.length ≤ 50 := by
    have l4 : (under p n).length ≤ 6 := Nat.le_trans (nd_len (under_nd W (n := n)) fun x hx => under_sub hx) (by rw [List.length_map]; exact W.s6)
    have := nd_len C.n2 fun x hx => C.s2 x hx
    show (best p l n).2.2.length ≤ 50; omega
  have nr : ∀ (ρ1 : En) (M1 : Mem), ¬ (Ou.nxt ρ1 M1 = .ret (.bl true)) := fun _ _ e => by cases e
  refine c_parN 5 6 hN (n_dict (f_call G_fill hr (ja_cons (j_v 0) (ja_cons (j_v 3) (ja_cons (j_v 4) ja_nil))) ⟨p, n, b, l, W, S, hn, rfl, rfl⟩)) (j_call G_cover hr (ja_cons (j_v 0) (ja_cons (j_v 3) (ja_cons (j_v 4) ja_nil))) ⟨p, n, b, l, W, S, hn, rfl, rfl⟩) fun q d hd => ?_
  subst hd
  refine c_grd (te_borD (i := 5) (j := 0) (c := false) (t_is (t_not (t_v (j_callH G_l_alike hgd hr (ja_cons (j_lst (ja_cons (j_fz (f_call G_fill hr (ja_cons (j_v 1) (ja_cons (j_v 3) (ja_cons (j_v 4) ja_nil))) ⟨p, n, b, l, W, S, hn, rfl, rfl⟩)) (ja_cons (j_call G_cover hr (ja_cons (j_v 1) (ja_cons (j_v 3) (ja_cons (j_v 4) ja_nil))) ⟨p, n, b, l, W, S, hn, rfl, rfl⟩) ja_nil))) (ja_cons (j_lst (ja_cons (j_v 5) (ja_cons (j_v 6) ja_nil))) ja_nil)) ⟨.lst [.dct (dT D.int (fillT p l n)), kD (best p l n).2], .inr ⟨_, rfl, Nat.le_of_ble_eq_true rfl, fun x hx => ?_⟩, rfl, rfl⟩))) rfl)) nofun (fun _ => ?_) nr
  · simp only [List.mem_cons, List.not_mem_nil, or_false] at hx
    rcases hx with rfl | rfl
    · exact tf
    · exact tc
  refine c_set 7 hN (e_borD (i := 5) (j := 0) (j_sumV T.b_sum (j_v 5)) rfl) fun d hd => ?_
  subst hd
  rw [fs]
  refine c_grd (te_borD (i := 5) (j := 0) (c := false) (t_is (PW.pt (w_or (t_not (t_v (j_call G_l_is_sum hr (ja_cons (j_v 2) (ja_cons (j_v 3) (ja_cons (j_v 4) (ja_cons (j_v 5) ja_nil)))) ⟨p, n, b, l, fillT p l n, W, hn, F, rfl, rfl⟩))) fun _ => w_or1 (t_not (t_v (j_call G_l_covers hr (ja_cons (j_v 2) (ja_cons (j_v 3) (ja_cons (j_v 4) (ja_cons (j_v 6) ja_nil)))) ⟨p, n, b, l, _, W, hn, C, rfl, rfl⟩))))) rfl)) nofun (fun _ => ?_) nr
  refine c_grd (te_of (c := false) (t_is (t_c cd_neI (j_call G_l_cover_sum hr (ja_cons (j_v 2) (ja_cons (j_v 4) (ja_cons (j_v 6) ja_nil))) ⟨p, b, l, _, W, fun x hx => rvl_sub (C.s1 x hx), fun x hx => under_sub (C.s2 x hx), k1, k2, rfl, rfl⟩) (j_v 7)) (by rw [cs, decide_eq_true rfl]; rfl))) nofun (fun _ => ?_) nr
  refine c_grd (te_of (c := false) (t_is (t_not (t_v (j_callH G_l_alike hgd hr (ja_cons (j_lst (ja_cons (j_is (j_call G_cover_sum hr (ja_cons (j_v 0) (ja_cons (j_v 3) (ja_cons (j_v 4) (ja_cons (j_v 6) ja_nil)))) ⟨p, n, b, l, _, W, S, hn, fun x hx => rvl_sub (C.s1 x hx), C.s2, rfl, rfl⟩) (by rw [csum_eq W C, cs])) (ja_cons (j_call G_filled hr (ja_cons (j_v 0) (ja_cons (j_v 3) (ja_cons (j_v 4) ja_nil))) ⟨p, n, b, l, W, S, hn, rfl, rfl⟩) ja_nil))) (ja_cons (j_lst (ja_cons (j_v 7) (ja_cons (j_v 7) ja_nil))) ja_nil)) ⟨.lst [.int (best p l n).1, .int (best p l n).1], .inr ⟨_, rfl, Nat.le_of_ble_eq_true rfl, fun x hx => ?_⟩, rfl, rfl⟩))) rfl)) nofun (fun _ => ?_) nr
  · simp only [List.mem_cons, List.not_mem_nil, or_false, or_self] at hx
    subst hx
    exact bd
  refine c_grd (te_borD (i := 5) (j := 0) (c := false) (t_is (t_not (t_v (j_callH G_l_alike hgd hr (ja_cons (j_lst (ja_cons (j_call G_is_fill hr (ja_cons (j_v 0) (ja_cons (j_v 3) (ja_cons (j_v 4) (ja_cons (j_v 5) ja_nil)))) ⟨p, n, b, l, fillT p l n, W, S, hn, F, rfl, rfl⟩) (ja_cons (j_call G_is_cover hr (ja_cons (j_v 0) (ja_cons (j_v 3) (ja_cons (j_v 4) (ja_cons (j_v 6) ja_nil)))) ⟨p, n, b, l, _, W, S, hn, C, rfl, rfl⟩) ja_nil))) (ja_cons (j_lst (ja_cons j_bl (ja_cons j_bl ja_nil))) ja_nil)) ⟨.lst [.bl true, .bl true], .inr ⟨_, rfl, Nat.le_of_ble_eq_true rfl, fun x hx => ?_⟩, rfl, rfl⟩))) rfl)) nofun (fun _ => ?_) nr
  · simp only [List.mem_cons, List.not_mem_nil, or_false, or_self] at hx
    subst hx
    exact trivial
  refine c_cons (w_clear 0 (j_v 5) rfl) (fun ρ1 M1 e => ?_) (fun o n e => absurd e (n _ _))
  cases e
  exact c_one (c_imS (w_pr (s_ret j_bl)) fun o ho => ho)
end
end K51
end
section
set_option Elab.async false
set_option linter.all false
set_option maxRecDepth 100000
set_option maxHeartbeats 1000000
/-! list(d.items()) of a locked dict. -/
namespace K51
open PySem PySem.Spec PyProof.Rows L2
theorem items_rep {K : PySem.W.Frag} {L L' H' : Hp} (lx : Ex L L') : ∀ {kvs : List (Key × V)} {t : List (Str × D)}, RepK K L kvs t → ∀ {as : List Addr}, Paired (fun (c : Addr) (q : Key × V) => H' c = some (.tup [kV q.1, q.2])) as kvs → (∀ a ∈ as, L' a = H' a) → RepL K L' (as.map V.ref) (t.map fun p => D.tup [.str p.1, p.2])
  | _, _, .nil, _, .nil, _ => .nil
  | _, _, .cons (x := x) a b, _, .cons h r, hl => .cons (.tup ((hl _ List.mem_cons_self).trans h) (.cons (.str x) (.cons (a.ex lx) .nil)) (show 2 ≤ 100000 by decide)) (items_rep lx b r fun c hc => hl c (List.mem_cons_of_mem _ hc))
def tItF (te : TE) : TE := fun σ H Q => te σ H fun x H1 => ∃ (d : Addr) (o : Obj) (kvs : List (Key × V)), x = .ref d ∧ H1 d = some (.frz o (.dK kvs)) ∧
  ∀ (H' : Hp) (p : Addr) (ts : List Addr), (∀ b o, H1 b = some o → H' b = some o) → H1 p = none → (∀ t ∈ ts, H1 t = none) → p ∉ ts → H' p = some (.lst (ts.map V.ref)) → Paired (fun (t : Addr) (q : Key × V) => H' t = some (.tup [kV q.1, q.2])) ts kvs → Q (.ref p) H'
section
variable {X : Cx} {ρ : En} {e : Expr} {t : List (Str × D)} {te : TE} {p apos cpos pos : Pos}
theorem pe_itF (hc : X.calm = true) (he : PE X e te) (hg : Gl X "list") (hm : X.mg "list" = none) (hbase : attributeBase e "items" X.env (eval e X.env) = eval e X.env) (hline : (apos.endLine == cpos.line) = true)
    (hs : starEach [.Call (.Attribute e "items" apos) [] [] cpos] X.env = (false, eval (.Call (.Attribute e "items" apos) [] [] cpos) X.env) :: starEach [] X.env) : PE X (.Call (.Name "list" p) [.Call (.Attribute e "items" apos) [] [] cpos] [] pos) (tItF te) := by
  constructor
  intro pins s σ H Q I h
  refine wpAny_Call_Name_kw (ld_blt I hg hm boot_list ?_)
  refine PyProof.Rows.callWith_type1 ?_ hs rfl
  rw [hs]
  show wpAny _ _ (spliced ((false, _) :: backTo pos (starEach [] X.env))) _ _ s
  refine Calls.spliced_cons (wpAny_Call_method (T := "dict") (id := "dict.items") hbase rfl hline F.plainAttrs_dict F.slot_dict_items F.type_dict_items (thn (he.run pins s σ H _ I h) fun u s1 ⟨x, H1, J, rx, d, o, kvs, ex, hd, q⟩ => ?_))
  subst ex
  cases (show u = Value.ref d from rx)
  obtain ⟨_, hz, low, vs, kv, dof⟩ := (show ObjOk X.prog X.w H1 s1.heap d (.frz o (.dK kvs)) from J.hok d _ hd)
  obtain ⟨ep, dat⟩ := dof.dictAt
  have n1 : kvs.length = vs.length := Paired.length kv
  have J2 : Inv X pins σ H1 { s1 with heap := s1.heap.push { cls := .type "dict_items", data := .fields #[.ref d] } } := J.kept (t' := s1.toks) fun b ob z => Heap.get?_push_of_some _ z
  refine ⟨dof.typeIs, dof.mapOf.noDict, ?_⟩
  show wpAny _ _ (callWith cpos (.builtin "dict.items") [.ref d] [] []) _ X.xe s1
  refine method_meetsIn F.slot_dict_items F.entry_dict_items rfl (PySem.evalArgs_none ⟨rfl, dof.typeIs, F.args_dict_items_1 _, _, meets_dict_items (mixKind X.prog X.w) d low, ⟨vs, dof⟩, Calls.spliced_nil ?_⟩)
  refine PySem.W.kdx_call (knd := mixKind X.prog X.w) (kvs := vs) (ep := ep) (J.ok.hd hc) ⟨_, Heap.get?_push_size _ rfl, rfl, rfl⟩ (dat.push _) (by omega) fun h' tk acc c as y1 y2 y3 y4 y5 => ?_
  obtain ⟨H', k1, k2, k3, k4, k5, k6, J3⟩ := LiI.items_laid (tk := tk) J2 hz kv y1 y2 y3 y4 y5
  exact ⟨.ref _, H', J3, rfl, q H' _ as k1 k2 k3 k4 k5 k6⟩
theorem j_listItems (he : PE X e (tJ X.K ρ (.dct t))) (hm : X.mg "list" = none) (hc : X.calm = true := by rfl) (hg : Gl X "list" := by rfl) (hbase : attributeBase e "items" X.env (eval e X.env) = eval e X.env := by rfl) (hline : (apos.endLine == cpos.line) = true := by rfl)
    (hs : starEach [.Call (.Attribute e "items" apos) [] [] cpos] X.env = (false, eval (.Call (.Attribute e "items" apos) [] [] cpos) X.env) :: starEach [] X.env := by rfl) :
    PE X (.Call (.Name "list" p) [.Call (.Attribute e "items" apos) [] [] cpos] [] pos) (tJ X.K ρ (.lst (t.map fun p => D.tup [.str p.1, p.2]))) := (pe_itF hc he hg hm hbase hline hs).imp fun σ H Q ⟨L, ex, env, k⟩ => ⟨L, ex, env, fun v H1 L1 g1 r1 => by
  obtain ⟨a, o, kvs, rfl, ha, rk, z⟩ := r1.dctF_
  refine ⟨a, o, kvs, rfl, g1.sub _ _ ha, fun H' q ts x1 x2 x3 x4 x5 x6 => ?_⟩
  let L' : Hp := fun c => if c = q ∨ c ∈ ts then H' c else L1 c
  have nk : ∀ c, (c = q ∨ c ∈ ts) → H1 c = none := fun c h => h.elim (fun w => w ▸ x2) (x3 c)
  have lx : Ex L1 L' := fun c u w => by
    show (if c = q ∨ c ∈ ts then H' c else L1 c) = some u
    rw [if_neg fun h => by have := g1.sub _ _ w; rw [nk c h] at this; cases this]
    exact w
  have lin : ∀ c, (c = q ∨ c ∈ ts) → L' c = H' c := fun c h => if_pos h
  have g2 : Go H1 L1 H' L' := ⟨x1, lx, fun c u w => by
    by_cases h : c = q ∨ c ∈ ts
    · rw [lin c h] at w; exact w
    · have w' : L1 c = some u := by rw [← w]; exact (if_neg h).symm
      exact x1 _ _ (g1.sub _ _ w'), fun c h => if_neg fun w => h (nk c w)⟩
  exact k _ H' L' (g1.tr g2) (.lst ((lin q (.inl rfl)).trans x5) (items_rep lx rk x6 fun c hc => lin c (.inr hc)) (by rw [List.length_map]; exact z))⟩
end
end K51
end
section
set_option Elab.async false
set_option linter.all false
set_option maxRecDepth 100000
set_option maxHeartbeats 4000000
/-! The walk: drawn ones right. -/
namespace K51
open PySem PySem.Spec PyProof.Rows L2
def unP : D → Str × Int
  | .tup [.str x, .int i] => (x, i)
  | _ => ("", 0)
theorem perm_pairs {l : List D} {th : Tb Int} (h : l.Perm (th.map fun p => D.tup [.str p.1, .int p.2])) : ∃ th' : Tb Int, th'.Perm th ∧ l = th'.map fun p => D.tup [.str p.1, .int p.2] := by
  have e : (th.map fun p => D.tup [.str p.1, .int p.2]).map unP = th := by rw [List.map_map]; exact List.map_id' _
  refine ⟨l.map unP, by have := h.map unP; rwa [e] at this, ?_⟩
  rw [List.map_map]
  have : ∀ d ∈ l, ((fun p : Str × Int => D.tup [.str p.1, .int p.2]) ∘ unP) d = d := fun d hd => by
    obtain ⟨x, _, rfl⟩ := List.mem_map.mp (h.mem_iff.mp hd)
    rfl
  rw [List.map_congr_left this, List.map_id']
theorem isF_perm {p : Pa} {l : List Str} {n : Str} {th th' : Tb Int} (h : th'.Perm th) (F : isF p l n th) : isF p l n th' := by
  have kp : (keys th').Perm (keys th) := h.map _
  have nd : (keys th').Nodup := kp.nodup_iff.mpr F.nd
  have ge : ∀ z, z ∈ under p n → gi th' z = gi th z := fun z hz => by
    obtain ⟨a, ha⟩ := gt_in ((F.mem z).mpr hz)
    unfold gi
    rw [ha, gt_of_mem nd (h.mem_iff.mpr (gt_mem ha))]
  refine ⟨nd, fun z => (kp.mem_iff).trans (F.mem z), fun z hz => by rw [ge z hz]; exact F.cap z hz, fun o ho => ?_⟩
  rw [List.map_congr_left (g := gi th) fun z hz => ge z (of_decide_eq_true (List.mem_filter.mp hz).2)]
  exact F.sum o ho
theorem e_dictE {X : Cx} {b : Option Addr} {M : Mem} {ρ : En} {e : Expr} {p pos : Pos} {Ψ : List (Str × D) → Prop} (hnd : ∀ ls, Ψ ls → (ls.map (·.1)).Nodup) (ha : PE X e (tE X.K b M ρ fun d => ∃ ls, Ψ ls ∧ d = .lst (ls.map fun p => D.tup [.str p.1, p.2]))) (hm : X.mg "dict" = none) (hg : Gl X "dict" := by rfl) (he : starEach [e] X.env = (false, eval e X.env) :: starEach [] X.env := by rfl) (hpl : (backTo pos (starEach [] X.env)).any (·.1) = false := by rfl) (hc : X.calm = true := by rfl) :
    PE X (.Call (.Name "dict" p) [e] [] pos) (tE X.K b M ρ fun d => ∃ ls, Ψ ls ∧ d = .dct ls) :=
  (pe_fz (pe_callTy (call_dictP hc) hg hm boot_dict (ae_cons ha ae_nil he) (by decide) (by decide) he hpl)).imp fun σ H Q ⟨L, e, env, ow, k⟩ => ⟨L, e, env, ow, fun vs H1 L1 ds hds g1 o1 r1 => by
    obtain ⟨_, _, rfl, ⟨ls, hl, rfl⟩, rfl⟩ := hds
    obtain ⟨v, vs2, rfl, r2, r3⟩ := r1.cons_
    obtain rfl := r3.nil_
    obtain ⟨a, xs, rfl, ha, rl, z⟩ := r2.lst_
    obtain ⟨ps, kvs, rfl, rk, pr⟩ := repL_pairs rl
    refine ⟨a, ps, kvs, rfl, SqL.of (g1.sub _ _ ha), paired_imp (fun p kv h => SqT.of (g1.sub _ _ h)) pr, fun c hc => ?_⟩
    have nk : (([] ++ kvs : List (Key × V)).map (·.1)).Nodup := by
      show (kvs.map (·.1)).Nodup
      rw [repK_keys rk]
      exact List.Pairwise.map _ (fun a b hab e => hab (Sum.inr.inj e)) (hnd ls hl)
    rw [mergeK_new nk]
    refine ⟨c, .dK kvs, rfl, upd_same, trivial, fun od => ?_⟩
    have la : L1 c = none := free_sub g1.sub hc
    have g2 : Go H1 L1 (upd (upd H1 c (.dK kvs)) c (.frz od (.dK kvs))) (upd L1 c (.frz od (.dK kvs))) := ⟨fun y u h => by rw [upd_ne (ne_of_none h hc), upd_ne (ne_of_none h hc)]; exact h, ex_new la, fun y u h => by
      by_cases w : y = c
      · rw [w, upd_same] at h ⊢; exact h
      · rw [upd_ne w] at h ⊢; rw [upd_ne w]; exact g1.sub _ _ h, fun y h => upd_ne fun w => h (w ▸ hc)⟩
    exact k _ _ _ _ ⟨ls, hl, rfl⟩ (g1.tr g2.gx) (o1.go g2) (.dct ⟨od, upd_same⟩ (rk.ex (ex_new la)) (by rw [List.length_map] at z; exact z))⟩
theorem isF_sum {th th' : Tb Int} (h : th'.Perm th) : (th'.map (·.2)).sum = (th.map (·.2)).sum := sum_perm (h.map _)
theorem cr_big {p : Pa} (W : WP p) {o : Str} (h : o ∈ shared p) : cr p o ≤ big := by
  have hx2 : o ∈ keys p.ho ++ keys p.ki ++ [("pipe" : Str)] := (srt_perm _).mem_iff.mp h
  obtain ⟨l, hl⟩ := shared_pool W h
  rw [cr_of hl]
  unfold pool at hl
  split at hl
  · cases hl; exact W.pp.2.1
  · split at hl
    · next m hm => cases hl; exact (W.so _ (gt_mem hm)).2.2.1
    · split at hl
      · next g hg => cases hl; exact (W.ph _ (gt_mem hg)).2.1
      · cases hk : gt p.ki o with
        | none => rw [hk] at hl; cases hl
        | some g => rw [hk] at hl; cases hl; exact (W.pk _ (gt_mem hk)).2.1
theorem hsum_bd {p : Pa} {l : List Str} {n : Str} {k : Cut} (W : WP p) (C : isC p l n k) (h1 : k.1.length ≤ 50) (h2 : k.2.length ≤ 50) : (hsum p l k).natAbs < 10 ^ 60 := by
  have b0 : (0 : Int) ≤ big := by decide
  obtain ⟨a1, a2⟩ := sum_bd (l := k.1.map (cr p)) (B := big) fun x hx => by
    obtain ⟨o, ho, rfl⟩ := List.mem_map.mp hx
    have := cr_pos W (rvl_sub (C.s1 o ho))
    exact ⟨by omega, cr_big W (rvl_sub (C.s1 o ho))⟩
  obtain ⟨a3, a4⟩ := sum_bd (l := k.2.map (hold p l)) (B := big) fun x hx => by
    obtain ⟨z, hz, rfl⟩ := List.mem_map.mp hx
    exact hold_nn W (under_sub (C.s2 z hz))
  rw [List.length_map] at a2 a4
  have m1 : (k.1.length : Int) * big ≤ 50 * big := Int.mul_le_mul_of_nonneg_right (by omega) b0
  have m2 : (k.2.length : Int) * big ≤ 50 * big := Int.mul_le_mul_of_nonneg_right (by omega) b0
  have m3 : (50 * big + 50 * big).natAbs < 10 ^ 60 := by decide +kernel
  have m4 : (0 : Int) ≤ 50 * big := by decide
  unfold hsum
  omega
section
variable {P : Program} {w : World} {K : PySem.W.Frag} {mg : Str → Option Value} {base : Heap}
def P_l_drawn (p : Pa) (n : Str) (b : Bool) (l : List Str) (ds : List D) : Prop := WP p ∧ WS p l ∧ n ∈ rdp p ∧ ds = [planD p, partsD p, .str n, sqD b l]
def R_l_drawn (ds : List D) (r : D) : Prop := r = .bl true
theorem ok_l_drawn_right (T : Facts K mg) (p : Pa) (n : Str) (b : Bool) (l : List Str) : OkH P w K mg base 8 "_law_drawn_right" ["_law_bag_here", "_law_plan", "_law_parts", "_law_name", "_law_slow"] (spB K (P_l_drawn p n b l) R_l_drawn) := by
  have G_l_mixed := ok_l_mixed (P := P) (w := w) (base := base) T
  have G_l_alike := ok_l_alike (P := P) (w := w) (base := base) T
  have G_l_some_fill := ok_l_some_fill (P := P) (w := w) (base := base) T
  have G_l_some_cover := ok_l_some_cover (P := P) (w := w) (base := base) T
  have G_l_cover_sum := ok_l_cover_sum (P := P) (w := w) (base := base) T
  have G_cover_sum := ok_cover_sum (P := P) (w := w) (base := base) T
  have G_filled := ok_filled (P := P) (w := w) (base := base) T
  have G_is_fill := ok_is_fill (P := P) (w := w) (base := base) T
  have G_is_cover := ok_is_cover (P := P) (w := w) (base := base) T
  obtain ⟨fd, F⟩ := T.fl_drawn_right
  have hN : (["_law_bag_here", "_law_plan", "_law_parts", "_law_name", "_law_slow", "_law_best", "_law_less", "_law_more"] : List Str).Nodup := by decide +kernel
  refine ⟨_, fd, T.g_law_drawn_right, fn_HB F (N := ["_law_bag_here", "_law_plan", "_law_parts", "_law_name", "_law_slow", "_law_best", "_law_less", "_law_more"]) ⟨rfl, rfl, rfl, hN, rfl, by decide +kernel, by decide +kernel⟩ (fun ds h => by obtain ⟨W, S, hn, rfl⟩ := h; rfl) (fun _ _ _ _ _ _ us hl => match us, hl with | [_, _, _, _, _], _ => rfl) ?_⟩
  rintro q ds ⟨W, S, hn, rfl⟩ cdv A0 outer0 s0 H0 E0 hgd hr
  have nr : ∀ (ρ1 : En) (M1 : Mem), ¬ ∃ d, Ou.nxt ρ1 M1 = .ret d ∧ R_l_drawn [planD p, partsD p, .str n, sqD b l] d := fun _ _ ⟨_, e, _⟩ => by cases e
  refine c_p (s_set 5 hN (j_call G_filled hr (ja_cons (j_v 1) (ja_cons (j_v 3) (ja_cons (j_v 4) ja_nil))) ⟨p, n, b, l, W, S, hn, rfl, rfl⟩)) ?_
  refine c_parE 6 7 (Φ := R_l_fill p n l []) (Ψ := R_l_cover1 p n l []) hN (e_callB (Θ := R_l_fill p n l []) (G_l_some_fill p n b l) hr (ae_of (ja_cons (j_v 0) (ja_cons (j_v 2) (ja_cons (j_v 3) (ja_cons (j_v 4) ja_nil))))) fun ds e => ⟨_, e, ⟨W, rfl⟩, fun d h => h⟩) (e_callB (Θ := R_l_cover1 p n l []) (G_l_some_cover p n b l) hr (ae_of (ja_cons (j_v 0) (ja_cons (j_v 2) (ja_cons (j_v 3) (ja_cons (j_v 4) ja_nil))))) fun ds e => ⟨_, e, ⟨W, rfl⟩, fun d h => h⟩) fun d1 d2 ⟨th, F, e1⟩ ⟨k, C, e2⟩ => ?_
  subst e1; subst e2
  have u6 : (under p n).length ≤ 6 := Nat.le_trans (nd_len (under_nd W (n := n)) fun x hx => under_sub hx) (by rw [List.length_map]; exact W.s6)
  have fl := isF_len W F
  have kC1 : k.1.length ≤ 50 := by have := (rvl_os W (n := n)).2; have := nd_len C.n1 fun x hx => C.s1 x hx; omega
  have kC2 : k.2.length ≤ 50 := by have := nd_len C.n2 fun x hx => C.s2 x hx; omega
  refine c_set 6 hN (e_dictE (Ψ := fun ls => ∃ th', isF p l n th' ∧ ls = dT D.int th') (fun ls ⟨th', F', e⟩ => by rw [e, dT_keys]; exact F'.nd) (e_callB (Θ := fun d => ∃ ls, (∃ th', isF p l n th' ∧ ls = dT D.int th') ∧ d = .lst (ls.map fun p => D.tup [.str p.1, p.2])) G_l_mixed hr (ae_of (ja_cons (j_v 0) (ja_cons (j_listItems (j_v 6) T.b_list) ja_nil))) fun ds e => ⟨_, e, ⟨_, by rw [List.length_map, dT_len]; omega, rfl⟩, fun d hd => ?_⟩) T.b_dict) fun d ⟨ls, ⟨th', F', e1⟩, e2⟩ => ?_
  · obtain ⟨l', h1, h2⟩ := hd _ rfl
    have e3 : (dT D.int th).map (fun p => D.tup [.str p.1, p.2]) = th.map fun p => D.tup [.str p.1, .int p.2] := by unfold dT; rw [List.map_map]; rfl
    rw [e3] at h1
    obtain ⟨th', h3, h4⟩ := perm_pairs h1
    exact ⟨dT D.int th', ⟨th', isF_perm h3 F, rfl⟩, by rw [h2, h4]; unfold dT; rw [List.map_map]; rfl⟩
  subst e2; subst e1
  have le := fill_le W S hn F'
  have ge := cut_ge W S hn C
  refine c_grd (te_of (c := false) (t_is (PW.pt (w_or (t_c cd_gt (j_sumV T.b_sum (j_v 6)) (j_v 5)) fun _ => w_or1 (t_c cd_notB (j_call G_is_fill hr (ja_cons (j_v 1) (ja_cons (j_v 3) (ja_cons (j_v 4) (ja_cons (j_v 6) ja_nil)))) ⟨p, n, b, l, th', W, S, hn, F', rfl, rfl⟩) j_bl))) (by rw [decide_eq_false (show ¬ (best p l n).1 < (th'.map (·.2)).sum by omega)]; rfl))) nofun (fun _ => ?_) nr
  refine c_grd (te_of (c := false) (t_is (PW.pt (w_or (t_c cd_notB (j_call G_is_cover hr (ja_cons (j_v 1) (ja_cons (j_v 3) (ja_cons (j_v 4) (ja_cons (j_v 7) ja_nil)))) ⟨p, n, b, l, k, W, S, hn, C, rfl, rfl⟩) j_bl) fun _ => w_or1 (t_c cd_lt (j_call G_l_cover_sum hr (ja_cons (j_v 2) (ja_cons (j_v 4) (ja_cons (j_v 7) ja_nil))) ⟨p, b, l, k, W, fun x hx => rvl_sub (C.s1 x hx), fun x hx => under_sub (C.s2 x hx), kC1, kC2, rfl, rfl⟩) (j_v 5)))) (by rw [decide_eq_false (show ¬ hsum p l k < (best p l n).1 by omega)]; rfl))) nofun (fun _ => ?_) nr
  refine c_one (c_imS (w_pr (s_ret (j_callH G_l_alike hgd hr (ja_cons (j_is (j_call G_cover_sum hr (ja_cons (j_v 1) (ja_cons (j_v 3) (ja_cons (j_v 4) (ja_cons (j_v 7) ja_nil)))) ⟨p, n, b, l, k, W, S, hn, fun x hx => rvl_sub (C.s1 x hx), C.s2, rfl, rfl⟩) (by rw [csum_eq W C])) (ja_cons (j_call G_l_cover_sum hr (ja_cons (j_v 2) (ja_cons (j_v 4) (ja_cons (j_v 7) ja_nil))) ⟨p, b, l, k, W, fun x hx => rvl_sub (C.s1 x hx), fun x hx => under_sub (C.s2 x hx), kC1, kC2, rfl, rfl⟩) ja_nil)) ⟨.int (hsum p l k), .inl ⟨_, rfl, ?_⟩, rfl, rfl⟩))) fun o ho => ⟨_, ho, rfl⟩)
  exact hsum_bd W C kC1 kC2
end
end K51
end
section
set_option Elab.async false
set_option linter.all false
set_option maxRecDepth 100000
set_option maxHeartbeats 1000000
/-! The bag from here on; a list backwards. -/
namespace K51
open PySem PySem.Spec PyProof.Rows L2
section
variable {X : Cx} {ρ : En} {e : Expr} {pos p : Pos} {es : List Expr} {a : Addr} {ns : List Int} {n k : Nat} {rest : List Stmt} {Ω : Ou → Prop} {l : List D}
theorem _root_.L2.PSs.h0 {t t' : TS} (h : PSs X rest t) (f : ∀ E σ H, (∀ b o u, X.H_0 b = some (.frz o u) → H b = some (.frz o u)) → t' E σ H → t E σ H) : PSs X rest t' := ⟨fun pins s σ H E I q => h.run pins s σ H E I (f E σ H I.base.frzs q)⟩
/-- bag = _law_bag(script): from here on the bag is known -/
theorem c_bag (i : Nat) {x : Str} {pos' pf : Pos} (hN : X.N.Nodup) (G : OkG X.prog X.w X.K X.mg X.base k "_law_bag" ["_law_script"] (spBag X.K)) (hr : Room n X.A) (hS : SqF X.K X.H_0 a (ns.map V.int)) (hz : ns.length ≤ 63) (ha : PE X e (tJ X.K ρ (.own a)))
    (h2 : ∀ q, PSs X rest (tW X.K (some q) [] (ρ.set i (some (.own q))) Ω)) (hΩ : ∀ o, Ω o → ∃ d, o = .ret d) (hk : k ≤ n := by decide) (hg : Gl X "_law_bag" := by rfl)
    (he : starEach [e] X.env = (false, eval e X.env) :: starEach [] X.env := by rfl) (hpl : (backTo p (starEach [] X.env)).any (·.1) = false := by rfl)
    (hi : X.N[i]? = some x := by rfl) (hx : Loc X.env.scope x := by first | exact .inl rfl | exact .inr rfl) (hs : swapsWith (.Call (.Name "_law_bag" pf) [e] [] p) (some (.Name x pos')) pos.line X.env = pure false := by rfl) (hfn : X.fn x = true ∨ X.env.scope.names.lookup x = some .local := by first | exact .inl rfl | exact .inr rfl) :
    PSs X (.Assign [.Name x pos'] (.Call (.Name "_law_bag" pf) [e] [] p) pos :: rest) (tW X.K none [] ρ Ω) := by
  have w : PSs X rest (fun E σ H => ∃ q, tW X.K (some q) [] (ρ.set i (some (.own q))) Ω E σ H) := PSs.any h2
  obtain ⟨fa, hm, ⟨fd, F, B⟩, kp⟩ := G.ex
  refine PSs.h0 (pss_cons (ps_set hN hi hx (pe_call F (hr.mono hk) hg hm kp B .nil pass0 (ja_cons ha ja_nil he) (by decide) he hpl) hs hfn) w) fun E σ H f ⟨L, e, env, ow, k⟩ => ⟨L, e, env, fun vs H1 L1 g1 r1 => ?_⟩
  obtain ⟨v, vs2, rfl, r2, r3⟩ := r1.cons_
  obtain rfl := r3.nil_
  obtain rfl := r2.own_
  refine ⟨a, ns, rfl, hS.later fun b o u z => g1.ex _ _ (f b o u z), hz, fun q c ms H2 x1 x2 x3 x4 x5 x6 x7 x8 => ?_⟩
  let L2' : Hp := fun y => if y = c then H2 c else L1 y
  have l1c : L1 c = none := free_sub g1.sub x3
  have lc : L2' c = some (.lst (ms.map V.int)) := (if_pos rfl).trans x6
  have lx : Ex L1 L2' := fun y u h => (if_neg (ne_of_none h l1c)).trans h
  have sub : Ex L2' H2 := fun y u h => by
    by_cases z : y = c
    · rw [z, lc] at h; rw [z, x6]; exact h
    · have h' : L1 y = some u := by rw [← h]; exact (if_neg z).symm
      exact x1 _ _ (g1.sub _ _ h')
  have g2 : Go H1 L1 H2 L2' := ⟨x1, lx, sub, fun y h => if_neg fun z : y = c => h (by rw [z]; exact x3)⟩
  have l2q : L2' q = none := (if_neg fun z : q = c => x4 z.symm).trans (free_sub g1.sub x2)
  refine ⟨q, L2', sub, ((env.ex g1.lx).ex lx).set (.own q), ⟨.nil, nofun, nofun, fun c' hc => ?_⟩, fun o ho => ?_⟩
  · cases hc
    exact ⟨l2q, ⟨0, 1234567891, 0, c, ms, x5, lc, Nat.le_trans x7 (by decide), x8, by decide, by decide, by decide⟩, nofun⟩
  · obtain ⟨d, rfl⟩ := hΩ o ho
    have h0q : H q = none := by
      cases z : H q with
      | none => rfl
      | some u => rw [g1.ex _ _ z] at x2; cases x2
    have k2 := k _ ho
    exact fun v H' L' g o' rv => k2 v H' L' ⟨fun y u _ m h => g.ex y u (fun z => by cases z; rw [h0q] at h; cases h) m (x1 _ _ (g1.ex _ _ h)), (g1.lx.tr lx).tr g.lx, g.sub, fun y h m => by rw [g.old y (dom_of x1 y (dom_of g1.ex y h)) m, (g1.tr g2).old y h], fun y h => g.dom y (dom_of x1 y (dom_of g1.ex y h)), nofun⟩ ⟨o'.nd, o'.un, o'.sh, nofun⟩ rv
/-- xs[::-1] -/
theorem j_rev {k : Nat} {p1 p2 p3 : Pos} (ha : PE X e (tJ X.K ρ (.lst l))) : PE X (.Subscript e (.Slice none none (some (.UnaryOp .USub (.Constant (.int 1) k p1) p2)) p3) pos) (tJ X.K ρ (.lst l.reverse)) := (pe_revL ha).imp fun σ H Q ⟨L, ex, env, k⟩ => ⟨L, ex, env, fun v H1 L1 g1 r1 => by
  obtain ⟨b, xs, rfl, hb, rl, z⟩ := r1.lst_
  refine ⟨b, xs, rfl, SqL.of (g1.sub _ _ hb), fun q hq => ?_⟩
  have g2 := Go.new (o := .lst xs.reverse) g1.sub hq
  have rr : ∀ {xs : List V} {l : List D}, RepL X.K L1 xs l → RepL X.K L1 xs.reverse l.reverse := fun {xs l} r => by
    induction l generalizing xs with
    | nil => cases r; exact .nil
    | cons d r2 ih => cases r with | cons a b => rw [List.reverse_cons, List.reverse_cons]; exact (ih b).app (.one a)
  exact k _ _ _ (g1.tr g2) (.lst upd_same ((rr rl).ex g2.lx) (by rw [List.length_reverse]; exact z))⟩
end
end K51
end
section
set_option Elab.async false
set_option linter.all false
set_option maxRecDepth 100000
set_option maxHeartbeats 4000000
/-! The walk: the law. -/
namespace K51
open PySem PySem.Spec PyProof.Rows L2
section
variable {X : Cx} {b : Option Addr} {M : Mem} {ρ : En} {a : Expr} {pos p2 : Pos} {lo hi : Option Expr} {i j : Option Int} {Ψ : List D → Prop}
/-- xs[i:j], xs told by a property -/
theorem e_slL (ha : PE X a (tE X.K b M ρ fun d => ∃ l, Ψ l ∧ d = .lst l)) (hl : PO X lo (tO X.K ρ i)) (hh : PO X hi (tO X.K ρ j)) : PE X (.Subscript a (.Slice lo hi none p2) pos) (tE X.K b M ρ fun d => ∃ l, Ψ l ∧ d = .lst (cutD l i j)) :=
  (pe_slice sl_list ha hl hh).imp fun σ H Q ⟨L, e, env, ow, k⟩ => ⟨L, e, env, ow, fun v H1 L1 d hd g1 o1 r1 => ⟨L1, g1.sub, env.ex g1.lx, fun H2 L2 g2 => ⟨L2, g2.sub, (env.ex g1.lx).ex g2.lx, fun H3 L3 g3 => by
    obtain ⟨l, hp, hd⟩ := hd
    subst hd
    obtain ⟨p, xs, rfl, hq, rl, z⟩ := ((r1.ex g2.lx).ex g3.lx).lst_
    refine ⟨p, xs, rfl, SqL.of (g3.sub _ _ hq), fun q hn => ?_⟩
    have g4 := Go.new (o := .lst (cutV xs i j)) g3.sub hn
    exact k _ _ _ _ ⟨l, hp, rfl⟩ (g1.tr ((g2.tr g3).tr g4).gx) (o1.go ((g2.tr g3).tr g4)) (.lst upd_same ((cut_rep rl).ex g4.lx) (Nat.le_trans (cutD_len _ _) z))⟩⟩⟩
end
theorem cutD_sub {l : List D} {i j : Option Int} {d : D} (h : d ∈ cutD l i j) : d ∈ l := List.mem_of_mem_drop (List.mem_of_mem_take h)
theorem ws_rev {p : Pa} {l : List Str} (S : WS p l) : WS p l.reverse := ⟨fun s hs => S.mem s (List.mem_reverse.mp hs), (List.reverse_perm l).nodup_iff.mpr S.nd, by rw [List.length_reverse]; exact S.len⟩
theorem shw_sq {p : Pa} (W : WP p) {l : List Str} (S : WS p l) (b : Bool) : Shw (sqD b l) := by
  have l6 : (l.map D.str).length ≤ 12 := by have := S.len; have := W.s6; rw [List.length_map]; omega
  have tl : ∀ n, ∀ d ∈ l.map D.str, Tl n d := fun n d hd => by
    obtain ⟨x, hx, rfl⟩ := List.mem_map.mp hd
    exact tl_str (W.no (.inl (S.mem x hx).1)).1
  cases b
  · exact .inr (.inr ⟨_, rfl, l6, tl 2⟩)
  · exact .inr (.inl ⟨_, rfl, l6, tl 1⟩)
def spLaw (K : PySem.W.Frag) : Sp := fun vs H Q _ => ∃ (a : Addr) (ns : List Int), vs = [.ref a] ∧ SqF K H a (ns.map V.int) ∧ ns.length ≤ 63 ∧ ∀ H', Q (.bl true) H'
section
variable {P : Program} {w : World} {K : PySem.W.Frag} {mg : Str → Option Value} {base : Heap}
theorem ok_law (T : Facts K mg) {fd : FuncData} (F : FnP K "law" "law" s_law (He.ga K "law") fd) : FnG P w K mg base 11 (He.ga K "law") fd ["_law_script"] (spLaw K) := by
  have G_bag := ok_l_bag (P := P) (w := w) (base := base) T
  have G_take := ok_l_take (P := P) (w := w) (base := base) T
  have G_parts := ok_l_draw_parts (P := P) (w := w) (base := base) T
  have G_make := ok_l_make_plan (P := P) (w := w) (base := base) T
  have G_mixed := ok_l_mixed (P := P) (w := w) (base := base) T
  have G_read := ok_l_read_pools (P := P) (w := w) (base := base) T
  have G_slow := ok_l_draw_slow (P := P) (w := w) (base := base) T
  have G_sums := ok_l_sums_right (P := P) (w := w) (base := base) T
  have G_drawn := ok_l_drawn_right (P := P) (w := w) (base := base) T
  have hN : (["_law_script", "_law_bag_here", "_law_turn", "_law_parts", "_law_plan", "_law_twin", "_law_name", "_law_slows", "_law_at", "_law_slow", "_law_shown", "_law_k"] : List Str).Nodup := by decide +kernel
  refine fng F (N := ["_law_script", "_law_bag_here", "_law_turn", "_law_parts", "_law_plan", "_law_twin", "_law_name", "_law_slows", "_law_at", "_law_slow", "_law_shown", "_law_k"]) ⟨rfl, rfl, rfl, hN, rfl, by decide +kernel, by decide +kernel⟩ (fun vs H Q E h => by obtain ⟨_, _, rfl, _⟩ := h; rfl) fun cdv A outer s H vs Q E hgd hr h => ?_
  obtain ⟨a, ns, rfl, hS, hz, fin⟩ := h
  have hu : (cxOf CX0 P w K mg base ["_law_script", "_law_bag_here", "_law_turn", "_law_parts", "_law_plan", "_law_twin", "_law_name", "_law_slows", "_law_at", "_law_slow", "_law_shown", "_law_k"] "law" (defScope s_law) (He.ga K "law") cdv A outer s H E).nox.A.units + 16 < cLine := by have := hr.un; show (A.deeper _).units + 16 < cLine; omega
  have body : PSs (cxOf CX0 P w K mg base ["_law_script", "_law_bag_here", "_law_turn", "_law_parts", "_law_plan", "_law_twin", "_law_name", "_law_slows", "_law_at", "_law_slow", "_law_shown", "_law_k"] "law" (defScope s_law) (He.ga K "law") cdv A outer s H E).nox (defBody s_law) (tW K none [] [some (.own a), none, none, none, none, none, none, none, none, none, none, none] fun o => o = .ret (.bl true)) := by
    refine c_bag 1 hN G_bag hr hS hz (j_v 0) (fun q => ?_) fun o ho => ⟨_, ho⟩
    refine c_cons (w_for 2 (Φ := fun ds => ds = (List.range 2).map fun (i : Nat) => .int (i : Int)) (fun ds j ρ1 M1 => ρ1 = [some (.own a), some (.own q), none, none, none, none, none, none, none, none, none, none] ∧ M1 = []) hN hp_nox (ie_of (i_range j_int T.b_range (by decide) (by decide))) (fun ds hds => ⟨_, leE_rf _, rfl, rfl⟩) ?_) (fun ρ1 M1 hx => ?_) (fun o n hx => by obtain ⟨_, _, _, _, _, e⟩ := hx; exact absurd e (n _ _))
    · rintro ds hds j d hd ρ1 M1 ⟨rfl, rfl⟩
      refine c_set 3 hN (e_callB (Θ := fun d => ∃ p, WP p ∧ d = partsD p) G_parts hr (ae_cons (e_of (j_v 1)) (ae_cons (e_of j_int) (ae_cons (e_of j_int) (ae_cons (e_ix (Φ := (· = .lst [.int 4, .int 9, .int 40])) (Ψ := fun d => ∃ v : Nat, (v : Int) < 3 ∧ d = .int v) (Θ := fun d => ∃ top : Int, 1 ≤ top ∧ top ≤ 40 ∧ d = .int top) (e_of (j_lst (ja_cons j_int (ja_cons j_int (ja_cons j_int ja_nil))))) (e_take G_take hr (j_v 1) (e_of j_int) (by decide) (by decide)) ?_) ae_nil)))) ?_) fun d ⟨p, W, e⟩ => ?_
      · rintro x y rfl ⟨v, hv, rfl⟩
        have : v = 0 ∨ v = 1 ∨ v = 2 := by omega
        rcases this with rfl | rfl | rfl
        · exact ⟨_, _, _, rfl, rfl, rfl, 4, by decide, by decide, rfl⟩
        · exact ⟨_, _, _, rfl, rfl, rfl, 9, by decide, by decide, rfl⟩
        · exact ⟨_, _, _, rfl, rfl, rfl, 40, by decide, by decide, rfl⟩
      · rintro ds ⟨_, _, rfl, rfl, _, _, rfl, rfl, _, _, rfl, rfl, _, _, rfl, ⟨top, t1, t2, rfl⟩, rfl⟩
        exact ⟨_, rfl, ⟨top, t1, t2, rfl⟩, fun d h => h⟩
      subst e
      refine c_parE 4 5 (Φ := (· = planD p)) (Ψ := (· = planD p)) hN (e_callB (Θ := (· = planD p)) (G_make p) hr (ae_of (ja_cons (j_v 1) (ja_cons (j_v 3) ja_nil))) fun ds e => ⟨_, e, ⟨W, rfl⟩, fun d h => h⟩) (e_callB (Θ := (· = planD p)) (G_make p) hr (ae_of (ja_cons (j_v 1) (ja_cons (j_v 3) ja_nil))) fun ds e => ⟨_, e, ⟨W, rfl⟩, fun d h => h⟩) fun d1 d2 e1 e2 => ?_
      subst e1; subst e2
      refine c_one (c_imS (w_for 6 (Φ := fun ds => ∀ d ∈ ds, ∃ n, n ∈ rdp p ∧ d = .str n) (fun ds j ρ1 M1 => ρ1 = [some (.own a), some (.own q), none, some (partsD p), some (planD p), some (planD p), none, none, none, none, none, none] ∧ M1 = []) hN hp_nox (ie_list (e_im (e_slL (Ψ := fun l => ∀ d ∈ l, ∃ n, n ∈ rdp p ∧ d = .str n) (e_callB (Θ := fun d => ∃ l, (∀ d ∈ l, ∃ n, n ∈ rdp p ∧ d = .str n) ∧ d = .lst l) G_mixed hr (ae_of (ja_cons (j_v 1) (ja_cons (j_call G_read hr (ja_cons (j_v 3) ja_nil) ⟨p, W, rfl, rfl⟩) ja_nil))) ?_) o_none (o_some j_int)) ?_)) (fun ds hds => ⟨_, (by exact ⟨.inr rfl, .inr rfl, .inl rfl, .inr rfl, .inr rfl, .inr rfl, .inr rfl, .inr rfl, .inr rfl, .inr rfl, .inr rfl, .inr rfl, trivial⟩), rfl, rfl⟩) ?_) fun o ho => ?_)
      · rintro ds rfl
        have l7 : (rdp p).length ≤ 7 := Nat.le_trans (List.length_filter_le _ _) (shared_len W)
        refine ⟨_, rfl, ⟨_, by rw [List.length_map]; omega, rfl⟩, fun d hd => ?_⟩
        obtain ⟨m, h1, h2⟩ := mixed_strs hd rfl
        refine ⟨_, fun d hd => ?_, h2⟩
        obtain ⟨n, hn, rfl⟩ := List.mem_map.mp hd
        exact ⟨n, h1.mem_iff.mp hn, rfl⟩
      · rintro d ⟨l, hl, rfl⟩
        exact ⟨_, rfl, fun d hd => hl d (cutD_sub hd)⟩
      · rintro ds hds j d hd ρ1 M1 ⟨rfl, rfl⟩
        obtain ⟨n, hn, rfl⟩ := hds d (List.mem_of_getElem? hd)
        refine c_setLc (Φ := fun ds => ds = (List.range 2).map fun (i : Nat) => .int (i : Int)) (Ft := fun _ c => c = true) (Fe := fun _ d => ∃ l, WS p l ∧ d = .lst (l.map D.str)) 7 11 hN (ie_of (i_range j_int T.b_range (by decide) (by decide))) (fun _ _ _ _ _ _ _ _ _ => tte_nil) (fun _ _ _ _ _ _ _ _ _ _ => e_callB (Θ := fun d => ∃ l, WS p l ∧ d = .lst (l.map D.str)) (G_slow p) hr (ae_of (ja_cons (j_v 1) (ja_cons (j_v 3) ja_nil))) fun ds e => ⟨_, e, ⟨W, rfl⟩, fun d h => h⟩) fun ds2 rs e hr2 => ?_
        subst e
        obtain ⟨_, _, rfl, ⟨_, l1, S1, rfl⟩, _, l2, S2, rfl⟩ := lcR_two hr2
        refine c_one (c_imS (w_for 8 (Φ := (· = [.int 0, .int 1, .int 0])) (fun ds j ρ1 M1 => ρ1 = [some (.own a), some (.own q), none, some (partsD p), some (planD p), some (planD p), some (.str n), some (.lst [.lst (l1.map D.str), .lst (l2.map D.str)]), none, none, none, none] ∧ M1 = []) hN hp_nox (ie_of (i_tup (j_tup (ja_cons j_int (ja_cons j_int (ja_cons j_int ja_nil)))))) (fun ds hds => ⟨_, leE_rf _, rfl, rfl⟩) ?_) fun o ho => ?_)
        · rintro ds rfl j d hd ρ1 M1 ⟨rfl, rfl⟩
          have ix : ∃ (l : List Str) (v : Int), WS p l ∧ d = .int v ∧ atI [D.lst (l1.map D.str), D.lst (l2.map D.str)] v = some (.lst (l.map D.str)) := by
            match j, hd with
            | 0, hd => cases hd; exact ⟨l1, 0, S1, rfl, rfl⟩
            | 1, hd => cases hd; exact ⟨l2, 1, S2, rfl, rfl⟩
            | 2, hd => cases hd; exact ⟨l1, 0, S1, rfl, rfl⟩
            | n + 3, hd => cases hd
          obtain ⟨l, v, S, rfl, hat⟩ := ix
          refine c_set 9 hN (e_if (Φb := fun _ => True) (Φ := fun d => ∃ b l, WS p l ∧ d = sqD b l) (te_cmpB (Φ := fun d => ∃ v : Nat, (v : Int) < 2 ∧ d = .int v) (Ψ := (· = .int 0)) (e_take G_take hr (j_v 1) (e_of j_int) (by decide) (by decide)) (e_of j_int) fun x y ⟨v, _, hx⟩ hy => by subst hx; subst hy; exact ⟨_, cd_eqI, trivial⟩) (fun _ => e_im (e_of (j_f bf_listL T.b_list (ja_cons (j_ixL (j_v 7) (j_v 8) hat) ja_nil))) fun d e => ⟨false, l, S, e⟩) (fun _ => e_im (e_of (j_f bf_tupL T.b_tuple (ja_cons (j_rev (j_ixL (j_v 7) (j_v 8) hat)) ja_nil))) fun d e => ⟨true, l.reverse, ws_rev S, by rw [e, ← List.map_reverse]; rfl⟩)) fun d ⟨b, sl, S, e⟩ => ?_
          subst e
          have sh := shw_sq W S b
          refine c_p (s_set 10 hN (j_f (bf_repr hgd hu sh) T.b_repr (ja_cons (j_v 9) ja_nil))) ?_
          refine c_p (s_if (c := false) (t_is (t_not (t_v (j_callH G_sums hgd hr (ja_cons (j_v 4) (ja_cons (j_v 5) (ja_cons (j_v 3) (ja_cons (j_v 6) (ja_cons (j_v 9) ja_nil))))) ⟨p, n, b, sl, W, S, hn, rfl, rfl⟩))) rfl) nofun fun _ => s_nil) ?_
          refine c_cons (w_for 11 (Φ := fun ds => ds = (List.range 2).map fun (i : Nat) => .int (i : Int)) (fun ds j ρ1 M1 => ρ1 = [some (.own a), some (.own q), none, some (partsD p), some (planD p), some (planD p), some (.str n), some (.lst [.lst (l1.map D.str), .lst (l2.map D.str)]), none, some (sqD b sl), some (.str (pdD (sqD b sl)).shown), none] ∧ M1 = []) hN hp_nox (ie_of (i_range j_int T.b_range (by decide) (by decide))) (fun ds hds => ⟨_, (by exact ⟨.inr rfl, .inr rfl, .inr rfl, .inr rfl, .inr rfl, .inr rfl, .inr rfl, .inr rfl, .inl rfl, .inr rfl, .inr rfl, .inr rfl, trivial⟩), rfl, rfl⟩) ?_) (fun ρ1 M1 hx => ?_) (fun o n hx => by obtain ⟨_, _, _, _, _, e⟩ := hx; exact absurd e (n _ _))
          · rintro ds hds j d hd ρ1 M1 ⟨rfl, rfl⟩
            refine c_one (w_if (Φb := (· = false)) (te_im (te_not (te_v (Φb := (· = true)) (e_callHB (Θ := (· = .bl true)) (G_drawn p n b sl) hgd hr (ae_of (ja_cons (j_v 1) (ja_cons (j_v 4) (ja_cons (j_v 3) (ja_cons (j_v 6) (ja_cons (j_v 9) ja_nil)))))) fun ds e => ⟨_, e, ⟨W, S, hn, rfl⟩, fun d h => h⟩) fun d e => ⟨true, e, rfl⟩)) fun c e => by cases c with | false => rfl | true => cases e) nofun fun _ => c_nil ⟨_, _, _, rfl, (by exact ⟨.inr rfl, .inr rfl, .inr rfl, .inr rfl, .inr rfl, .inr rfl, .inr rfl, .inr rfl, .inr rfl, .inr rfl, .inr rfl, .inl rfl, trivial⟩), rfl, rfl⟩)
          · obtain ⟨ds2, ρ2, M2, _, ⟨rfl, rfl⟩, e⟩ := hx
            cases e
            refine c_one (c_imS (w_p (s_if (c := false) (t_is (t_c cd_neS (j_f (bf_repr hgd hu sh) T.b_repr (ja_cons (j_v 9) ja_nil)) (j_v 10)) (by rw [decide_eq_true rfl]; rfl)) nofun fun _ => s_nil)) fun o ho => ⟨_, _, _, ho, (by exact ⟨.inr rfl, .inr rfl, .inr rfl, .inr rfl, .inr rfl, .inr rfl, .inr rfl, .inr rfl, .inr rfl, .inl rfl, .inl rfl, .inr rfl, trivial⟩), rfl, rfl⟩)
        · obtain ⟨ds2, ρ2, M2, _, ⟨rfl, rfl⟩, e⟩ := ho
          exact ⟨_, _, _, e, (by exact ⟨.inr rfl, .inr rfl, .inr rfl, .inr rfl, .inr rfl, .inr rfl, .inl rfl, .inl rfl, .inr rfl, .inr rfl, .inr rfl, .inr rfl, trivial⟩), rfl, rfl⟩
      · obtain ⟨ds2, ρ2, M2, _, ⟨rfl, rfl⟩, e⟩ := ho
        exact ⟨_, _, _, e, (by exact ⟨.inr rfl, .inr rfl, .inr rfl, .inl rfl, .inl rfl, .inl rfl, .inr rfl, .inr rfl, .inr rfl, .inr rfl, .inr rfl, .inr rfl, trivial⟩), rfl, rfl⟩
    · obtain ⟨ds2, ρ2, M2, _, ⟨rfl, rfl⟩, e⟩ := hx
      cases e
      exact c_one (c_imS (w_pr (s_ret j_bl)) fun o ho => ho)
  exact ⟨_, body.nox, fun _ => none, nofun, start_env (.cons (.own a) .nil), ow0, fun o ho => by subst ho; exact fun v H' L' g _ rv => by rw [rv.bl_]; exact fin H'⟩
end
end K51
end
section
set_option Elab.async false
set_option linter.all false
set_option maxRecDepth 100000
set_option maxHeartbeats 0
/-! The end: the law's call behind the top. -/
namespace K51
open PySem PySem.Spec PyProof.Rows L2
/-- called by the outermost caller, at the heap behind the top: nothing is followed but the script -/
theorem outer_call {P : Program} {w : World} {K : PySem.W.Frag} {mg mb : Str → Option Value} {k : Nat} {f c : Addr} {fd : FuncData} {x : Str} {z : Shared} {vs : List Value} {ns : List Int}
    (kin : K.In z.heap) (ng : z.heap.Ns mainGlobals mg) (nb : z.heap.Ns builtinsNs mb) (bb : ∀ x : Str, x ≠ "__name__" → mb x = bootBuiltins x) (nl : z.heap.NoLimit) (ng0 : z.gens = #[])
    (hc : z.heap.get? c = some { cls := .type "list", data := .seq vs.toArray }) (hi : IntsAre vs ns) (few : ns.length ≤ 63) (room : Room k callerA) (gs : callerA.guards = some [])
    (F : ∀ base : Heap, K.In base → base.Ns mainGlobals mg → FnG P w K mg base k f fd [x] (spLaw K)) (hb : ∀ (s : Shared) (u : Value), BindsTo s fd ⟨[u], []⟩ [(x, u)]) :
    codeAny (model P w) callerA (.call (.ref f) ⟨[.ref c], []⟩) (fun r z' => r = .ok (.ret (.bool true)) ∧ OldK z.heap z'.heap ∧ z'.os = z.os ∧ AllBare z'.gens) z := by
  have rv := vals_ints hi
  have lv := hi.length
  have lz : ns.length ≤ sizeLine := Nat.le_trans few (by decide)
  -- from what is followed of the heap
  have main : ∀ H : Hp, (∀ b u, H b = some u → ∃ o xs, u = .frz o (.lst xs)) → SqF K H c (ns.map V.int) → HOk P w H z.heap → (∀ b, H b ≠ none → b = c ∧ K.lookup c = none) →
      codeAny (model P w) callerA (.call (.ref f) ⟨[.ref c], []⟩) (fun r z' => r = .ok (.ret (.bool true)) ∧ OldK z.heap z'.heap ∧ z'.os = z.os ∧ AllBare z'.gens) z := by
    intro H fr hS hok only
    have free : ∀ {b : Addr}, b ≠ c → H b = none := fun {b} n => by
      cases q : H b with
      | none => rfl
      | some u => exact absurd (only b (by rw [q]; exact nofun)).1 n
    have old : ∀ {b : Addr} {o : Obj}, z.heap.get? b = some o → b ≠ c → (hidT z.heap H).get? b = some o := fun e n => hidT_get e (free n)
    have ns_ : ∀ {b : Addr} {m : Str → Option Value}, z.heap.Ns b m → (hidT z.heap H).Ns b m := fun {b m} ⟨o, es, ep, e, d, r⟩ => ⟨o, es, ep, old e (fun q => by
      subst q
      rw [hc] at e
      cases e
      have d' : Data.seq vs.toArray _ = Data.dict es ep := d
      cases d'), d, r⟩
    have kb : K.In (hidT z.heap H) := fun b o e => by
      cases q : H b with
      | none => exact hidT_get (kin b o e) q
      | some u =>
        obtain ⟨r1, r2⟩ := only b (by rw [q]; exact nofun)
        rw [r1, r2] at e
        cases e
    have ev : Env0 P w K mg (hidT z.heap H) callerA [] z H := ⟨rfl, ⟨kb, ns_ ng, ⟨mb, ns_ nb, bb⟩, nl.elim fun mc h => ⟨mc, ns_ h.1, h.2⟩⟩, fun b o e => of_hidT e, Nat.le_of_eq (hidT_size _ _), trivial, nofun, hok, .of_eq ng0⟩
    refine codeAny_mono ((F _ kb (ns_ ng)).go callerA [] z H ⟨[.ref c], []⟩ [.ref c] [.ref c] (fun v _ => v = .bl true) (fun _ _ _ => False) gs room ev (hb z (.ref c)) (.cons rfl .nil) ⟨c, ns, rfl, hS, few, fun _ => rfl⟩) fun r z' h => ?_
    cases r with
    | error e => exact False.elim h
    | ok fl =>
      cases fl with
      | next => exact False.elim h
      | brk => exact False.elim h
      | cont => exact False.elim h
      | ret u =>
        obtain ⟨v, H', os, bare, un, hok', rl, q⟩ := h
        obtain rfl : v = .bl true := q
        obtain rfl : u = Value.bool true := rl
        refine ⟨rfl, OldK.of_keep fun b o e => ?_, os, bare⟩
        cases q : H b with
        | none => exact un.keep b o e q nofun (by simp)
        | some u =>
          obtain ⟨ob, xs, rfl⟩ := fr b u q
          obtain ⟨e1, _⟩ := hok b _ q
          obtain ⟨e2, _⟩ := hok' b _ (un.frzs b ob _ q)
          rw [e] at e1
          cases e1
          exact e2
  cases lk : K.lookup c with
  | some o =>
    have e := kin c o lk
    rw [hc] at e
    cases e
    exact main (fun _ => none) nofun (.inr (.inr ⟨_, vs.toArray, _, lk, rfl, rfl, rfl, by rw [List.size_toArray, lv]; exact lz, by simpa using rv⟩)) (fun b u q => by cases (show (none : Option HO) = some u from q)) fun b q => absurd rfl q
  | none =>
    let H : Hp := fun b => if b = c then some (.frz { cls := .type "list", data := .seq vs.toArray } (.lst (ns.map V.int))) else none
    have hH : ∀ b u, H b = some u → b = c ∧ u = .frz { cls := .type "list", data := .seq vs.toArray } (.lst (ns.map V.int)) := fun b u q => by
      by_cases n : b = c
      · have q' := (if_pos n).symm.trans q
        cases q'
        exact ⟨n, rfl⟩
      · have q' := (if_neg n).symm.trans q
        cases q'
    refine main H (fun b u q => ⟨_, _, (hH b u q).2⟩) (.inl ⟨_, if_pos rfl⟩) (fun b u q => ?_) fun b q => ⟨?_, lk⟩
    · obtain ⟨rfl, rfl⟩ := hH b u q
      exact ⟨hc, by rw [List.length_map]; exact lz, vs, _, rv, hc⟩
    · cases q' : H b with
      | none => exact absurd q' q
      | some u => exact (hH b u q').1
end K51
end
set_option maxRecDepth 100000
set_option maxHeartbeats 0
open PySem PySem.W PySem.Calls PyProof.Rows
theorem PySem.Challenge.cw_sharedpipe_k51_whole_fills_and_covers_holds : PySem.Challenge.rw_sharedpipe_k51_whole_fills_and_covers.Holds := by
  w_on; o_law
  refine HandSHeadRun.head_any (r := OpenLaw.row PySem.Challenge.rw_sharedpipe_k51_whole_fills_and_covers) (q := view (OpenLaw.row PySem.Challenge.rw_sharedpipe_k51_whole_fills_and_covers).prog [108]) (H := K51.hk) (ob := K51.ob) (M := 6200) (loose := K51.nms) (d := HandSHeadRun.topDef (OpenLaw.row PySem.Challenge.rw_sharedpipe_k51_whole_fills_and_covers).prog 108) (kwd := []) K51.ob_eq
    (by kernel_rfl) (fun s => by kernel_rfl) K51.run (by kernel_rfl) (by kernel_rfl) (by kernel_rfl) (by rfl) (by first | assumption | decide +kernel) (by decide +kernel) ⟨rfl, rfl, rfl, rfl, rfl, by decide +kernel⟩ ?hw ?hc
  case hw => w_witness2
  case hc =>
    refine Att.attach_call (n := 63) rfl (by kernel_rfl) fun w s0 s1 mg mb fa o pm cd doc a vs ns G Y ho hd hcd hmg0 hobj hints hlen hg => ?_
    obtain ⟨K, KX, c⟩ := Y
    have T := K51.facts_of KX G.T.g c
    have hmg : mg ("law" : PySem.Str) = some (.ref fa) := by
      have e : (HandSHeadRun.topDef (OpenLaw.row PySem.Challenge.rw_sharedpipe_k51_whole_fills_and_covers).prog 108).name = ("law" : PySem.Str) := by kernel_rfl
      rw [← e]
      exact hmg0
    have e := hmg.symm.trans T.glaw
    cases e
    obtain ⟨fd, F⟩ := T.f_law
    have b := L2.FunD.bindsA (ps := ["_law_script"]) F fun _ _ _ _ _ _ us hl => match us, hl with | [_], _ => rfl
    exact K51.outer_call KX G.T.g G.T.b G.T.builtins G.T.nolimit hg hobj hints hlen ⟨rfl, by decide, by decide⟩ rfl (fun base X2 G2 => K51.ok_law (K51.facts_of X2 G2 c) F) fun s v => b s [v] rfl
