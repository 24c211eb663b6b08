import PyProof.Rows.All
import Wide.All
import OpenK.AllK
import Wide.FinOn
import HandS.ForMost
import HandS.Exc
import HandS.Defaults
import HandS.HeadHook1
import HandS.HeadHook2
import PySem.Challenge.RW_loosebeats_k87_whole_rounds_by_counts
import KE.KStateDown
import HandS.Head0
import HandS.Head1
import HandS.Head2
import HandS.HeadEnd
import HandS.ClsMeth
import PyProof.NeKinds
import PyProof.ReprRoads
import PyProof.WalksMore
import PyProof.Rows.SumAny
import KE.KEqNest
import KE.KDictKeyed
import KE.KDictWalk
import KE.GoesEnum
import KE.GoesNew
import HandS.Zip
import HandS.DictComp
import KE.KDictDisplayH
import PyProof.ReprLen
import HandS.IsInst
import HandS.Walk
import OpenK.KMore
import HandS.More
import HandS.Style
set_option Elab.async false
set_option linter.all false
set_option maxRecDepth 100000
namespace LB
open PySem PySem.Spec PyProof.Rows L2
/-! ### the text by places (printed by wip/gen0.py) -/
def top (i : Nat) : Stmt := PySem.Challenge.pw_loosebeats_k87_whole_rounds_by_counts.main.body.getD i (.Pass ⟨0, 0, 0, 0⟩)
abbrev FnP (K : PySem.W.Frag) (x qual : Str) (st : Stmt) (f : Addr) (fd : FuncData) : Prop := FunD K x qual (defArgs st) (defBody st) (defScope st) [] [] f fd
abbrev sis_integer : Stmt := top 23
abbrev sis_count : Stmt := top 24
abbrev sis_name : Stmt := top 25
abbrev sis_list : Stmt := top 26
abbrev sis_worth : Stmt := top 27
abbrev sare_worths_on : Stmt := top 28
abbrev sis_standing_of : Stmt := top 29
abbrev sis_reaction : Stmt := top 30
abbrev swant_ins : Stmt := top 31
abbrev swant_outs : Stmt := top 32
abbrev swant_reactions : Stmt := top 33
abbrev sordered : Stmt := top 34
abbrev skept : Stmt := top 35
abbrev sis_number : Stmt := top 37
abbrev swant_standing : Stmt := top 38
abbrev snumbers_at : Stmt := top 40
abbrev sreached_from : Stmt := top 41
abbrev swant_at_most : Stmt := top 42
abbrev sis_number_at : Stmt := top 45
abbrev swant_leading : Stmt := top 46
abbrev sled_to : Stmt := top 47
abbrev staken_by : Stmt := top 48
abbrev sis_counts : Stmt := top 51
abbrev swith_less : Stmt := top 52
abbrev sround_from : Stmt := top 53
abbrev sround_with : Stmt := top 54
abbrev staken : Stmt := top 56
abbrev sstands_at : Stmt := top 57
abbrev s_law_pot : Stmt := top 59
abbrev s_law_draw : Stmt := top 60
abbrev s_law_pick : Stmt := top 61
abbrev s_law_deeds : Stmt := top 62
abbrev s_law_scene : Stmt := top 63
abbrev s_law_near : Stmt := top 64
abbrev s_law_less : Stmt := top 65
abbrev s_law_round : Stmt := top 66
abbrev s_law_counts : Stmt := top 67
abbrev s_law_walked : Stmt := top 68
abbrev s_law_drawn : Stmt := top 69
abbrev s_law_way : Stmt := top 70
abbrev s_law_told_right : Stmt := top 71
abbrev s_law_right : Stmt := top 72
abbrev slaw : Stmt := top 73
abbrev s__init__ : Stmt := inClass (top 36) 2
/-! ### the head: defs, facts -/
def dis_integer : He.DefD := ⟨("is_integer", none), "is_integer", "is_integer", defArgs sis_integer, defBody sis_integer, defScope sis_integer, [], []⟩
def dis_count : He.DefD := ⟨("is_count", none), "is_count", "is_count", defArgs sis_count, defBody sis_count, defScope sis_count, [], []⟩
def dis_name : He.DefD := ⟨("is_name", none), "is_name", "is_name", defArgs sis_name, defBody sis_name, defScope sis_name, [], []⟩
def dis_list : He.DefD := ⟨("is_list", none), "is_list", "is_list", defArgs sis_list, defBody sis_list, defScope sis_list, [], []⟩
def dis_worth : He.DefD := ⟨("is_worth", none), "is_worth", "is_worth", defArgs sis_worth, defBody sis_worth, defScope sis_worth, [], []⟩
def dare_worths_on : He.DefD := ⟨("are_worths_on", none), "are_worths_on", "are_worths_on", defArgs sare_worths_on, defBody sare_worths_on, defScope sare_worths_on, [], []⟩
def dis_standing_of : He.DefD := ⟨("is_standing_of", none), "is_standing_of", "is_standing_of", defArgs sis_standing_of, defBody sis_standing_of, defScope sis_standing_of, [], []⟩
def dis_reaction : He.DefD := ⟨("is_reaction", none), "is_reaction", "is_reaction", defArgs sis_reaction, defBody sis_reaction, defScope sis_reaction, [], []⟩
def dwant_ins : He.DefD := ⟨("want_ins", none), "want_ins", "want_ins", defArgs swant_ins, defBody swant_ins, defScope swant_ins, [], []⟩
def dwant_outs : He.DefD := ⟨("want_outs", none), "want_outs", "want_outs", defArgs swant_outs, defBody swant_outs, defScope swant_outs, [], []⟩
def dwant_reactions : He.DefD := ⟨("want_reactions", none), "want_reactions", "want_reactions", defArgs swant_reactions, defBody swant_reactions, defScope swant_reactions, [], []⟩
def dordered : He.DefD := ⟨("ordered", none), "ordered", "ordered", defArgs sordered, defBody sordered, defScope sordered, [], []⟩
def dkept : He.DefD := ⟨("kept", none), "kept", "kept", defArgs skept, defBody skept, defScope skept, [], []⟩
def dis_number : He.DefD := ⟨("is_number", none), "is_number", "is_number", defArgs sis_number, defBody sis_number, defScope sis_number, [], []⟩
def dwant_standing : He.DefD := ⟨("want_standing", none), "want_standing", "want_standing", defArgs swant_standing, defBody swant_standing, defScope swant_standing, [], []⟩
def dnumbers_at : He.DefD := ⟨("numbers_at", none), "numbers_at", "numbers_at", defArgs snumbers_at, defBody snumbers_at, defScope snumbers_at, [], []⟩
def dreached_from : He.DefD := ⟨("reached_from", none), "reached_from", "reached_from", defArgs sreached_from, defBody sreached_from, defScope sreached_from, [], []⟩
def dwant_at_most : He.DefD := ⟨("want_at_most", none), "want_at_most", "want_at_most", defArgs swant_at_most, defBody swant_at_most, defScope swant_at_most, [], []⟩
def dis_number_at : He.DefD := ⟨("is_number_at", none), "is_number_at", "is_number_at", defArgs sis_number_at, defBody sis_number_at, defScope sis_number_at, [], []⟩
def dwant_leading : He.DefD := ⟨("want_leading", none), "want_leading", "want_leading", defArgs swant_leading, defBody swant_leading, defScope swant_leading, [], []⟩
def dled_to : He.DefD := ⟨("led_to", none), "led_to", "led_to", defArgs sled_to, defBody sled_to, defScope sled_to, [], []⟩
def dtaken_by : He.DefD := ⟨("taken_by", none), "taken_by", "taken_by", defArgs staken_by, defBody staken_by, defScope staken_by, [], []⟩
def dis_counts : He.DefD := ⟨("is_counts", none), "is_counts", "is_counts", defArgs sis_counts, defBody sis_counts, defScope sis_counts, [], []⟩
def dwith_less : He.DefD := ⟨("with_less", none), "with_less", "with_less", defArgs swith_less, defBody swith_less, defScope swith_less, [], []⟩
def dround_from : He.DefD := ⟨("round_from", none), "round_from", "round_from", defArgs sround_from, defBody sround_from, defScope sround_from, [], []⟩
def dround_with : He.DefD := ⟨("round_with", none), "round_with", "round_with", defArgs sround_with, defBody sround_with, defScope sround_with, [], []⟩
def dtaken : He.DefD := ⟨("taken", none), "taken", "taken", defArgs staken, defBody staken, defScope staken, [], []⟩
def dstands_at : He.DefD := ⟨("stands_at", none), "stands_at", "stands_at", defArgs sstands_at, defBody sstands_at, defScope sstands_at, [], []⟩
def d_law_pot : He.DefD := ⟨("_law_pot", none), "_law_pot", "_law_pot", defArgs s_law_pot, defBody s_law_pot, defScope s_law_pot, [], []⟩
def d_law_draw : He.DefD := ⟨("_law_draw", none), "_law_draw", "_law_draw", defArgs s_law_draw, defBody s_law_draw, defScope s_law_draw, [], []⟩
def d_law_pick : He.DefD := ⟨("_law_pick", none), "_law_pick", "_law_pick", defArgs s_law_pick, defBody s_law_pick, defScope s_law_pick, [], []⟩
def d_law_deeds : He.DefD := ⟨("_law_deeds", none), "_law_deeds", "_law_deeds", defArgs s_law_deeds, defBody s_law_deeds, defScope s_law_deeds, [], []⟩
def d_law_scene : He.DefD := ⟨("_law_scene", none), "_law_scene", "_law_scene", defArgs s_law_scene, defBody s_law_scene, defScope s_law_scene, [], []⟩
def d_law_near : He.DefD := ⟨("_law_near", none), "_law_near", "_law_near", defArgs s_law_near, defBody s_law_near, defScope s_law_near, [], []⟩
def d_law_less : He.DefD := ⟨("_law_less", none), "_law_less", "_law_less", defArgs s_law_less, defBody s_law_less, defScope s_law_less, [], []⟩
def d_law_round : He.DefD := ⟨("_law_round", none), "_law_round", "_law_round", defArgs s_law_round, defBody s_law_round, defScope s_law_round, [], []⟩
def d_law_counts : He.DefD := ⟨("_law_counts", none), "_law_counts", "_law_counts", defArgs s_law_counts, defBody s_law_counts, defScope s_law_counts, [], []⟩
def d_law_walked : He.DefD := ⟨("_law_walked", none), "_law_walked", "_law_walked", defArgs s_law_walked, defBody s_law_walked, defScope s_law_walked, [], []⟩
def d_law_drawn : He.DefD := ⟨("_law_drawn", none), "_law_drawn", "_law_drawn", defArgs s_law_drawn, defBody s_law_drawn, defScope s_law_drawn, [], []⟩
def d_law_way : He.DefD := ⟨("_law_way", none), "_law_way", "_law_way", defArgs s_law_way, defBody s_law_way, defScope s_law_way, [], []⟩
def d_law_told_right : He.DefD := ⟨("_law_told_right", none), "_law_told_right", "_law_told_right", defArgs s_law_told_right, defBody s_law_told_right, defScope s_law_told_right, [], []⟩
def d_law_right : He.DefD := ⟨("_law_right", none), "_law_right", "_law_right", defArgs s_law_right, defBody s_law_right, defScope s_law_right, [], []⟩
def dlaw : He.DefD := ⟨("law", none), "law", "law", defArgs slaw, defBody slaw, defScope slaw, [], []⟩
def d__init__ : He.DefD := ⟨("Machine", some "__init__"), "__init__", "Machine.__init__", defArgs s__init__, defBody s__init__, defScope s__init__, [], []⟩
def fn : List He.DefD := [dis_integer, dis_count, dis_name, dis_list, dis_worth, dare_worths_on, dis_standing_of, dis_reaction, dwant_ins, dwant_outs, dwant_reactions, dordered, dkept, dis_number, dwant_standing, dnumbers_at, dreached_from, dwant_at_most, dis_number_at, dwant_leading, dled_to, dtaken_by, dis_counts, dwith_less, dround_from, dround_with, dtaken, dstands_at, d_law_pot, d_law_draw, d_law_pick, d_law_deeds, d_law_scene, d_law_near, d_law_less, d_law_round, d_law_counts, d_law_walked, d_law_drawn, d_law_way, d_law_told_right, d_law_right, dlaw, d__init__]
def fa : List He.Fa := [.glo "is_integer", .glo "is_count", .glo "is_name", .glo "is_list", .glo "is_worth", .glo "are_worths_on", .glo "is_standing_of", .glo "is_reaction", .glo "want_ins", .glo "want_outs", .glo "want_reactions", .glo "ordered", .glo "kept", .glo "is_number", .glo "want_standing", .glo "numbers_at", .glo "reached_from", .glo "want_at_most", .glo "is_number_at", .glo "want_leading", .glo "led_to", .glo "taken_by", .glo "is_counts", .glo "with_less", .glo "round_from", .glo "round_with", .glo "taken", .glo "stands_at", .glo "_law_pot", .glo "_law_draw", .glo "_law_pick", .glo "_law_deeds", .glo "_law_scene", .glo "_law_near", .glo "_law_less", .glo "_law_round", .glo "_law_counts", .glo "_law_walked", .glo "_law_drawn", .glo "_law_way", .glo "_law_told_right", .glo "_law_right", .glo "law", .glo "Machine", .free "isinstance", .free "int", .free "bool", .free "str", .free "len", .free "all", .free "list", .free "tuple", .free "dict", .free "enumerate", .free "sorted", .free "zip", .free "min", .free "max", .free "sum", .free "range", .free "divmod", .free "abs", .free "repr", .int "LONGEST_NAME" 8, .int "MOST_INS" 4, .int "MOST_OUTS" 3, .int "NOTICE" 9, .int "MOST_COUNTS" 12, .str "LETTERS" "abcdefghijklmnopqrstuvwxyz", .cls "Machine", .mkr "Machine", .noat "Machine" "own_ins", .noat "Machine" "own_outs", .noat "Machine" "own_standings", .noat "Machine" "own_reactions"]
def loose0 : List PySem.Str := ["_wall", "BeatError", "InvalidIns", "InvalidOuts", "InvalidStandings", "InvalidReactions", "InvalidReaction", "InvalidNumber", "InvalidStanding", "InvalidRun", "InvalidCounts", "StateError", "SharedLine", "NotReached", "LimitError", "TooMany", "LETTERS", "LONGEST_NAME", "MOST_INS", "MOST_OUTS", "NOTICE", "is_integer", "is_count", "is_name", "is_list", "is_worth", "are_worths_on", "is_standing_of", "is_reaction", "want_ins"]
def loose1 : List PySem.Str := ["want_outs", "want_reactions", "ordered", "kept", "Machine", "is_number", "want_standing", "is_line", "numbers_at", "reached_from", "want_at_most", "beside", "is_number_at", "want_leading", "led_to", "taken_by", "MOST_COUNTS", "is_counts", "with_less", "round_from", "round_with", "taken", "stands_at", "_law_pot", "_law_draw", "_law_pick", "_law_deeds", "_law_scene", "_law_near", "_law_less"]
def loose2 : List PySem.Str := ["_law_round", "_law_counts", "_law_walked", "_law_drawn", "_law_way", "_law_told_right", "_law_right"]
def loose : List PySem.Str := loose0 ++ (loose1 ++ (loose2))
end LB
set_option Elab.async false
set_option linter.all false
set_option maxRecDepth 100000
set_option maxHeartbeats 0
namespace LB
open PySem PySem.Spec PyProof.Rows L2 ClX
abbrev R : PySem.W.OpenRow := PySem.W.OpenLaw.row PySem.Challenge.rw_loosebeats_k87_whole_rounds_by_counts
/-- the constants of the class -/
def ex (K : PySem.W.Frag) : Bool :=
  (match PySem.W.findIn K (.ref (He.ga K "Machine")) "MOST_STANDINGS" with
    | some (some (.int j t)) => decide (j = 12) && He.eqO (some (PySem.W.specialIn K (.int j t) "__get__" |>.bind id)) (some none) && (PySem.W.specialIn K (.int j t) "__get__").isSome
    | _ => false) &&
  (PySem.W.readsIn K (He.ga K "Machine") (.type "type") && (He.eqO (PySem.W.specialIn K (.ref (He.ga K "Machine")) "__getattribute__") (some (some (.builtin "type.__getattribute__"))) &&
  (match PySem.W.findCls K (.ref (He.ga K "Machine")) (.type "type") "MOST_REACTIONS" with
    | some (.val (.int j _)) => decide (j = 40)
    | _ => false)))
theorem ex_con {K : PySem.W.Frag} (h : ex K = true) : ∃ t, Con K (He.ga K "Machine") "MOST_STANDINGS" (.int 12) (.int 12 t) := by
  obtain ⟨h1, _⟩ := He.ba h
  split at h1
  · rename_i j t e
    obtain ⟨h2, h3⟩ := He.ba h1
    obtain ⟨h4, h5⟩ := He.ba h2
    have ej : j = 12 := of_decide_eq_true h4
    subst ej
    refine ⟨t, e, ⟨t, rfl⟩, ?_, by decide +kernel⟩
    have h6 := He.eqO_ok h5
    cases q : PySem.W.specialIn K (.int 12 t) "__get__" with
    | none => rw [q] at h3; cases h3
    | some r =>
      rw [q] at h6
      have h7 : r = none := Option.some.inj h6
      rw [h7]
  · cases h1
theorem ex_cval {K : PySem.W.Frag} (h : ex K = true) : CRead K (He.ga K "Machine") (.type "type") ∧ ∃ t, CVal K (He.ga K "Machine") (.type "type") "MOST_REACTIONS" (.int 40) (.int 40 t) := by
  obtain ⟨_, h⟩ := He.ba h
  obtain ⟨h1, h⟩ := He.ba h
  obtain ⟨h2, h3⟩ := He.ba h
  refine ⟨⟨h1, He.eqO_ok h2⟩, ?_⟩
  split at h3
  · rename_i j t e
    have ej : j = 40 := of_decide_eq_true h3
    subst ej
    exact ⟨t, e, ⟨t, rfl⟩⟩
  · cases h3
abbrev AlY : Type := He.AlD × Bool
def frY (g : Addr → Option Obj) : PySem.W.Frag := He.frG g (PySem.cStatics :: He.asD g 5)
def obsY (g : Addr → Option Obj) : AlY := (He.obsD fa fn (frY g), ex (frY g))
def hk : PySem.W.Hook where
  α := AlY
  obs := fun s => obsY s.heap.get?
  val := fun _ => (He.valD fn, true)
  says := fun _ h => ∃ K : PySem.W.Frag, K.In h ∧ He.SaysD fa fn K ∧ ex K = true
  of := fun _ _ e => ⟨_, He.frG_in, congrArg Prod.fst e, congrArg Prod.snd e⟩
  keeps := fun _ _ _ ⟨K, hK, c⟩ k => ⟨K, PySem.W.Frag.In.keeps hK k, c⟩
def ob (s : PySem.W.SharedT) : AlY := obsY (HandSHeadRun.getT s)
theorem ob_eq (s : PySem.W.SharedT) : ob s = hk.obs s.abs := by
  have e : HandSHeadRun.getT s = s.abs.heap.get? := funext (HandSHeadRun.getT_eq s)
  show obsY (HandSHeadRun.getT s) = obsY s.abs.heap.get?
  rw [e]
theorem run (w : World) : HandSHeadRun.RunEq R (PySem.W.view R.prog [73]) hk ob 6000 loose w := by
  intro os
  kernel_rfl
end LB
set_option Elab.async false
set_option linter.all false
set_option maxRecDepth 100000
namespace LB
open PySem PySem.Spec PyProof.Rows L2
/-! ### defs that must know that no repr is under way: FnG is FnOk with one premise more, A.guards = some [] -/
structure FnG (P : Program) (w : World) (K : PySem.W.Frag) (mg : Str → Option Value) (base : Heap) (k : Nat) (f : Addr) (fd : FuncData) (ps : List Str) (sp : Sp) : Prop where
  len : ∀ vs H Q E, sp vs H Q E → vs.length = ps.length
  run : ∀ (A : Around) (outer : List Env) (s : Shared) (H : Hp) (args : Args) (us : List Value) (vs : List V) (Q : VK) (E : XK), A.guards = some [] → Room k A → Env0 P w K mg base A outer s H →
    BindsTo s fd args (ps.zip us) → Vals vs us → sp vs H Q E → codeAny (model P w) A (.call (.ref f) args) (CR CX0 outer P w H s Q E) s
section
variable {P : Program} {w : World} {K : PySem.W.Frag} {mg : Str → Option Value} {base : Heap} {k : Nat} {f : Addr} {fd : FuncData} {ps N : List Str} {sp : Sp}
theorem guards_deeper {A : Around} {env : Env} (h : A.guards = some []) : (A.deeper env).guards = some [] := h
theorem FnG.of {x qual : Str} {st : Stmt} (F : FnP K x qual st f fd) (S : FnScope N ps (defScope st)) (hlen : ∀ vs H Q E, sp vs H Q E → vs.length = ps.length)
    (body : ∀ (cdv : Value) (A : Around) (outer : List Env) (s : Shared) (H : Hp) (vs : List V) (Q : VK) (E : XK), A.guards = some [] → Room k (A.deeper (envOfC qual (defScope st) s.heap.objs.size f cdv)) → sp vs H Q E →
      ∃ t, PSs (cxOf CX0 P w K mg base N qual (defScope st) f cdv A outer s H E).nox (defBody st) t ∧ t { nx := fun _ H' => Q .non H', rt := Q } (start N vs) H) : FnG P w K mg base (k + 1) f fd ps sp := by
  obtain ⟨oc, od, dV, kV, doc, pm, an, cdv, ct, osl, rfl, lk, hcd, _, _⟩ := F.ex
  refine ⟨hlen, fun A outer s H args us vs Q E hgd hr e0 hb rv hsp => ?_⟩
  have hn := hlen _ _ _ _ hsp
  have KX : K.In s.heap := e0.mod.kin.keeps fun b o e => (e0.bs b o e).1
  have lim : s.heap.NoLimit := e0.mod.nolimit.keeps fun b o e => (e0.bs b o e).1
  have hkd : ∀ y ∈ ps.zip us, (defScope st).names.lookup y.1 = some .local ∨ ((defScope st).names.lookup y.1 = some .cell ∧ ((cellsFrom (s.heap.objs.size + 1) (defScope st).names []).lookup y.1).isSome = true) := by
    rintro ⟨n, v⟩ hy
    rcases S.par n (List.of_mem_zip hy).1 with q | q
    · left; exact q
    · right; exact ⟨q, PySem.W.cellsFrom_some _ _ _ (.inl q)⟩
  refine codeAny_call_function hr.depth (KX _ _ lk) rfl S.co S.gen rfl (PySem.W.codeRec_of KX hcd) (hb _ _ _ _ ?_)
  refine wpAny_newFunctionEnv_cells S.kind hkd fun env he s1 x => ?_
  subst he
  refine ⟨lim.keeps x.toInCall.keep, codeAny_func ?_⟩
  obtain ⟨t, ht0, hq⟩ := body cdv A outer s H vs Q E hgd (hr.deeper _) hsp
  have ht := ht0.nox
  have I : Inv (cxOf CX0 P w K mg base N qual (defScope st) f cdv A outer s H E) [] (start N vs) H s1 := inv_start S hr.hd e0 hn rv x
  refine wpAny_mono (ht.run [] s1 (start N vs) H _ I hq) (fun fl s' hs => ?_) fun e s' hs => hs
  cases fl with
  | ret u => obtain ⟨v, σ', H', J, r, q⟩ := hs; exact ⟨v, H', J.os, J.bare, J.base, J.hok, r, q⟩
  | next => obtain ⟨σ', H', J, q⟩ := hs; exact ⟨V.non, H', J.os, J.bare, J.base, J.hok, rfl, q⟩
  | brk => obtain ⟨_, _, _, q⟩ := hs; exact q.elim
  | cont => obtain ⟨_, _, _, q⟩ := hs; exact q.elim
/-- f(e, ..) of such a def -/
theorem pe_callG {X : Cx} {x : Str} {p pos : Pos} {e : Expr} {es : List Expr} {t : TA} (F : FnG X.prog X.w X.K X.mg X.base k f fd ps sp) (hgd : X.A.guards = some []) (hr : Room k X.A) (hg : Gl X x) (hm : X.mg x = some (.ref f))
    (hk : PySem.W.keepIn X.K (.ref f) = true) (hb : Binds X.K fd ps []) (ha : PA X (e :: es) t) (hdb : (x == ("__debug__" : Str)) = false := by decide) (he : starEach (e :: es) X.env = (false, eval e X.env) :: starEach es X.env := by rfl)
    (hpl : (backTo pos (starEach es X.env)).any (·.1) = false := by rfl) : PE X (.Call (.Name x p) (e :: es) [] pos) (tCall sp [] E0 t) := by
  refine ⟨fun pins s σ H Q I h => wpAny_Call_Name_kw (ld_glob I hg hm ?_ hdb)⟩
  refine PySem.W.callWith_K (h₀ := X.base) I.ok.mod.kin hk (thn (ha.run pos pins s σ H _ I h) fun us s1 ⟨vs, H1, I1, r, q⟩ => ⟨I1.kIn, ?_⟩) he hpl
  have q : sp (vs ++ []) H1 Q E0 := q
  rw [List.append_nil] at q
  have hl : us.length = ps.length := by rw [← r.length]; exact F.len _ _ _ _ q
  have hb1 := hb s1 us I1.kIn (by rw [List.append_nil]; exact hl)
  rw [List.append_nil] at hb1
  refine wpAny_call (codeAny_mono (F.run X.A X.stack s1 H1 ⟨us, []⟩ us vs Q E0 hgd hr I1.env0 hb1 r q) fun r s' hq => ?_)
  cases r with
  | error e => exact (show False from hq).elim
  | ok fl =>
    cases fl with
    | ret u => exact I1.after hq
    | next => exact (show False from hq).elim
    | brk => exact (show False from hq).elim
    | cont => exact (show False from hq).elim
end
/-! ### the end: the law's call, of such a def -/
theorem call_at {P : Program} {w : World} {K : PySem.W.Frag} {mg mb : Str → Option Value} {k : Nat} {fa a : Addr} {fd : FuncData} {x : Str} {sp : Sp} {s : Shared} {vs : List Value} {ns : List Int}
    (KX : K.In s.heap) (nsg : s.heap.Ns mainGlobals mg) (nsb : s.heap.Ns builtinsNs mb) (hbb : ∀ x : Str, x ≠ "__name__" → mb x = bootBuiltins x) (lim : s.heap.NoLimit) (hg : s.gens = #[])
    (ha : s.heap.get? a = some { cls := .type "list", data := .seq vs.toArray }) (hi : IntsAre vs ns) (hl : ns.length ≤ sizeLine) (hr : Room k callerA)
    (F : ∀ base : Heap, K.In base → base.Ns mainGlobals mg → FnG P w K mg base k fa fd [x] sp) (hbind : ∀ (s : Shared) (u : Value), BindsTo s fd ⟨[u], []⟩ [(x, u)])
    (hsp : ∀ H : Hp, Only H → SqL K H a (ns.map V.int) → sp [.ref a] H (fun v _ => v = .bl true) E0) :
    codeAny (model P w) callerA (.call (.ref fa) ⟨[.ref a], []⟩) (fun r s' => r = .ok (.ret (.bool true)) ∧ OldK s.heap s'.heap ∧ s'.os = s.os ∧ AllBare s'.gens) s := by
  have rv := vals_ints hi
  have core : ∀ H : Hp, Only H → SqL K H a (ns.map V.int) → HOk P w H s.heap → (∀ b, H b ≠ none → b = a) → (H a ≠ none → K.lookup a = none) →
      codeAny (model P w) callerA (.call (.ref fa) ⟨[.ref a], []⟩) (fun r s' => r = .ok (.ret (.bool true)) ∧ OldK s.heap s'.heap ∧ s'.os = s.os ∧ AllBare s'.gens) s := by
    intro H hO hS hok hA hK
    have isA : ∀ {b : Addr} {u : HO}, H b = some u → b = a := fun q => hA _ (by rw [q]; simp)
    have nsK : ∀ {b : Addr} {m : Str → Option Value}, s.heap.Ns b m → (hidT s.heap H).Ns b m := by
      rintro b m ⟨o, es, ep, e, d, r⟩
      refine ⟨o, es, ep, hidT_get e ?_, d, r⟩
      cases q : H b with
      | none => rfl
      | some u =>
        have eb := isA q
        subst eb
        rw [ha] at e; cases e
        have d2 : Data.seq vs.toArray _ = Data.dict es ep := d
        cases d2
    have hKb : K.In (hidT s.heap H) := fun b o e => hidT_get (KX b o e) (by
      cases q : H b with
      | none => rfl
      | some u =>
        have eb := isA q
        subst eb
        rw [hK (by rw [q]; simp)] at e
        cases e)
    have hM : Mod K mg (hidT s.heap H) := ⟨hKb, nsK nsg, ⟨mb, nsK nsb, hbb⟩, let ⟨mc, h1, h2⟩ := lim; ⟨mc, nsK h1, h2⟩⟩
    have e0 : Env0 P w K mg (hidT s.heap H) callerA [] s H :=
      ⟨rfl, hM, fun b o e => of_hidT e, Nat.le_of_eq (hidT_size _ _), trivial, (fun b hb => by cases (show b ∈ ([] : List Addr) from hb)), hok, .of_eq hg⟩
    refine codeAny_mono ((F _ hKb (nsK nsg)).run callerA [] s H ⟨[.ref a], []⟩ [.ref a] [.ref a] _ E0 rfl hr e0 (hbind s (.ref a)) (.cons rfl .nil) (hsp H hO hS)) fun r s' h => ?_
    cases r with
    | error e => exact (show False from h).elim
    | ok fl =>
      cases fl with
      | next => exact (show False from h).elim
      | brk => exact (show False from h).elim
      | cont => exact (show False from h).elim
      | ret u =>
        obtain ⟨v, H', os, bare, un, hok', r', q⟩ := h
        obtain rfl : v = .bl true := q
        obtain rfl : u = Value.bool true := r'
        refine ⟨rfl, OldK.of_keep fun b o e => ?_, os, bare⟩
        cases q : H b with
        | none => exact un.keep b o e q (fun z => by cases (show b ∈ ([] : List Addr) from z)) (by simp)
        | some u =>
          rcases hO b with z | ⟨ob, xs, z⟩
          · rw [z] at q; cases q
          · have z1 := (hok b _ z).1
            have z2 := (hok' b _ (un.frzs b ob _ z)).1
            rw [e] at z1; cases z1
            exact z2
  cases hk : K.lookup a with
  | some o =>
    have e := KX a o hk
    rw [ha] at e
    cases e
    exact core (fun _ => none) (fun _ => .inl rfl) (.inr ⟨_, vs.toArray, _, hk, rfl, rfl, rfl, by rw [List.size_toArray, hi.length]; exact hl, by simpa using rv⟩) (fun b u z => by cases (show (none : Option HO) = some u from z)) (fun b z => absurd rfl z) fun z => absurd rfl z
  | none =>
    let G : Hp := fun b => if b = a then some (.frz { cls := .type "list", data := .seq vs.toArray } (.lst (ns.map V.int))) else none
    have g1 : G a = some (.frz { cls := .type "list", data := .seq vs.toArray } (.lst (ns.map V.int))) := if_pos rfl
    have g2 : ∀ {b : Addr}, b ≠ a → G b = none := fun hb => if_neg hb
    refine core G (fun b => ?_) (.inl (.inr ⟨_, g1⟩)) (fun b u z => ?_) (fun b z => ?_) fun _ => hk
    · by_cases hb : b = a
      · subst hb; exact .inr ⟨_, _, g1⟩
      · exact .inl (g2 hb)
    · by_cases hb : b = a
      · subst hb
        rw [g1] at z; cases z
        exact ⟨ha, by rw [List.length_map]; exact hl, vs, _, rv, ha⟩
      · rw [g2 hb] at z; cases z
    · by_cases hb : b = a
      · exact hb
      · exact absurd (g2 hb) z
theorem walk_G {l : PySem.W.OpenLaw} {n k : Nat} {q : Program} {loose : List Str} {XP : (Str → Option Value) → Heap → Prop} {YP : World → Heap → Prop} {d : DefRec} {x : Str}
    (hn : l.most = some n) (hn2 : n ≤ sizeLine) (hdf : d.params.defaults = []) (hr : Room k callerA)
    (F : ∀ (w : World) (mg : Str → Option Value) (fa : Addr) (h : Heap), YP w h → h.Ns mainGlobals mg → mg d.name = some (.ref fa) → ∃ (K : PySem.W.Frag) (fd : FuncData) (sp : Sp), K.In h ∧ (∀ (s : Shared) (u : Value), BindsTo s fd ⟨[u], []⟩ [(x, u)]) ∧
        (∀ (H : Hp) (a : Addr) (ns : List Int), ns.length ≤ n → Only H → SqL K H a (ns.map V.int) → sp [.ref a] H (fun v _ => v = .bl true) E0) ∧ ∀ base : Heap, K.In base → base.Ns mainGlobals mg → FnG l.prog w K mg base k fa fd [x] sp) :
    PySem.W.WalkO q loose XP YP l.row.toRowW d [] (fun f vs => PySem.call f vs) := by
  refine Att.attach_call hn hdf fun w s₀ s₁ mg mb fa o pm cd doc a vs ns G Y ho hd hcd hmg hobj hints hlen hg => ?_
  obtain ⟨K, fd, sp, KX, hb, hsp, hF⟩ := F w mg fa _ Y G.T.g hmg
  exact call_at KX G.T.g G.T.b G.T.builtins G.T.nolimit hg hobj hints (Nat.le_trans hlen hn2) hr hF hb fun H hO hS => hsp H a ns hlen hO hS
end LB
set_option Elab.async false
set_option linter.all false
set_option maxRecDepth 100000
/-! The data of the program: reactions, machines, scenes, and where they stand. -/
namespace LB
open PySem PySem.Spec PyProof.Rows L2
/-- what a dict with text keys and whole numbers holds -/
abbrev Ws := List (Str × Int)
structure Rx where
  st : Int
  tk : Ws
  gv : Ws
  nx : Int
def kvsOf (ws : Ws) : List (Key × V) := ws.map fun p => (Sum.inr p.1, V.int p.2)
def wsGet : Ws → Str → Option Int
  | [], _ => none
  | p :: r, k => if p.1 = k then some p.2 else wsGet r k
def wsEq (a b : Ws) : Bool := a.length == b.length && a.all fun p => wsGet b p.1 == some p.2
def rxEq (r q : Rx) : Bool := r.st == q.st && (wsEq r.tk q.tk && (wsEq r.gv q.gv && r.nx == q.nx))
/-- the dict at v holds ws -/
def WsAt (H : Hp) (v : V) (ws : Ws) : Prop := ∃ d, v = .ref d ∧ H d = some (.dK (kvsOf ws))
def RxAt (H : Hp) (v : V) (r : Rx) : Prop := ∃ a d1 d2, v = .ref a ∧ H a = some (.tup [.int r.st, .ref d1, .ref d2, .int r.nx]) ∧ H d1 = some (.dK (kvsOf r.tk)) ∧ H d2 = some (.dK (kvsOf r.gv))
abbrev RxsAt (H : Hp) (vs : List V) (rs : List Rx) : Prop := Paired (RxAt H) vs rs
theorem RxAt.mono {H H' : Hp} {v : V} {r : Rx} (e : Same H H') (h : RxAt H v r) : RxAt H' v r := by
  obtain ⟨a, d1, d2, ev, h1, h2, h3⟩ := h
  exact ⟨a, d1, d2, ev, e _ _ h1, e _ _ h2, e _ _ h3⟩
theorem WsAt.mono {H H' : Hp} {v : V} {ws : Ws} (e : Same H H') (h : WsAt H v ws) : WsAt H' v ws := by
  obtain ⟨d, ev, h⟩ := h
  exact ⟨d, ev, e _ _ h⟩
theorem paired_mono {α β : Type} {F G : α → β → Prop} : ∀ {l : List α} {m : List β}, Paired F l m → (∀ a b, F a b → G a b) → Paired G l m
  | _, _, .nil, _ => .nil
  | _, _, .cons r t, f => .cons (f _ _ r) (paired_mono t f)
theorem RxsAt.mono {H H' : Hp} {vs : List V} {rs : List Rx} (e : Same H H') (h : RxsAt H vs rs) : RxsAt H' vs rs := paired_mono h fun _ _ q => q.mono e
theorem paired_len {α β : Type} {F : α → β → Prop} {l : List α} {m : List β} (h : Paired F l m) : l.length = m.length := Paired.length h
theorem paired_get {α β : Type} {F : α → β → Prop} : ∀ {l : List α} {m : List β} {i : Nat} {x : α}, Paired F l m → l[i]? = some x → ∃ y, m[i]? = some y ∧ F x y
  | _, _, _, _, .nil, e => by simp at e
  | _, _, 0, _, .cons r _, e => by
    simp at e
    subst e
    exact ⟨_, rfl, r⟩
  | _, _, i + 1, _, .cons _ t, e => by
    obtain ⟨y, h1, h2⟩ := paired_get (i := i) t (by simpa using e)
    exact ⟨y, by simpa using h1, h2⟩
theorem paired_get' {α β : Type} {F : α → β → Prop} : ∀ {l : List α} {m : List β} {i : Nat} {y : β}, Paired F l m → m[i]? = some y → ∃ x, l[i]? = some x ∧ F x y
  | _, _, _, _, .nil, e => by simp at e
  | _, _, 0, _, .cons r _, e => by
    simp at e
    subst e
    exact ⟨_, rfl, r⟩
  | _, _, i + 1, _, .cons _ t, e => by
    obtain ⟨y, h1, h2⟩ := paired_get' (i := i) t (by simpa using e)
    exact ⟨y, by simpa using h1, h2⟩
theorem paired_snoc {α β : Type} {F : α → β → Prop} {x : α} {y : β} (f : F x y) : ∀ {l : List α} {m : List β}, Paired F l m → Paired F (l ++ [x]) (m ++ [y])
  | _, _, .nil => .cons f .nil
  | _, _, .cons r t => .cons r (paired_snoc f t)
theorem paired_take {α β : Type} {F : α → β → Prop} : ∀ (n : Nat) {l : List α} {m : List β}, Paired F l m → Paired F (l.take n) (m.take n)
  | 0, _, _, _ => .nil
  | _ + 1, _, _, .nil => .nil
  | n + 1, _, _, .cons r t => .cons r (paired_take n t)
/-! ### the dict's pairs and its look-up -/
theorem valV_kvsOf : ∀ (ws : Ws) (k : Str), valV (kvsOf ws) (Sum.inr k : Key) = (wsGet ws k).map V.int
  | [], _ => rfl
  | p :: r, k => by
    unfold kvsOf
    rw [List.map_cons]
    by_cases e : p.1 = k
    · rw [valV_pos (by show (Sum.inr p.1 : Key) = Sum.inr k; rw [e]), wsGet, if_pos e]
      rfl
    · rw [valV_neg (by intro z; exact e (Sum.inr.inj z)), wsGet, if_neg e]
      exact valV_kvsOf r k
theorem kvsOf_len (ws : Ws) : (kvsOf ws).length = ws.length := by unfold kvsOf; rw [List.length_map]
theorem wsGet_mem : ∀ {ws : Ws} {p : Str × Int}, (ws.map (·.1)).Nodup → p ∈ ws → wsGet ws p.1 = some p.2
  | q :: r, p, nd, hp => by
    rw [List.map_cons] at nd
    obtain ⟨h1, h2⟩ := List.nodup_cons.mp nd
    rcases List.mem_cons.mp hp with e | hp
    · subst e
      rw [wsGet, if_pos rfl]
    · have ne : ¬ q.1 = p.1 := fun e => h1 (e ▸ List.mem_map.mpr ⟨p, hp, rfl⟩)
      rw [wsGet, if_neg ne]
      exact wsGet_mem h2 hp
theorem wsEq_refl {ws : Ws} (nd : (ws.map (·.1)).Nodup) : wsEq ws ws = true := by
  unfold wsEq
  rw [Bool.and_eq_true]
  refine ⟨by simp, List.all_eq_true.mpr fun p hp => ?_⟩
  rw [wsGet_mem nd hp]
  simp
theorem kvsOf_inj : ∀ {a b : Ws}, kvsOf a = kvsOf b → a = b
  | [], [], _ => rfl
  | [], _ :: _, h => by cases h
  | _ :: _, [], h => by cases h
  | p :: r, q :: t, h => by
    unfold kvsOf at h
    rw [List.map_cons, List.map_cons] at h
    injection h with h1 h2
    injection h1 with h3 h4
    have e1 : p.1 = q.1 := Sum.inr.inj h3
    have e2 : p.2 = q.2 := by injection h4
    rw [kvsOf_inj (a := r) (b := t) h2, show p = q from Prod.ext e1 e2]
/-- a reaction's keys stand once -/
def Rx.Once (r : Rx) : Prop := (r.tk.map (·.1)).Nodup ∧ (r.gv.map (·.1)).Nodup
theorem rxEq_refl {r : Rx} (h : r.Once) : rxEq r r = true := by
  unfold rxEq
  rw [wsEq_refl h.1, wsEq_refl h.2]
  simp
theorem RxAt.inj {H : Hp} {v : V} {r q : Rx} (h : RxAt H v r) (g : RxAt H v q) : r = q := by
  obtain ⟨a, d1, d2, ev, h1, h2, h3⟩ := h
  obtain ⟨b, e1, e2, ev', g1, g2, g3⟩ := g
  rw [ev] at ev'
  cases ev'
  rw [h1] at g1
  injection g1 with g1
  injection g1 with g1
  injection g1 with i1 i2
  injection i2 with i2 i3
  injection i3 with i3 i4
  injection i4 with i4 i5
  cases i2
  cases i3
  rw [h2] at g2
  rw [h3] at g3
  injection g2 with g2
  injection g2 with g2
  injection g3 with g3
  injection g3 with g3
  obtain ⟨a1, a2, a3, a4⟩ := r
  obtain ⟨b1, b2, b3, b4⟩ := q
  injection i1 with i1
  injection i4 with i4
  have j2 := kvsOf_inj g2
  have j3 := kvsOf_inj g3
  simp only at i1 i4 j2 j3
  subst i1 i4 j2 j3
  rfl
/-! ### a machine -/
structure Mx where
  ins : List Str
  outs : List Str
  n : Int
  rs : List Rx
def mflds (t1 t2 : Addr) (n : Int) (t4 : Addr) : List (Str × V) := putF "own_reactions" (.ref t4) (putF "own_standings" (.int n) (putF "own_outs" (.ref t2) (putF "own_ins" (.ref t1) [])))
def MachAt (C : Addr) (H : Hp) (v : V) (M : Mx) : Prop := ∃ p dx t1 t2 t4 vs, v = .ref p ∧ H p = some (.ins C dx (mflds t1 t2 M.n t4)) ∧ H t1 = some (.tup (M.ins.map V.str)) ∧ H t2 = some (.tup (M.outs.map V.str)) ∧ H t4 = some (.tup vs) ∧ RxsAt H vs M.rs
theorem MachAt.mono {C : Addr} {H H' : Hp} {v : V} {M : Mx} (e : Same H H') (h : MachAt C H v M) : MachAt C H' v M := by
  obtain ⟨p, dx, t1, t2, t4, vs, ev, h0, h1, h2, h3, h4⟩ := h
  exact ⟨p, dx, t1, t2, t4, vs, ev, e _ _ h0, e _ _ h1, e _ _ h2, e _ _ h3, h4.mono e⟩
theorem nm12 : ¬ ("own_ins" : Str) = "own_outs" := by decide +kernel
theorem nm13 : ¬ ("own_ins" : Str) = "own_standings" := by decide +kernel
theorem nm14 : ¬ ("own_ins" : Str) = "own_reactions" := by decide +kernel
theorem nm23 : ¬ ("own_outs" : Str) = "own_standings" := by decide +kernel
theorem nm24 : ¬ ("own_outs" : Str) = "own_reactions" := by decide +kernel
theorem nm34 : ¬ ("own_standings" : Str) = "own_reactions" := by decide +kernel
section
variable (t1 t2 t4 : Addr) (n : Int)
theorem mf_ins : (mflds t1 t2 n t4).lookup ("own_ins" : Str) = some (.ref t1) := by
  unfold mflds
  rw [lookup_putF, if_neg nm14, lookup_putF, if_neg nm13, lookup_putF, if_neg nm12, lookup_putF, if_pos rfl]
theorem mf_outs : (mflds t1 t2 n t4).lookup ("own_outs" : Str) = some (.ref t2) := by
  unfold mflds
  rw [lookup_putF, if_neg nm24, lookup_putF, if_neg nm23, lookup_putF, if_pos rfl]
theorem mf_st : (mflds t1 t2 n t4).lookup ("own_standings" : Str) = some (.int n) := by
  unfold mflds
  rw [lookup_putF, if_neg nm34, lookup_putF, if_pos rfl]
theorem mf_rs : (mflds t1 t2 n t4).lookup ("own_reactions" : Str) = some (.ref t4) := by
  unfold mflds
  rw [lookup_putF, if_pos rfl]
end
theorem putF_len (f : Str) (v : V) : ∀ fs : List (Str × V), (putF f v fs).length ≤ fs.length + 1
  | [] => Nat.le_refl _
  | (g, x) :: r => by
    unfold putF
    split
    · simp
    · have := putF_len f v r
      simp
      omega
/-! ### runs -/
def nums (ns : List Nat) : List V := ns.map fun (n : Nat) => V.int (n : Int)
/-- a run that leads on from a standing -/
def Leads (rs : List Rx) : Int → List Nat → Prop
  | _, [] => True
  | s, n :: ns => ∃ r, rs[n]? = some r ∧ r.st = s ∧ Leads rs r.nx ns
def ledTo (rs : List Rx) : Int → List Nat → Int
  | s, [] => s
  | s, n :: ns => ledTo rs (match rs[n]? with | some r => r.nx | none => s) ns
end LB
set_option Elab.async false
set_option linter.all false
set_option maxRecDepth 100000
namespace LB
open PySem PySem.Spec PyProof.Rows L2
section
variable {X : Cx} {pins : List (Addr × Obj)} {σ : L2.St} {H : Hp} {s : Shared}
/-! ### xs != [] -/
def rNeNil (K : PySem.W.Frag) : R2 := fun x y H Q => ∃ a b xs, x = .ref a ∧ y = .ref b ∧ SqL K H a xs ∧ SqL K H b [] ∧ Q (.bl (!xs.isEmpty)) H
theorem op_neNil (hu : X.A.units < cLine) : OpR X (compareOp .NotEq) (rNeNil X.K) := by
  intro pins s σ H x y v u Q I rx ry h
  obtain ⟨a, b, xs, rfl, rfl, ha, hb, q⟩ := h
  cases rx
  cases ry
  obtain ⟨its, rv, hl, _⟩ := I.list ha
  obtain ⟨its2, rv2, hl2, _⟩ := I.list hb
  cases rv2
  cases rv with
  | nil => exact SeqAt.RcNeAt.lists (e := fun _ => true) hl.isList hl2.isList rfl hu (fun j h1 => absurd h1 (by simp)) X.prog X.w _ _ ⟨.bl false, H, I, rfl, q⟩
  | cons r rr => exact SeqAt.RcNeAt.lists_lengths hl.isList hl2.isList rfl hu X.prog X.w _ _ ⟨.bl true, H, I, rfl, q⟩
/-! ### takes == {}, takes != {} -/
theorem op_eqNilD (hu : X.A.units < cLine) : OpR X (compareOp .Eq) (fun x y H Q => ∃ a b ks, x = .ref a ∧ y = .ref b ∧ H a = some (.dK ks) ∧ H b = some (.dK []) ∧ Q (.bl ks.isEmpty) H) := by
  intro pins s σ H x y v u Q I rx ry h
  obtain ⟨a, b, ks, rfl, rfl, ea, eb, q⟩ := h
  cases rx
  cases ry
  obtain ⟨_, ya, va, ra, da⟩ := dk_of I.hok ea
  obtain ⟨_, yb, vb, rb, db⟩ := dk_of I.hok eb
  cases rb
  refine PySem.W.keq_eq (knd := mixKind X.prog X.w) (r := true) ya yb da db hu (fun hl => ?_) (fin_bl I q ?_)
  · cases va with
    | nil => exact .nil
    | cons p r => cases hl
  · cases ra <;> rfl
theorem op_neNilD (hu : X.A.units < cLine) : OpR X (compareOp .NotEq) (fun x y H Q => ∃ a b ks, x = .ref a ∧ y = .ref b ∧ H a = some (.dK ks) ∧ H b = some (.dK []) ∧ Q (.bl (!ks.isEmpty)) H) := by
  intro pins s σ H x y v u Q I rx ry h
  obtain ⟨a, b, ks, rfl, rfl, ea, eb, q⟩ := h
  cases rx
  cases ry
  obtain ⟨_, ya, va, ra, da⟩ := dk_of I.hok ea
  obtain ⟨_, yb, vb, rb, db⟩ := dk_of I.hok eb
  cases rb
  refine PySem.W.keq_ne (knd := mixKind X.prog X.w) (r := true) ya yb da db hu (fun hl => ?_) (fin_bl I q ?_)
  · cases va with
    | nil => exact .nil
    | cons p r => cases hl
  · cases ra <;> rfl
/-! ### reactions compared; one in a list of reactions -/
theorem kv_all {a : Ws} {vs : List (Key × Value)} (r : KV (kvsOf a) vs) (f : Key → Bool) : (vs.all fun p => f p.1) = a.all fun p => f (Sum.inr p.1) := by
  have e := KV.keys r
  have e1 : (vs.all fun p => f p.1) = (vs.map (·.1)).all f := by rw [List.all_map]; rfl
  rw [e1, ← e]
  unfold kvsOf
  rw [List.map_map, List.all_map]
  rfl
theorem kv_some {b : Ws} {vs : List (Key × Value)} (r : KV (kvsOf b) vs) (x : Str) : (valueAt vs (Sum.inr x : Key)).isSome = (wsGet b x).isSome := by
  have h := KV.val r (Sum.inr x : Key)
  rw [valV_kvsOf] at h
  cases e : wsGet b x with
  | none =>
    rw [e] at h
    cases e2 : valueAt vs (Sum.inr x : Key) with
    | none => rfl
    | some v => rw [e2] at h; exact h.elim
  | some z =>
    rw [e] at h
    cases e2 : valueAt vs (Sum.inr x : Key) with
    | none => rw [e2] at h; exact h.elim
    | some v => rfl
theorem kv_mem : ∀ {a : Ws} {vs : List (Key × Value)} {k : Key} {v : Value}, KV (kvsOf a) vs → (k, v) ∈ vs → ∃ p t, p ∈ a ∧ k = Sum.inr p.1 ∧ v = Value.int p.2 t
  | [], _, _, _, r, h => by
    cases r
    cases h
  | p :: a, _, k, v, r, h => by
    cases r with
    | cons r rr =>
      rcases List.mem_cons.mp h with e | h
      · obtain ⟨r1, t, r2⟩ := r
        cases e
        exact ⟨p, t, List.mem_cons_self, r1.symm, r2⟩
      · obtain ⟨q, t, h1, h2, h3⟩ := kv_mem (a := a) rr h
        exact ⟨q, t, List.mem_cons_of_mem _ h1, h2, h3⟩
def keyE (a b : Ws) : Key → Bool
  | .inl _ => true
  | .inr x => wsGet a x == wsGet b x
theorem ws_tree {d e : Addr} {a b : Ws} (I : Inv X pins σ H s) (hd : H d = some (.dK (kvsOf a))) (he : H e = some (.dK (kvsOf b))) (nd : (a.map (·.1)).Nodup) : PySem.W.EqTree X.prog X.w s 1 (.ref d) (.ref e) (wsEq a b) := by
  by_cases hde : d = e
  · subst hde
    rw [hd] at he
    injection he with he
    injection he with he
    cases kvsOf_inj he
    rw [wsEq_refl nd]
    exact .same
  · obtain ⟨_, ya, va, ra, da⟩ := dk_of I.hok hd
    obtain ⟨_, yb, vb, rb, db⟩ := dk_of I.hok he
    have t := PySem.W.EqTree.dicts (prog := X.prog) (w := X.w) (s := s) (knd := mixKind X.prog X.w) (n := 0) (e := keyE a b) hde ya yb da db (fun k v y hm hv => ?_)
    · have e1 : (va.length == vb.length && va.all fun p => (valueAt vb p.1).isSome && keyE a b p.1) = wsEq a b := by
        rw [kv_all ra fun k => (valueAt vb k).isSome && keyE a b k]
        unfold wsEq
        rw [← KV.length ra, ← KV.length rb, kvsOf_len, kvsOf_len]
        congr 1
        rw [Bool.eq_iff_iff, List.all_eq_true, List.all_eq_true]
        refine forall_congr' fun p => forall_congr' fun hp => ?_
        rw [kv_some rb, show keyE a b (Sum.inr p.1) = (wsGet a p.1 == wsGet b p.1) from rfl, wsGet_mem nd hp]
        cases wsGet b p.1 with
        | none => simp
        | some z =>
          simp only [Option.isSome_some, Bool.true_and, beq_iff_eq]
          exact eq_comm
      rw [← e1]
      exact t
    · obtain ⟨p, tk, hp, rfl, rfl⟩ := kv_mem ra hm
      have h := KV.val rb (Sum.inr p.1 : Key)
      rw [valV_kvsOf, hv] at h
      rw [show keyE a b (Sum.inr p.1) = (wsGet a p.1 == wsGet b p.1) from rfl, wsGet_mem nd hp]
      cases e2 : wsGet b p.1 with
      | none => rw [e2] at h; exact h.elim
      | some z =>
        rw [e2] at h
        obtain ⟨t2, rfl⟩ := (show ∃ t, y = Value.int z t from h)
        have e3 : ((some p.2 : Option Int) == some z) = (p.2 == z) := rfl
        rw [e3]
        exact .leaf fun A _ => SeqAt.EqAt.int_int _ _ _ _
theorem rx_tree {x y : V} {v u : Value} {r q : Rx} (I : Inv X pins σ H s) (hx : RxAt H x r) (hy : RxAt H y q) (once : r.Once) (rx : RelV x v) (ry : RelV y u) : PySem.W.EqTree X.prog X.w s 2 v u (rxEq r q) := by
  obtain ⟨a, d1, d2, rfl, h1, h2, h3⟩ := id hx
  obtain ⟨b, e1, e2, rfl, g1, g2, g3⟩ := id hy
  cases rx
  cases ry
  by_cases hab : a = b
  · subst hab
    cases hx.inj hy
    rw [rxEq_refl once]
    exact .same
  · obtain ⟨its, rv, ht, _⟩ := I.tuple (SqT.of h1)
    obtain ⟨its2, rv2, ht2, _⟩ := I.tuple (SqT.of g1)
    obtain ⟨i0, w0, w1, w2, rfl, e0, f0⟩ : ∃ (t : Tok) (w0 w1 w2 : Value), its = [.int r.st t, w0, w1, w2] ∧ (w0 = .ref d1 ∧ w1 = .ref d2) ∧ ∃ t2, w2 = .int r.nx t2 := by
      cases rv with
      | cons r0 rv => cases rv with
        | cons r1 rv => cases rv with
          | cons r2 rv => cases rv with
            | cons r3 rv =>
              cases rv
              obtain ⟨t, rfl⟩ := r0
              exact ⟨t, _, _, _, rfl, ⟨r1, r2⟩, r3⟩
    obtain ⟨j0, z0, z1, z2, rfl, e3, f3⟩ : ∃ (t : Tok) (w0 w1 w2 : Value), its2 = [.int q.st t, w0, w1, w2] ∧ (w0 = .ref e1 ∧ w1 = .ref e2) ∧ ∃ t2, w2 = .int q.nx t2 := by
      cases rv2 with
      | cons r0 rv => cases rv with
        | cons r1 rv => cases rv with
          | cons r2 rv => cases rv with
            | cons r3 rv =>
              cases rv
              obtain ⟨t, rfl⟩ := r0
              exact ⟨t, _, _, _, rfl, ⟨r1, r2⟩, r3⟩
    obtain ⟨rfl, rfl⟩ := e0
    obtain ⟨rfl, rfl⟩ := e3
    obtain ⟨t2, rfl⟩ := f0
    obtain ⟨t3, rfl⟩ := f3
    have t := PySem.W.EqTree.tuples (prog := X.prog) (w := X.w) (s := s) (n := 1) (e := fun j => match j with | 0 => r.st == q.st | 1 => wsEq r.tk q.tk | 2 => wsEq r.gv q.gv | _ => r.nx == q.nx) hab ht ht2 (fun j p1 p2 => ?_)
    · have e5 : ((List.range (min (#[Value.int r.st i0, .ref d1, .ref d2, .int r.nx t2] : Array Value).size (#[Value.int q.st j0, .ref e1, .ref e2, .int q.nx t3] : Array Value).size)).all (fun j => match j with | 0 => r.st == q.st | 1 => wsEq r.tk q.tk | 2 => wsEq r.gv q.gv | _ => r.nx == q.nx) && (#[Value.int r.st i0, .ref d1, .ref d2, .int r.nx t2] : Array Value).size == (#[Value.int q.st j0, .ref e1, .ref e2, .int q.nx t3] : Array Value).size) = rxEq r q := by
        show ((List.range 4).all _ && true) = _
        rw [show List.range 4 = [0, 1, 2, 3] from rfl]
        simp [rxEq]
      rw [← e5]
      exact t
    · have hj : j < 4 := p1
      match j, hj with
      | 0, _ => exact .leaf fun A _ => SeqAt.EqAt.int_int _ _ _ _
      | 1, _ => exact ws_tree I h2 g2 once.1
      | 2, _ => exact ws_tree I h3 g3 once.2
      | 3, _ => exact .leaf fun A _ => SeqAt.EqAt.int_int _ _ _ _
end
/-! ### x in xs by a comparison of this program and world (SeqAt's own rules ask for one of all programs) -/
section
open AutoSeq1 SeqAt MeetsSeq MeetsSeq2 MeetsSeq3 SeqRoads2
variable {prog : Program} {w : World}
theorem hasLoop {l : Addr} {items : Array Value} {n : Nat} {dd : Option Addr} {sl : Array (Option Value)} {x : Value} (e : Value → Bool) : ∀ (k i : Nat), items.size - i = k →
    MeetsIn prog w (Builtin.«list.__contains__.loop» ⟨[.ref l, x, rawInt i], []⟩)
      (fun A R s => s.heap.get? l = some { cls := .type "list", dict := dd, data := .seq items n, slots := sl } ∧ (∀ y, y ∈ items → EqIn prog w A.in1 s y x (e y)) ∧ R (.ok (.ret (.bool ((items.toList.drop i).any e)))) s)
  | 0, i, hk => by
    rintro A R ⟨hp, g, d, tk, os⟩ ⟨hl, he, h⟩
    wp_walk using wpAny_loadPart' hl
    rw [show items[((i : Nat) : Int).toNat]? = none by simp; omega]
    rw [show items.toList.drop i = [] by simp; omega] at h
    wp_walk
    exact h
  | k + 1, i, hk => by
    rintro A R ⟨hp, g, d, tk, os⟩ ⟨hl, he, h⟩
    have lt : i < items.size := by omega
    wp_walk using wpAny_loadPart' hl
    rw [show items[((i : Nat) : Int).toNat]? = some items[i] by simp [lt]]
    rw [show items.toList.drop i = items[i] :: items.toList.drop (i + 1) by simp [List.drop_eq_getElem_cons, lt], List.any_cons] at h
    refine wpAny_bind (he _ (Array.getElem_mem lt) _ _ ?_)
    cases q : e items[i] with
    | true =>
      rw [q] at h
      wp_walk
      exact h
    | false =>
      rw [q] at h
      have z : ((i : Int) + 1) = ((i + 1 : Nat) : Int) := by push_cast; rfl
      wp_walk
      rw [z]
      refine ⟨plainId_quiet plain_contains_loop _, codeAny_builtin entry_contains_loop ?_⟩
      rw [Around.under_plainId plain_contains_loop _]
      exact hasLoop e k (i + 1) (by omega) A R _ ⟨hl, he, by simpa using h⟩
theorem hasIn {A : Around} {E : Value → Shared → Prop} {s : Shared} {l : Addr} {items : Array Value} {x : Value} {Q : Bool → Shared → Prop} (e : Value → Bool) (hl : s.heap.IsList l items)
    (he : ∀ y, y ∈ items → EqIn prog w A.in1 s y x (e y)) (h : Q (items.any e) s) : wpAny (model prog w) A (contains (.ref l) x) Q E s := by
  obtain ⟨⟨cls, dd, data, sl⟩, ho, hc, n, hd⟩ := id hl
  simp only at hc hd
  subst hc hd
  have ty : s.TypeIs (.ref l) "list" := ⟨_, ho, rfl⟩
  refine wpAny_contains_slot ty F.slot_list_contains (call_meetsIn F.slot_list_contains ty F.entry_list_contains (F.args_list_contains_2 _ _) (S := fun A' R s' => A' = A ∧ s' = s ∧ R (.ok (.ret (.bool (items.any e)))) s) ?_ ⟨rfl, rfl, wpAny_truthy_bool h⟩)
  rintro A' R s' ⟨rfl, rfl, hR⟩
  obtain ⟨hp, g, d, tk, os⟩ := s'
  wp_walk using wpAny_loadPart' ho
  refine ⟨plainId_quiet plain_contains_loop _, codeAny_builtin entry_contains_loop ?_⟩
  rw [Around.under_plainId plain_contains_loop _]
  exact hasLoop e _ 0 rfl A' R _ ⟨ho, he, by simpa using hR⟩
end
section
variable {X : Cx} {pins : List (Addr × Obj)} {σ : L2.St} {H : Hp} {s : Shared}
/-- a reaction in a list of reactions -/
def rInRx (neg : Bool) : R2 := fun x y H Q => ∃ a vs rs r, y = .ref a ∧ H a = some (.lst vs) ∧ RxsAt H vs rs ∧ RxAt H x r ∧ (∀ q ∈ rs, Rx.Once q) ∧ Q (.bl (if neg then !rs.any (fun q => rxEq q r) else rs.any fun q => rxEq q r)) H
theorem in_rx_any {x : V} {v : Value} {a : Addr} {vs : List V} {rs : List Rx} {r : Rx} (I : Inv X pins σ H s) (hu : X.A.units + 65 < cLine) (ha : H a = some (.lst vs)) (hr : RxsAt H vs rs) (hx : RxAt H x r) (once : ∀ q ∈ rs, Rx.Once q) (rx : RelV x v)
    {Q : Bool → Shared → Prop} {E : Value → Shared → Prop} (q : Q (rs.any fun q => rxEq q r) s) : wpAny (model X.prog X.w) X.A (contains (.ref a) v) Q E s := by
  obtain ⟨its, rv, hl, _⟩ := I.list (SqL.of ha)
  have tree : ∀ (vs : List V) (rs : List Rx) (its : List Value), RxsAt H vs rs → Vals vs its → (∀ q ∈ rs, Rx.Once q) → ∃ f : Value → Bool, (∀ y ∈ its, PySem.W.EqTree X.prog X.w s 2 y v (f y)) ∧ its.any f = rs.any fun q => rxEq q r := by
    intro vs rs its hr hv ho
    have key : ∀ y q, (∃ x, RxAt H x q ∧ RelV x y) → q.Once → PySem.W.EqTree X.prog X.w s 2 y v (rxEq q r) := fun y q ⟨x, h1, h2⟩ h3 => rx_tree I h1 hx h3 h2 rx
    classical
    refine ⟨fun y => if h : ∃ q, q.Once ∧ ∃ x, RxAt H x q ∧ RelV x y then rxEq h.choose r else true, ?_, ?_⟩
    · intro y hy
      obtain ⟨i, hi⟩ := List.mem_iff_getElem?.mp hy
      have : ∃ x, vs[i]? = some x ∧ RelV x y := by
        obtain ⟨x, h1, h2⟩ := paired_get' hv hi
        exact ⟨x, h1, h2⟩
      obtain ⟨x, hx1, hx2⟩ := this
      obtain ⟨q, hq1, hq2⟩ := paired_get hr hx1
      have ex : ∃ q, q.Once ∧ ∃ x, RxAt H x q ∧ RelV x y := ⟨q, ho q (List.mem_of_getElem? hq1), x, hq2, hx2⟩
      show PySem.W.EqTree X.prog X.w s 2 y v (if h : ∃ q, q.Once ∧ ∃ x, RxAt H x q ∧ RelV x y then rxEq h.choose r else true)
      rw [dif_pos ex]
      exact key y _ ex.choose_spec.2 ex.choose_spec.1
    · clear hl rv
      induction hr generalizing its with
      | nil => cases hv; rfl
      | @cons x0 q0 vs0 rs0 h1 h2 ih =>
        cases hv with
        | cons r1 r2 =>
          rw [List.any_cons, List.any_cons, ih _ r2 fun q hq => ho q (List.mem_cons_of_mem _ hq)]
          congr 1
          rename_i y0 its0
          have ex : ∃ q, q.Once ∧ ∃ x, RxAt H x q ∧ RelV x y0 := ⟨q0, ho q0 List.mem_cons_self, x0, h1, r1⟩
          rw [dif_pos ex]
          obtain ⟨o1, x1, o2, o3⟩ := ex.choose_spec
          have ex1 : x1 = x0 := o3.inj r1
          subst ex1
          rw [o2.inj h1]
  obtain ⟨f, hf, ef⟩ := tree vs rs its hr rv once
  refine hasIn f hl.isList (fun y hy => (hf y (by simpa using hy)).at X.A.in1 (by show X.A.units + 1 + 2 < cLine; omega)) ?_
  rw [show its.toArray.any f = its.any f by simp, ef]
  exact q
theorem op_inRx (hu : X.A.units + 65 < cLine) : OpR X (compareOp .In) (rInRx false) := by
  intro pins s σ H x y v u Q I rx ry h
  obtain ⟨a, vs, rs, r, rfl, ha, hr, hx, once, q⟩ := h
  cases ry
  show wpAny _ _ ((do return Value.bool (← contains (.ref a) v)) : Sem Value) _ _ s
  exact wpAny_bind (in_rx_any I hu ha hr hx once rx (wpAny_pure ⟨.bl _, H, I, rfl, q⟩))
theorem op_notInRx (hu : X.A.units + 65 < cLine) : OpR X (compareOp .NotIn) (rInRx true) := by
  intro pins s σ H x y v u Q I rx ry h
  obtain ⟨a, vs, rs, r, rfl, ha, hr, hx, once, q⟩ := h
  cases ry
  show wpAny _ _ ((do return Value.bool (!(← contains (.ref a) v))) : Sem Value) _ _ s
  exact wpAny_bind (in_rx_any I hu ha hr hx once rx (wpAny_pure ⟨.bl _, H, I, rfl, q⟩))
end
end LB
set_option Elab.async false
set_option linter.all false
set_option maxRecDepth 100000
namespace LB
open PySem PySem.Spec PyProof.Rows L2
/-! ### sum(t), min(t) of a tuple of whole numbers; sum(d.values()) -/
section
variable {prog : Program} {w : World} {A : Around} {E : Value → Shared → Prop} {s : Shared} {l : Addr} {its : List Value} {ns : List Int} {Q : Value → Shared → Prop}
theorem kept1 {o : Obj} {h h' : Heap} (hk : ∀ b u, b ∉ [h.objs.size] → (h.push o).get? b = some u → h'.get? b = some u) : ∀ b u, h.get? b = some u → h'.get? b = some u := fun b u e => by
  refine hk b u (fun hm => ?_) (Heap.get?_push_of_some _ e)
  rw [List.mem_singleton] at hm
  subst hm
  exact absurd (Heap.lt_size e) (Nat.lt_irrefl _)
theorem iter_tup {items : Array Value} {Q : Value → Shared → Prop} (hl : s.heap.IsTuple l items)
    (h : ∀ t : Shared, t = { s with heap := s.heap.push { cls := .type "tuple_iterator", data := .fields #[.ref l, .int 0 0] } } → (t.heap.IsTupleIter s.heap.objs.size l 0 ∧ t.heap.IsTuple l items) → (∀ b ∈ [s.heap.objs.size, l], b < t.heap.objs.size) → l ≠ s.heap.objs.size →
      Q (.ref s.heap.objs.size) t) : wpAny (model prog w) A (pyIter (.ref l)) Q E s := by
  have lt : l < s.heap.objs.size := by
    obtain ⟨_, e, _⟩ := hl
    exact Heap.lt_size e
  refine wpAny_pyIter_tuple hl (h _ rfl ⟨⟨_, Heap.get?_push_size _ rfl, rfl, rfl⟩, hl.at fun o e => Heap.get?_push_of_some _ e⟩ (fun b hb => ?_) (Nat.ne_of_lt lt))
  show b < (s.heap.push _).objs.size
  rw [Heap.size_push]
  simp only [List.mem_cons, List.not_mem_nil, or_false] at hb
  rcases hb with rfl | rfl
  · exact Nat.lt_succ_self _
  · exact Nat.lt_succ_of_lt lt
theorem sum_tup (hh : A.handled = none) (hl : s.heap.IsTuple l its.toArray) (hi : IntsAre its ns)
    (h : ∀ h' tk t', (∀ b o, s.heap.get? b = some o → h'.get? b = some o) → Q (.int ns.sum t') { s with heap := h', toks := tk }) : wpAny (model prog w) A (call (.builtin "sum") [.ref l]) Q E s := by
  obtain ⟨xs, e⟩ := hi.allInts.items
  have hn : numsOf (intItems xs).toList = ns := by
    rw [← e]
    exact hi.numsOf
  rw [nums_intItems] at hn
  rw [e] at hl
  refine call_sum_walkG (iter_tup hl fun t e st hfp hne => ?_)
  subst e
  refine ⟨_, _, _, _, _, _, numAt xs, rfl, Walks.tuple (A := A.in1) hh _ l hne (intItems xs), st, hfp, (fun _ _ => intItems_at), fun h' tk t' hk => ?_⟩
  have z := h h' tk t' (kept1 hk)
  have e2 : preSum (numAt xs) (intItems xs).size = ns.sum := by
    rw [preSum_eq, List.take_of_length_le (by simp [intItems]), hn]
  rw [e2]
  exact z
theorem min_tup (hh : A.handled = none) (hl : s.heap.IsTuple l its.toArray) (hi : IntsAre its ns) (hne : 0 < ns.length)
    (h : ∀ h' tk M t', (∀ b o, s.heap.get? b = some o → h'.get? b = some o) → M ∈ ns → (∀ a, a ∈ ns → M ≤ a) → Q (.int M t') { s with heap := h', toks := tk }) : wpAny (model prog w) A (call (.builtin "min") [.ref l]) Q E s := by
  obtain ⟨xs, e⟩ := hi.allInts.items
  have hn : numsOf (intItems xs).toList = ns := by
    rw [← e]
    exact hi.numsOf
  rw [nums_intItems] at hn
  subst hn
  rw [e] at hl
  have hz : 0 < xs.size := by simpa using hne
  refine call_min_walk (iter_tup hl fun t e st hfp hlI => ?_)
  subst e
  refine ⟨_, _, _, _, _, _, _, rfl, Walks.tuple (A := A.in1) hh _ l hlI (intItems xs), st, hfp, by simpa [intItems] using hz, CmpOf.ints_lt (numAt xs) (fun _ _ => intItems_at), fun v h' tk hP hk => ?_⟩
  have hv : (intItems xs)[argBest (fun i j => decide (numAt xs i < numAt xs j)) (xs.size - 1)]? = some v := by simpa [intItems] using hP
  obtain ⟨t, rfl⟩ := intItems_at hv
  obtain ⟨p1, p2⟩ := argBest_lt (numAt xs) (xs.size - 1)
  refine h h' tk _ t (kept1 hk) ?_ fun a ha => ?_
  · rw [numAt_eq]
    exact PySem.getD_mem (by rw [List.length_map, Array.length_toList]; omega)
  · obtain ⟨j, hj, rfl⟩ := mem_getD ha
    rw [List.length_map, Array.length_toList] at hj
    rw [← numAt_eq]
    exact p2 j (by omega)
end
section
variable {X : Cx}
theorem cr_sumT (hc : X.calm = true) : CallR X (.builtin "sum") (fun vs H Q => ∃ (a : Addr) (ns : List Int), vs = [V.ref a] ∧ SqT X.K H a (ns.map V.int) ∧ Q (.int ns.sum) H) := by
  intro pins s σ H vs us Q I r h
  obtain ⟨a, ns, rfl, hs, q⟩ := h
  obtain ⟨its, rv, hl, _⟩ := I.tuple hs
  rw [Vals.ref1 r]
  exact sum_tup (I.ok.hd hc) hl rv.ints fun h' tk t' hk => ⟨.int _, H, I.kept hk, ⟨_, rfl⟩, q⟩
theorem cr_minT (hc : X.calm = true) : CallR X (.builtin "min") (fun vs H Q => ∃ (a : Addr) (ns : List Int), vs = [V.ref a] ∧ SqT X.K H a (ns.map V.int) ∧ 0 < ns.length ∧ ∀ m, m ∈ ns → (∀ y, y ∈ ns → m ≤ y) → Q (.int m) H) := by
  intro pins s σ H vs us Q I r h
  obtain ⟨a, ns, rfl, hs, hne, q⟩ := h
  obtain ⟨its, rv, hl, _⟩ := I.tuple hs
  rw [Vals.ref1 r]
  exact min_tup (I.ok.hd hc) hl rv.ints hne fun h' tk m t' hk h1 h2 => ⟨.int _, H, I.kept hk, ⟨_, rfl⟩, q m h1 h2⟩
/-- the view of a dict's values -/
def isView (p d : Addr) : Heap → Prop := fun h => h.IsValuesView p d
def tDValues (td : TE) : TE := fun σ H Q => td σ H fun x H1 => ∃ d kvs, x = .ref d ∧ H1 d = some (.dK kvs) ∧ ∀ p, H1 p = none → Q (.ref p) (upd H1 p (.ext (isView p d)))
theorem pe_dvalues {e : Expr} {td : TE} {apos cpos : Pos} (he : PE X e td) (hbase : attributeBase e "values" X.env (eval e X.env) = eval e X.env := by rfl) (hline : (apos.endLine == cpos.line) = true := by rfl) : PE X (.Call (.Attribute e "values" apos) [] [] cpos) (tDValues td) := by
  refine ⟨fun pins s σ H Q I h => ?_⟩
  refine wpAny_Call_method (T := "dict") (id := "dict.values") hbase rfl hline F.plainAttrs_dict F.slot_dict_values F.type_dict_values (thn (he.run pins s σ H _ I h) fun u s1 ⟨x, H1, I1, rx, d, kvs, ex, hd, q⟩ => ?_)
  subst ex
  obtain rfl : u = Value.ref d := rx
  obtain ⟨_, hs, vs, kv, hm⟩ := dk_of I1.hok hd
  refine ⟨hm.typeIs, hm.mapOf.noDict, ?_⟩
  have view : (s1.heap.push { cls := .type "dict_values", data := .fields #[.ref d] }).IsValuesView s1.heap.objs.size d := ⟨_, Heap.get?_push_size _ rfl, rfl, rfl⟩
  have I2 : Inv X pins σ (upd H1 s1.heap.objs.size (.ext (isView s1.heap.objs.size d))) { s1 with heap := s1.heap.push { cls := .type "dict_values", data := .fields #[.ref d] } } :=
    I1.laid (t' := s1.toks) (fun b ob q => Heap.get?_push_of_some _ q) (Nat.le_refl _) ⟨view, ⟨_, Heap.get?_push_size _ rfl⟩, fun h1 h2 ⟨o, e1, e2, e3⟩ k => ⟨o, k o e1, e2, e3⟩⟩
  show wpAny _ _ (callWith cpos (.builtin "dict.values") [.ref d] [] []) _ X.xe s1
  exact method_meetsIn F.slot_dict_values F.entry_dict_values rfl (PySem.evalArgs_none ⟨rfl, hm.typeIs, F.args_dict_values_1 _, _, meets_dict_values (mixKind X.prog X.w) d hs, ⟨vs, hm⟩, ⟨.ref s1.heap.objs.size, _, I2, rfl, q _ (I1.hok.fresh (Nat.le_refl _))⟩⟩)
theorem preSum_ws (ws : Ws) : ∀ n, n ≤ ws.length → preSum (fun i => (ws.getD i ("", 0)).2) n = ((ws.take n).map (·.2)).sum
  | 0, _ => by simp [preSum]
  | n + 1, h => by
    have lt : n < ws.length := h
    have e : ws.take (n + 1) = ws.take n ++ [ws[n]] := by rw [List.take_succ_eq_append_getElem lt]
    rw [e, List.map_append, List.sum_append]
    have ih := preSum_ws ws n (Nat.le_of_lt lt)
    simp only [preSum] at ih ⊢
    rw [ih]
    simp [List.getD, List.getElem?_eq_getElem lt]
theorem cr_sumV (hc : X.calm = true) : CallR X (.builtin "sum") (fun vs H Q => ∃ (p d : Addr) (ws : Ws), vs = [V.ref p] ∧ H p = some (.ext (isView p d)) ∧ H d = some (.dK (kvsOf ws)) ∧ Q (.int (ws.map (·.2)).sum) H) := by
  intro pins s σ H vs us Q I r h
  obtain ⟨p, d, ws, rfl, hp, hd, q⟩ := h
  rw [Vals.ref1 r]
  obtain ⟨view, _⟩ : isView p d s.heap ∧ _ := I.hok p _ hp
  obtain ⟨_, hs, vs, kv, hm⟩ := dk_of I.hok hd
  obtain ⟨o, es, ep, ho, hx, hdat, _, hps, _⟩ := id hm
  have raw : s.heap.DictRaw d es ep := ⟨o, ho, hx, hdat⟩
  have ltd : d < s.heap.objs.size := Heap.lt_size ho
  have item : ∀ {es : List DictEntry} {vs : List (Key × Value)} {ws : Ws} {i : Nat} {e : DictEntry}, Pairs (mixKind X.prog X.w) es vs → KV (kvsOf ws) vs → es[i]? = some e → ∃ t, e.val = .int (ws.getD i ("", 0)).2 t := by
    intro es vs ws i e hps kv he
    induction hps generalizing ws i with
    | nil => simp at he
    | cons h1 h2 h3 ih =>
      cases ws with
      | nil => cases kv
      | cons w0 ws0 =>
        cases kv with
        | cons r rr =>
          cases i with
          | zero =>
            simp at he
            subst he
            obtain ⟨_, t, r2⟩ := r
            exact ⟨t, by rw [h2, r2]; rfl⟩
          | succ i =>
            obtain ⟨t, ht⟩ := ih rr (by simpa using he)
            exact ⟨t, by rw [ht]; simp [List.getD]⟩
  have len : ∀ {es : List DictEntry} {vs : List (Key × Value)}, Pairs (mixKind X.prog X.w) es vs → es.length = vs.length := by
    intro es vs h
    induction h with
    | nil => rfl
    | cons _ _ _ ih => simp [ih]
  have esz : es.size = ws.length := by
    rw [← Array.length_toList, len hps, ← KV.length kv, kvsOf_len]
  refine call_sum_walkG (wpAny_pyIter_values_raw view raw ?_)
  refine ⟨_, _, _, _, _, _, fun i => (ws.getD i ("", 0)).2, rfl, Walks.rawValues (A := X.A.in1) (I.ok.hd hc) _ d (Nat.ne_of_lt ltd) es ep, ⟨⟨_, Heap.get?_push_size _ rfl, rfl, rfl⟩, raw.at fun o e => Heap.get?_push_of_some _ e⟩, (fun b hb => ?_), (fun i v hv => ?_), fun h' tk t' hk => ?_⟩
  · show b < (s.heap.push _).objs.size
    rw [Heap.size_push]
    simp only [List.mem_cons, List.not_mem_nil, or_false] at hb
    rcases hb with rfl | rfl
    · exact Nat.lt_succ_self _
    · exact Nat.lt_succ_of_lt ltd
  · obtain ⟨hi, rfl⟩ := hv
    exact item hps kv (by rw [Array.getElem?_toList, Array.getElem?_eq_getElem hi])
  · have e : preSum (fun i => (ws.getD i ("", 0)).2) es.size = (ws.map (·.2)).sum := by rw [esz, preSum_ws ws ws.length (Nat.le_refl _), List.take_length]
    rw [e]
    exact ⟨.int _, H, I.kept (t' := tk) (kept1 hk), ⟨_, rfl⟩, q⟩
end
end LB
set_option Elab.async false
set_option linter.all false
set_option maxRecDepth 100000
namespace LB
open PySem PySem.Spec PyProof.Rows L2
/-! ### dicts whose keys are (whole number, tuple of whole numbers) -/
abbrev Node := Int × List Int
def nkey (n : Node) : NestedKey := .tup [.num n.1, .tup (n.2.map .num)]
def NodeAt (H : Hp) (v : V) (n : Node) : Prop := ∃ t u, v = .ref t ∧ H t = some (.tup [.int n.1, .ref u]) ∧ H u = some (.tup (n.2.map V.int))
theorem NodeAt.mono {H H' : Hp} {v : V} {n : Node} (e : Same H H') (h : NodeAt H v n) : NodeAt H' v n := by
  obtain ⟨t, u, ev, h1, h2⟩ := h
  exact ⟨t, u, ev, e _ _ h1, e _ _ h2⟩
theorem nums_inj : ∀ {a b : List Int}, a.map NestedKey.num = b.map NestedKey.num → a = b
  | [], [], _ => rfl
  | [], _ :: _, h => by cases h
  | _ :: _, [], h => by cases h
  | x :: a, y :: b, h => by
    rw [List.map_cons, List.map_cons] at h
    injection h with h1 h2
    injection h1 with h1
    rw [h1, nums_inj h2]
theorem nkey_inj {m n : Node} (h : nkey m = nkey n) : m = n := by
  unfold nkey at h
  injection h with h
  injection h with h1 h2
  injection h1 with h1
  injection h2 with h2 _
  injection h2 with h2
  exact Prod.ext h1 (nums_inj h2)
theorem depth_nums : ∀ l : List Int, NestedKey.depthAll (l.map NestedKey.num) = 0
  | [] => rfl
  | x :: l => by
    show max (NestedKey.depth (.num x)) (NestedKey.depthAll (l.map NestedKey.num)) = 0
    rw [depth_nums l]
    rfl
theorem nkey_depth (n : Node) : (nkey n).depth ≤ 8 := by
  show max 0 (max (NestedKey.depthAll (n.2.map NestedKey.num) + 1) 0) + 1 ≤ 8
  rw [depth_nums]
  decide
theorem nested_nums {h : Heap} : ∀ {ns : List Int} {us : List Value}, Vals (ns.map V.int) us → NestedAll h (ns.map NestedKey.num) us
  | [], _, r => by
    cases r
    exact .nil
  | n :: ns, _, r => by
    cases r with
    | cons r rr =>
      obtain ⟨t, rfl⟩ := r
      exact .cons (.int _ _) (nested_nums rr)
section
variable {P : Program} {w : World} {H H' : Hp} {h : Heap}
theorem node_is {t : Addr} {n : Node} (ok : HOk P w H h) (x : NodeAt H (.ref t) n) : (nestedKind P w).is h (nkey n) t := by
  obtain ⟨t', u, e, h1, h2⟩ := x
  cases e
  obtain ⟨_, its, rv, o1, e1, c1, n1, d1⟩ := ok _ _ h1
  obtain ⟨_, its2, rv2, o2, e2, c2, n2, d2⟩ := ok _ _ h2
  refine ⟨?_, nkey_depth n⟩
  refine .tup e1 c1 d1 ?_
  cases rv with
  | cons r0 rv =>
    cases rv with
    | cons r1 rv =>
      cases rv
      obtain ⟨t0, rfl⟩ := r0
      cases r1
      exact .cons (.int _ _) (.cons (.tup e2 c2 d2 (nested_nums (by simpa using rv2))) .nil)
/-- the dict's own object, its keys' tuples by their addresses -/
def ndphi (P : Program) (w : World) (a : Addr) (xs : List (NestedKey × Addr × Value)) : Heap → Prop := fun h => ∃ o es ep, h.get? a = some o ∧ o.ExactDict ∧ o.data = .dict es ep ∧ es.toList = xs.map (entryOfKey (nestedKind P w))
def NDRel (H : Hp) (p : Node × V) (q : NestedKey × Addr × Value) : Prop := q.1 = nkey p.1 ∧ NodeAt H (.ref q.2.1) p.1 ∧ RelV p.2 q.2.2
def NDAt (P : Program) (w : World) (H : Hp) (a : Addr) (kvs : List (Node × V)) : Prop :=
  ∃ xs, H a = some (.ext (ndphi P w a xs)) ∧ (a == sysModules) = false ∧ Paired (NDRel H) kvs xs ∧ (kvs.map (·.1)).Nodup
theorem NDAt.mono {a : Addr} {kvs : List (Node × V)} (e : Same H H') (x : NDAt P w H a kvs) : NDAt P w H' a kvs := by
  obtain ⟨xs, h1, h2, h3, h4⟩ := x
  exact ⟨xs, e _ _ h1, h2, paired_mono h3 fun _ _ q => ⟨q.1, q.2.1.mono e, q.2.2⟩, h4⟩
def ndGet : List (Node × V) → Node → Option V
  | [], _ => none
  | p :: r, n => if p.1 = n then some p.2 else ndGet r n
theorem nd_keys {kvs : List (Node × V)} {xs : List (NestedKey × Addr × Value)} (h : Paired (NDRel H) kvs xs) : xs.map (·.1) = kvs.map fun p => nkey p.1 := by
  induction h with
  | nil => rfl
  | cons r _ ih => rw [List.map_cons, List.map_cons, ih, r.1]
theorem nd_nodup : ∀ {l : List Node}, l.Nodup → (l.map nkey).Nodup
  | [], _ => List.nodup_nil
  | n :: l, h => by
    obtain ⟨h1, h2⟩ := List.nodup_cons.mp h
    rw [List.map_cons]
    refine List.nodup_cons.mpr ⟨fun m => ?_, nd_nodup h2⟩
    obtain ⟨k, hk, e⟩ := List.mem_map.mp m
    exact h1 (nkey_inj e ▸ hk)
theorem NDAt.dict {a : Addr} {kvs : List (Node × V)} (ok : HOk P w H h) (x : NDAt P w H a kvs) : ∃ xs, H a = some (.ext (ndphi P w a xs)) ∧ h.DictOfH (nestedKind P w) a xs ∧ (a == sysModules) = false ∧ Paired (NDRel H) kvs xs := by
  obtain ⟨xs, h1, h2, h3, h4⟩ := x
  obtain ⟨⟨o, es, ep, e1, e2, e3, e4⟩, _⟩ : ndphi P w a xs h ∧ _ := ok _ _ h1
  refine ⟨xs, h1, ⟨o, es, ep, e1, e2, e3, e4, fun q hq => ?_, ?_⟩, h2, h3⟩
  · obtain ⟨i, hi⟩ := List.mem_iff_getElem?.mp hq
    obtain ⟨p, _, r⟩ := paired_get' h3 hi
    rw [r.1]
    exact node_is ok r.2.1
  · rw [nd_keys h3, show (kvs.map fun p => nkey p.1) = (kvs.map (·.1)).map nkey by rw [List.map_map]; rfl]
    exact nd_nodup h4
theorem nd_at {kvs : List (Node × V)} {xs : List (NestedKey × Addr × Value)} (h : Paired (NDRel H) kvs xs) (n : Node) : RelO (ndGet kvs n) ((atKey xs (nkey n)).map (·.2)) := by
  induction h with
  | nil => trivial
  | @cons p q ps qs r _ ih =>
    unfold ndGet
    by_cases e : p.1 = n
    · rw [if_pos e]
      have e2 : q.1 = nkey n := by rw [r.1, e]
      have e3 : atKey (q :: qs) (nkey n) = some q.2 := by simp [atKey, e2]
      rw [e3]
      exact r.2.2
    · rw [if_neg e]
      have e2 : ¬ q.1 = nkey n := fun z => e (nkey_inj (r.1.symm.trans z))
      have e3 : atKey (q :: qs) (nkey n) = atKey qs (nkey n) := by simp [atKey, e2]
      rw [e3]
      exact ih
theorem ndGet_none {kvs : List (Node × V)} {n : Node} (h : ndGet kvs n = none) : n ∉ kvs.map (·.1) := by
  induction kvs with
  | nil => simp
  | cons p r ih =>
    unfold ndGet at h
    by_cases e : p.1 = n
    · rw [if_pos e] at h
      cases h
    · rw [if_neg e] at h
      intro m
      rw [List.map_cons] at m
      rcases List.mem_cons.mp m with z | z
      · exact e z.symm
      · exact ih h z
theorem ndGet_snoc {kvs : List (Node × V)} {n m : Node} {v : V} (h : ndGet kvs n = none) : ndGet (kvs ++ [(n, v)]) m = if n = m then some v else ndGet kvs m := by
  induction kvs with
  | nil => rfl
  | cons p r ih =>
    unfold ndGet at h
    by_cases e : p.1 = n
    · rw [if_pos e] at h
      cases h
    · rw [if_neg e] at h
      show (if p.1 = m then some p.2 else ndGet (r ++ [(n, v)]) m) = _
      by_cases e2 : p.1 = m
      · have ne : ¬ n = m := fun z => e (e2.trans z.symm)
        rw [if_pos e2, if_neg ne]
        unfold ndGet
        rw [if_pos e2]
      · rw [if_neg e2, ih h]
        by_cases e3 : n = m
        · rw [if_pos e3, if_pos e3]
        · rw [if_neg e3, if_neg e3]
          conv => rhs; unfold ndGet
          rw [if_neg e2]
end
section
variable {X : Cx} {pins : List (Addr × Obj)} {σ : L2.St} {H : Hp} {s : Shared}
theorem nd_room (hu : X.A.units + 64 < cLine) : (nestedKind X.prog X.w).room X.A.in1 := by
  show X.A.units + 1 + 8 < cLine
  omega
/-- n not in d -/
theorem op_notInND (hu : X.A.units + 64 < cLine) : OpR X (compareOp .NotIn) (fun x y H Q => ∃ a n kvs, y = .ref a ∧ NodeAt H x n ∧ NDAt X.prog X.w H a kvs ∧ Q (.bl (!(ndGet kvs n).isSome)) H) := by
  intro pins s σ H x y v u Q I rx ry h
  obtain ⟨a, n, kvs, rfl, hn, hd, q⟩ := h
  obtain ⟨t, u2, rfl, _⟩ := id hn
  cases rx
  cases ry
  obtain ⟨xs, _, dd, hs, hp⟩ := hd.dict I.hok
  show wpAny _ _ ((do return Value.bool (!(← contains (.ref a) (.ref t)))) : Sem Value) _ _ s
  refine wpAny_bind (wpAny_contains_heap (nd_room hu) (node_is I.hok hn) hs dd (wpAny_pure ?_))
  have r := nd_at hp n
  have e : (atKey xs (nkey n)).isSome = (ndGet kvs n).isSome := by
    cases e1 : ndGet kvs n with
    | none =>
      cases e2 : atKey xs (nkey n) with
      | none => rfl
      | some z => rw [e1, e2] at r; exact r.elim
    | some z =>
      cases e2 : atKey xs (nkey n) with
      | none => rw [e1, e2] at r; exact r.elim
      | some z => rfl
  rw [e]
  exact ⟨.bl _, H, I.tok _, rfl, q⟩
/-- d[n], there -/
def tNGet (P : Program) (w : World) (td ty : TE) : TE := fun σ H Q => td σ H fun x H1 => ty σ H1 fun y H2 => ∃ a n kvs v, x = .ref a ∧ NodeAt H2 y n ∧ NDAt P w H2 a kvs ∧ ndGet kvs n = some v ∧ Q v H2
theorem nd_some {kvs : List (Node × V)} {xs : List (NestedKey × Addr × Value)} {n : Node} {v : V} (hp : Paired (NDRel H) kvs xs) (hv : ndGet kvs n = some v) : ∃ p, atKey xs (nkey n) = some p ∧ RelV v p.2 := by
  have r := nd_at hp n
  rw [hv] at r
  cases e : atKey xs (nkey n) with
  | none => rw [e] at r; exact r.elim
  | some p => rw [e] at r; exact ⟨p, rfl, r⟩
theorem pe_ndget {o i : Expr} {pos : Pos} {td ty : TE} (hu : X.A.units + 64 < cLine) (ho : PE X o td) (hi : PE X i ty) (hs : NoSl i) : PE X (.Subscript o i pos) (tNGet X.prog X.w td ty) := by
  refine ⟨fun pins s σ H Q I h => ?_⟩
  refine subD_of PySem.F.slot_dict_getitem.lookup hs (thn (ho.run pins s σ H _ I h) fun u s1 ⟨x, H1, I1, rx, q1⟩ => thn (hi.run pins s1 σ H1 _ I1 q1) fun iv s2 ⟨y, H2, I2, ry, a, n, kvs, v, ex, hn, hd, hv, q2⟩ => ?_)
  subst ex
  obtain rfl : u = Value.ref a := rx
  obtain ⟨t, u2, rfl, _⟩ := id hn
  cases ry
  obtain ⟨xs, _, dd, hs, hp⟩ := hd.dict I2.hok
  obtain ⟨p, e, r⟩ := nd_some hp hv
  exact ⟨dd.typeIs, wpAny_getItem_heap (nd_room hu) (node_is I2.hok hn) dd e ⟨v, H2, I2.tok _, r, q2⟩⟩
/-- d.get(n) -/
def tNGet1 (P : Program) (w : World) (td ty : TE) : TE := fun σ H Q => td σ H fun x H1 => ∃ a kv0, x = .ref a ∧ NDAt P w H1 a kv0 ∧ ty σ H1 fun y H2 => ∃ n kvs, NodeAt H2 y n ∧ NDAt P w H2 a kvs ∧ Q ((ndGet kvs n).getD .non) H2
theorem pe_ndget1 {o e : Expr} {apos cpos : Pos} {td ty : TE} (hu : X.A.units + 64 < cLine) (ho : PE X o td) (he : PE X e ty) (m : M1 X o "get" apos e cpos) : PE X (.Call (.Attribute o "get" apos) [e] [] cpos) (tNGet1 X.prog X.w td ty) := by
  refine ⟨fun pins s σ H Q I h => ?_⟩
  refine wpAny_Call_method m.base m.few m.line PySem.F.plainAttrs_dict PySem.F.slot_dict_get PySem.F.type_dict_get (thn (ho.run pins s σ H _ I h) fun u s1 ⟨x, H1, I1, rx, a, kv0, ex, d, q1⟩ => ?_)
  subst ex
  obtain rfl : u = Value.ref a := rx
  obtain ⟨xs0, _, dd0, hs0, _⟩ := d.dict I1.hok
  obtain ⟨o0, es0, ep0, ho0, hc0, _⟩ := id dd0
  refine ⟨dd0.typeIs, fun b q => ?_, ?_⟩
  · cases q
    exact ⟨o0, ho0, hc0.2.1⟩
  rw [m.trees]
  refine wpAny_dict_get1_heap (knd := nestedKind X.prog X.w) (nd_room hu) hs0 (thn (he.run pins s1 σ H1 _ I1 q1) fun iv s2 ⟨y, H2, I2, ry, n, kvs, hn, hd, q2⟩ => ?_)
  obtain ⟨t, u2, rfl, _⟩ := id hn
  cases ry
  obtain ⟨xs, _, dd, hs, hp⟩ := hd.dict I2.hok
  refine ⟨t, nkey n, xs, rfl, node_is I2.hok hn, dd, ?_⟩
  have r := nd_at hp n
  cases e1 : ndGet kvs n with
  | none =>
    rw [e1] at q2 r
    cases e2 : (atKey xs (nkey n)).map (·.2) with
    | none => exact ⟨.non, H2, I2.tok _, rfl, q2⟩
    | some z => rw [e2] at r; exact r.elim
  | some v =>
    rw [e1] at q2 r
    cases e2 : (atKey xs (nkey n)).map (·.2) with
    | none => rw [e2] at r; exact r.elim
    | some z =>
      rw [e2] at r
      exact ⟨v, H2, I2.tok _, r, q2⟩
/-- d[n] = v, n not there yet -/
theorem set_nd (hu : X.A.units + 64 < cLine) : PSet X (fun o i v H Q => ∃ a n kvs, o = .ref a ∧ NodeAt H i n ∧ NDAt X.prog X.w H a kvs ∧ ndGet kvs n = none ∧ kvs.length < sizeLine ∧
    ∀ H', (∀ b, b ≠ a → H' b = H b) → NDAt X.prog X.w H' a (kvs ++ [(n, v)]) → Q H') := by
  intro pins s σ H o i v ov iv u Q I ro ri rv h
  obtain ⟨a, n, kvs, rfl, hn, hd, hv, hz, q⟩ := h
  obtain ⟨t, u2, rfl, hn1, hn2⟩ := id hn
  cases ro
  cases ri
  obtain ⟨xs, ha, dd, hs, hp⟩ := hd.dict I.hok
  obtain ⟨_, _, _, _, nd⟩ := id hd
  have none : atKey xs (nkey n) = none := by
    have r := nd_at hp n
    rw [hv] at r
    cases e2 : atKey xs (nkey n) with
    | none => rfl
    | some z => rw [e2] at r; exact r.elim
  have hz2 : xs.length ≤ sizeLine := by
    rw [← paired_len hp]
    exact Nat.le_of_lt hz
  refine wpAny_setItem_heap (hsz := hz2) (nd_room hu) (node_is I.hok hn) dd fun h' hd' hs' => ?_
  rw [storedH_new none] at hd'
  obtain ⟨o', es', ep', e1, e2, e3, e4, _⟩ := id hd'
  have tne : ∀ b xs, H b = some (.tup xs) → b ≠ a := fun b xs e z => by rw [z, ha] at e; cases e
  have nodes : ∀ {b : Addr} {m : Node} {o : HO}, NodeAt H (.ref b) m → NodeAt (upd H a o) (.ref b) m := fun {b m o} ⟨t', u', e, g1, g2⟩ => ⟨t', u', e, by rw [upd_ne (tne _ _ g1)]; exact g1, by rw [upd_ne (tne _ _ g2)]; exact g2⟩
  have I2 : Inv X pins σ (upd H a (.ext (ndphi X.prog X.w a (xs ++ [(nkey n, t, u)])))) { s with heap := h', toks := s.toks + (nestedKind X.prog X.w).draws (nkey n) } :=
    I.write (by rw [ha]; trivial) (.inl rfl) (fun b o hb e => (hs'.2 b hb).trans e) ⟨_, e1⟩ ⟨⟨o', es', ep', e1, e2, e3, e4⟩, ⟨_, e1⟩, fun h1 h2 ⟨o, es, ep, g1, g2, g3, g4⟩ k => ⟨o, es, ep, k o g1, g2, g3, g4⟩⟩
  refine ⟨_, I2, q _ (fun b hb => upd_ne hb) ⟨_, upd_same, hs, ?_, ?_⟩⟩
  · exact paired_snoc ⟨rfl, nodes hn, rv⟩ (paired_mono hp fun p r z => ⟨z.1, nodes z.2.1, z.2.2⟩)
  · rw [List.map_append]
    exact nd_snoc nd (ndGet_none hv)
/-- {n: v} -/
def tDispN (P : Program) (w : World) (tk tv : TE) : TE := fun σ H Q => ∀ p, H p = none → tk σ (upd H p (.dK [])) fun x H1 => tv σ H1 fun y H2 => H2 p = some (.dK []) ∧ ∃ n, NodeAt H2 x n ∧
  ∀ H3, (∀ b, b ≠ p → H3 b = H2 b) → NDAt P w H3 p [(n, y)] → Q (.ref p) H3
theorem pe_dispN {k v : Expr} {pos : Pos} {tk tv : TE} (hu : X.A.units + 64 < cLine) (hk : PE X k tk) (hv : PE X v tv) : PE X (.Dict [some k] [v] pos) (tDispN X.prog X.w tk tv) := by
  refine ⟨fun pins s σ H Q I q => ?_⟩
  have hn := I.hok.fresh (Nat.le_refl s.heap.objs.size)
  have I1 := I.laid (a := s.heap.objs.size) (o := .dK []) (h' := s.heap.push { cls := .type "dict", data := .dict #[] }) (t' := s.toks) (fun _ _ q => Heap.get?_push_of_some _ q) (Nat.le_refl _) (dk_empty s.heap I.big)
  have shape := zip_pairTrees [some k] [v] X.env pos rfl rfl
  rw [arm_eval_Dict, shape, dictDisplay_pairs _ (by simp [pairTrees]) (by simp [pairTrees])]
  refine wpAny_bind (wpAny_standAt (wpAny_bind (wpAny_subDictH (knd := nestedKind X.prog X.w) (Q := fun d s' => wpAny (model X.prog X.w) X.A (pure (Value.ref d)) (EP X pins σ Q) X.xe s') (by show X.A.units + 8 < cLine; omega) (by simp [pairTrees]) ?_)))
  refine pairTrees_cons_walk (thn (hk.run pins _ σ _ _ I1 (q _ hn)) fun u s1 ⟨x, H1, I2, rx, q1⟩ => thn (hv.run pins s1 σ H1 _ I2 q1) fun u2 s2 ⟨y, H2, I3, ry, q2⟩ => pairTrees_nil_walk ?_)
  obtain ⟨hp, n, hnode, q2⟩ := q2
  obtain ⟨t, t2, rfl, hn1, hn2⟩ := id hnode
  cases rx
  obtain ⟨_, hs, vs0, r0, dd⟩ := dk_of I3.hok hp
  cases r0
  obtain ⟨o0, es0, ep0, ho0, hc0, hd0, _, hps, _⟩ := dd
  have es0n : es0.toList = [] := by
    cases e : es0.toList with
    | nil => rfl
    | cons a b => rw [e] at hps; cases hps
  refine ⟨[(nkey n, t, u2)], ⟨rfl, rfl, node_is I3.hok hnode, trivial⟩, ⟨o0, es0, ep0, ho0, hc0, hd0, by rw [es0n]; rfl, (fun x hx => by cases hx), List.nodup_nil⟩, fun h' tk hd' hs' => wpAny_pure ?_⟩
  have hst : storedAllH [] [(nkey n, t, u2)] = [(nkey n, t, u2)] := rfl
  rw [hst] at hd'
  obtain ⟨o', es', ep', e1, e2, e3, e4, _⟩ := id hd'
  have tne : ∀ b xs, H2 b = some (.tup xs) → b ≠ s.heap.objs.size := fun b xs e z => by rw [z, hp] at e; cases e
  have I4 : Inv X pins σ (upd H2 s.heap.objs.size (.ext (ndphi X.prog X.w s.heap.objs.size [(nkey n, t, u2)]))) { s2 with heap := h', toks := tk } :=
    I3.write (by rw [hp]; trivial) (.inl rfl) (fun b o hb e => (hs'.2 b hb).trans e) ⟨_, e1⟩ ⟨⟨o', es', ep', e1, e2, e3, e4⟩, ⟨_, e1⟩, fun h1 h2 ⟨o, es, ep, g1, g2, g3, g4⟩ k => ⟨o, es, ep, k o g1, g2, g3, g4⟩⟩
  refine ⟨.ref s.heap.objs.size, _, I4, rfl, q2 _ (fun b hb => upd_ne hb) ⟨_, upd_same, hs, .cons ⟨rfl, ⟨t, t2, rfl, ?_, ?_⟩, ry⟩ .nil, by simp⟩⟩
  · rw [upd_ne (tne _ _ hn1)]
    exact hn1
  · rw [upd_ne (tne _ _ hn2)]
    exact hn2
end
end LB
set_option Elab.async false
set_option linter.all false
set_option maxRecDepth 100000
namespace LB
open PySem PySem.Spec PyProof.Rows L2
/-! ### repr of None, of a list of small whole numbers, of a dict from texts to small whole numbers, where no repr is under way -/
def dInts (ns : List Int) : PyData := .list (ns.map .int)
def dWs (ws : Ws) : PyData := .dict (ws.map fun p => (.str p.1, .int p.2))
/-- small enough for a text -/
def SmallI (n : Int) : Prop := n.natAbs < 10 ^ 12
theorem smallI_show {n : Int} (h : SmallI n) : PyData.showable (.int n) = true := by
  have h : n.natAbs < 10 ^ 12 := h
  unfold PyData.showable
  have h2 : n.natAbs.log2 < 1920 := by
    by_cases h0 : n.natAbs = 0
    · rw [h0]
      decide
    · have h3 : n.natAbs.log2 < 40 := (Nat.log2_lt h0).mpr (Nat.lt_of_lt_of_le h (by decide))
      omega
  exact decide_eq_true h2
theorem smallI_short {n : Int} (h : SmallI n) : PyData.leavesShort 13 (.int n) = true := by
  unfold PyData.leavesShort
  exact decide_eq_true (PyData.shown_int_le h)
theorem ints_show : ∀ {ns : List Int}, (∀ n ∈ ns, SmallI n) → PyData.showableAll (ns.map .int) = true ∧ PyData.leavesShortAll 13 (ns.map .int) = true
  | [], _ => ⟨rfl, rfl⟩
  | n :: ns, h => by
    obtain ⟨h1, h2⟩ := ints_show (ns := ns) fun m hm => h m (List.mem_cons_of_mem _ hm)
    have h3 := h n List.mem_cons_self
    rw [List.map_cons]
    constructor
    · show (PyData.showable (.int n) && PyData.showableAll (ns.map .int)) = true
      rw [smallI_show h3, h1]
      rfl
    · show (PyData.leavesShort 13 (.int n) && PyData.leavesShortAll 13 (ns.map .int)) = true
      rw [smallI_short h3, h2]
      rfl
theorem smallI_weight {n : Int} (h : SmallI n) : PyData.weight (.int n) ≤ 40 := by
  have h : n.natAbs < 10 ^ 12 := h
  have e : PyData.weight (.int n) = if n == 0 then 0 else n.natAbs.log2 + 1 := by simp [PyData.weight]
  rw [e]
  split
  · exact Nat.zero_le _
  · rename_i h1
    have h0 : n.natAbs ≠ 0 := fun z => h1 (by rw [Int.natAbs_eq_zero.mp z]; rfl)
    have h2 : n.natAbs.log2 < 40 := (Nat.log2_lt h0).mpr (Nat.lt_of_lt_of_le h (by decide))
    omega
theorem ints_weight : ∀ {ns : List Int}, (∀ n ∈ ns, SmallI n) → PyData.weightAll (ns.map .int) ≤ 41 * ns.length
  | [], _ => Nat.le_refl _
  | n :: ns, h => by
    rw [List.map_cons, List.length_cons]
    have e : PyData.weightAll (PyData.int n :: ns.map .int) = PyData.weight (.int n) + 1 + PyData.weightAll (ns.map .int) := by simp [PyData.weightAll]
    rw [e]
    have h1 := ints_weight (ns := ns) fun m hm => h m (List.mem_cons_of_mem _ hm)
    have h2 := smallI_weight (h n List.mem_cons_self)
    omega
theorem listW (ds : List PyData) : PyData.weight (.list ds) = PyData.weightAll ds := by simp [PyData.weight]
theorem dictW (ds : List (PyData × PyData)) : PyData.weight (.dict ds) = PyData.weightKv ds := by simp [PyData.weight]
def ShortT (x : Str) : Prop := (x.cps.toList.all fun c => decide (c < 16 ^ 8)) = true ∧ x.length ≤ 8
theorem ws_show : ∀ {ws : Ws}, (∀ p ∈ ws, ShortT p.1 ∧ SmallI p.2) → PyData.showableKv (ws.map fun p => (.str p.1, .int p.2)) = true ∧ PyData.leavesShortKv 13 (ws.map fun p => (.str p.1, .int p.2)) = true ∧ PyData.weightKv (ws.map fun p => (.str p.1, .int p.2)) ≤ 50 * ws.length
  | [], _ => ⟨rfl, rfl, Nat.le_refl _⟩
  | p :: ws, h => by
    obtain ⟨h1, h2, h4⟩ := ws_show (ws := ws) fun m hm => h m (List.mem_cons_of_mem _ hm)
    obtain ⟨h5, h3⟩ := h p List.mem_cons_self
    rw [List.map_cons]
    refine ⟨?_, ?_, ?_⟩
    · show (PyData.showable (.str p.1) && PyData.showable (.int p.2) && PyData.showableKv _) = true
      rw [smallI_show h3, h1]
      rfl
    · show (PyData.leavesShort 13 (.str p.1) && PyData.leavesShort 13 (.int p.2) && PyData.leavesShortKv 13 _) = true
      rw [smallI_short h3, h2, show PyData.leavesShort 13 (.str p.1) = true from h5.1]
      rfl
    · have e : PyData.weightKv ((PyData.str p.1, PyData.int p.2) :: ws.map fun p => (.str p.1, .int p.2)) = PyData.weight (.str p.1) + PyData.weight (.int p.2) + 2 + PyData.weightKv (ws.map fun p => (.str p.1, .int p.2)) := by simp [PyData.weightKv]
      have w1 : PyData.weight (.str p.1) = p.1.cps.size := by simp [PyData.weight]
      have w2 := smallI_weight h3
      have w3 : p.1.cps.size ≤ 8 := h5.2
      rw [e, List.length_cons, w1]
      omega
section
variable {X : Cx} {pins : List (Addr × Obj)} {σ : L2.St} {H : Hp} {s : Shared}
theorem call_reprN : CallR X (.builtin "repr") (fun xs H Q => xs = [.non] ∧ Q (.str "None") H) := by
  intro pins s σ H xs us Q I r h
  obtain ⟨rfl, q⟩ := h
  cases r with
  | cons r rr =>
    cases rr
    cases r
    exact PySem.P.repr_of_none ⟨.str _, H, I.tok _, ⟨_, rfl⟩, q⟩
theorem readsInts {h : Heap} : ∀ {ns : List Int} {us : List Value}, Vals (ns.map V.int) us → ∃ as, ReadsAll h us (ns.map .int) as ∧ as = []
  | [], _, r => by
    cases r
    exact ⟨_, .nil, rfl⟩
  | n :: ns, _, r => by
    cases r with
    | cons r rr =>
      obtain ⟨t, rfl⟩ := r
      obtain ⟨as, h1, rfl⟩ := readsInts (h := h) rr
      exact ⟨_, .cons (.int n t) h1, rfl⟩
theorem call_reprL (hg : X.A.guards = some []) (hu : X.A.units + 64 < cLine) : CallR X (.builtin "repr") (fun xs H Q => ∃ a ns, xs = [.ref a] ∧ SqL X.K H a (ns.map V.int) ∧ (∀ n ∈ ns, SmallI n) ∧ ns.length ≤ 1000 ∧ Q (.str (dInts ns).shown) H) := by
  intro pins s σ H xs us Q I r h
  obtain ⟨a, ns, rfl, ha, hs, hl, q⟩ := h
  cases r with
  | cons r rr =>
    cases rr
    cases r
    obtain ⟨its, rv, ⟨o, n, e1, e2, e3, e4⟩, _⟩ := I.list ha
    obtain ⟨as, r1, rfl⟩ := readsInts (h := s.heap) rv
    have rd : Reads s.heap (.ref a) (dInts ns) (a :: []) := .list e1 e2 e4 (by simpa using r1)
    obtain ⟨p1, p2⟩ := ints_show hs
    have hd : (dInts ns).depth = 1 := by
      have : ∀ ns : List Int, PyData.depthAll (ns.map .int) = 0 := by
        intro ns
        induction ns with
        | nil => rfl
        | cons n ns ih =>
          rw [List.map_cons]
          show max (PyData.depth (.int n)) (PyData.depthAll (ns.map .int)) = 0
          rw [ih]
          rfl
      show PyData.depthAll (ns.map .int) + 1 = 1
      rw [this]
    have hsz : (dInts ns).shown.length ≤ sizeLine := PyData.shown_fits (B := 13) (by decide) (by decide) (d := dInts ns) p2 (by
      have w := ints_weight hs
      unfold dInts
      rw [listW]
      omega)
    exact repr_of_reads' rd p1 (fun hx => by
      have : ∀ ns : List Int, PyData.hasDictAll (ns.map .int) = false := by
        intro ns
        induction ns with
        | nil => rfl
        | cons n ns ih =>
          rw [List.map_cons]
          show (PyData.hasDict (.int n) || PyData.hasDictAll (ns.map .int)) = false
          rw [ih]
          rfl
      have h2 : PyData.hasDictAll (ns.map .int) = true := hx
      rw [this] at h2
      cases h2) hg (by rw [hd]; omega) (fun _ _ e => e) (fun h' u tk hk => ⟨.str _, H, I.kept hk, ⟨_, rfl⟩, q⟩) hsz
theorem reads_ws {P : Program} {w : World} {h : Heap} : ∀ {ws : Ws} {es : List DictEntry} {vs : List (Key × Value)}, Pairs (mixKind P w) es vs → KV (kvsOf ws) vs →
    ReadsAll h (es.map (·.key)) (ws.map fun p => PyData.str p.1) [] ∧ ReadsAll h (es.map (·.val)) (ws.map fun p => PyData.int p.2) []
  | [], _, _, hp, kv => by
    cases kv
    cases hp
    exact ⟨.nil, .nil⟩
  | p :: ws, _, _, hp, kv => by
    cases kv with
    | cons r rr =>
      cases hp with
      | cons h1 h2 h3 =>
        obtain ⟨i1, i2⟩ := reads_ws (ws := ws) h3 rr
        obtain ⟨r1, t, r2⟩ := r
        rw [← r1] at h1
        rename_i e0 _ _
        have h1 : keyIs (Sum.inr p.1) e0.key = true := h1
        obtain ⟨t2, e2⟩ : ∃ t2, e0.key = Value.str p.1 t2 := by
          rcases keyIs_shape h1 with ⟨i, t, e, _⟩ | ⟨x, t, e, e2⟩
          · cases e
          · have ex : p.1 = x := Sum.inr.inj e
            exact ⟨t, by rw [ex]; exact e2⟩
        constructor
        · rw [List.map_cons, List.map_cons, e2]
          exact .cons (as := []) (.str _ _) i1
        · rw [List.map_cons, List.map_cons, h2, r2]
          exact .cons (as := []) (.int _ _) i2
theorem depth_ws : ∀ ws : Ws, PyData.depthKv (ws.map fun p => (.str p.1, .int p.2)) = 0
  | [] => rfl
  | p :: ws => by
    rw [List.map_cons]
    have e : PyData.depthKv ((PyData.str p.1, PyData.int p.2) :: ws.map fun p => (.str p.1, .int p.2)) = max (max (PyData.depth (.str p.1)) (PyData.depth (.int p.2))) (PyData.depthKv (ws.map fun p => (.str p.1, .int p.2))) := by simp [PyData.depthKv]
    rw [e, depth_ws ws]
    simp [PyData.depth]
theorem call_reprD (hg : X.A.guards = some []) (hu : X.A.units + 64 < cLine) : CallR X (.builtin "repr") (fun xs H Q => ∃ a ws, xs = [.ref a] ∧ H a = some (.dK (kvsOf ws)) ∧ (∀ p ∈ ws, ShortT p.1 ∧ SmallI p.2) ∧ ws.length ≤ 1000 ∧ Q (.str (dWs ws).shown) H) := by
  intro pins s σ H xs us Q I r h
  obtain ⟨a, ws, rfl, ha, hs, hl, q⟩ := h
  cases r with
  | cons r rr =>
    cases rr
    cases r
    obtain ⟨_, hsm, vs, kv, o, es, ep, e1, e2, e3, _, hp, _⟩ := dk_of I.hok ha
    obtain ⟨r1, r2⟩ := reads_ws (h := s.heap) hp kv
    have rd : Reads s.heap (.ref a) (dWs ws) (a :: [] ++ []) := .dict e1 e2.1 e3 (by rw [List.map_map]; exact r1) (by rw [List.map_map]; exact r2)
    obtain ⟨p1, p2, p3⟩ := ws_show hs
    have hd : (dWs ws).depth = 1 := by
      have e : PyData.depth (.dict (ws.map fun p => (.str p.1, .int p.2))) = PyData.depthKv (ws.map fun p => (.str p.1, .int p.2)) + 1 := by simp [PyData.depth]
      unfold dWs
      rw [e, depth_ws]
    have hsz : (dWs ws).shown.length ≤ sizeLine := PyData.shown_fits (B := 13) (by decide) (by decide) (d := dWs ws) p2 (by
      unfold dWs
      rw [dictW]
      omega)
    refine repr_of_reads' rd p1 (fun _ hm => ?_) hg (by rw [hd]; omega) (fun _ _ e => e) (fun h' u tk hk => ⟨.str _, H, I.kept hk, ⟨_, rfl⟩, q⟩) hsz
    rw [List.append_nil, List.mem_singleton] at hm
    rw [hm] at hsm
    simp at hsm
end
end LB
set_option Elab.async false
set_option linter.all false
set_option maxRecDepth 100000
namespace LB
open PySem PySem.Spec PyProof.Rows L2
/-! ### enumerate(t) of a tuple; zip(xs, t) of a list and a tuple -/
set_option maxHeartbeats 1000000 in
theorem meets_enum1 {v : Value} {o : Obj} {H : Heap → Prop} (B : Begins v o H) : Meets (Builtin.«enumerate.__new__» ⟨[.type "enumerate", v], []⟩) (fun _ R s => H s.heap ∧
      R (.ok (.ret (.ref (s.heap.push o).objs.size))) { s with heap := (s.heap.push o).push { cls := .type "enumerate", data := .fields #[.none, .bool false, .ref s.heap.objs.size, rawInt 0, .none, .none] } }) := by
  refine .of_wp fun prog w A R s h => ?_
  obtain ⟨hp, g, d, tk, os⟩ := s
  obtain ⟨h1, h⟩ := h
  have hsub := sub_enumerate
  have go : ∀ {A' : Around} {E : Value → Shared → Prop} {Q : Value → Shared → Prop}, Q (.ref hp.objs.size) ⟨hp.push o, g, d, tk, os⟩ → wpAny (model prog w) A' (pyIter v) Q E ⟨hp, g, d, tk, os⟩ := fun q => B.iter _ _ _ _ _ _ h1 q
  wp_walk
  refine wpAny_stack_any fun st => wpAny_pure ?_
  split
  · rename_i c _ _ _ _ _
    cases (c == Value.type "enumerate")
    all_goals
      wp_walk using go
      exact ⟨_, rfl, h⟩
  · wp_walk using go
    exact ⟨_, rfl, h⟩
section
variable {prog : Program} {w : World} {A : Around} {E : Value → Shared → Prop} {s : Shared}
theorem enum_begins1 {v : Value} {o : Obj} {H : Heap → Prop} {Q : Value → Shared → Prop} (B : Begins v o H) (h1 : H s.heap)
    (h : ∀ h', IsEnum h' (s.heap.objs.size + 1) s.heap.objs.size 0 .none → h'.get? s.heap.objs.size = some o → (∀ b u, s.heap.get? b = some u → h'.get? b = some u) → Q (.ref (s.heap.objs.size + 1)) { s with heap := h' }) :
    wpAny (model prog w) A (call (.type "enumerate") [v]) Q E s := by
  refine callType_new F.called_enumerate (by decide) (F.typeCall_enumerate_1 _) (F.newCall_enumerate_1 _) (fun obj => F.args_object_init_2 obj _) F.entry_enumerate_new (meets_enum1 B) ⟨h1, ?_⟩
  have z : (s.heap.push o).objs.size = s.heap.objs.size + 1 := by rw [Heap.size_push]
  have top := Heap.get?_push_size (s.heap.push o) (o := { cls := .type "enumerate", data := .fields #[.none, .bool false, .ref s.heap.objs.size, rawInt 0, .none, .none] }) rfl
  show _ ∧ _
  rw [z] at top ⊢
  exact ⟨⟨_, top, rfl⟩, h _ top (Heap.get?_push_of_some _ (Heap.get?_push_size _ B.free)) fun b u x => Heap.get?_push_of_some _ (Heap.get?_push_of_some _ x)⟩
end
def IteT (K : PySem.W.Frag) (a : Addr) : It :=
  ⟨fun i H => ∃ (xs : List V) (x : V), SqT K H a xs ∧ xs[i]? = some x, fun i H v H' => ∃ T x, v = .ref T ∧ H T = none ∧ H' = upd H T (.tup [.int (i : Nat), x]) ∧ ∀ xs, SqT K H a xs → xs[i]? = some x, fun i H => ∃ xs : List V, SqT K H a xs ∧ xs.length = i⟩
theorem in2 {a b c : Addr} (h : c ∈ [a, b]) : c = a ∨ c = b := by simpa using h
theorem turn_enumT {P : Program} {w : World} {K : PySem.W.Frag} {elts : List Expr} {kk : Nat} {tpos : Pos} (a e it : Addr) :
    Turn P w K (.Tuple elts kk tpos) (IteT K a) [e, it] e (fun i h => (∃ old, IsEnum h e it ((i : Nat) : Int) old) ∧ h.IsTupleIter it a i ∧ e ≠ it) where
  mem := List.mem_cons_self
  obj := fun i h ⟨⟨old, he⟩, ⟨o, ho, hc, hd⟩, _⟩ b hb => by
    rcases in2 hb with rfl | rfl
    · exact ⟨_, he, fun v q => nomatch q⟩
    · exact ⟨o, ho, fun v q => by rw [hd] at q; cases q⟩
  keep := fun i h h' ⟨⟨old, he⟩, hi, hne⟩ k => ⟨⟨old, k e (by simp) _ he⟩, hi.at fun o q => k it (by simp) o q, hne⟩
  item := by
    intro X hP hw hK hc i pins s σ H E I hf st hg
    subst hP hw hK
    obtain ⟨⟨old, he⟩, hit, hne⟩ := st
    obtain ⟨xs, x, hq, hx⟩ := hg
    obtain ⟨its, rv, p, hz⟩ := I.tuple hq
    have hel : e < s.heap.objs.size := Heap.lt_size he
    have hil : it < s.heap.objs.size := by
      obtain ⟨_, q, _⟩ := hit
      exact Heap.lt_size q
    have hae : a ≠ e := by
      intro z
      subst z
      obtain ⟨o, ho, hcl, _⟩ := p
      rw [he] at ho
      cases ho
      exact absurd hcl (show ¬ Value.type "enumerate" = Value.type "tuple" by decide)
    have hai : a ≠ it := by
      intro z
      subst z
      obtain ⟨o, ho, hcl, _⟩ := p
      obtain ⟨o2, ho2, hcl2, _⟩ := hit
      rw [ho2] at ho
      cases ho
      rw [hcl2] at hcl
      exact absurd hcl (by decide)
    have hlt : i < its.toArray.size := by
      obtain ⟨u, hu, _⟩ := rv.get hx
      have := (List.getElem?_eq_some_iff.mp hu).1
      simpa using this
    refine wpAny_pyNext_enum_itemD (Draws.tuple (A := X.A.in1) (I.ok.hd hc) it a hai its.toArray) he ⟨hit, p⟩ hlt hne (by simp [hne, Ne.symm hae]) fun u h' tk hu ho st' hT hsz hk => ?_
    refine ⟨_, rfl, wpAny_letOwnedTupleGo_enum (s := { s with heap := h', toks := tk + 1 }) ho fun h'' he' sb => ?_⟩
    have ru : RelV x u := by
      obtain ⟨u2, hu2, ru⟩ := rv.get hx
      have e2 : its.toArray[i]? = some u2 := by simpa using hu2
      rw [e2] at hu
      cases hu
      exact ru
    have hT2 : h''.get? s.heap.objs.size = some { cls := .type "tuple", data := .seq #[.int i tk, u] } := (sb.2 _ (Nat.ne_of_gt hel)).trans hT
    have I1 : Inv X pins σ (upd H s.heap.objs.size (.tup [.int (i : Nat), x])) { s with heap := h'', toks := tk + 1 } :=
      I.turnedNew (ch := [e, it]) (fun b ob hb q => (sb.2 b (fun z => hb (by simp [z]))).trans (hk b ob (fun z => hb (by simp [z])) (fun z => hb (by simp [z])) q)) hf (Nat.le_refl _)
        ⟨by show 2 ≤ sizeLine; decide, [.int i tk, u], .cons ⟨_, rfl⟩ (.cons ru .nil), ⟨_, hT2, rfl, _, rfl⟩⟩
    refine ⟨.ref s.heap.objs.size, _, I1, rfl, ⟨_, x, rfl, I.hok.fresh (Nat.le_refl _), rfl, fun ys hy => by rw [I.tuple_inj hy hq]; exact hx⟩, ⟨⟨u, ?_⟩, st'.1.at fun o q => (sb.2 it (Ne.symm hne)).trans q, hne⟩, fun b hb => ?_⟩
    · rw [show ((i + 1 : Nat) : Int) = (i : Int) + 1 by omega]
      exact he'
    · have lt : b < s.heap.objs.size := by
        rcases in2 hb with rfl | rfl
        · exact hel
        · exact hil
      rw [upd_ne (Nat.ne_of_lt lt)]
      exact (hf b hb).1
  done := by
    intro X hP hw hK hc i pins s σ H E I hf st hg
    subst hP hw hK
    obtain ⟨⟨old, he⟩, hit, hne⟩ := st
    obtain ⟨xs, hq, hx⟩ := hg
    obtain ⟨its, rv, p, hz⟩ := I.tuple hq
    obtain ⟨f0, f1, f2, f3, f4, f5⟩ := hf it (by simp)
    have hai : a ≠ it := by
      intro z
      subst z
      obtain ⟨o, ho, hcl, _⟩ := p
      obtain ⟨o2, ho2, hcl2, _⟩ := hit
      rw [ho2] at ho
      cases ho
      rw [hcl2] at hcl
      exact absurd hcl (by decide)
    have hn : i = its.toArray.size := by
      have hl := rv.length
      simp
      omega
    exact wpAny_pyNext_enum_endD (Draws.tuple (A := X.A.in1) (I.ok.hd hc) it a hai its.toArray) he (by rw [← hn]; exact ⟨hit, p⟩) fun h' eb => ⟨rfl, I.turned (t' := s.toks) (fun b o hb q => eb b o hb q) f0 f1 f3 f4 f5⟩
  self := fun A i s Q E ⟨⟨_, he⟩, _⟩ h => wpAny_pyIter_enum he h
def iEnumT (K : PySem.W.Frag) (ta : TA) : TI := fun σ H R => ta σ H fun vs H1 => ∃ a xs, vs = [.ref a] ∧ SqT K H1 a xs ∧ R (IteT K a) H1
theorem pi_enumT {X : Cx} {e : Expr} {ta : TA} {p pos tpos : Pos} {elts : List Expr} {kk : Nat} (hg : Gl X "enumerate") (hm : X.mg "enumerate" = none) (ha : PA X [e] ta) (hs : starEach [e] X.env = [(false, eval e X.env)] := by rfl) :
    PI X (.Tuple elts kk tpos) (.Call (.Name "enumerate" p) [e] [] pos) (iEnumT X.K ta) := by
  refine ⟨fun pins s σ H R I h => Call_ (ld_blt I hg hm boot_enumerate (PyProof.Rows.callWith_type1 (thn (ha.run pos pins s σ H _ I h) fun us s1 ⟨vs, H1, I1, r1, q1⟩ => ?_) hs rfl))⟩
  obtain ⟨a, xs, rfl, hq, q⟩ := q1
  cases r1 with
  | cons r rr =>
    cases rr
    cases r
    obtain ⟨its, rv, p', hz⟩ := I1.tuple hq
    refine enum_begins1 (begins_tuple a its.toArray) p' fun h' he hit hk => wpAny_pyIter_enum he ?_
    have I2 : Inv X pins σ H1 { s1 with heap := h' } := I1.kept (t' := s1.toks) hk
    refine ⟨s1.heap.objs.size + 1, [s1.heap.objs.size + 1, s1.heap.objs.size], _, _, H1, rfl, I2, turn_enumT a (s1.heap.objs.size + 1) s1.heap.objs.size, ⟨⟨.none, he⟩, ⟨_, hit, rfl, rfl⟩, Nat.succ_ne_self _⟩, fun b hb => ?_, q⟩
    have le : s1.heap.objs.size ≤ b := by
      rcases in2 hb with rfl | rfl
      · exact Nat.le_succ _
      · exact Nat.le_refl _
    exact I1.fpOk le (I1.hok.fresh le)
/-! zip(xs, t) -/
def ItzM (K : PySem.W.Frag) (a b : Addr) : It :=
  ⟨fun i H => ∃ (xs ys : List V) (x y : V), SqL K H a xs ∧ SqT K H b ys ∧ xs[i]? = some x ∧ ys[i]? = some y,
    fun i H v H' => ∃ T x y, v = .ref T ∧ H T = none ∧ H' = upd H T (.tup [x, y]) ∧ (∀ xs, SqL K H a xs → xs[i]? = some x) ∧ ∀ ys, SqT K H b ys → ys[i]? = some y,
    fun i H => ∃ xs ys : List V, SqL K H a xs ∧ SqT K H b ys ∧ xs.length = i ∧ ys.length = i⟩
theorem in5 {a b c d e x : Addr} (h : x ∈ [a, b, c, d, e]) : x = a ∨ x = b ∨ x = c ∨ x = d ∨ x = e := by simpa using h
theorem turn_zipM {P : Program} {w : World} {K : PySem.W.Frag} {elts : List Expr} {kk : Nat} {tpos : Pos} {a b z TI TO i1 i2 : Addr} (D : ZipSep2 z TI TO i1 i2 [i1, a] [i2, b]) (na : a ≠ i1) (nb : b ≠ i2) (hi : i1 ≠ z ∧ i2 ≠ z) :
    Turn P w K (.Tuple elts kk tpos) (ItzM K a b) [z, TI, TO, i1, i2] z (fun i h => IsZip h z TI TO .none ∧ IsTupOf2 h TI (.ref i1) (.ref i2) ∧ (∃ x y, IsTupOf2 h TO x y) ∧ h.IsListIter i1 a i ∧ h.IsTupleIter i2 b i) where
  mem := List.mem_cons_self
  obj := fun i h st c hc => by
    obtain ⟨hz, hTI, ⟨x, y, hTO⟩, ⟨o1, e1, _, d1⟩, ⟨o2, e2, _, d2⟩⟩ := st
    rcases in5 hc with rfl | rfl | rfl | rfl | rfl
    · exact ⟨_, hz, fun v q => nomatch q⟩
    · exact ⟨_, hTI, fun v q => nomatch q⟩
    · exact ⟨_, hTO, fun v q => nomatch q⟩
    · exact ⟨o1, e1, fun v q => by rw [d1] at q; cases q⟩
    · exact ⟨o2, e2, fun v q => by rw [d2] at q; cases q⟩
  keep := fun i h h' st k => by
    obtain ⟨hz, hTI, ⟨x, y, hTO⟩, h1, h2⟩ := st
    exact ⟨k z (by simp) _ hz, k TI (by simp) _ hTI, ⟨x, y, k TO (by simp) _ hTO⟩, h1.at fun o q => k i1 (by simp) o q, h2.at fun o q => k i2 (by simp) o q⟩
  item := by
    intro X hP hw hK hc i pins s σ H E I hf st hg
    subst hP hw hK
    obtain ⟨hz, hTI, ⟨x0, y0, hTO⟩, h1, h2⟩ := st
    obtain ⟨xs, ys, x, y, hqx, hqy, hx, hy⟩ := hg
    obtain ⟨its, rv, p, _⟩ := I.list hqx
    obtain ⟨its2, rv2, p2, _⟩ := I.tuple hqy
    obtain ⟨u, hu, ru⟩ := rv.get hx
    obtain ⟨u2, hu2, ru2⟩ := rv2.get hy
    have hzl : z < s.heap.objs.size := Heap.lt_size hz
    have lt1 : i < its.toArray.size := by simpa using (List.getElem?_eq_some_iff.mp hu).1
    have lt2 : i < its2.toArray.size := by simpa using (List.getElem?_eq_some_iff.mp hu2).1
    refine wpAny_pyNext_zipD2_item D (Draws.list (A := X.A.in1) (I.ok.hd hc) i1 a na its.toArray) (Draws.tuple (A := X.A.in1) (I.ok.hd hc) i2 b nb its2.toArray) hz hTI hTO ⟨h1, p.isList⟩ ⟨h2, p2⟩ lt1 lt2 fun x1 x2 h' tk hx1 hx2 z' TO' h1' h2' hT hsz hk => ?_
    have ex1 : x1 = u := by
      have e : its.toArray[i]? = some u := by simpa using hu
      rw [e] at hx1
      exact (Option.some.inj hx1).symm
    have ex2 : x2 = u2 := by
      have e : its2.toArray[i]? = some u2 := by simpa using hu2
      rw [e] at hx2
      exact (Option.some.inj hx2).symm
    subst ex1 ex2
    refine ⟨_, rfl, wpAny_letOwnedTupleGo_zip (s := { s with heap := h', toks := tk }) z' fun h'' z'' sb => ?_⟩
    have hT2 : h''.get? s.heap.objs.size = some { cls := .type "tuple", data := .seq #[x1, x2] } := (sb.2 _ (Nat.ne_of_gt hzl)).trans hT
    have I1 : Inv X pins σ (upd H s.heap.objs.size (.tup [x, y])) { s with heap := h'', toks := tk } :=
      I.turnedNew (ch := [z, TI, TO, i1, i2]) (fun c o hb q => (sb.2 c (fun q' => hb (by simp [q']))).trans (hk c o (fun q' => hb (by simp [q'])) (fun q' => hb (by simp [q'])) (fun q' => hb (by simp [q'])) (fun q' => hb (by simp [q'])) q)) hf (Nat.le_refl _)
        ⟨by show 2 ≤ sizeLine; decide, [x1, x2], .cons ru (.cons ru2 .nil), ⟨_, hT2, rfl, _, rfl⟩⟩
    have iz1 : i1 ≠ z := hi.1
    have iz2 : i2 ≠ z := hi.2
    refine ⟨.ref s.heap.objs.size, _, I1, rfl, ⟨_, x, y, rfl, I.hok.fresh (Nat.le_refl _), rfl, fun l hl => by rw [I.list_inj hl hqx]; exact hx, fun l hl => by rw [I.tuple_inj hl hqy]; exact hy⟩, ⟨z'', ?_, ⟨x1, x2, ?_⟩, ?_, ?_⟩, fun c hcm => ?_⟩
    · exact (sb.2 _ D.TIz).trans (hk _ _ D.TIz D.TITO D.TIi1 D.TIi2 hTI)
    · exact (sb.2 _ D.TOz).trans TO'
    · exact h1'.1.at fun o q => (sb.2 _ iz1).trans q
    · exact h2'.1.at fun o q => (sb.2 _ iz2).trans q
    · have lt : c < s.heap.objs.size := by
        rcases in5 hcm with rfl | rfl | rfl | rfl | rfl
        · exact hzl
        · exact Heap.lt_size hTI
        · exact Heap.lt_size hTO
        · obtain ⟨_, e1, _⟩ := h1
          exact Heap.lt_size e1
        · obtain ⟨_, e1, _⟩ := h2
          exact Heap.lt_size e1
      rw [upd_ne (Nat.ne_of_lt lt)]
      exact (hf c hcm).1
  done := by
    intro X hP hw hK hc i pins s σ H E I hf st hg
    subst hP hw hK
    obtain ⟨hz, hTI, ⟨x0, y0, hTO⟩, h1, h2⟩ := st
    obtain ⟨xs, ys, hqx, hqy, n1, n2⟩ := hg
    obtain ⟨its, rv, p, _⟩ := I.list hqx
    obtain ⟨its2, rv2, p2, _⟩ := I.tuple hqy
    have l1 : i = its.toArray.size := by
      have := rv.length
      simp
      omega
    have l2 : i = its2.toArray.size := by
      have := rv2.length
      simp
      omega
    exact wpAny_pyNext_zipD2_end D (Draws.list (A := X.A.in1) (I.ok.hd hc) i1 a na its.toArray) (Draws.tuple (A := X.A.in1) (I.ok.hd hc) i2 b nb its2.toArray) hz hTI hTO ⟨h1, p.isList⟩ ⟨h2, p2⟩ (Nat.le_of_eq l1) (Nat.le_of_eq l2) (.inl l1)
      fun h' tk hk => ⟨rfl, I.turnedL (t' := tk) (ch := [z, TI, TO, i1, i2]) (fun c o hb q => hk c o (fun q' => hb (by simp [q'])) (fun q' => hb (by simp [q'])) (fun q' => hb (by simp [q'])) (fun q' => hb (by simp [q'])) q) hf⟩
  self := fun A i s Q E st h => wpAny_pyIter_zip st.1 h
def iZipM (K : PySem.W.Frag) (ta : TA) : TI := fun σ H R => ta σ H fun vs H1 => ∃ a b xs ys, vs = [.ref a, .ref b] ∧ SqL K H1 a xs ∧ SqT K H1 b ys ∧ R (ItzM K a b) H1
theorem pi_zipM {X : Cx} {e e2 : Expr} {ta : TA} {p pos tpos : Pos} {elts : List Expr} {kk : Nat} (hg : Gl X "zip") (hm : X.mg "zip" = none) (ha : PA X [e, e2] ta)
    (hs : starEach [e, e2] X.env = (false, eval e X.env) :: starEach [e2] X.env := by rfl) (hpl : (backTo pos (starEach [e2] X.env)).any (·.1) = false := by rfl) :
    PI X (.Tuple elts kk tpos) (.Call (.Name "zip" p) [e, e2] [] pos) (iZipM X.K ta) := by
  refine ⟨fun pins s σ H R I h => Call_ (ld_blt I hg hm PyProof.Rows.boot_zip (PyProof.Rows.callWith_type1 (thn (ha.run pos pins s σ H _ I h) fun us s1 ⟨vs, H1, I1, r1, q1⟩ => ?_) hs hpl))⟩
  obtain ⟨a, b, xs, ys, rfl, hqx, hqy, q⟩ := q1
  cases r1 with
  | cons r rr =>
    cases rr with
    | cons r' rr =>
      cases rr
      cases r
      cases r'
      obtain ⟨its, rv, p1, _⟩ := I1.list hqx
      obtain ⟨its2, rv2, p2, _⟩ := I1.tuple hqy
      have la : a < s1.heap.objs.size := p1.lt
      have lb : b < s1.heap.objs.size := by
        obtain ⟨o, ho, _⟩ := p2
        exact Heap.lt_size ho
      refine zip_begins2 (begins_list a its.toArray) (begins_tuple b its2.toArray) p1.isList p2 fun h' hz hTI hTO h1 h2 hsz hk => wpAny_pyIter_zip hz ?_
      have I2 : Inv X pins σ H1 { s1 with heap := h' } := I1.kept (t' := s1.toks) hk
      have sep : ZipSep2 (s1.heap.objs.size + 4) (s1.heap.objs.size + 2) (s1.heap.objs.size + 3) s1.heap.objs.size (s1.heap.objs.size + 1) [s1.heap.objs.size, a] [s1.heap.objs.size + 1, b] := zip_sep2 (fun c hc => by rw [List.mem_singleton.mp hc]; exact la) fun c hc => by rw [List.mem_singleton.mp hc]; exact lb
      have ne1 : ∀ n m : Nat, m < n → m ≠ n := fun n m h => Nat.ne_of_lt h
      refine ⟨s1.heap.objs.size + 4, [s1.heap.objs.size + 4, s1.heap.objs.size + 2, s1.heap.objs.size + 3, s1.heap.objs.size, s1.heap.objs.size + 1], _, _, H1, rfl, I2, turn_zipM sep (ne1 _ _ la) (ne1 _ _ (Nat.lt_succ_of_lt lb)) ⟨ne1 _ _ (Nat.lt_add_of_pos_right (by decide)), ne1 _ _ (Nat.add_lt_add_left (by decide) _)⟩,
        ⟨hz, hTI, ⟨_, _, hTO⟩, ⟨_, h1, rfl, rfl⟩, ⟨_, h2, rfl, rfl⟩⟩, fun c hc => ?_, q⟩
      have le : s1.heap.objs.size ≤ c := by
        rcases in5 hc with rfl | rfl | rfl | rfl | rfl
        · exact Nat.le_add_right _ _
        · exact Nat.le_add_right _ _
        · exact Nat.le_add_right _ _
        · exact Nat.le_refl _
        · exact Nat.le_add_right _ _
      exact I1.fpOk le (I1.hok.fresh le)
end LB
set_option Elab.async false
set_option linter.all false
set_option maxRecDepth 100000
namespace LB
open PySem PySem.Spec PyProof.Rows L2
/-! ### the defs' names by slots (printed by wip/gen1.py) -/
abbrev Nis_integer : List Str := ["value"]
theorem scis_integer : FnScope Nis_integer ["value"] (defScope sis_integer) := ⟨rfl, rfl, rfl, by decide +kernel, rfl, by decide +kernel, by decide +kernel⟩
abbrev Nis_count : List Str := ["value"]
theorem scis_count : FnScope Nis_count ["value"] (defScope sis_count) := ⟨rfl, rfl, rfl, by decide +kernel, rfl, by decide +kernel, by decide +kernel⟩
abbrev Nis_name : List Str := ["value", "sign"]
theorem scis_name : FnScope Nis_name ["value"] (defScope sis_name) := ⟨rfl, rfl, rfl, by decide +kernel, rfl, by decide +kernel, by decide +kernel⟩
abbrev Nis_list : List Str := ["value"]
theorem scis_list : FnScope Nis_list ["value"] (defScope sis_list) := ⟨rfl, rfl, rfl, by decide +kernel, rfl, by decide +kernel, by decide +kernel⟩
abbrev Nis_worth : List Str := ["value"]
theorem scis_worth : FnScope Nis_worth ["value"] (defScope sis_worth) := ⟨rfl, rfl, rfl, by decide +kernel, rfl, by decide +kernel, by decide +kernel⟩
abbrev Nare_worths_on : List Str := ["lines", "value", "line"]
theorem scare_worths_on : FnScope Nare_worths_on ["lines", "value"] (defScope sare_worths_on) := ⟨rfl, rfl, rfl, by decide +kernel, rfl, by decide +kernel, by decide +kernel⟩
abbrev Nis_standing_of : List Str := ["standings", "value"]
theorem scis_standing_of : FnScope Nis_standing_of ["standings", "value"] (defScope sis_standing_of) := ⟨rfl, rfl, rfl, by decide +kernel, rfl, by decide +kernel, by decide +kernel⟩
abbrev Nis_reaction : List Str := ["ins", "outs", "standings", "value", "standing", "takes", "gives", "later"]
theorem scis_reaction : FnScope Nis_reaction ["ins", "outs", "standings", "value"] (defScope sis_reaction) := ⟨rfl, rfl, rfl, by decide +kernel, rfl, by decide +kernel, by decide +kernel⟩
abbrev Nwant_ins : List Str := ["ins", "position", "line"]
theorem scwant_ins : FnScope Nwant_ins ["ins"] (defScope swant_ins) := ⟨rfl, rfl, rfl, by decide +kernel, rfl, by decide +kernel, by decide +kernel⟩
abbrev Nwant_outs : List Str := ["ins", "outs", "position", "line"]
theorem scwant_outs : FnScope Nwant_outs ["ins", "outs"] (defScope swant_outs) := ⟨rfl, rfl, rfl, by decide +kernel, rfl, by decide +kernel, by decide +kernel⟩
abbrev Nwant_reactions : List Str := ["ins", "outs", "standings", "reactions", "position", "reaction"]
theorem scwant_reactions : FnScope Nwant_reactions ["ins", "outs", "standings", "reactions"] (defScope swant_reactions) := ⟨rfl, rfl, rfl, by decide +kernel, rfl, by decide +kernel, by decide +kernel⟩
abbrev Nordered : List Str := ["lines", "worths", "line"]
theorem scordered : FnScope Nordered ["lines", "worths"] (defScope sordered) := ⟨rfl, rfl, rfl, by decide +kernel, rfl, by decide +kernel, by decide +kernel⟩
abbrev Nkept : List Str := ["ins", "outs", "reaction", "standing", "takes", "gives", "later"]
theorem sckept : FnScope Nkept ["ins", "outs", "reaction"] (defScope skept) := ⟨rfl, rfl, rfl, by decide +kernel, rfl, by decide +kernel, by decide +kernel⟩
abbrev Nis_number : List Str := ["machine", "value"]
theorem scis_number : FnScope Nis_number ["machine", "value"] (defScope sis_number) := ⟨rfl, rfl, rfl, by decide +kernel, rfl, by decide +kernel, by decide +kernel⟩
abbrev Nwant_standing : List Str := ["machine", "value"]
theorem scwant_standing : FnScope Nwant_standing ["machine", "value"] (defScope swant_standing) := ⟨rfl, rfl, rfl, by decide +kernel, rfl, by decide +kernel, by decide +kernel⟩
abbrev Nnumbers_at : List Str := ["machine", "standing", "number", "reaction"]
theorem scnumbers_at : FnScope Nnumbers_at ["machine", "standing"] (defScope snumbers_at) := ⟨rfl, rfl, rfl, by decide +kernel, rfl, by decide +kernel, by decide +kernel⟩
abbrev Nreached_from : List Str := ["machine", "standing", "found", "waiting", "here", "reaction"]
theorem screached_from : FnScope Nreached_from ["machine", "standing"] (defScope sreached_from) := ⟨rfl, rfl, rfl, by decide +kernel, rfl, by decide +kernel, by decide +kernel⟩
abbrev Nwant_at_most : List Str := ["what", "many", "limit"]
theorem scwant_at_most : FnScope Nwant_at_most ["what", "many", "limit"] (defScope swant_at_most) := ⟨rfl, rfl, rfl, by decide +kernel, rfl, by decide +kernel, by decide +kernel⟩
abbrev Nis_number_at : List Str := ["machine", "standing", "value"]
theorem scis_number_at : FnScope Nis_number_at ["machine", "standing", "value"] (defScope sis_number_at) := ⟨rfl, rfl, rfl, by decide +kernel, rfl, by decide +kernel, by decide +kernel⟩
abbrev Nwant_leading : List Str := ["machine", "run", "here", "position", "number"]
theorem scwant_leading : FnScope Nwant_leading ["machine", "run"] (defScope swant_leading) := ⟨rfl, rfl, rfl, by decide +kernel, rfl, by decide +kernel, by decide +kernel⟩
abbrev Nled_to : List Str := ["machine", "standing", "run"]
theorem scled_to : FnScope Nled_to ["machine", "standing", "run"] (defScope sled_to) := ⟨rfl, rfl, rfl, by decide +kernel, rfl, by decide +kernel, by decide +kernel⟩
abbrev Ntaken_by : List Str := ["machine", "run", "found", "number", "line", "worth", "worths"]
theorem sctaken_by : FnScope Ntaken_by ["machine", "run"] (defScope staken_by) := ⟨rfl, rfl, rfl, by decide +kernel, rfl, by decide +kernel, by decide +kernel⟩
abbrev Nis_counts : List Str := ["machine", "value", "line"]
theorem scis_counts : FnScope Nis_counts ["machine", "value"] (defScope sis_counts) := ⟨rfl, rfl, rfl, by decide +kernel, rfl, by decide +kernel, by decide +kernel⟩
abbrev Nwith_less : List Str := ["machine", "number", "left", "takes", "line", "many"]
theorem scwith_less : FnScope Nwith_less ["machine", "number", "left"] (defScope swith_less) := ⟨rfl, rfl, rfl, by decide +kernel, rfl, by decide +kernel, by decide +kernel⟩
abbrev Nround_from : List Str := ["machine", "standing", "left", "goal", "found", "waiting", "here", "number", "there", "line"]
theorem scround_from : FnScope Nround_from ["machine", "standing", "left"] (defScope sround_from) := ⟨rfl, rfl, rfl, by decide +kernel, rfl, by decide +kernel, by decide +kernel⟩
abbrev Nround_with : List Str := ["machine", "standing", "counts", "line"]
theorem scround_with : FnScope Nround_with ["machine", "standing", "counts"] (defScope sround_with) := ⟨rfl, rfl, rfl, by decide +kernel, rfl, by decide +kernel, by decide +kernel⟩
abbrev Ntaken : List Str := ["machine", "run"]
theorem sctaken : FnScope Ntaken ["machine", "run"] (defScope staken) := ⟨rfl, rfl, rfl, by decide +kernel, rfl, by decide +kernel, by decide +kernel⟩
abbrev Nstands_at : List Str := ["machine", "run"]
theorem scstands_at : FnScope Nstands_at ["machine", "run"] (defScope sstands_at) := ⟨rfl, rfl, rfl, by decide +kernel, rfl, by decide +kernel, by decide +kernel⟩
abbrev N_law_pot : List Str := ["_law_script", "_law_k", "_law_cell"]
theorem sc_law_pot : FnScope N_law_pot ["_law_script", "_law_k"] (defScope s_law_pot) := ⟨rfl, rfl, rfl, by decide +kernel, rfl, by decide +kernel, by decide +kernel⟩
abbrev N_law_draw : List Str := ["_law_pot_here", "_law_sides", "_law_digit"]
theorem sc_law_draw : FnScope N_law_draw ["_law_pot_here", "_law_sides"] (defScope s_law_draw) := ⟨rfl, rfl, rfl, by decide +kernel, rfl, by decide +kernel, by decide +kernel⟩
abbrev N_law_pick : List Str := ["_law_pot_here", "_law_some"]
theorem sc_law_pick : FnScope N_law_pick ["_law_pot_here", "_law_some"] (defScope s_law_pick) := ⟨rfl, rfl, rfl, by decide +kernel, rfl, by decide +kernel, by decide +kernel⟩
abbrev N_law_deeds : List Str := ["_law_pot_here", "_law_wires_in", "_law_wires_out", "_law_size", "_law_many", "_law_sorts", "_law_found", "_law_turn", "_law_takes", "_law_gives", "_law_deed", "_law_wire"]
theorem sc_law_deeds : FnScope N_law_deeds ["_law_pot_here", "_law_wires_in", "_law_wires_out", "_law_size", "_law_many", "_law_sorts"] (defScope s_law_deeds) := ⟨rfl, rfl, rfl, by decide +kernel, rfl, by decide +kernel, by decide +kernel⟩
abbrev N_law_scene : List Str := ["_law_pot_here", "_law_most_size", "_law_most_deeds", "_law_wires_in", "_law_wires_out", "_law_size", "_law_sorts"]
theorem sc_law_scene : FnScope N_law_scene ["_law_pot_here", "_law_most_size", "_law_most_deeds"] (defScope s_law_scene) := ⟨rfl, rfl, rfl, by decide +kernel, rfl, by decide +kernel, by decide +kernel⟩
abbrev N_law_near : List Str := ["_law_scene_here", "_law_found", "_law_turn", "_law_deed"]
theorem sc_law_near : FnScope N_law_near ["_law_scene_here"] (defScope s_law_near) := ⟨rfl, rfl, rfl, by decide +kernel, rfl, by decide +kernel, by decide +kernel⟩
abbrev N_law_less : List Str := ["_law_scene_here", "_law_left", "_law_deed", "_law_wire", "_law_amount"]
theorem sc_law_less : FnScope N_law_less ["_law_scene_here", "_law_left", "_law_deed"] (defScope s_law_less) := ⟨rfl, rfl, rfl, by decide +kernel, rfl, by decide +kernel, by decide +kernel⟩
abbrev N_law_round : List Str := ["_law_scene_here", "_law_spot", "_law_sums_now", "_law_begin", "_law_rows", "_law_known", "_law_later", "_law_path", "_law_here", "_law_k", "_law_deed", "_law_there", "_law_wire"]
theorem sc_law_round : FnScope N_law_round ["_law_scene_here", "_law_spot", "_law_sums_now"] (defScope s_law_round) := ⟨rfl, rfl, rfl, by decide +kernel, rfl, by decide +kernel, by decide +kernel⟩
abbrev N_law_counts : List Str := ["_law_scene_here", "_law_path", "_law_found", "_law_k", "_law_wire"]
theorem sc_law_counts : FnScope N_law_counts ["_law_scene_here", "_law_path"] (defScope s_law_counts) := ⟨rfl, rfl, rfl, by decide +kernel, rfl, by decide +kernel, by decide +kernel⟩
abbrev N_law_walked : List Str := ["_law_pot_here", "_law_scene_here", "_law_spot", "_law_path", "_law_here", "_law_found", "_law_turn", "_law_some", "_law_sums_now", "_law_k", "_law_deed", "_law_wire"]
theorem sc_law_walked : FnScope N_law_walked ["_law_pot_here", "_law_scene_here", "_law_spot"] (defScope s_law_walked) := ⟨rfl, rfl, rfl, by decide +kernel, rfl, by decide +kernel, by decide +kernel⟩
abbrev N_law_drawn : List Str := ["_law_pot_here", "_law_scene_here", "_law_found", "_law_turn", "_law_wire"]
theorem sc_law_drawn : FnScope N_law_drawn ["_law_pot_here", "_law_scene_here"] (defScope s_law_drawn) := ⟨rfl, rfl, rfl, by decide +kernel, rfl, by decide +kernel, by decide +kernel⟩
abbrev N_law_way : List Str := ["_law_scene_here", "_law_spot", "_law_rows", "_law_known", "_law_later", "_law_path", "_law_here", "_law_k", "_law_deed"]
theorem sc_law_way : FnScope N_law_way ["_law_scene_here", "_law_spot"] (defScope s_law_way) := ⟨rfl, rfl, rfl, by decide +kernel, rfl, by decide +kernel, by decide +kernel⟩
abbrev N_law_told_right : List Str := ["_law_gear", "_law_scene_here", "_law_spot", "_law_sums_now", "_law_due", "_law_kept", "_law_full", "_law_given", "_law_told", "_law_way_here", "_law_one", "_law_two", "_law_more", "_law_twice", "_law_wire"]
theorem sc_law_told_right : FnScope N_law_told_right ["_law_gear", "_law_scene_here", "_law_spot", "_law_sums_now"] (defScope s_law_told_right) := ⟨rfl, rfl, rfl, by decide +kernel, rfl, by decide +kernel, by decide +kernel⟩
abbrev N_law_right : List Str := ["_law_pot_here", "_law_scene_here", "_law_gear", "_law_spot", "_law_some", "_law_sums_now", "_law_wire"]
theorem sc_law_right : FnScope N_law_right ["_law_pot_here"] (defScope s_law_right) := ⟨rfl, rfl, rfl, by decide +kernel, rfl, by decide +kernel, by decide +kernel⟩
abbrev Nlaw : List Str := ["_law_script", "_law_k"]
theorem sclaw : FnScope Nlaw ["_law_script"] (defScope slaw) := ⟨rfl, rfl, rfl, by decide +kernel, rfl, by decide +kernel, by decide +kernel⟩
abbrev N__init__ : List Str := ["self", "ins", "outs", "standings", "reactions", "reaction"]
theorem sc__init__ : FnScope N__init__ ["self", "ins", "outs", "standings", "reactions"] (defScope s__init__) := ⟨rfl, rfl, rfl, by decide +kernel, rfl, by decide +kernel, by decide +kernel⟩
end LB
set_option Elab.async false
set_option linter.all false
set_option maxRecDepth 100000
namespace LB
open PySem PySem.Spec PyProof.Rows L2 ClX
/-! ### what the top leaves (printed by wip/gen2.py) -/
structure Tx (K : PySem.W.Frag) (mg : Str → Option Value) (C fI : Addr) : Prop where
  f_isinstance : mg "isinstance" = none
  f_int : mg "int" = none
  f_bool : mg "bool" = none
  f_str : mg "str" = none
  f_len : mg "len" = none
  f_all : mg "all" = none
  f_list : mg "list" = none
  f_tuple : mg "tuple" = none
  f_dict : mg "dict" = none
  f_enumerate : mg "enumerate" = none
  f_sorted : mg "sorted" = none
  f_zip : mg "zip" = none
  f_min : mg "min" = none
  f_max : mg "max" = none
  f_sum : mg "sum" = none
  f_range : mg "range" = none
  f_divmod : mg "divmod" = none
  f_abs : mg "abs" = none
  f_repr : mg "repr" = none
  i_LONGEST_NAME : ∃ t, mg "LONGEST_NAME" = some (.int 8 t)
  i_MOST_INS : ∃ t, mg "MOST_INS" = some (.int 4 t)
  i_MOST_OUTS : ∃ t, mg "MOST_OUTS" = some (.int 3 t)
  i_NOTICE : ∃ t, mg "NOTICE" = some (.int 9 t)
  i_MOST_COUNTS : ∃ t, mg "MOST_COUNTS" = some (.int 12 t)
  letters : ∃ t, mg "LETTERS" = some (.str "abcdefghijklmnopqrstuvwxyz" t)
  gC : mg "Machine" = some (.ref C)
  cls : Cls K C
  n_own_ins : NoAttr K C "own_ins"
  n_own_outs : NoAttr K C "own_outs"
  n_own_standings : NoAttr K C "own_standings"
  n_own_reactions : NoAttr K C "own_reactions"
  make : Mk K C fI
  con : ∃ t, Con K C "MOST_STANDINGS" (.int 12) (.int 12 t)
  crd : CRead K C (.type "type")
  cvl : ∃ t, CVal K C (.type "type") "MOST_REACTIONS" (.int 40) (.int 40 t)
/-- a def of the top, where it stands -/
def DefAt (K : PySem.W.Frag) (mg : Str → Option Value) (x : Str) (st : Stmt) : Prop := ∃ f fd, FnP K x x st f fd ∧ mg x = some (.ref f)
/-- a def that may be called by its name -/
def Cal (P : Program) (w : World) (K : PySem.W.Frag) (mg : Str → Option Value) (base : Heap) (k : Nat) (x : Str) (ps : List Str) (sp : Sp) : Prop :=
  ∃ f fd, FnOk P w K mg base CX0 k f fd ps sp ∧ mg x = some (.ref f) ∧ PySem.W.keepIn K (.ref f) = true ∧ L2.Binds K fd ps []
def CalG (P : Program) (w : World) (K : PySem.W.Frag) (mg : Str → Option Value) (base : Heap) (k : Nat) (x : Str) (ps : List Str) (sp : Sp) : Prop :=
  ∃ f fd, FnG P w K mg base k f fd ps sp ∧ mg x = some (.ref f) ∧ PySem.W.keepIn K (.ref f) = true ∧ L2.Binds K fd ps []
/-- how the arguments of a def of the top bind -/
def BindOk (x : Str) (st : Stmt) (ps : List Str) : Prop := ∀ (kV doc pm : Value) (an : Option Addr) (cdv ct : Value) (us : List Value), us.length = ps.length → bindArgs (PySem.W.fnOf x x (defArgs st) (defBody st) (defScope st) .none kV doc pm an cdv ct) ⟨us, []⟩ = pure (ps.zip us)
section
variable {P : Program} {w : World} {K : PySem.W.Frag} {mg : Str → Option Value} {base : Heap} {k : Nat} {x : Str} {st : Stmt} {N ps : List Str} {sp : Sp}
theorem Cal.mk (D : DefAt K mg x st) (S : FnScope N ps (defScope st)) (hb : BindOk x st ps) (len : ∀ vs H Q E, sp vs H Q E → vs.length = ps.length)
    (body : ∀ (X : Cx) (cdv : Value) (A : Around) (outer : List Env) (f : Addr) (s : Shared) (H : Hp) (vs : List V) (Q : VK) (E : XK), X = (cxOf CX0 P w K mg base N x (defScope st) f cdv A outer s H E).nox → Room k X.A → sp vs H Q E →
      ∃ t, PSs X (defBody st) t ∧ t { nx := fun _ H' => Q .non H', rt := Q } (start N vs) H) : Cal P w K mg base (k + 1) x ps sp := by
  obtain ⟨f, fd, F, hm⟩ := D
  refine ⟨f, fd, F.ok S len (fun cdv A outer s H vs Q E hr h => ?_), hm, F.kp, F.bindsN hb⟩
  obtain ⟨t, h1, h2⟩ := body _ cdv A outer f s H vs Q E rfl hr h
  exact ⟨t, h1.nox, h2⟩
theorem Cal.mono {j : Nat} (c : Cal P w K mg base j x ps sp) (h : j ≤ k) : Cal P w K mg base k x ps sp := by
  obtain ⟨f, fd, F, r⟩ := c
  exact ⟨f, fd, F.mono h, r⟩
theorem CalG.mk (D : DefAt K mg x st) (S : FnScope N ps (defScope st)) (hb : BindOk x st ps) (len : ∀ vs H Q E, sp vs H Q E → vs.length = ps.length)
    (body : ∀ (X : Cx) (cdv : Value) (A : Around) (outer : List Env) (f : Addr) (s : Shared) (H : Hp) (vs : List V) (Q : VK) (E : XK), X = (cxOf CX0 P w K mg base N x (defScope st) f cdv A outer s H E).nox → X.A.guards = some [] → Room k X.A → sp vs H Q E →
      ∃ t, PSs X (defBody st) t ∧ t { nx := fun _ H' => Q .non H', rt := Q } (start N vs) H) : CalG P w K mg base (k + 1) x ps sp := by
  obtain ⟨f, fd, F, hm⟩ := D
  exact ⟨f, fd, FnG.of F S len (fun cdv A outer s H vs Q E hg hr h => body _ cdv A outer f s H vs Q E rfl hg hr h), hm, F.kp, F.bindsN hb⟩
end
section
variable {X : Cx} {k : Nat} {x : Str} {ps : List Str} {sp : Sp} {p pos : Pos} {e : Expr} {es : List Expr} {t : TA}
theorem pe_cal (c : Cal X.prog X.w X.K X.mg X.base k x ps sp) (hr : Room k X.A) (hg : Gl X x) (ha : PA X (e :: es) t) (hdb : (x == ("__debug__" : Str)) = false := by decide)
    (he : starEach (e :: es) X.env = (false, eval e X.env) :: starEach es X.env := by rfl) (hpl : (backTo pos (starEach es X.env)).any (·.1) = false := by rfl) : PE X (.Call (.Name x p) (e :: es) [] pos) (tCall sp [] E0 t) := by
  obtain ⟨f, fd, F, hm, hk, hb⟩ := c
  exact pe_call F hr hg hm hk hb .nil pass0 ha hdb he hpl
theorem pe_calG (c : CalG X.prog X.w X.K X.mg X.base k x ps sp) (hgd : X.A.guards = some []) (hr : Room k X.A) (hg : Gl X x) (ha : PA X (e :: es) t) (hdb : (x == ("__debug__" : Str)) = false := by decide)
    (he : starEach (e :: es) X.env = (false, eval e X.env) :: starEach es X.env := by rfl) (hpl : (backTo pos (starEach es X.env)).any (·.1) = false := by rfl) : PE X (.Call (.Name x p) (e :: es) [] pos) (tCall sp [] E0 t) := by
  obtain ⟨f, fd, F, hm, hk, hb⟩ := c
  exact pe_callG F hgd hr hg hm hk hb ha hdb he hpl
end
end LB
set_option Elab.async false
set_option linter.all false
set_option maxRecDepth 100000
namespace LB
open PySem PySem.Spec PyProof.Rows L2 ClX
/-! ### a def of the top called by its keywords alone, told from the last to the first -/
def revG {α : Type} (_ zs : List α) : List α := zs.reverse
def CalK (P : Program) (w : World) (K : PySem.W.Frag) (mg : Str → Option Value) (base : Heap) (k : Nat) (x : Str) (ps ks : List Str) (sp : Sp) : Prop :=
  ∃ f fd, FnOk P w K mg base CX0 k f fd ps sp ∧ mg x = some (.ref f) ∧ PySem.W.keepIn K (.ref f) = true ∧ L2.Binds K fd ps [] ∧ KBn K fd ps 0 ks revG revG
theorem vals_rev {vs : List V} {us : List Value} (h : Vals vs us) : Vals vs.reverse us.reverse := by
  induction h with
  | nil => exact .nil
  | cons r _ ih =>
    rw [List.reverse_cons, List.reverse_cons]
    exact ih.append (.cons r .nil)
section
variable {P : Program} {w : World} {K : PySem.W.Frag} {mg : Str → Option Value} {base : Heap} {k : Nat} {x : Str} {st : Stmt} {N ps ks : List Str} {sp : Sp}
theorem CalK.cal (c : CalK P w K mg base k x ps ks sp) : Cal P w K mg base k x ps sp := by
  obtain ⟨f, fd, F, hm, hk, hb, _⟩ := c
  exact ⟨f, fd, F, hm, hk, hb⟩
theorem CalK.mk (D : DefAt K mg x st) (S : FnScope N ps (defScope st)) (hb : BindOk x st ps)
    (hkb : ∀ (kV doc pm : Value) (an : Option Addr) (cdv ct : Value) (ws : List Value), ws.length = ks.length → bindArgs (PySem.W.fnOf x x (defArgs st) (defBody st) (defScope st) .none kV doc pm an cdv ct) ⟨[], ks.zip ws⟩ = pure (ps.zip ws.reverse))
    (len : ∀ vs H Q E, sp vs H Q E → vs.length = ps.length)
    (body : ∀ (X : Cx) (cdv : Value) (A : Around) (outer : List Env) (f : Addr) (s : Shared) (H : Hp) (vs : List V) (Q : VK) (E : XK), X = (cxOf CX0 P w K mg base N x (defScope st) f cdv A outer s H E).nox → Room k X.A → sp vs H Q E →
      ∃ t, PSs X (defBody st) t ∧ t { nx := fun _ H' => Q .non H', rt := Q } (start N vs) H) : CalK P w K mg base (k + 1) x ps ks sp := by
  obtain ⟨f, fd, F, hm⟩ := D
  refine ⟨f, fd, F.ok S len (fun cdv A outer s H vs Q E hr h => ?_), hm, F.kp, F.bindsN hb, ?_⟩
  · obtain ⟨t, h1, h2⟩ := body _ cdv A outer f s H vs Q E rfl hr h
    exact ⟨t, h1.nox, h2⟩
  · obtain ⟨oc, od, dV, kV, doc, pm, an, cdv, ct, osl, rfl, lk, hcd, hD, hK⟩ := F.ex
    rcases hD with ⟨_, rfl⟩ | ⟨e, _⟩
    · refine ⟨fun s us ws X l1 l2 => ?_, fun _ r2 => vals_rev r2⟩
      cases us with
      | nil => exact .of_eq (hkb kV doc pm an cdv ct ws l2)
      | cons _ _ => cases l1
    · exact absurd rfl e
end
section
variable {X : Cx} {k : Nat} {x : Str} {ps ks : List Str} {sp : Sp} {p pos : Pos} {kws : List Keyword} {tk : TA}
theorem pe_calK (c : CalK X.prog X.w X.K X.mg X.base k x ps ks sp) (hr : Room k X.A) (hg : Gl X x) (hkw : PK X kws tk) (hall : (backToKw pos (keywordEach kws X.env)).all (·.1.isSome) = true := by rfl) (hks : (backToKw pos (keywordEach kws X.env)).filterMap (·.1) = ks := by rfl)
    (hdb : (x == ("__debug__" : Str)) = false := by decide) (hpl : ((backTo pos (starEach [] X.env)).any (·.1) || (backToKw pos (keywordEach kws X.env)).any (·.1.isNone)) = false := by rfl) :
    PE X (.Call (.Name x p) [] kws pos) (tCallN 0 ks.length sp revG E0 tNil tk) := by
  obtain ⟨f, fd, F, hm, hk, hb, hn⟩ := c
  refine ⟨fun pins s σ H Q I h => ?_⟩
  refine wpAny_Call_Name_kw (ld_glob I hg hm ?_ hdb)
  refine PySem.W.callWith_KW0 (h₀ := X.base) I.ok.mod.kin hk hall (thn (hkw.run pos pins s σ H _ I h) fun ws s2 ⟨zs, H2, I2, rz, l1, l2, q2⟩ => ⟨I2.kIn, ?_⟩) hpl
  rw [hks]
  exact run_fnN (us := []) (vs := []) F hr hn pass0 I2 .nil rz rfl l2 q2
end
end LB
set_option Elab.async false
set_option linter.all false
set_option maxRecDepth 100000
namespace LB
open PySem PySem.Spec PyProof.Rows L2 ClX
theorem b_isinstance : bootBuiltins "isinstance" = some (.builtin "isinstance") := by decide +kernel
theorem b_len : bootBuiltins "len" = some (.builtin "len") := by decide +kernel
theorem b_all : bootBuiltins "all" = some (.builtin "all") := by decide +kernel
theorem b_sum : bootBuiltins "sum" = some (.builtin "sum") := by decide +kernel
theorem b_min : bootBuiltins "min" = some (.builtin "min") := by decide +kernel
theorem b_max : bootBuiltins "max" = some (.builtin "max") := by decide +kernel
theorem b_abs : bootBuiltins "abs" = some (.builtin "abs") := by decide +kernel
theorem b_divmod : bootBuiltins "divmod" = some (.builtin "divmod") := by decide +kernel
theorem b_repr : bootBuiltins "repr" = some (.builtin "repr") := by decide +kernel
theorem b_sorted : bootBuiltins "sorted" = some (.builtin "sorted") := by decide +kernel
theorem b_int : bootBuiltins "int" = some (.type "int") := by decide +kernel
theorem b_bool : bootBuiltins "bool" = some (.type "bool") := by decide +kernel
theorem b_str : bootBuiltins "str" = some (.type "str") := by decide +kernel
theorem b_list : bootBuiltins "list" = some (.type "list") := by decide +kernel
theorem b_tuple : bootBuiltins "tuple" = some (.type "tuple") := by decide +kernel
theorem b_dict : bootBuiltins "dict" = some (.type "dict") := by decide +kernel
theorem bl_true {c : Prop} [Decidable c] (h : c) : V.bl (decide c) = .bl true := by rw [decide_eq_true h]
theorem q_true {c : Prop} [Decidable c] {Q : VK} {H : Hp} (h : c) (q : Q (.bl true) H) : Q (.bl (decide c)) H := by
  rw [decide_eq_true h]
  exact q
section
variable {P : Program} {w : World} {K : PySem.W.Frag} {mg : Str → Option Value} {base : Heap} {C fI : Addr}
/-! is_integer -/
def spInt : Sp := fun vs H Q _ => ∃ i, vs = [.int i] ∧ Q (.bl true) H
theorem ok_is_integer (T : Tx K mg C fI) (D : DefAt K mg "is_integer" sis_integer) : Cal P w K mg base 1 "is_integer" ["value"] spInt := by
  refine Cal.mk D scis_integer (fun _ _ _ _ _ _ us hl => match us, hl with | [_], _ => rfl) (fun vs H Q E h => ?_) ?_
  · obtain ⟨i, rfl, _⟩ := h
    rfl
  · rintro X cdv A outer f s H vs Q E rfl hr ⟨i, rfl, q⟩
    refine ⟨_, pss_one (ps_ret (pe_and (pe_callB call_isi (by rfl) T.f_isinstance b_isinstance (pa_cons (pv 0) (pa_cons (pe_bltn (v := .ty "int") (by rfl) T.f_int b_int rfl) pa_nil)))
      (pe_one (pe_not (pe_callB call_isi (by rfl) T.f_isinstance b_isinstance (pa_cons (pv 0) (pa_cons (pe_bltn (v := .ty "bool") (by rfl) T.f_bool b_bool rfl) pa_nil))))))), ?_⟩
    refine ⟨_, rfl, _, _, _, _, true, rfl, .ty _, .base (.int _), kit_ty (by decide +kernel), true, rfl, iteT ?_⟩
    exact ⟨_, rfl, _, _, _, _, false, rfl, .ty _, .base (.int _), kit_ty (by decide +kernel), false, rfl, q⟩
/-! is_count -/
def spCount : Sp := fun vs H Q _ => ∃ i, vs = [.int i] ∧ Q (.bl (decide (0 ≤ i))) H
theorem ok_is_count (D : DefAt K mg "is_count" sis_count) (cI : Cal P w K mg base 1 "is_integer" ["value"] spInt) : Cal P w K mg base 2 "is_count" ["value"] spCount := by
  refine Cal.mk D scis_count (fun _ _ _ _ _ _ us hl => match us, hl with | [_], _ => rfl) (fun vs H Q E h => ?_) ?_
  · obtain ⟨i, rfl, _⟩ := h
    rfl
  · rintro X cdv A outer f s H vs Q E rfl hr ⟨i, rfl, q⟩
    refine ⟨_, pss_one (ps_ret (pe_and (pe_cal cI hr (by rfl) (pa_cons (pv 0) pa_nil)) (pe_one (pe_cmpR op_ge (pv 0) pe_int (nomark _))))), ?_⟩
    exact ⟨_, rfl, i, rfl, true, rfl, iteT ⟨_, rfl, _, _, rfl, rfl, q⟩⟩
/-! is_list -/
def spIsList : Sp := fun vs H Q _ => ∃ a, vs = [.ref a] ∧ ((∃ xs, H a = some (.lst xs)) ∨ ∃ xs, H a = some (.tup xs)) ∧ ∀ H', Same H H' → Q (.bl true) H'
theorem ok_is_list (T : Tx K mg C fI) (D : DefAt K mg "is_list" sis_list) : Cal P w K mg base 1 "is_list" ["value"] spIsList := by
  refine Cal.mk D scis_list (fun _ _ _ _ _ _ us hl => match us, hl with | [_], _ => rfl) (fun vs H Q E h => ?_) ?_
  · obtain ⟨a, rfl, _⟩ := h
    rfl
  · rintro X cdv A outer f s H vs Q E rfl hr ⟨a, rfl, ha, q⟩
    refine ⟨_, pss_one (ps_ret (pe_callB call_isiT (by rfl) T.f_isinstance b_isinstance (pa_cons (pv 0) (pa_cons (pe_tup (pa_cons (pe_bltn (v := .ty "list") (by rfl) T.f_list b_list rfl) (pa_cons (pe_bltn (v := .ty "tuple") (by rfl) T.f_tuple b_tuple rfl) pa_nil))) pa_nil)))), ?_⟩
    refine ⟨_, rfl, by show 2 ≤ sizeLine; decide, fun p hp => ?_⟩
    have sm : Same H (upd H p (.tup [.ty "list", .ty "tuple"])) := fun b o e => by
      rw [upd_ne (ne_of_none e hp)]
      exact e
    rcases ha with ⟨xs, ha⟩ | ⟨xs, ha⟩
    · exact ⟨_, p, _, .type "list", _, true, rfl, upd_same, .cons (.ty _) (.cons (.ty _) .nil), .base (.lst (sm _ _ ha)), kitAny_cons (b := true) (kit_ty (by decide +kernel)) (fun z => by cases z) (fun _ => rfl), q _ sm⟩
    · refine ⟨_, p, _, .type "tuple", _, true, rfl, upd_same, .cons (.ty _) (.cons (.ty _) .nil), .base (.tup (sm _ _ ha)), kitAny_cons (b := false) (kit_ty (by decide +kernel)) (fun _ => ?_) (fun z => by cases z), q _ sm⟩
      exact kitAny_cons (b := true) (kit_ty (by decide +kernel)) (fun z => by cases z) (fun _ => rfl)
/-! is_worth -/
def spWorth : Sp := fun vs H Q _ => ∃ i, vs = [.int i] ∧ (0 ≤ i ∧ i ≤ 9) ∧ Q (.bl true) H
theorem ok_is_worth (T : Tx K mg C fI) (D : DefAt K mg "is_worth" sis_worth) (cI : Cal P w K mg base 1 "is_integer" ["value"] spInt) : Cal P w K mg base 2 "is_worth" ["value"] spWorth := by
  refine Cal.mk D scis_worth (fun _ _ _ _ _ _ us hl => match us, hl with | [_], _ => rfl) (fun vs H Q E h => ?_) ?_
  · obtain ⟨i, rfl, _⟩ := h
    rfl
  · rintro X cdv A outer f s H vs Q E rfl hr ⟨i, rfl, ⟨h1, h2⟩, q⟩
    obtain ⟨tN, hN⟩ := T.i_NOTICE
    refine ⟨_, pss_one (ps_ret (pe_and (pe_cal cI hr (by rfl) (pa_cons (pv 0) pa_nil)) (pe_one (pe_chain op_le op_le pe_int (pv 0) (pe_glob (v := .int 9) (by rfl) hN ⟨_, rfl⟩))))), ?_⟩
    refine ⟨_, rfl, i, rfl, true, rfl, iteT ⟨_, rfl, _, _, rfl, rfl, true, ?_, iteT ⟨_, _, rfl, rfl, ?_⟩⟩⟩
    · exact bl_true h1
    · exact q_true h2 q
/-! is_standing_of -/
def spStd : Sp := fun vs H Q _ => ∃ n i, vs = [.int n, .int i] ∧ (0 ≤ i ∧ i < n) ∧ Q (.bl true) H
theorem ok_is_standing_of (D : DefAt K mg "is_standing_of" sis_standing_of) (cI : Cal P w K mg base 1 "is_integer" ["value"] spInt) : Cal P w K mg base 2 "is_standing_of" ["standings", "value"] spStd := by
  refine Cal.mk D scis_standing_of (fun _ _ _ _ _ _ us hl => match us, hl with | [_, _], _ => rfl) (fun vs H Q E h => ?_) ?_
  · obtain ⟨n, i, rfl, _⟩ := h
    rfl
  · rintro X cdv A outer f s H vs Q E rfl hr ⟨n, i, rfl, ⟨h1, h2⟩, q⟩
    refine ⟨_, pss_one (ps_ret (pe_and (pe_cal cI hr (by rfl) (pa_cons (pv 1) pa_nil)) (pe_one (pe_chain op_le op_lt pe_int (pv 1) (pv 0))))), ?_⟩
    refine ⟨_, rfl, i, rfl, true, rfl, iteT ⟨_, rfl, _, _, rfl, rfl, true, ?_, iteT ⟨_, rfl, _, _, rfl, rfl, ?_⟩⟩⟩
    · exact bl_true h1
    · exact q_true h2 q
/-! want_at_most -/
def spMost : Sp := fun vs H Q _ => ∃ x a b, vs = [x, .int a, .int b] ∧ a ≤ b ∧ Q .non H
theorem ok_want_at_most (D : DefAt K mg "want_at_most" swant_at_most) : Cal P w K mg base 1 "want_at_most" ["what", "many", "limit"] spMost := by
  refine Cal.mk D scwant_at_most (fun _ _ _ _ _ _ us hl => match us, hl with | [_, _, _], _ => rfl) (fun vs H Q E h => ?_) ?_
  · obtain ⟨x, a, b, rfl, _⟩ := h
    rfl
  · rintro X cdv A outer f s H vs Q E rfl hr ⟨x, a, b, rfl, h1, q⟩
    refine ⟨_, pss_one (ps_if (pt_cmpR op_gt (pv 1) (pv 2) (nomark _)) (pss_one ps_never) pss_nil), ?_⟩
    refine ⟨_, rfl, _, rfl, _, _, rfl, rfl, _, rfl, ?_⟩
    have e : decide (b < a) = false := decide_eq_false (Int.not_lt.mpr h1)
    show if decide (b < a) = true then _ else _
    rw [e]
    exact iteF q
/-! is_number, want_standing, is_number_at -/
def spNumber (C : Addr) : Sp := fun vs H Q _ => ∃ m M i, vs = [m, .int i] ∧ MachAt C H m M ∧ (0 ≤ i ∧ i < M.rs.length) ∧ Q (.bl true) H
theorem ok_is_number (T : Tx K mg C fI) (D : DefAt K mg "is_number" sis_number) (cI : Cal P w K mg base 1 "is_integer" ["value"] spInt) : Cal P w K mg base 2 "is_number" ["machine", "value"] (spNumber C) := by
  refine Cal.mk D scis_number (fun _ _ _ _ _ _ us hl => match us, hl with | [_, _], _ => rfl) (fun vs H Q E h => ?_) ?_
  · obtain ⟨m, M, i, rfl, _⟩ := h
    rfl
  · rintro X cdv A outer f s H vs Q E rfl hr ⟨m, M, i, rfl, hM, ⟨h1, h2⟩, q⟩
    obtain ⟨p, dx, t1, t2, t4, rv, rfl, g0, g1, g2, g4, gr⟩ := hM
    refine ⟨_, pss_one (ps_ret (pe_and (pe_cal cI hr (by rfl) (pa_cons (pv 1) pa_nil)) (pe_one (pe_chain op_le op_lt pe_int (pv 1) (pe_callB call_len (by rfl) T.f_len b_len (pa_cons (pe_fld (pv 0) rfl) pa_nil)))))), ?_⟩
    refine ⟨_, rfl, i, rfl, true, rfl, iteT ⟨_, rfl, _, _, rfl, rfl, true, ?_, iteT ⟨_, rfl, p, C, dx, _, _, rfl, g0, T.cls, T.n_own_reactions, mf_rs _ _ _ _, _, rv.length, rfl, .inr ⟨_, SqT.of g4, rfl⟩, _, _, rfl, rfl, ?_⟩⟩⟩
    · exact bl_true h1
    · exact q_true (by rw [paired_len gr]; exact h2) q
def spWantStd (C : Addr) : Sp := fun vs H Q _ => ∃ m M i, vs = [m, .int i] ∧ MachAt C H m M ∧ (0 ≤ i ∧ i < M.n) ∧ Q .non H
theorem ok_want_standing (T : Tx K mg C fI) (D : DefAt K mg "want_standing" swant_standing) (cS : Cal P w K mg base 2 "is_standing_of" ["standings", "value"] spStd) : Cal P w K mg base 3 "want_standing" ["machine", "value"] (spWantStd C) := by
  refine Cal.mk D scwant_standing (fun _ _ _ _ _ _ us hl => match us, hl with | [_, _], _ => rfl) (fun vs H Q E h => ?_) ?_
  · obtain ⟨m, M, i, rfl, _⟩ := h
    rfl
  · rintro X cdv A outer f s H vs Q E rfl hr ⟨m, M, i, rfl, hM, hi, q⟩
    obtain ⟨p, dx, t1, t2, t4, rv, rfl, g0, g1, g2, g4, gr⟩ := hM
    refine ⟨_, pss_one (ps_if (pt_not (pt_val (pe_cal cS hr (by rfl) (pa_cons (pe_fld (pv 0) rfl) (pa_cons (pv 1) pa_nil))))) (pss_one ps_never) pss_nil), ?_⟩
    exact ⟨_, rfl, p, C, dx, _, _, rfl, g0, T.cls, T.n_own_standings, mf_st _ _ _ _, _, rfl, _, _, rfl, hi, true, rfl, iteF q⟩
def spNumAt (C : Addr) : Sp := fun vs H Q _ => ∃ (m : V) (M : Mx) (i : Nat) (r : Rx) (s : Int), vs = [m, .int s, .int i] ∧ MachAt C H m M ∧ M.rs[i]? = some r ∧ r.st = s ∧ Q (.bl true) H
theorem ok_is_number_at (T : Tx K mg C fI) (D : DefAt K mg "is_number_at" sis_number_at) (cN : Cal P w K mg base 2 "is_number" ["machine", "value"] (spNumber C)) : Cal P w K mg base 3 "is_number_at" ["machine", "standing", "value"] (spNumAt C) := by
  refine Cal.mk D scis_number_at (fun _ _ _ _ _ _ us hl => match us, hl with | [_, _, _], _ => rfl) (fun vs H Q E h => ?_) ?_
  · obtain ⟨m, M, i, r, s, rfl, _⟩ := h
    rfl
  · rintro X cdv A outer f s H vs Q E rfl hr ⟨m, M, i, r, st, rfl, hM, hi, hs, q⟩
    obtain ⟨p, dx, t1, t2, t4, rv, rfl, g0, g1, g2, g4, gr⟩ := id hM
    refine ⟨_, pss_one (ps_ret (pe_and (pe_cal cN hr (by rfl) (pa_cons (pv 0) (pa_cons (pv 2) pa_nil))) (pe_one (pe_cmpR op_eq (pe_ix ix_tup (pe_ix ix_tup (pe_fld (pv 0) rfl) (pv 2) (fun _ _ => rfl)) pe_int (fun _ _ => rfl)) (pv 1) (nomark _))))), ?_⟩
    have lt : i < M.rs.length := (List.getElem?_eq_some_iff.mp hi).1
    obtain ⟨x, hx, a, d1, d2, rfl, h1, h2, h3⟩ := paired_get' gr hi
    refine ⟨_, rfl, _, rfl, _, M, (i : Int), rfl, hM, ⟨by omega, by omega⟩, true, rfl, iteT ?_⟩
    refine ⟨_, rfl, p, C, dx, _, _, rfl, g0, T.cls, T.n_own_reactions, mf_rs _ _ _ _, _, rfl, t4, rv, (i : Int), _, rfl, rfl, SqT.of g4, atI_nat hx, a, _, 0, _, rfl, rfl, SqT.of h1, atI_nat (j := 0) rfl, _, rfl, rfl, ?_⟩
    exact q_true (by rw [hs]) q
end
end LB
set_option Elab.async false
set_option linter.all false
set_option maxRecDepth 100000
namespace LB
open PySem PySem.Spec PyProof.Rows L2 ClX
theorem sm_new {H : Hp} {p : Addr} {o : HO} (h : H p = none) : Same H (upd H p o) := fun b u e => by
  rw [upd_ne (ne_of_none e h)]
  exact e
/-- an object that H does not know may change -/
theorem sm_mut {H H' : Hp} {p : Addr} {o : HO} (e : Same H H') (h : H p = none) : Same H (upd H' p o) := fun b u hb => by
  rw [upd_ne (ne_of_none hb h)]
  exact e b u hb
theorem SqT.mono {K : PySem.W.Frag} {H H' : Hp} {a : Addr} {xs : List V} (e : Same H H') (h : SqT K H a xs) : SqT K H' a xs := by
  rcases h with (h | ⟨o, h⟩) | h
  · exact .inl (.inl (e _ _ h))
  · exact .inl (.inr ⟨o, e _ _ h⟩)
  · exact .inr h
/-! rules for within a comprehension: the written part told by name -/
section
variable {X : Cx}
theorem op_in_seqK (K : PySem.W.Frag) (hK : X.K = K := by rfl) : OpR X (compareOp .In) (rIn K false) := by
  subst hK
  exact op_in_seq
theorem call_isiKK (K : PySem.W.Frag) (hK : X.K = K := by rfl) : CallR X (.builtin "isinstance") (rIsi K) := by
  subst hK
  exact call_isi
theorem pe_fldK (K : PySem.W.Frag) {e : Expr} {f : Str} {pos : Pos} {ta : TE} (he : PE X e ta) (hb : attributeBase e f X.env (eval e X.env) = eval e X.env) (hK : X.K = K := by rfl) : PE X (.Attribute e f pos) (tFld K ta f) := by
  subst hK
  exact pe_fld he hb
theorem ix_listK (K : PySem.W.Frag) (hK : X.K = K := by rfl) : IxR X (rIxL K) := by
  subst hK
  exact ix_list
theorem ix_tupK (K : PySem.W.Frag) (hK : X.K = K := by rfl) : IxR X (rIxT K) := by
  subst hK
  exact ix_tup
theorem pg_tupK (K : PySem.W.Frag) {es : List Expr} {k : Nat} {t : TGs} {n : Nat} {pos : Pos} (hc : X.calm = true) (h : PGs X es t) (hn : (assignEach es X.env).length = n := by rfl) (hst : (assignEach es X.env).findIdx? (·.1) = none := by rfl)
    (hK : X.K = K := by rfl) : PG X (.Tuple es k pos) (gTup K n t) := by
  subst hK
  exact pg_tup hc h hn hst
theorem op_neNilK (K : PySem.W.Frag) (hu : X.A.units < cLine) (hK : X.K = K := by rfl) : OpR X (compareOp .NotEq) (rNeNil K) := by
  subst hK
  exact op_neNil hu
def rLenK (K : PySem.W.Frag) : List V → Hp → VK → Prop := fun xs H Q => ∃ p ys, xs = [.ref p] ∧ (SqL K H p ys ∨ SqT K H p ys) ∧ Q (.int ys.length) H
theorem call_len_seqK (K : PySem.W.Frag) (hK : X.K = K := by rfl) : CallR X (.builtin "len") (rLenK K) := by
  subst hK
  exact call_len_seq
end
/-- so many times True -/
def AllT (n : Nat) : List V := (List.replicate n true).map V.bl
theorem allT_succ (n : Nat) : AllT (n + 1) = AllT n ++ [.bl true] := by
  unfold AllT
  rw [List.replicate_succ', List.map_append]
  rfl
theorem allT_all (n : Nat) : (List.replicate n true).all id = true := by
  rw [List.all_eq_true]
  intro b hb
  rw [List.eq_of_mem_replicate hb]
  rfl
theorem allT_len (n : Nat) : (AllT n).length = n := by simp [AllT]
/-- a comprehension whose elements are all True: where it stands at turn i -/
def PAll (H1 : Hp) (D : Addr) (i : Nat) (H : Hp) : Prop := Same H1 H ∧ H D = some (.lst (AllT i))
theorem pall_0 {H1 : Hp} {D : Addr} (h : H1 D = none) : PAll H1 D 0 (upd H1 D (.lst [])) := ⟨sm_new h, upd_same⟩
theorem pall_step {H1 H H' : Hp} {D : Addr} {i n : Nat} (h : PAll H1 D i H) (hD : H1 D = none) (e : Same H H') (hi : i < n) (hn : n ≤ sizeLine) : ∃ acc, H' D = some (.lst acc) ∧ acc.length < sizeLine ∧ PAll H1 D (i + 1) (upd H' D (.lst (acc ++ [.bl true]))) :=
  ⟨AllT i, e _ _ h.2, by rw [allT_len]; omega, sm_mut (h.1.trans e) hD, by rw [upd_same, allT_succ]⟩
theorem yesT {σ : L2.St} {H : Hp} {A B : Hp → Prop} (h : A H) : tYes σ H (fun b H3 => if b = true then A H3 else B H3) := iteT (A := A H) (B := B H) h
/-! is_name -/
def letters : Str := "abcdefghijklmnopqrstuvwxyz"
def NameOk (z : Str) : Prop := (1 ≤ z.length ∧ z.length ≤ 8) ∧ ∀ c ∈ z.cps.toList, c ∈ letters.cps.toList
def spName : Sp := fun vs H Q _ => ∃ z, vs = [.str z] ∧ NameOk z ∧ ∀ H', Same H H' → Q (.bl true) H'
section
variable {P : Program} {w : World} {K : PySem.W.Frag} {mg : Str → Option Value} {base : Heap} {C fI : Addr}
theorem ok_is_name (T : Tx K mg C fI) (D : DefAt K mg "is_name" sis_name) : Cal P w K mg base 1 "is_name" ["value"] spName := by
  refine Cal.mk D scis_name (fun _ _ _ _ _ _ us hl => match us, hl with | [_], _ => rfl) (fun vs H Q E h => ?_) ?_
  · obtain ⟨i, rfl, _⟩ := h
    rfl
  · rintro X cdv A outer f s H vs Q E rfl hr ⟨z, rfl, ⟨⟨n1, n2⟩, hz⟩, q⟩
    obtain ⟨t8, h8⟩ := T.i_LONGEST_NAME
    obtain ⟨tl, hl⟩ := T.letters
    refine ⟨_, pss_cons (ps_if (PW.pt (pw_or (pt_not (pt_val (pe_callB call_isi (by rfl) T.f_isinstance b_isinstance (pa_cons (pv 0) (pa_cons (pe_bltn (v := .ty "str") (by rfl) T.f_str b_str rfl) pa_nil)))))
        (pw_or1 (pt_not (pt_chain op_le op_le pe_int (pe_callB call_len_str (by rfl) T.f_len b_len (pa_cons (pv 0) pa_nil)) (pe_glob (v := .int 8) (by rfl) h8 ⟨_, rfl⟩)))))) (pss_one (ps_ret pe_bl)) pss_nil)
      (pss_one (ps_ret (pe_callB (cr_all rfl) (by rfl) T.f_all b_all (pa_cons (pe_lc (own := [("sign", 1)]) (g := gName 1) (tt := tYes) rfl scis_name.nd (pi_str (pv 0)) (blkOk_by (N := Nis_name) (sc := defScope sis_name) (by decide +kernel))
        (fun _ _ _ _ _ => pg_name (i := 1) scis_name.nd rfl (Or.inl rfl)) (fun _ _ _ _ _ => pts_nil) (fun _ _ _ _ _ => pe_cmpR op_in_sign (pv 1) (pe_glob (v := .str letters) (by rfl) hl ⟨_, rfl⟩) (by rfl))) pa_nil)))), ?_⟩
    refine ⟨_, rfl, _, _, _, _, true, rfl, .ty _, .base (.str _), kit_ty (by decide +kernel), true, rfl, ?_⟩
    refine iteF ?_
    have hs : z.length ≤ sizeLine := Nat.le_trans n2 (by decide)
    refine ⟨_, rfl, z, rfl, hs, _, _, rfl, rfl, true, bl_true (by omega), iteT ⟨_, _, rfl, rfl, ?_⟩⟩
    refine ⟨true, bl_true (by omega), iteF ?_⟩
    refine ⟨_, rfl, z, rfl, fun D hD => lc_it walk_str (PAll H D) (pall_0 hD) (fun _ _ _ _ => trivial) ?_ ?_⟩
    · rintro i x H1 H2 hi hp ⟨rfl, c, hc, rfl⟩
      refine ⟨rfl, ?_⟩
      refine yesT ?_
      refine ⟨_, rfl, c, letters, rfl, rfl, ?_⟩
      have hm : c ∈ letters.cps.toList := hz c (by
        rw [Array.mem_toList_iff]
        exact Array.mem_of_getElem? hc)
      exact q_true (Q := fun y H4 => ∃ acc, H4 D = some (.lst acc) ∧ acc.length < sizeLine ∧ PAll H D (i + 1) (upd H4 D (.lst (acc ++ [y])))) hm (pall_step hp hD (Same.refl _) hi hs)
    · intro H1 hp
      refine ⟨D, List.replicate _ true, rfl, SqL.of hp.2, ?_⟩
      rw [allT_all]
      exact q _ hp.1
end
end LB
set_option Elab.async false
set_option linter.all false
set_option maxRecDepth 100000
namespace LB
open PySem PySem.Spec PyProof.Rows L2 ClX
theorem sm_unlock {H H' : Hp} {d : Addr} {u : HO} {o : Obj} (hd : H d = some u) (e : Same (upd H d (.frz o u)) H') : Same H (upd H' d u) := fun b v hb => by
  by_cases z : b = d
  · subst z
    rw [hd] at hb
    cases hb
    exact upd_same
  · rw [upd_ne z]
    exact e b v (by rw [upd_ne z]; exact hb)
theorem dg_ws {H : Hp} {a : Addr} {ws : Ws} {z : Str} (r : Rd H a (.dK (kvsOf ws))) : DGet H a (.str z) ((wsGet ws z).map V.int) := .inl ⟨kvsOf ws, .inr z, r, rfl, (valV_kvsOf ws z).symm⟩
theorem flat_strs (ns : List Str) : (ns.map V.str).all flatV = true := by
  rw [List.all_map, List.all_eq_true]
  intro x _
  rfl
theorem inV_strs (z : Str) (ns : List Str) : inV (.str z) (ns.map V.str) = decide (z ∈ ns) := by
  unfold inV
  rw [Bool.eq_iff_iff, List.any_eq_true, decide_eq_true_iff]
  constructor
  · rintro ⟨x, hx, e⟩
    obtain ⟨y, hy, rfl⟩ := List.mem_map.mp hx
    have e2 : (y == z) = true := e
    rw [← eq_of_beq e2]
    exact hy
  · intro h
    exact ⟨.str z, List.mem_map.mpr ⟨z, h, rfl⟩, (show (z == z) = true from beq_self_eq_true z)⟩
def WsOk (ns : List Str) (ws : Ws) : Prop := (∀ p ∈ ws, p.1 ∈ ns ∧ 0 ≤ p.2 ∧ p.2 ≤ 9) ∧ (ws.map (·.1)).Nodup ∧ ws.length ≤ 1000
section
variable {P : Program} {w : World} {K : PySem.W.Frag} {mg : Str → Option Value} {base : Heap} {C fI : Addr}
/-! are_worths_on -/
def spWorths (K : PySem.W.Frag) : Sp := fun vs H Q _ => ∃ l d ns ws, vs = [.ref l, .ref d] ∧ SqL K H l (ns.map V.str) ∧ H d = some (.dK (kvsOf ws)) ∧ WsOk ns ws ∧ ∀ H', Same H H' → Q (.bl true) H'
theorem ok_are_worths_on (T : Tx K mg C fI) (D : DefAt K mg "are_worths_on" sare_worths_on) (cW : Cal P w K mg base 2 "is_worth" ["value"] spWorth) : Cal P w K mg base 3 "are_worths_on" ["lines", "value"] (spWorths K) := by
  refine Cal.mk D scare_worths_on (fun _ _ _ _ _ _ us hl => match us, hl with | [_, _], _ => rfl) (fun vs H Q E h => ?_) ?_
  · obtain ⟨l, d, ns, ws, rfl, _⟩ := h
    rfl
  · rintro X cdv A outer f s H vs Q E rfl hr ⟨l, d, ns, ws, rfl, hl, hd, ⟨hw, nd, hz⟩, q⟩
    have hu := hu_of hr
    refine ⟨_, pss_cons (ps_if (pt_not (pt_val (pe_callB call_isi (by rfl) T.f_isinstance b_isinstance (pa_cons (pv 1) (pa_cons (pe_bltn (v := .ty "dict") (by rfl) T.f_dict b_dict rfl) pa_nil))))) (pss_one (ps_ret pe_bl)) pss_nil)
      (pss_one (ps_ret (pe_callB (cr_all rfl) (by rfl) T.f_all b_all (pa_cons (pe_lock (pe_lc (own := [("line", 2)]) (g := gName 2) (tt := tYes) rfl scare_worths_on.nd (pi_keys (pv 1)) (blkOk_by (N := Nare_worths_on) (sc := defScope sare_worths_on) (by decide +kernel))
        (fun _ _ _ _ _ => pg_name (i := 2) scare_worths_on.nd rfl (Or.inl rfl)) (fun _ _ _ _ _ => pts_nil)
        (fun _ _ _ _ _ => pe_and (pe_callB (call_isiKK K) (by rfl) T.f_isinstance b_isinstance (pa_cons (pv 2) (pa_cons (pe_bltn (v := .ty "str") (by rfl) T.f_str b_str rfl) pa_nil)))
          (pe_and (pe_cmpR (op_in_seqK K) (pv 2) (pv 0) (by rfl)) (pe_one (pe_cal cW hr (by rfl) (pa_cons (pe_dget hu (pv 1) (pv 2) (fun _ _ => rfl)) pa_nil))))))) pa_nil)))), ?_⟩
    refine ⟨_, rfl, _, _, _, _, true, rfl, .ty _, .base (.dK hd), kit_ty (by decide +kernel), true, rfl, iteF ?_⟩
    refine ⟨d, _, hd, trivial, fun od => ⟨_, rfl, d, od, rfl, .inl ⟨_, upd_same, fun D hD => ?_⟩⟩⟩
    have hl0 : SqL K (upd H d (.frz od (.dK (kvsOf ws)))) l (ns.map V.str) := by
      rcases hl with (h | ⟨o, h⟩) | h
      · exact .inl (.inl (by rw [upd_ne (ne_of h hd (by intro z; cases z))]; exact h))
      · exact .inl (.inr ⟨o, by rw [upd_ne (ne_of h hd (by intro z; cases z))]; exact h⟩)
      · exact .inr h
    refine lc_it walk_keys (PAll (upd H d (.frz od (.dK (kvsOf ws)))) D) (pall_0 hD) (fun i H1 _ hp => hp.1 _ _ upd_same) ?_ ?_
    · rintro i x H1 H2 hi hp ⟨rfl, k, v, hk, rfl⟩
      unfold kvsOf at hk hi
      rw [List.getElem?_map] at hk
      rw [List.length_map] at hi
      obtain ⟨p, hp2, hp3⟩ := Option.map_eq_some_iff.mp hk
      cases hp3
      obtain ⟨w1, w2, w3⟩ := hw p (List.mem_of_getElem? hp2)
      have hg : wsGet ws p.1 = some p.2 := wsGet_mem nd (List.mem_of_getElem? hp2)
      refine ⟨rfl, ?_⟩
      refine yesT ?_
      refine ⟨_, rfl, _, _, _, _, true, rfl, .ty _, .base (.str _), kit_ty (by decide +kernel), true, rfl, ?_⟩
      refine iteT ?_
      refine ⟨_, rfl, _, rfl, l, _, rfl, .inl (hp.1.seq hl0), rfl, flat_strs _, true, ?_, ?_⟩
      · show V.bl (inV (.str p.1) (ns.map V.str)) = _
        rw [inV_strs, decide_eq_true w1]
      · refine iteT ?_
        refine ⟨_, rfl, _, rfl, d, .int p.2, rfl, ?_, p.2, rfl, ⟨w2, w3⟩, ?_⟩
        · have := dg_ws (z := p.1) (.inr ⟨od, hp.1 _ _ upd_same⟩ : Rd H2 d (.dK (kvsOf ws)))
          rw [hg] at this
          exact this
        · exact pall_step hp hD (Same.refl _) hi (Nat.le_trans hz (by decide))
    · intro H1 hp
      have sm := sm_unlock hd hp.1
      refine ⟨hp.1 _ _ upd_same, D, List.replicate (kvsOf ws).length true, rfl, SqL.of ?_, ?_⟩
      · rw [upd_ne]
        · exact hp.2
        · intro z
          rw [z, upd_same] at hD
          cases hD
      · rw [allT_all]
        exact q _ sm
/-! is_reaction -/
def RxOk (ins outs : List Str) (n : Int) (r : Rx) : Prop := (0 ≤ r.st ∧ r.st < n) ∧ (0 ≤ r.nx ∧ r.nx < n) ∧ (WsOk ins r.tk ∧ r.tk ≠ []) ∧ WsOk outs r.gv
theorem RxOk.once {ins outs : List Str} {n : Int} {r : Rx} (h : RxOk ins outs n r) : r.Once := ⟨h.2.2.1.1.2.1, h.2.2.2.2.1⟩
def spRx (K : PySem.W.Frag) : Sp := fun vs H Q _ => ∃ li lo ins outs n v r, vs = [.ref li, .ref lo, .int n, v] ∧ SqL K H li (ins.map V.str) ∧ SqL K H lo (outs.map V.str) ∧ RxAt H v r ∧ RxOk ins outs n r ∧ ∀ H', Same H H' → Q (.bl true) H'
theorem ok_is_reaction (T : Tx K mg C fI) (D : DefAt K mg "is_reaction" sis_reaction) (cS : Cal P w K mg base 2 "is_standing_of" ["standings", "value"] spStd) (cW : Cal P w K mg base 3 "are_worths_on" ["lines", "value"] (spWorths K)) :
    Cal P w K mg base 4 "is_reaction" ["ins", "outs", "standings", "value"] (spRx K) := by
  refine Cal.mk D scis_reaction (fun _ _ _ _ _ _ us hl => match us, hl with | [_, _, _, _], _ => rfl) (fun vs H Q E h => ?_) ?_
  · obtain ⟨li, lo, ins, outs, n, v, r, rfl, _⟩ := h
    rfl
  · rintro X cdv A outer f s H vs Q E rfl hr ⟨li, lo, ins, outs, n, v, r, rfl, hli, hlo, hv, ⟨o1, o2, ⟨o3, o4⟩, o5⟩, q⟩
    obtain ⟨a, d1, d2, rfl, h1, h2, h3⟩ := hv
    have hr2 : Room 2 _ := hr.mono (by decide)
    refine ⟨_, pss_cons (ps_if (PW.pt (pw_or (pt_not (pt_val (pe_callB call_isi (by rfl) T.f_isinstance b_isinstance (pa_cons (pv 3) (pa_cons (pe_bltn (v := .ty "tuple") (by rfl) T.f_tuple b_tuple rfl) pa_nil)))))
        (pw_or1 (pt_cmpR op_ne (pe_callB call_len_seq (by rfl) T.f_len b_len (pa_cons (pv 3) pa_nil)) pe_int (nomark _))))) (pss_one (ps_ret pe_bl)) pss_nil)
      (pss_cons (ps_asg (pv 3) (pg_tup rfl (pgs_cons (pg_name (i := 4) scis_reaction.nd rfl (Or.inl rfl)) (pgs_cons (pg_name (i := 5) scis_reaction.nd rfl (Or.inl rfl)) (pgs_cons (pg_name (i := 6) scis_reaction.nd rfl (Or.inl rfl)) (pgs_cons (pg_name (i := 7) scis_reaction.nd rfl (Or.inl rfl)) pgs_nil))))))
      (pss_cons (ps_if (PW.pt (pw_or (pt_not (pt_val (pe_cal cS hr2 (by rfl) (pa_cons (pv 2) (pa_cons (pv 4) pa_nil))))) (pw_or1 (pt_not (pt_val (pe_cal cS hr2 (by rfl) (pa_cons (pv 2) (pa_cons (pv 7) pa_nil)))))))) (pss_one (ps_ret pe_bl)) pss_nil)
      (pss_one (ps_ret (pe_and (pe_cal cW hr (by rfl) (pa_cons (pv 0) (pa_cons (pv 5) pa_nil))) (pe_and (pe_cmpR (op_neNilD hr.units0) (pv 5) pe_dnewK (nomark _)) (pe_one (pe_cal cW hr (by rfl) (pa_cons (pv 1) (pa_cons (pv 6) pa_nil)))))))))), ?_⟩
    refine ⟨_, rfl, _, _, _, _, true, rfl, .ty _, .base (.tup h1), kit_ty (by decide +kernel), true, rfl, ?_⟩
    refine iteF ?_
    refine ⟨_, rfl, a, _, rfl, .inr (SqT.of h1), rfl, false, rfl, ?_⟩
    refine iteF ?_
    refine ⟨_, rfl, a, _, rfl, SqT.of h1, rfl, _, _, rfl, _, _, rfl, _, _, rfl, _, _, rfl, rfl, ?_⟩
    refine ⟨_, rfl, _, rfl, n, r.st, rfl, o1, true, rfl, ?_⟩
    refine iteF ?_
    refine ⟨_, rfl, _, rfl, n, r.nx, rfl, o2, true, rfl, ?_⟩
    refine iteF ?_
    refine ⟨_, rfl, _, rfl, li, d1, ins, r.tk, rfl, hli, h2, o3, fun H1 s1 => ⟨true, rfl, ?_⟩⟩
    refine iteT ?_
    refine ⟨_, rfl, fun e he => ?_⟩
    have s2 : Same H (upd H1 e (.dK [])) := s1.trans (sm_new he)
    refine ⟨d1, e, kvsOf r.tk, rfl, rfl, s2 _ _ h2, upd_same, true, ?_, ?_⟩
    · cases ht : r.tk with
      | nil => exact absurd ht o4
      | cons p t => rfl
    · refine iteT ?_
      exact ⟨_, rfl, _, rfl, lo, d2, outs, r.gv, rfl, s2.seq hlo, s2 _ _ h3, o5, fun H2 s3 => q _ (s2.trans s3)⟩
end
end LB
set_option Elab.async false
set_option linter.all false
set_option maxRecDepth 100000
namespace LB
open PySem PySem.Spec PyProof.Rows L2 ClX
/-- a dict comprehension over any walk -/
theorem dc_it {J : It} {n : Nat} {G : Hp → Prop} {Y : Nat → Hp → V → Hp → Prop} (w : Walk J n G Y) {g : TG} {tt : TT} {tk tv : TE} {vs : List Nat} {σ : L2.St} {H1 : Hp} {D : Addr} {Qd : Hp → Prop} (Pv : Nat → Hp → Prop) (h0 : Pv 0 (upd H1 D (.dK [])))
    (hG : ∀ i H, i ≤ n → Pv i H → G H)
    (hs : ∀ i x H H', i < n → Pv i H → Y i H x H' → g x (wipe σ vs) H' fun σ2 H2 => wipe σ2 vs = wipe σ vs ∧ tt σ2 H2 fun b H3 =>
      if b = true then tk σ2 H3 fun y H4 => tv σ2 H4 fun z H5 => ∃ kvs k, y = kV k ∧ H5 D = some (.dK kvs) ∧ kvs.length < sizeLine ∧ Pv (i + 1) (upd H5 D (.dK (putK kvs k z))) else Pv (i + 1) H3)
    (hd : ∀ H, Pv n H → Qd H) :
    ∃ W : Nat → Nat → Hp → Prop, (∃ m, W 0 m (upd H1 D (.dK []))) ∧ ∀ i m H, W i m H → (J.stop i H ∧ Qd H) ∨ (J.go i H ∧ ∃ Nx : Hp → Prop, (∀ H', Nx H' → ∃ m', m' < m ∧ W (i + 1) m' H') ∧ ∀ x H', J.yld i H x H' → g x (wipe σ vs) H' fun σ2 H2 =>
        wipe σ2 vs = wipe σ vs ∧ tt σ2 H2 fun b H3 => if b = true then tk σ2 H3 fun y H4 => tv σ2 H4 fun z H5 => ∃ kvs k, y = kV k ∧ H5 D = some (.dK kvs) ∧ kvs.length < sizeLine ∧ Nx (upd H5 D (.dK (putK kvs k z))) else Nx H3) := by
  refine ⟨fun i m H => m = n - i ∧ i ≤ n ∧ Pv i H, ⟨n, by simp, Nat.zero_le _, h0⟩, ?_⟩
  rintro i m H ⟨rfl, hi, p⟩
  have q := hG i H hi p
  rcases Nat.lt_or_ge i n with lt | ge
  · exact .inr ⟨w.goes i H lt q, Pv (i + 1), fun H' p' => ⟨n - (i + 1), by omega, rfl, lt, p'⟩, fun x H' y => hs i x H H' lt p (w.yields i H x H' lt q y)⟩
  · obtain rfl : i = n := Nat.le_antisymm hi ge
    exact .inl ⟨w.stops H q, hd H p⟩
/-! ### a dict's lines in a sequence -/
def ordW : List Str → Ws → Ws
  | [], _ => []
  | z :: r, ws => (match wsGet ws z with | some v => [(z, v)] | none => []) ++ ordW r ws
theorem ordW_append (ws : Ws) : ∀ a b : List Str, ordW (a ++ b) ws = ordW a ws ++ ordW b ws
  | [], _ => rfl
  | z :: a, b => by
    show _ ++ ordW (a ++ b) ws = _ ++ ordW a ws ++ ordW b ws
    rw [ordW_append ws a b, List.append_assoc]
theorem wsGet_cons (p : Str × Int) (r : Ws) (k : Str) : wsGet (p :: r) k = if p.1 = k then some p.2 else wsGet r k := rfl
theorem wsGet_append {a b : Ws} {z : Str} : wsGet (a ++ b) z = (match wsGet a z with | some v => some v | none => wsGet b z) := by
  induction a with
  | nil => rfl
  | cons p r ih =>
    show wsGet (p :: (r ++ b)) z = _
    rw [wsGet_cons, wsGet_cons]
    by_cases e : p.1 = z
    · rw [if_pos e, if_pos e]
    · rw [if_neg e, if_neg e]
      exact ih
theorem wsGet_ordW (ws : Ws) (z : Str) : ∀ l : List Str, wsGet (ordW l ws) z = if z ∈ l then wsGet ws z else none
  | [] => by simp [ordW, wsGet]
  | y :: l => by
    unfold ordW
    rw [wsGet_append, wsGet_ordW ws z l]
    by_cases e : y = z
    · subst e
      cases h : wsGet ws y with
      | none => simp [wsGet, h]
      | some v => simp [wsGet]
    · have e2 : z ≠ y := fun q => e q.symm
      cases h : wsGet ws y with
      | none => simp [wsGet, e2]
      | some v => simp [wsGet, e, e2]
theorem ordW_len (ws : Ws) : ∀ l : List Str, (ordW l ws).length ≤ l.length
  | [] => Nat.le_refl _
  | z :: l => by
    unfold ordW
    have := ordW_len ws l
    rw [List.length_append, List.length_cons]
    cases wsGet ws z with
    | none => simp; omega
    | some v => simp; omega
theorem ordW_mem {ws : Ws} {p : Str × Int} : ∀ {l : List Str}, p ∈ ordW l ws → p.1 ∈ l ∧ wsGet ws p.1 = some p.2
  | [], h => by cases h
  | z :: l, h => by
    unfold ordW at h
    rcases List.mem_append.mp h with h | h
    · cases e : wsGet ws z with
      | none => rw [e] at h; cases h
      | some v =>
        rw [e] at h
        have e2 := List.mem_singleton.mp h
        subst e2
        exact ⟨List.mem_cons_self, e⟩
    · obtain ⟨h1, h2⟩ := ordW_mem h
      exact ⟨List.mem_cons_of_mem _ h1, h2⟩
theorem ordW_nodup {ws : Ws} : ∀ {l : List Str}, l.Nodup → ((ordW l ws).map (·.1)).Nodup
  | [], _ => List.nodup_nil
  | z :: l, h => by
    obtain ⟨h1, h2⟩ := List.nodup_cons.mp h
    unfold ordW
    rw [List.map_append]
    cases wsGet ws z with
    | none => exact ordW_nodup h2
    | some v =>
      show (z :: (ordW l ws).map (·.1)).Nodup
      refine List.nodup_cons.mpr ⟨fun m => ?_, ordW_nodup h2⟩
      obtain ⟨p, hp, e⟩ := List.mem_map.mp m
      exact h1 (e ▸ (ordW_mem hp).1)
theorem kvsOf_append (a b : Ws) : kvsOf (a ++ b) = kvsOf a ++ kvsOf b := by
  unfold kvsOf
  rw [List.map_append]
theorem putK_ws {a : Ws} {z : Str} {v : Int} (h : wsGet a z = none) : putK (kvsOf a) (Sum.inr z : Key) (V.int v) = kvsOf (a ++ [(z, v)]) := by
  rw [putK_new _ (by rw [valV_kvsOf, h]; rfl), kvsOf_append]
  rfl
def ordR (ins outs : List Str) (r : Rx) : Rx := ⟨r.st, ordW ins r.tk, ordW outs r.gv, r.nx⟩
section
variable {P : Program} {w : World} {K : PySem.W.Frag} {mg : Str → Option Value} {base : Heap} {C fI : Addr}
/-! ordered -/
def spOrd (K : PySem.W.Frag) : Sp := fun vs H Q _ => ∃ l d ns ws, vs = [.ref l, .ref d] ∧ SqL K H l (ns.map V.str) ∧ (ns.Nodup ∧ ns.length ≤ 1000) ∧ H d = some (.dK (kvsOf ws)) ∧
  ∀ p H', Same H H' → H p = none → H' p = some (.dK (kvsOf (ordW ns ws))) → Q (.ref p) H'
theorem ok_ordered (D : DefAt K mg "ordered" sordered) : Cal P w K mg base 1 "ordered" ["lines", "worths"] (spOrd K) := by
  refine Cal.mk D scordered (fun _ _ _ _ _ _ us hl => match us, hl with | [_, _], _ => rfl) (fun vs H Q E h => ?_) ?_
  · obtain ⟨l, d, ns, ws, rfl, _⟩ := h
    rfl
  · rintro X cdv A outer f s H vs Q E rfl hr ⟨l, d, ns, ws, rfl, hl, ⟨nd, hz⟩, hd, q⟩
    have hu := hu_of hr
    refine ⟨_, pss_one (ps_ret (pe_dc (own := [("line", 2)]) (g := gName 2) rfl scordered.nd (pi_list (pv 0)) (blkOk_by (N := Nordered) (sc := defScope sordered) (by decide +kernel))
      (fun _ _ _ _ _ => pg_name (i := 2) scordered.nd rfl (Or.inl rfl)) (fun _ _ _ _ _ => pts_one (pt_cmp (pc_din hu (pv 2) (pv 1))))
      (fun _ _ _ _ _ => pv 2) (fun _ _ _ _ _ => pe_dget hu (pv 1) (pv 2) (fun _ _ => rfl)))), ?_⟩
    refine ⟨_, rfl, l, rfl, ⟨_, hl⟩, fun D hD => ?_⟩
    refine dc_it (walk_list (K := K) (a := l) (xs := ns.map V.str)) (fun i H' => Same H H' ∧ H' D = some (.dK (kvsOf (ordW (ns.take i) ws)))) ⟨sm_new hD, upd_same⟩ (fun i H1 _ hp => hp.1.seq hl) ?_ ?_
    · rintro i x H1 H2 hi ⟨sm, hp⟩ ⟨rfl, hx⟩
      rw [List.getElem?_map] at hx
      obtain ⟨z, hz1, rfl⟩ := Option.map_eq_some_iff.mp hx
      have lt : i < ns.length := (List.getElem?_eq_some_iff.mp hz1).1
      have tk : ns.take (i + 1) = ns.take i ++ [z] := by
        rw [List.take_succ_eq_append_getElem lt, (List.getElem?_eq_some_iff.mp hz1).2]
      have nz : z ∉ ns.take i := by
        intro m
        obtain ⟨j, hj⟩ := List.mem_iff_getElem?.mp m
        rw [List.getElem?_take] at hj
        split at hj
        · rename_i hlt
          have := nd_ix nd hj hz1
          omega
        · cases hj
      have hd1 := sm _ _ hd
      have g := dg_ws (z := z) (.inl hd1 : Rd H2 d (.dK (kvsOf ws)))
      refine ⟨rfl, ?_⟩
      refine ⟨_, rfl, _, rfl, d, _, rfl, g, _, rfl, ?_⟩
      cases hw : wsGet ws z with
      | none =>
        refine iteF ?_
        refine ⟨sm, ?_⟩
        rw [hp, tk, ordW_append]
        simp [ordW, hw]
      | some v =>
        refine iteT ?_
        rw [hw] at g
        refine ⟨_, rfl, _, rfl, _, rfl, d, _, rfl, g, _, Sum.inr z, rfl, hp, ?_, sm_mut sm hD, ?_⟩
        · rw [kvsOf_len]
          have := ordW_len ws (ns.take i)
          rw [List.length_take] at this
          exact small1000 (by omega)
        · rw [upd_same, putK_ws (by rw [wsGet_ordW, if_neg nz]), tk, ordW_append]
          simp [ordW, hw]
    · rintro H1 ⟨sm, hp⟩
      rw [List.length_map, List.take_length] at hp
      exact q D H1 sm hD hp
end
end LB
set_option Elab.async false
set_option linter.all false
set_option maxRecDepth 100000
namespace LB
open PySem PySem.Spec PyProof.Rows L2 ClX
theorem cut_take (xs : List V) (i : Nat) (h : i ≤ xs.length) : cutV xs none (some (i : Int)) = xs.take i := by
  have e1 : HT.sIx xs.length 0 none = 0 := rfl
  have e2 : HT.sIx xs.length xs.length (some (i : Int)) = i := by
    rw [HT.sIx_nat]
    exact Nat.min_eq_left h
  unfold cutV
  rw [e1, e2]
  simp
theorem map_at {α : Type} {f : α → V} {l : List α} {i : Nat} {x : V} (h : (l.map f)[i]? = some x) : ∃ z, l[i]? = some z ∧ x = f z := by
  rw [List.getElem?_map] at h
  obtain ⟨z, h1, h2⟩ := Option.map_eq_some_iff.mp h
  exact ⟨z, h1, h2.symm⟩
section
variable {P : Program} {w : World} {K : PySem.W.Frag} {mg : Str → Option Value} {base : Heap} {C fI : Addr}
/-! kept -/
def spKept (K : PySem.W.Frag) : Sp := fun vs H Q _ => ∃ li lo v ins outs r, vs = [.ref li, .ref lo, v] ∧ (SqL K H li (ins.map V.str) ∧ ins.Nodup ∧ ins.length ≤ 1000) ∧ (SqL K H lo (outs.map V.str) ∧ outs.Nodup ∧ outs.length ≤ 1000) ∧ RxAt H v r ∧
  ∀ v' H', Same H H' → RxAt H' v' (ordR ins outs r) → Q v' H'
theorem ok_kept (D : DefAt K mg "kept" skept) (cO : Cal P w K mg base 1 "ordered" ["lines", "worths"] (spOrd K)) : Cal P w K mg base 2 "kept" ["ins", "outs", "reaction"] (spKept K) := by
  refine Cal.mk D sckept (fun _ _ _ _ _ _ us hl => match us, hl with | [_, _, _], _ => rfl) (fun vs H Q E h => ?_) ?_
  · obtain ⟨li, lo, v, ins, outs, r, rfl, _⟩ := h
    rfl
  · rintro X cdv A outer f s H vs Q E rfl hr ⟨li, lo, v, ins, outs, r, rfl, ⟨hi, ni, zi⟩, ⟨ho, no, zo⟩, hv, q⟩
    obtain ⟨a, d1, d2, rfl, h1, h2, h3⟩ := hv
    refine ⟨_, pss_cons (ps_asg (pv 2) (pg_tup rfl (pgs_cons (pg_name (i := 3) sckept.nd rfl (Or.inl rfl)) (pgs_cons (pg_name (i := 4) sckept.nd rfl (Or.inl rfl)) (pgs_cons (pg_name (i := 5) sckept.nd rfl (Or.inl rfl)) (pgs_cons (pg_name (i := 6) sckept.nd rfl (Or.inl rfl)) pgs_nil))))))
      (pss_one (ps_ret (pe_tup (pa_cons (pv 3) (pa_cons (pe_cal cO hr (by rfl) (pa_cons (pv 0) (pa_cons (pv 4) pa_nil))) (pa_cons (pe_cal cO hr (by rfl) (pa_cons (pv 1) (pa_cons (pv 5) pa_nil))) (pa_cons (pv 6) pa_nil))))))), ?_⟩
    refine ⟨_, rfl, a, _, rfl, SqT.of h1, rfl, _, _, rfl, _, _, rfl, _, _, rfl, _, _, rfl, rfl, ?_⟩
    refine ⟨_, rfl, _, rfl, _, rfl, li, d1, ins, r.tk, rfl, hi, ⟨ni, zi⟩, h2, fun p1 H1 s1 n1 e1 => ?_⟩
    refine ⟨_, rfl, _, rfl, lo, d2, outs, r.gv, rfl, s1.seq ho, ⟨no, zo⟩, s1 _ _ h3, fun p2 H2 s2 n2 e2 => ?_⟩
    refine ⟨_, rfl, by show 4 ≤ sizeLine; decide, fun p hp => ?_⟩
    have s3 : Same H2 (upd H2 p (.tup [.int r.st, .ref p1, .ref p2, .int r.nx])) := sm_new hp
    exact q _ _ ((s1.trans s2).trans s3) ⟨p, p1, p2, rfl, upd_same, s3 _ _ (s2 _ _ e1), s3 _ _ e2⟩
/-! want_ins, want_outs -/
def InsOk (ns : List Str) : Prop := (∀ z ∈ ns, NameOk z) ∧ ns.Nodup
def spIns : Sp := fun vs H Q _ => ∃ l ns, vs = [.ref l] ∧ H l = some (.lst (ns.map V.str)) ∧ InsOk ns ∧ (ns ≠ [] ∧ ns.length ≤ 4) ∧ ∀ H', Same H H' → Q .non H'
theorem notin_take {ns : List Str} {i : Nat} {z : Str} (nd : ns.Nodup) (h : ns[i]? = some z) : z ∉ ns.take i := by
  intro m
  obtain ⟨j, hj⟩ := List.mem_iff_getElem?.mp m
  rw [List.getElem?_take] at hj
  split at hj
  · rename_i hlt
    have := nd_ix nd hj h
    omega
  · cases hj
theorem ok_want_ins (T : Tx K mg C fI) (D : DefAt K mg "want_ins" swant_ins) (cL : Cal P w K mg base 1 "is_list" ["value"] spIsList) (cN : Cal P w K mg base 1 "is_name" ["value"] spName) : Cal P w K mg base 2 "want_ins" ["ins"] spIns := by
  refine Cal.mk D scwant_ins (fun _ _ _ _ _ _ us hl => match us, hl with | [_], _ => rfl) (fun vs H Q E h => ?_) ?_
  · obtain ⟨l, ns, rfl, _⟩ := h
    rfl
  · rintro X cdv A outer f s H vs Q E rfl hr ⟨l, ns, rfl, hl, ⟨ok, nd⟩, ⟨ne, le⟩, q⟩
    obtain ⟨t4, h4⟩ := T.i_MOST_INS
    refine ⟨_, pss_cons (ps_if (PW.pt (pw_or (pt_not (pt_val (pe_cal cL hr (by rfl) (pa_cons (pv 0) pa_nil)))) (pw_or1 (pt_cmpR op_eq (pe_callB call_len_seq (by rfl) T.f_len b_len (pa_cons (pv 0) pa_nil)) pe_int (nomark _))))) (pss_one ps_never) pss_nil)
      (pss_cons (ps_for PassesOwn.never rfl (pi_enum (by rfl) T.f_enumerate (pa_cons (pv 0) pa_nil)) (pg_tup rfl (pgs_cons (pg_name (i := 1) scwant_ins.nd rfl (Or.inl rfl)) (pgs_cons (pg_name (i := 2) scwant_ins.nd rfl (Or.inl rfl)) pgs_nil)))
        (pss_one (ps_if (PW.pt (pw_or (pt_not (pt_val (pe_cal cN hr (by rfl) (pa_cons (pv 2) pa_nil)))) (pw_or1 (pt_cmpR op_in_seq (pv 2) (pe_slice sl_list (pv 0) po_none (po_some (pv 1))) (by rfl))))) (pss_one ps_never) pss_nil)))
      (pss_one (ps_if (pt_cmpR op_gt (pe_callB call_len_seq (by rfl) T.f_len b_len (pa_cons (pv 0) pa_nil)) (pe_glob (v := .int 4) (by rfl) h4 ⟨_, rfl⟩) (nomark _)) (pss_one ps_never) pss_nil))), ?_⟩
    refine ⟨_, rfl, l, rfl, .inl ⟨_, hl⟩, fun H1 s1 => ⟨true, rfl, ?_⟩⟩
    refine iteF ?_
    refine ⟨_, rfl, l, _, rfl, .inl (SqL.of (s1 _ _ hl)), rfl, false, ?_, ?_⟩
    · have : ns.length ≠ 0 := fun z => ne (List.length_eq_zero_iff.mp z)
      exact congrArg V.bl (decide_eq_false (by rw [List.length_map]; intro z; injection z with z; omega))
    refine iteF ?_
    refine ⟨_, rfl, l, ns.map V.str, rfl, SqL.of (s1 _ _ hl), ?_⟩
    refine for_it (walk_enum (K := K) (a := l) (xs := ns.map V.str)) (fun i σ H' => Same H H' ∧ ∃ a b, σ = [some (.ref l), a, b]) ⟨s1, _, _, rfl⟩ (fun i σ H' _ hp => SqL.of (hp.1 _ _ hl)) ?_ ?_
    · rintro i x σ H1 H2 hi ⟨sm, a, b, rfl⟩ ⟨t, x1, x2, rfl, ht, rfl, e1, e2⟩
      cases e1
      obtain ⟨z, hz, rfl⟩ := map_at e2
      have lt : i < ns.length := (List.getElem?_eq_some_iff.mp hz).1
      have s2 := sm.trans (sm_new (o := .tup [.int (i : Nat), .str z]) ht)
      refine ⟨t, _, rfl, SqT.of upd_same, rfl, _, _, rfl, _, _, rfl, rfl, ?_⟩
      refine ⟨_, rfl, z, rfl, ok z (List.mem_of_getElem? hz), fun H3 s3 => ⟨true, rfl, ?_⟩⟩
      refine iteF ?_
      refine ⟨_, rfl, _, rfl, _, rfl, _, rfl, l, ns.map V.str, rfl, SqL.of ((s2.trans s3) _ _ hl), fun p hp => ?_⟩
      rw [cut_take _ _ (by rw [List.length_map]; omega), ← List.map_take]
      refine ⟨p, _, rfl, .inl (SqL.of upd_same), rfl, flat_strs _, false, ?_, ?_⟩
      · show V.bl (inV (.str z) ((ns.take i).map V.str)) = _
        rw [inV_strs, decide_eq_false (notin_take nd hz)]
      refine iteF ?_
      exact ⟨(s2.trans s3).trans (sm_new hp), _, _, rfl⟩
    · rintro σ H1 ⟨sm, a, b, rfl⟩
      refine ⟨_, rfl, l, _, rfl, .inl (SqL.of (sm _ _ hl)), _, _, rfl, rfl, false, ?_, ?_⟩
      · exact congrArg V.bl (decide_eq_false (by rw [List.length_map]; omega))
      refine iteF ?_
      exact q _ sm
end
end LB
set_option Elab.async false
set_option linter.all false
set_option maxRecDepth 100000
namespace LB
open PySem PySem.Spec PyProof.Rows L2 ClX
theorem room65 {k : Nat} {A : Around} (r : Room k A) : A.units + 65 < cLine := by
  have := r.un
  omega
section
variable {P : Program} {w : World} {K : PySem.W.Frag} {mg : Str → Option Value} {base : Heap} {C fI : Addr}
def spOuts : Sp := fun vs H Q _ => ∃ (li lo : Addr) (ins outs : List Str), vs = [.ref li, .ref lo] ∧ H li = some (.lst (ins.map V.str)) ∧ H lo = some (.lst (outs.map V.str)) ∧ InsOk outs ∧ outs.length ≤ 3 ∧ (∀ z ∈ outs, z ∉ ins) ∧ ∀ H', Same H H' → Q .non H'
theorem ok_want_outs (T : Tx K mg C fI) (D : DefAt K mg "want_outs" swant_outs) (cL : Cal P w K mg base 1 "is_list" ["value"] spIsList) (cN : Cal P w K mg base 1 "is_name" ["value"] spName) : Cal P w K mg base 2 "want_outs" ["ins", "outs"] spOuts := by
  refine Cal.mk D scwant_outs (fun _ _ _ _ _ _ us hl => match us, hl with | [_, _], _ => rfl) (fun vs H Q E h => ?_) ?_
  · obtain ⟨li, lo, ins, outs, rfl, _⟩ := h
    rfl
  · rintro X cdv A outer f s H vs Q E rfl hr ⟨li, l, ins, ns, rfl, hli, hl, ⟨ok, nd⟩, le, dj, q⟩
    obtain ⟨t4, h4⟩ := T.i_MOST_OUTS
    refine ⟨_, pss_cons (ps_if (pt_not (pt_val (pe_cal cL hr (by rfl) (pa_cons (pv 1) pa_nil)))) (pss_one ps_never) pss_nil)
      (pss_cons (ps_for PassesOwn.never rfl (pi_enum (by rfl) T.f_enumerate (pa_cons (pv 1) pa_nil)) (pg_tup rfl (pgs_cons (pg_name (i := 2) scwant_outs.nd rfl (Or.inl rfl)) (pgs_cons (pg_name (i := 3) scwant_outs.nd rfl (Or.inl rfl)) pgs_nil)))
        (pss_one (ps_if (PW.pt (pw_or (pt_not (pt_val (pe_cal cN hr (by rfl) (pa_cons (pv 3) pa_nil)))) (pw_or (pt_cmpR op_in_seq (pv 3) (pe_slice sl_list (pv 1) po_none (po_some (pv 2))) (by rfl)) (pw_or1 (pt_cmpR op_in_seq (pv 3) (pv 0) (by rfl)))))) (pss_one ps_never) pss_nil)))
      (pss_one (ps_if (pt_cmpR op_gt (pe_callB call_len_seq (by rfl) T.f_len b_len (pa_cons (pv 1) pa_nil)) (pe_glob (v := .int 3) (by rfl) h4 ⟨_, rfl⟩) (nomark _)) (pss_one ps_never) pss_nil))), ?_⟩
    refine ⟨_, rfl, l, rfl, .inl ⟨_, hl⟩, fun H1 s1 => ⟨true, rfl, ?_⟩⟩
    refine iteF ?_
    refine ⟨_, rfl, l, ns.map V.str, rfl, SqL.of (s1 _ _ hl), ?_⟩
    refine for_it (walk_enum (K := K) (a := l) (xs := ns.map V.str)) (fun i σ H' => Same H H' ∧ ∃ a b, σ = [some (.ref li), some (.ref l), a, b]) ⟨s1, _, _, rfl⟩ (fun i σ H' _ hp => SqL.of (hp.1 _ _ hl)) ?_ ?_
    · rintro i x σ H1 H2 hi ⟨sm, a, b, rfl⟩ ⟨t, x1, x2, rfl, ht, rfl, e1, e2⟩
      cases e1
      obtain ⟨z, hz, rfl⟩ := map_at e2
      have lt : i < ns.length := (List.getElem?_eq_some_iff.mp hz).1
      have s2 := sm.trans (sm_new (o := .tup [.int (i : Nat), .str z]) ht)
      refine ⟨t, _, rfl, SqT.of upd_same, rfl, _, _, rfl, _, _, rfl, rfl, ?_⟩
      refine ⟨_, rfl, z, rfl, ok z (List.mem_of_getElem? hz), fun H3 s3 => ⟨true, rfl, ?_⟩⟩
      refine iteF ?_
      refine ⟨_, rfl, _, rfl, _, rfl, _, rfl, l, ns.map V.str, rfl, SqL.of ((s2.trans s3) _ _ hl), fun p hp => ?_⟩
      rw [cut_take _ _ (by rw [List.length_map]; omega), ← List.map_take]
      refine ⟨p, _, rfl, .inl (SqL.of upd_same), rfl, flat_strs _, false, ?_, ?_⟩
      · show V.bl (inV (.str z) ((ns.take i).map V.str)) = _
        rw [inV_strs, decide_eq_false (notin_take nd hz)]
      refine iteF ?_
      have s4 := (s2.trans s3).trans (sm_new (o := .lst ((ns.take i).map V.str)) hp)
      refine ⟨_, rfl, _, rfl, li, _, rfl, .inl (SqL.of (s4 _ _ hli)), rfl, flat_strs _, false, ?_, ?_⟩
      · show V.bl (inV (.str z) (ins.map V.str)) = _
        rw [inV_strs, decide_eq_false (dj z (List.mem_of_getElem? hz))]
      refine iteF ?_
      exact ⟨s4, _, _, rfl⟩
    · rintro σ H1 ⟨sm, a, b, rfl⟩
      refine ⟨_, rfl, l, _, rfl, .inl (SqL.of (sm _ _ hl)), _, _, rfl, rfl, false, ?_, ?_⟩
      · exact congrArg V.bl (decide_eq_false (by rw [List.length_map]; omega))
      refine iteF ?_
      exact q _ sm
/-! want_reactions -/
def Distinct (rs : List Rx) : Prop := ∀ (i : Nat) (r : Rx), rs[i]? = some r → ((rs.take i).any fun q => rxEq q r) = false
def spRxs : Sp := fun vs H Q _ => ∃ (li lo lr : Addr) (ins outs : List Str) (n : Int) (rv : List V) (rs : List Rx), vs = [.ref li, .ref lo, .int n, .ref lr] ∧ H li = some (.lst (ins.map V.str)) ∧ H lo = some (.lst (outs.map V.str)) ∧ H lr = some (.lst rv) ∧ RxsAt H rv rs ∧
  (∀ r ∈ rs, RxOk ins outs n r) ∧ Distinct rs ∧ rs.length ≤ 40 ∧ ∀ H', Same H H' → Q .non H'
theorem ok_want_reactions (T : Tx K mg C fI) (D : DefAt K mg "want_reactions" swant_reactions) (cL : Cal P w K mg base 1 "is_list" ["value"] spIsList) (cR : Cal P w K mg base 4 "is_reaction" ["ins", "outs", "standings", "value"] (spRx K)) :
    Cal P w K mg base 5 "want_reactions" ["ins", "outs", "standings", "reactions"] spRxs := by
  refine Cal.mk D scwant_reactions (fun _ _ _ _ _ _ us hl => match us, hl with | [_, _, _, _], _ => rfl) (fun vs H Q E h => ?_) ?_
  · obtain ⟨li, lo, lr, ins, outs, n, rv, rs, rfl, _⟩ := h
    rfl
  · rintro X cdv A outer f s H vs Q E rfl hr ⟨li, lo, lr, ins, outs, n, rv, rs, rfl, hli, hlo, hlr, hrs, ok, ds, le, q⟩
    obtain ⟨tv, hv⟩ := T.cvl
    refine ⟨_, pss_cons (ps_if (pt_not (pt_val (pe_cal cL (hr.mono (by decide)) (by rfl) (pa_cons (pv 3) pa_nil)))) (pss_one ps_never) pss_nil)
      (pss_cons (ps_for PassesOwn.never rfl (pi_enum (by rfl) T.f_enumerate (pa_cons (pv 3) pa_nil)) (pg_tup rfl (pgs_cons (pg_name (i := 4) scwant_reactions.nd rfl (Or.inl rfl)) (pgs_cons (pg_name (i := 5) scwant_reactions.nd rfl (Or.inl rfl)) pgs_nil)))
        (pss_one (ps_if (PW.pt (pw_or (pt_not (pt_val (pe_cal cR hr (by rfl) (pa_cons (pv 0) (pa_cons (pv 1) (pa_cons (pv 2) (pa_cons (pv 5) pa_nil))))))) (pw_or1 (pt_cmpR (op_inRx (room65 hr)) (pv 5) (pe_slice sl_list (pv 3) po_none (po_some (pv 4))) (by rfl))))) (pss_one ps_never) pss_nil)))
      (pss_one (ps_if (pt_cmpR op_gt (pe_callB call_len_seq (by rfl) T.f_len b_len (pa_cons (pv 3) pa_nil)) (pe_cval (pe_glob (v := .ref C) (by rfl) T.gC rfl)) (nomark _)) (pss_one ps_never) pss_nil))), ?_⟩
    refine ⟨_, rfl, lr, rfl, .inl ⟨_, hlr⟩, fun H1 s1 => ⟨true, rfl, ?_⟩⟩
    refine iteF ?_
    refine ⟨_, rfl, lr, rv, rfl, SqL.of (s1 _ _ hlr), ?_⟩
    refine for_it (walk_enum (K := K) (a := lr) (xs := rv)) (fun i σ H' => Same H H' ∧ ∃ a b, σ = [some (.ref li), some (.ref lo), some (.int n), some (.ref lr), a, b]) ⟨s1, _, _, rfl⟩ (fun i σ H' _ hp => SqL.of (hp.1 _ _ hlr)) ?_ ?_
    · rintro i x σ H1 H2 hi ⟨sm, a, b, rfl⟩ ⟨t, x1, x2, rfl, ht, rfl, e1, e2⟩
      cases e1
      have e2 : rv[i]? = some x2 := e2
      obtain ⟨r, hri, hrx⟩ := paired_get hrs e2
      have s2 := sm.trans (sm_new (o := .tup [.int (i : Nat), x2]) ht)
      refine ⟨t, _, rfl, SqT.of upd_same, rfl, _, _, rfl, _, _, rfl, rfl, ?_⟩
      refine ⟨_, rfl, _, rfl, _, rfl, _, rfl, li, lo, ins, outs, n, x2, r, rfl, SqL.of (s2 _ _ hli), SqL.of (s2 _ _ hlo), hrx.mono s2, ok r (List.mem_of_getElem? hri), fun H3 s3 => ⟨true, rfl, ?_⟩⟩
      refine iteF ?_
      refine ⟨_, rfl, _, rfl, _, rfl, _, rfl, lr, rv, rfl, SqL.of ((s2.trans s3) _ _ hlr), fun p hp => ?_⟩
      rw [cut_take _ _ (by omega)]
      have s4 := (s2.trans s3).trans (sm_new (o := .lst (rv.take i)) hp)
      refine ⟨p, rv.take i, rs.take i, r, rfl, upd_same, paired_take i (hrs.mono s4), hrx.mono s4, fun q hq => (ok q (List.mem_of_mem_take hq)).once, false, ?_, ?_⟩
      · show V.bl ((rs.take i).any fun q => rxEq q r) = _
        rw [ds i r hri]
      refine iteF ?_
      exact ⟨s4, _, _, rfl⟩
    · rintro σ H1 ⟨sm, a, b, rfl⟩
      refine ⟨_, rfl, lr, _, rfl, .inl (SqL.of (sm _ _ hlr)), C, _, _, _, rfl, T.crd, hv, _, _, rfl, rfl, false, ?_, ?_⟩
      · exact congrArg V.bl (decide_eq_false (by rw [paired_len hrs]; omega))
      refine iteF ?_
      exact q _ sm
end
end LB
set_option Elab.async false
set_option linter.all false
set_option maxRecDepth 100000
namespace LB
open PySem PySem.Spec PyProof.Rows L2 ClX
section
variable {P : Program} {w : World} {K : PySem.W.Frag} {mg : Str → Option Value} {base : Heap} {C fI : Addr}
/-! Machine.__init__ -/
/-- all but p is as it was -/
def Bx (p : Addr) (H H' : Hp) : Prop := ∀ b o, b ≠ p → H b = some o → H' b = some o
theorem Bx.of {p : Addr} {H H' : Hp} (e : Same H H') : Bx p H H' := fun b o _ h => e b o h
theorem Bx.trans {p : Addr} {H H1 H2 : Hp} (a : Bx p H H1) (b : Bx p H1 H2) : Bx p H H2 := fun c o n h => b c o n (a c o n h)
theorem Bx.put {p : Addr} {H : Hp} {o : HO} : Bx p H (upd H p o) := fun b u n h => by
  rw [upd_ne n]
  exact h
theorem putF1 (f : Str) (v : V) : (putF f v []).length < 1000 := Nat.lt_of_le_of_lt (putF_len f v []) (by decide)
theorem putF2 (f g : Str) (v u : V) : (putF f v (putF g u [])).length < 1000 := by
  have h1 := putF_len f v (putF g u [])
  have h2 := putF_len g u []
  simp only [List.length_nil] at h2
  omega
theorem putF3 (f g i : Str) (v u t : V) : (putF f v (putF g u (putF i t []))).length < 1000 := by
  have h1 := putF_len f v (putF g u (putF i t []))
  have h2 := putF_len g u (putF i t [])
  have h3 := putF_len i t []
  simp only [List.length_nil] at h3
  omega
/-- what a machine is made of -/
structure Made (ins outs : List Str) (n : Int) (rs : List Rx) : Prop where
  io : InsOk ins
  i4 : ins ≠ [] ∧ ins.length ≤ 4
  oo : InsOk outs
  o3 : outs.length ≤ 3
  dj : ∀ z ∈ outs, z ∉ ins
  sz : 1 ≤ n ∧ n ≤ 12
  ok : ∀ r ∈ rs, RxOk ins outs n r
  ds : Distinct rs
  le : rs.length ≤ 40
def spInit (C : Addr) : Sp := fun vs H Q _ => ∃ (p dx li lo lr : Addr) (ins outs : List Str) (n : Int) (rv : List V) (rs : List Rx), vs = [.ref p, .ref li, .ref lo, .int n, .ref lr] ∧ H p = some (.ins C dx []) ∧
  H li = some (.lst (ins.map V.str)) ∧ H lo = some (.lst (outs.map V.str)) ∧ H lr = some (.lst rv) ∧ RxsAt H rv rs ∧ Made ins outs n rs ∧
  ∀ H', (∀ b o, b ≠ p → H b = some o → H' b = some o) → MachAt C H' (.ref p) ⟨ins, outs, n, rs.map (ordR ins outs)⟩ → Q .non H'
theorem ok_init {fd : FuncData} (T : Tx K mg C fI) (F : FnP K "__init__" "Machine.__init__" s__init__ fI fd) (cI : Cal P w K mg base 1 "is_integer" ["value"] spInt) (cW : Cal P w K mg base 2 "want_ins" ["ins"] spIns) (cO : Cal P w K mg base 2 "want_outs" ["ins", "outs"] spOuts)
    (cR : Cal P w K mg base 5 "want_reactions" ["ins", "outs", "standings", "reactions"] spRxs) (cK : Cal P w K mg base 2 "kept" ["ins", "outs", "reaction"] (spKept K)) :
    FnOk P w K mg base CX0 6 fI fd ["self", "ins", "outs", "standings", "reactions"] (spInit C) := by
  refine F.ok sc__init__ (fun vs H Q E h => ?_) (fun cdv A outer s H vs Q E hr h => ?_)
  · obtain ⟨p, dx, li, lo, lr, ins, outs, n, rv, rs, rfl, _⟩ := h
    rfl
  · obtain ⟨p, dx, li, lo, lr, ins, outs, n, rv, rs, rfl, hp, hli, hlo, hlr, hrs, M, q⟩ := h
    obtain ⟨tc, hc⟩ := T.con
    have hr1 := hr.mono (show 1 ≤ 5 by decide)
    have hr2 := hr.mono (show 2 ≤ 5 by decide)
    refine ⟨_, PSs.nox (pss_cons (ps_expr (pe_cal cW hr2 (by rfl) (pa_cons (pv 1) pa_nil)))
      (pss_cons (ps_expr (pe_cal cO hr2 (by rfl) (pa_cons (pv 1) (pa_cons (pv 2) pa_nil))))
      (pss_cons (ps_if (PW.pt (pw_or (pt_not (pt_val (pe_cal cI hr1 (by rfl) (pa_cons (pv 3) pa_nil)))) (pw_or1 (pt_not (pt_chain op_le op_le pe_int (pv 3) (pe_con (pv 0) rfl)))))) (pss_one ps_never) pss_nil)
      (pss_cons (ps_expr (pe_cal cR hr (by rfl) (pa_cons (pv 1) (pa_cons (pv 2) (pa_cons (pv 3) (pa_cons (pv 4) pa_nil))))))
      (pss_cons (ps_fld (pv 0) (pe_callTy call_tuple_of (by rfl) T.f_tuple b_tuple (pa_cons (pv 1) pa_nil)) rfl)
      (pss_cons (ps_fld (pv 0) (pe_callTy call_tuple_of (by rfl) T.f_tuple b_tuple (pa_cons (pv 2) pa_nil)) rfl)
      (pss_cons (ps_fld (pv 0) (pv 3) rfl)
      (pss_one (ps_fld (pv 0) (pe_callTy call_tuple_of (by rfl) T.f_tuple b_tuple (pa_cons (pe_lc (own := [("reaction", 5)]) (g := gName 5) (tt := tYes) rfl sc__init__.nd (pi_list (pv 4)) (blkOk_by (N := N__init__) (sc := defScope s__init__) (by decide +kernel))
        (fun _ _ _ _ _ => pg_name (i := 5) sc__init__.nd rfl (Or.inl rfl)) (fun _ _ _ _ _ => pts_nil) (fun _ _ _ _ _ => pe_cal cK hr2 (by rfl) (pa_cons (pv 1) (pa_cons (pv 2) (pa_cons (pv 5) pa_nil))))) pa_nil)) rfl)))))))))
      , ?_⟩
    refine ⟨_, rfl, li, ins, rfl, hli, M.io, M.i4, fun H1 s1 => ?_⟩
    refine ⟨_, rfl, _, rfl, li, lo, ins, outs, rfl, s1 _ _ hli, s1 _ _ hlo, M.oo, M.o3, M.dj, fun H2 s2 => ?_⟩
    have e2 := s1.trans s2
    refine ⟨_, rfl, n, rfl, true, rfl, ?_⟩
    refine iteF ?_
    refine ⟨_, rfl, _, _, rfl, rfl, true, bl_true M.sz.1, ?_⟩
    refine iteT ?_
    refine ⟨_, rfl, p, C, dx, _, _, _, rfl, e2 _ _ hp, T.cls, hc, rfl, _, _, rfl, rfl, true, bl_true M.sz.2, ?_⟩
    refine iteF ?_
    refine ⟨_, rfl, _, rfl, _, rfl, _, rfl, li, lo, lr, ins, outs, n, rv, rs, rfl, e2 _ _ hli, e2 _ _ hlo, e2 _ _ hlr, hrs.mono e2, M.ok, M.ds, M.le, fun H3 s3 => ?_⟩
    have e3 := e2.trans s3
    -- the fields
    refine ⟨_, rfl, li, _, rfl, .inl ⟨SqL.of (e3 _ _ hli), fun t1 n1 => ?_⟩⟩
    have e4 := e3.trans (sm_new (o := .tup (ins.map V.str)) n1)
    refine ⟨_, rfl, p, C, dx, _, rfl, e4 _ _ hp, T.cls, T.n_own_ins, by decide, ?_⟩
    have pt1 : t1 ≠ p := fun z => by
      rw [z] at n1
      rw [e3 _ _ hp] at n1
      cases n1
    have nlo : lo ≠ p := ne_of hlo hp (by intro z; cases z)
    have nlr : lr ≠ p := ne_of hlr hp (by intro z; cases z)
    have nli : li ≠ p := ne_of hli hp (by intro z; cases z)
    have b5 : Bx p H (upd (upd H3 t1 (.tup (ins.map V.str))) p (.ins C dx (putF "own_ins" (.ref t1) []))) := (Bx.of e4).trans Bx.put
    have h5t : (upd (upd H3 t1 (.tup (ins.map V.str))) p (.ins C dx (putF "own_ins" (.ref t1) []))) t1 = some (.tup (ins.map V.str)) := by rw [upd_ne pt1, upd_same]
    have h5p : (upd (upd H3 t1 (.tup (ins.map V.str))) p (.ins C dx (putF "own_ins" (.ref t1) []))) p = some (.ins C dx (putF "own_ins" (.ref t1) [])) := upd_same
    revert b5 h5t h5p
    generalize upd (upd H3 t1 (.tup (ins.map V.str))) p (.ins C dx (putF "own_ins" (.ref t1) [])) = H5
    intro b5 h5t h5p
    refine ⟨_, rfl, lo, _, rfl, .inl ⟨SqL.of (b5 _ _ nlo hlo), fun t2 n2 => ?_⟩⟩
    have e6 := sm_new (o := .tup (outs.map V.str)) n2
    have pt2 : t2 ≠ p := fun z => by
      rw [z] at n2
      rw [h5p] at n2
      cases n2
    refine ⟨_, rfl, p, C, dx, _, rfl, e6 _ _ h5p, T.cls, T.n_own_outs, putF1 _ _, ?_⟩
    have b7 := b5.trans ((Bx.of (p := p) e6).trans (Bx.put (o := .ins C dx (putF "own_outs" (.ref t2) (putF "own_ins" (.ref t1) [])))))
    have h7t1 := ((Bx.of (p := p) e6).trans (Bx.put (o := .ins C dx (putF "own_outs" (.ref t2) (putF "own_ins" (.ref t1) []))))) _ _ pt1 h5t
    have h7t2 : (upd (upd H5 t2 (.tup (outs.map V.str))) p (.ins C dx (putF "own_outs" (.ref t2) (putF "own_ins" (.ref t1) [])))) t2 = some (.tup (outs.map V.str)) := by rw [upd_ne pt2, upd_same]
    have h7p : (upd (upd H5 t2 (.tup (outs.map V.str))) p (.ins C dx (putF "own_outs" (.ref t2) (putF "own_ins" (.ref t1) [])))) p = some (.ins C dx (putF "own_outs" (.ref t2) (putF "own_ins" (.ref t1) []))) := upd_same
    revert b7 h7t1 h7t2 h7p
    generalize upd (upd H5 t2 (.tup (outs.map V.str))) p (.ins C dx (putF "own_outs" (.ref t2) (putF "own_ins" (.ref t1) []))) = H7
    intro b7 h7t1 h7t2 h7p
    refine ⟨_, rfl, _, rfl, p, C, dx, _, rfl, h7p, T.cls, T.n_own_standings, putF2 _ _ _ _, ?_⟩
    have b8 := b7.trans (Bx.put (o := .ins C dx (putF "own_standings" (.int n) (putF "own_outs" (.ref t2) (putF "own_ins" (.ref t1) [])))))
    have h8t1 := Bx.put (o := .ins C dx (putF "own_standings" (.int n) (putF "own_outs" (.ref t2) (putF "own_ins" (.ref t1) [])))) _ _ pt1 h7t1
    have h8t2 := Bx.put (o := .ins C dx (putF "own_standings" (.int n) (putF "own_outs" (.ref t2) (putF "own_ins" (.ref t1) [])))) _ _ pt2 h7t2
    have h8p : (upd H7 p (.ins C dx (putF "own_standings" (.int n) (putF "own_outs" (.ref t2) (putF "own_ins" (.ref t1) []))))) p = some (.ins C dx (putF "own_standings" (.int n) (putF "own_outs" (.ref t2) (putF "own_ins" (.ref t1) [])))) := upd_same
    revert b8 h8t1 h8t2 h8p
    generalize upd H7 p (.ins C dx (putF "own_standings" (.int n) (putF "own_outs" (.ref t2) (putF "own_ins" (.ref t1) [])))) = H8
    intro b8 h8t1 h8t2 h8p
    -- the reactions
    refine ⟨_, rfl, lr, rfl, ⟨_, SqL.of (b8 _ _ nlr hlr)⟩, fun D hD => ?_⟩
    have rx8 : RxsAt H8 rv rs := paired_mono hrs fun v r ⟨a, d1, d2, e, g1, g2, g3⟩ => ⟨a, d1, d2, e, b8 _ _ (ne_of g1 hp (by intro z; cases z)) g1, b8 _ _ (ne_of g2 hp (by intro z; cases z)) g2, b8 _ _ (ne_of g3 hp (by intro z; cases z)) g3⟩
    refine lc_it (walk_list (K := K) (a := lr) (xs := rv)) (fun i H' => Same H8 H' ∧ ∃ acc, H' D = some (.lst acc) ∧ RxsAt H' acc ((rs.take i).map (ordR ins outs))) ⟨sm_new hD, [], upd_same, .nil⟩ (fun i H' _ hp => SqL.of (hp.1 _ _ (b8 _ _ nlr hlr))) ?_ ?_
    · rintro i x H9 H10 hi ⟨sm, acc, ha, hr⟩ ⟨rfl, hx⟩
      obtain ⟨r, hri, hrx⟩ := paired_get rx8 hx
      have lt : i < rs.length := (List.getElem?_eq_some_iff.mp hri).1
      have mk := M.ok r (List.mem_of_getElem? hri)
      refine ⟨rfl, ?_⟩
      refine yesT ?_
      refine ⟨_, rfl, _, rfl, _, rfl, li, lo, x, ins, outs, r, rfl, ⟨SqL.of (sm _ _ (b8 _ _ nli hli)), M.io.2, ?_⟩, ⟨SqL.of (sm _ _ (b8 _ _ nlo hlo)), M.oo.2, ?_⟩, hrx.mono sm, fun v' H11 s11 hv' => ?_⟩
      · have := M.i4.2
        omega
      · have := M.o3
        omega
      · refine ⟨acc, s11 _ _ ha, ?_, sm_mut (sm.trans s11) hD, acc ++ [v'], upd_same, ?_⟩
        · rw [paired_len hr, List.length_map, List.length_take]
          exact small1000 (by have := M.le; omega)
        · rw [List.take_succ_eq_append_getElem lt, (List.getElem?_eq_some_iff.mp hri).2, List.map_append]
          have dne : ∀ {b : Addr} {o : HO}, H11 b = some o → (∀ xs, o ≠ .lst xs) → (upd H11 D (.lst (acc ++ [v']))) b = some o := fun {b o} e ne => by
            rw [upd_ne]
            · exact e
            · intro z
              rw [z, s11 _ _ ha] at e
              exact ne _ (Option.some.inj e).symm
          have up : ∀ v r, RxAt H11 v r → RxAt (upd H11 D (.lst (acc ++ [v']))) v r := fun v r ⟨a, d1, d2, e, g1, g2, g3⟩ => ⟨a, d1, d2, e, dne g1 (fun xs z => by cases z), dne g2 (fun xs z => by cases z), dne g3 (fun xs z => by cases z)⟩
          exact paired_snoc (up _ _ hv') (paired_mono (hr.mono s11) up)
    · rintro H9 ⟨sm, acc, ha, hr⟩
      rw [paired_len hrs, List.take_length] at hr
      refine ⟨D, acc, rfl, .inl ⟨SqL.of ha, fun t4 n4 => ?_⟩⟩
      have e10 := sm.trans (sm_new (o := .tup acc) n4)
      refine ⟨_, rfl, p, C, dx, _, rfl, e10 _ _ h8p, T.cls, T.n_own_reactions, putF3 _ _ _ _ _ _, ?_⟩
      have pt4 : t4 ≠ p := fun z => by
        rw [z, sm _ _ h8p] at n4
        cases n4
      have b11 : Bx p H8 (upd (upd H9 t4 (.tup acc)) p (.ins C dx (mflds t1 t2 n t4))) := (Bx.of e10).trans Bx.put
      have b12 : Bx p H9 (upd (upd H9 t4 (.tup acc)) p (.ins C dx (mflds t1 t2 n t4))) := (Bx.of (sm_new n4)).trans Bx.put
      refine q _ (b8.trans b11) ⟨p, dx, t1, t2, t4, acc, rfl, upd_same, b11 _ _ pt1 h8t1, b11 _ _ pt2 h8t2, ?_, ?_⟩
      · show (upd (upd H9 t4 (.tup acc)) p (.ins C dx (mflds t1 t2 n t4))) t4 = _
        rw [upd_ne pt4, upd_same]
      · exact paired_mono hr fun v r ⟨a, d1, d2, e, g1, g2, g3⟩ => ⟨a, d1, d2, e, b12 _ _ (ne_of g1 (sm _ _ h8p) (by intro z; cases z)) g1, b12 _ _ (ne_of g2 (sm _ _ h8p) (by intro z; cases z)) g2, b12 _ _ (ne_of g3 (sm _ _ h8p) (by intro z; cases z)) g3⟩
end
end LB
set_option Elab.async false
set_option linter.all false
set_option maxRecDepth 100000
namespace LB
open PySem PySem.Spec PyProof.Rows L2 ClX
theorem walk_enumT {K : PySem.W.Frag} {a : Addr} {xs : List V} : Walk (IteT K a) xs.length (fun H => SqT K H a xs) (YPair (fun i => some (.int (i : Nat))) (fun i => xs[i]?)) :=
  ⟨fun i _ hi q => ⟨xs, xs[i], q, by simp [hi]⟩, fun _ q => ⟨xs, q, rfl⟩, fun _ _ _ _ _ q ⟨T, x, e1, e2, e3, e4⟩ => ⟨T, _, x, e1, e2, e3, rfl, e4 xs q⟩⟩
/-! ### the numbers of a standing's reactions -/
def isAt (rs : List Rx) (s : Int) (i : Nat) : Bool := match rs[i]? with
  | some r => decide (r.st = s)
  | none => false
def numsAt (rs : List Rx) (s : Int) : List Nat := (List.range rs.length).filter (isAt rs s)
theorem range_filter_succ (p : Nat → Bool) (n : Nat) : (List.range (n + 1)).filter p = (List.range n).filter p ++ (if p n = true then [n] else []) := by
  rw [List.range_succ, List.filter_append]
  congr 1
  by_cases h : p n = true
  · simp [h]
  · simp [h]
section
variable {P : Program} {w : World} {K : PySem.W.Frag} {mg : Str → Option Value} {base : Heap} {C fI : Addr}
def spNums (C : Addr) : Sp := fun vs H Q _ => ∃ (m : V) (M : Mx) (s : Int), vs = [m, .int s] ∧ MachAt C H m M ∧ M.rs.length ≤ 1000 ∧ ∀ p H', Same H H' → H p = none → H' p = some (.lst (nums (numsAt M.rs s))) → Q (.ref p) H'
theorem ok_numbers_at (T : Tx K mg C fI) (D : DefAt K mg "numbers_at" snumbers_at) : Cal P w K mg base 1 "numbers_at" ["machine", "standing"] (spNums C) := by
  refine Cal.mk D scnumbers_at (fun _ _ _ _ _ _ us hl => match us, hl with | [_, _], _ => rfl) (fun vs H Q E h => ?_) ?_
  · obtain ⟨m, M, s, rfl, _⟩ := h
    rfl
  · rintro X cdv A outer f s H vs Q E rfl hr ⟨m, M, st, rfl, hM, hz, q⟩
    obtain ⟨p, dx, t1, t2, t4, rv, rfl, g0, g1, g2, g4, gr⟩ := hM
    refine ⟨_, pss_one (ps_ret (pe_lc (own := [("number", 2), ("reaction", 3)]) (g := gTup K 2 (gCons (gName 2) (gCons (gName 3) gNil))) rfl scnumbers_at.nd (pi_enumT (by rfl) T.f_enumerate (pa_cons (pe_fld (pv 0) rfl) pa_nil))
      (blkOk_by (N := Nnumbers_at) (sc := defScope snumbers_at) (by decide +kernel))
      (fun _ _ _ _ _ => pg_tupK K rfl (pgs_cons (pg_name (i := 2) scnumbers_at.nd rfl (Or.inl rfl)) (pgs_cons (pg_name (i := 3) scnumbers_at.nd rfl (Or.inl rfl)) pgs_nil)))
      (fun _ _ _ _ _ => pts_one (pt_cmpR op_eq (pe_ix (ix_tupK K) (pv 3) pe_int (fun _ _ => rfl)) (pv 1) (nomark _)))
      (fun _ _ _ _ _ => pv 2))), ?_⟩
    refine ⟨_, rfl, p, C, dx, _, _, rfl, g0, T.cls, T.n_own_reactions, mf_rs _ _ _ _, t4, rv, rfl, SqT.of g4, fun D hD => ?_⟩
    refine lc_it (walk_enumT (K := K) (a := t4) (xs := rv)) (fun i H' => Same H H' ∧ H' D = some (.lst (nums ((List.range i).filter (isAt M.rs st))))) ⟨sm_new hD, upd_same⟩ (fun i H' _ hp => SqT.of (hp.1 _ _ g4)) ?_ ?_
    · rintro i x H1 H2 hi ⟨sm, ha⟩ ⟨t, x1, x2, rfl, ht, rfl, e1, e2⟩
      cases e1
      have e2 : rv[i]? = some x2 := e2
      obtain ⟨r, hri, a, d1, d2, rfl, h1, h2, h3⟩ := paired_get gr e2
      have s2 := sm_new (o := .tup [.int (i : Nat), .ref a]) ht
      refine ⟨t, _, rfl, SqT.of upd_same, rfl, _, _, rfl, _, _, rfl, rfl, ?_⟩
      refine ⟨rfl, ?_⟩
      refine ⟨_, rfl, a, _, 0, _, rfl, rfl, SqT.of (s2 _ _ (sm _ _ h1)), atI_nat (j := 0) rfl, _, rfl, rfl, decide (r.st = st), ?_, ?_⟩
      · exact congrArg V.bl (by rw [Bool.eq_iff_iff, decide_eq_true_iff, decide_eq_true_iff]; exact ⟨fun z => by injection z, fun z => by rw [z]⟩)
      · have e3 : isAt M.rs st i = decide (r.st = st) := by
          unfold isAt
          rw [hri]
        by_cases hc : r.st = st
        · rw [decide_eq_true hc]
          refine iteT ?_
          refine ⟨_, rfl, _, s2 _ _ ha, ?_, sm_mut (sm.trans s2) hD, ?_⟩
          · have : ((List.range i).filter (isAt M.rs st)).length ≤ i := by
              have := List.length_filter_le (isAt M.rs st) (List.range i)
              rw [List.length_range] at this
              exact this
            have e5 := paired_len gr
            show (nums _).length < _
            unfold nums
            rw [List.length_map]
            exact small1000 (by omega)
          · rw [upd_same, range_filter_succ, e3, decide_eq_true hc]
            unfold nums
            rw [List.map_append]
            rfl
        · rw [decide_eq_false hc]
          refine iteF ?_
          refine ⟨sm.trans s2, ?_⟩
          rw [range_filter_succ, e3, decide_eq_false hc]
          show _ = some (HO.lst (nums (_ ++ [])))
          rw [List.append_nil]
          exact s2 _ _ ha
    · rintro H1 ⟨sm, ha⟩
      rw [paired_len gr] at ha
      exact q D H1 sm hD ha
end
end LB
set_option Elab.async false
set_option linter.all false
set_option maxRecDepth 100000
namespace LB
open PySem PySem.Spec PyProof.Rows L2
/-! ### plain lists -/
theorem nodup_len {α : Type} [DecidableEq α] : ∀ (m l : List α), l.Nodup → (∀ x ∈ l, x ∈ m) → l.length ≤ m.length
  | [], l, _, h => by
    cases l with
    | nil => exact Nat.le_refl _
    | cons a l => exact absurd (h a List.mem_cons_self) (by simp)
  | a :: m, l, nd, h => by
    have ih := nodup_len m (l.erase a) (nd.erase a) (fun x hx => by
      have h1 := (List.Nodup.mem_erase_iff nd).mp hx
      rcases List.mem_cons.mp (h x h1.2) with e | e
      · exact absurd e h1.1
      · exact e)
    by_cases ha : a ∈ l
    · rw [List.length_erase_of_mem ha] at ih
      rw [List.length_cons]
      omega
    · rw [List.erase_of_not_mem ha] at ih
      rw [List.length_cons]
      omega
theorem ints_len {l : List Int} {n : Int} (nd : l.Nodup) (h : ∀ x ∈ l, 0 ≤ x ∧ x < n) : l.length ≤ n.toNat := by
  have := nodup_len ((List.range n.toNat).map fun (i : Nat) => (i : Int)) l nd (fun x hx => by
    obtain ⟨h1, h2⟩ := h x hx
    exact List.mem_map.mpr ⟨x.toNat, List.mem_range.mpr (by omega), by omega⟩)
  rw [List.length_map, List.length_range] at this
  exact this
/-! ### a dict of standings, each True -/
def fdict (fs : List Int) : List (Key × V) := fs.map fun i => (Sum.inl i, V.bl true)
theorem fdict_get : ∀ (fs : List Int) (x : Int), (valV (fdict fs) (Sum.inl x : Key)).isSome = decide (x ∈ fs)
  | [], x => by simp [fdict, valV]
  | y :: fs, x => by
    have ih := fdict_get fs x
    by_cases e : y = x
    · subst e
      rw [show fdict (y :: fs) = ((Sum.inl y : Key), V.bl true) :: fdict fs from rfl, valV_pos rfl]
      simp
    · rw [show fdict (y :: fs) = ((Sum.inl y : Key), V.bl true) :: fdict fs from rfl, valV_neg (by intro z; exact e (Sum.inl.inj z)), ih]
      have e2 : ¬ x = y := fun z => e z.symm
      simp [e2]
theorem fdict_put {fs : List Int} {x : Int} (h : x ∉ fs) : putK (fdict fs) (Sum.inl x : Key) (V.bl true) = fdict (fs ++ [x]) := by
  have hv : valV (fdict fs) (Sum.inl x : Key) = none := by
    have := fdict_get fs x
    rw [decide_eq_false h] at this
    cases e : valV (fdict fs) (Sum.inl x : Key) with
    | none => rfl
    | some v => rw [e] at this; cases this
  rw [putK_new _ hv]
  unfold fdict
  rw [List.map_append]
  rfl
theorem fdict_len (fs : List Int) : (fdict fs).length = fs.length := by simp [fdict]
theorem fdict_keys (fs : List Int) : (fdict fs).map (·.1) = fs.map Sum.inl := by
  unfold fdict
  rw [List.map_map]
  rfl
theorem fdict_old {fs : List Int} {x : Int} (h : x ∈ fs) : putK (fdict fs) (Sum.inl x : Key) (V.bl true) = fdict fs := by
  have e : ((fdict fs).any fun kv => decide (kv.1 = (Sum.inl x : Key))) = true := List.any_eq_true.mpr ⟨(Sum.inl x, V.bl true), List.mem_map.mpr ⟨x, h, rfl⟩, decide_eq_true rfl⟩
  unfold putK
  rw [if_pos e]
  unfold fdict
  rw [List.map_map]
  refine List.map_congr_left fun y _ => ?_
  show (if (Sum.inl y : Key) = Sum.inl x then ((Sum.inl y : Key), V.bl true) else (Sum.inl y, V.bl true)) = _
  split <;> rfl
theorem inV_ints (z : Int) (ns : List Int) : inV (.int z) (ns.map V.int) = decide (z ∈ ns) := by
  unfold inV
  rw [Bool.eq_iff_iff, List.any_eq_true, decide_eq_true_iff]
  constructor
  · rintro ⟨x, hx, e⟩
    obtain ⟨y, hy, rfl⟩ := List.mem_map.mp hx
    have e2 : (y == z) = true := e
    rw [← eq_of_beq e2]
    exact hy
  · intro h
    exact ⟨.int z, List.mem_map.mpr ⟨z, h, rfl⟩, (show (z == z) = true from beq_self_eq_true z)⟩
theorem flat_ints (ns : List Int) : (ns.map V.int).all flatV = true := by
  rw [List.all_map, List.all_eq_true]
  intro x _
  rfl
end LB
set_option Elab.async false
set_option linter.all false
set_option maxRecDepth 100000
namespace LB
open PySem PySem.Spec PyProof.Rows L2 ClX
/-- what is known while standings are looked for: fs found, ws waiting, h under way up to reaction i -/
structure RInv (rs : List Rx) (n s0 : Int) (fs ws : List Int) (h : Int) (i : Nat) : Prop where
  here : s0 ∈ fs
  nd : fs.Nodup
  bd : ∀ x ∈ fs, 0 ≤ x ∧ x < n
  cl : ∀ x ∈ fs, x ∈ ws ∨ x = h ∨ ∀ r ∈ rs, r.st = x → r.nx ∈ fs
  up : ∀ r ∈ rs.take i, r.st = h → r.nx ∈ fs
def rmeas (n : Int) (fs ws : List Int) : Nat := 2 * (n.toNat - fs.length) + ws.length
theorem RInv.push {rs : List Rx} {n s0 : Int} {fs ws : List Int} {h : Int} {i : Nat} {r : Rx} (v : RInv rs n s0 fs ws h i) (hr : rs[i]? = some r) (hb : 0 ≤ r.nx ∧ r.nx < n) (hn : r.nx ∉ fs) : RInv rs n s0 (fs ++ [r.nx]) (ws ++ [r.nx]) h (i + 1) where
  here := List.mem_append_left _ v.here
  nd := nd_snoc v.nd hn
  bd := fun x hx => by
    rcases List.mem_append.mp hx with hx | hx
    · exact v.bd x hx
    · rw [List.mem_singleton.mp hx]
      exact hb
  cl := fun x hx => by
    rcases List.mem_append.mp hx with hx | hx
    · rcases v.cl x hx with z | z | z
      · exact .inl (List.mem_append_left _ z)
      · exact .inr (.inl z)
      · exact .inr (.inr fun r hr e => List.mem_append_left _ (z r hr e))
    · exact .inl (List.mem_append_right _ hx)
  up := fun q hq e => by
    have lt := (List.getElem?_eq_some_iff.mp hr).1
    rw [List.take_succ_eq_append_getElem lt] at hq
    rcases List.mem_append.mp hq with hq | hq
    · exact List.mem_append_left _ (v.up q hq e)
    · rw [List.mem_singleton.mp hq, (List.getElem?_eq_some_iff.mp hr).2]
      exact List.mem_append_right _ (List.mem_singleton.mpr rfl)
theorem RInv.skip {rs : List Rx} {n s0 : Int} {fs ws : List Int} {h : Int} {i : Nat} {r : Rx} (v : RInv rs n s0 fs ws h i) (hr : rs[i]? = some r) (hn : r.st = h → r.nx ∈ fs) : RInv rs n s0 fs ws h (i + 1) where
  here := v.here
  nd := v.nd
  bd := v.bd
  cl := v.cl
  up := fun q hq e => by
    have lt := (List.getElem?_eq_some_iff.mp hr).1
    rw [List.take_succ_eq_append_getElem lt] at hq
    rcases List.mem_append.mp hq with hq | hq
    · exact v.up q hq e
    · rw [List.mem_singleton.mp hq, (List.getElem?_eq_some_iff.mp hr).2] at e ⊢
      exact hn e
theorem RInv.push_meas {rs : List Rx} {n s0 : Int} {fs ws : List Int} {h : Int} {i : Nat} {r : Rx} (v : RInv rs n s0 fs ws h i) (hb : 0 ≤ r.nx ∧ r.nx < n) (hn : r.nx ∉ fs) : rmeas n (fs ++ [r.nx]) (ws ++ [r.nx]) ≤ rmeas n fs ws := by
  have h1 : (fs ++ [r.nx]).length ≤ n.toNat := ints_len (nd_snoc v.nd hn) fun x hx => by
    rcases List.mem_append.mp hx with hx | hx
    · exact v.bd x hx
    · rw [List.mem_singleton.mp hx]
      exact hb
  unfold rmeas
  simp only [List.length_append, List.length_singleton] at h1 ⊢
  omega
/-- the one under way is done; the last one waiting is taken -/
theorem RInv.pop {rs : List Rx} {n s0 : Int} {fs ws : List Int} {h y : Int} (v : RInv rs n s0 fs (ws ++ [y]) h rs.length) : RInv rs n s0 fs ws y 0 where
  here := v.here
  nd := v.nd
  bd := v.bd
  cl := fun x hx => by
    rcases v.cl x hx with z | z | z
    · rcases List.mem_append.mp z with z | z
      · exact .inl z
      · exact .inr (.inl (List.mem_singleton.mp z))
    · subst z
      exact .inr (.inr fun r hr e => v.up r (by rw [List.take_length]; exact hr) e)
    · exact .inr (.inr z)
  up := fun q hq => by simp at hq
theorem RInv.done {rs : List Rx} {n s0 : Int} {fs : List Int} {h : Int} (v : RInv rs n s0 fs [] h rs.length) : ∀ r ∈ rs, r.st ∈ fs → r.nx ∈ fs := fun r hr hs => by
  rcases v.cl _ hs with z | z | z
  · cases z
  · exact v.up r (by rw [List.take_length]; exact hr) z
  · exact z r hr rfl
theorem dint (a b : Int) : V.bl (decide (V.int a = V.int b)) = V.bl (decide (a = b)) := by
  congr 1
  rw [Bool.eq_iff_iff, decide_eq_true_iff, decide_eq_true_iff]
  exact ⟨fun z => by injection z, fun z => by rw [z]⟩
theorem last_of {α : Type} (l : List α) (x : α) : (l ++ [x])[(l ++ [x]).length - 1]? = some x := by simp
section
variable {P : Program} {w : World} {K : PySem.W.Frag} {mg : Str → Option Value} {base : Heap} {C fI : Addr}
def spReach (C : Addr) : Sp := fun vs H Q _ => ∃ (m : V) (M : Mx) (s : Int), vs = [m, .int s] ∧ MachAt C H m M ∧ (∀ r ∈ M.rs, 0 ≤ r.st ∧ 0 ≤ r.nx ∧ r.nx < M.n) ∧ (0 ≤ s ∧ s < M.n) ∧ M.n ≤ 12 ∧
  ∀ (p : Addr) (L : List Int) (H' : Hp), Same H H' → H p = none → H' p = some (.lst (L.map V.int)) → s ∈ L → (∀ r ∈ M.rs, r.st ∈ L → r.nx ∈ L) → Q (.ref p) H'
theorem ok_reached_from (T : Tx K mg C fI) (D : DefAt K mg "reached_from" sreached_from) : Cal P w K mg base 1 "reached_from" ["machine", "standing"] (spReach C) := by
  refine Cal.mk D screached_from (fun _ _ _ _ _ _ us hl => match us, hl with | [_, _], _ => rfl) (fun vs H Q E h => ?_) ?_
  · obtain ⟨m, M, s, rfl, _⟩ := h
    rfl
  · rintro X cdv A outer f s H vs Q E rfl hr ⟨m, M, s0, rfl, hM, hn, hs0, hz, q⟩
    obtain ⟨p, dx, t1, t2, t4, rv, rfl, g0, g1, g2, g4, gr⟩ := hM
    have hu := hu_of hr
    refine ⟨_, pss_cons (ps_par (i := 2) (j := 3) rfl screached_from.nd rfl rfl (by decide) rfl rfl (pa_cons (pe_disp (pps_cons (pv 1) pe_bl pps_nil) (by rfl) (by rfl) (fun z => by cases z) (by decide)) (pa_cons (pe_lst (pa_cons (pv 1) pa_nil)) pa_nil)) (by rfl))
      (pss_cons (ps_while PassesOwn.never (pt_cmpR (op_neNil hr.units0) (pv 3) (pe_lst pa_nil) (nomark _))
        (pss_cons (ps_set (i := 4) screached_from.nd rfl (Or.inl rfl) (pe_bm0 PySem.F.plainAttrs_list PySem.F.slot_list_pop PySem.F.type_list_pop mt_pop (pv 3)))
        (pss_one (ps_for PassesOwn.never rfl (pi_tup (pe_fld (pv 0) rfl)) (pg_name (i := 5) screached_from.nd rfl (Or.inl rfl))
          (pss_one (ps_if (PW.pt (pw_and (pt_cmpR op_eq (pe_ix ix_tup (pv 5) pe_int (fun _ _ => rfl)) (pv 4) (nomark _)) (pw_and1 (pt_cmp (pc_dnotin hu (pe_ix ix_tup (pv 5) pe_int (fun _ _ => rfl)) (pv 2))))))
            (pss_cons (ps_dput hu (pv 2) (pe_ix ix_tup (pv 5) pe_int (fun _ _ => rfl)) pe_bl rfl)
              (pss_one (ps_expr (pe_bm PySem.F.plainAttrs_list PySem.F.slot_list_append PySem.F.type_list_append mt_append (pv 3) (pa_cons (pe_ix ix_tup (pv 5) pe_int (fun _ _ => rfl)) pa_nil)))))
            pss_nil))))))
      (pss_one (ps_ret (pe_callB (call_sortedDI rfl) (by rfl) T.f_sorted b_sorted (pa_cons (pv 2) pa_nil))))), ?_⟩
    refine fun df nf => ⟨_, rfl, upd_same, [((Sum.inl s0 : Key), V.bl true)], rfl, by show 1 ≤ 15; decide, ?_⟩
    have sf : Same H (upd (upd H df (.dK [])) df (.dK (fdict [s0]))) := sm_mut (sm_new nf) nf
    refine ⟨_, rfl, by show 1 ≤ sizeLine; decide, fun dw nw => ?_⟩
    have nw : (upd (upd H df (.dK [])) df (.dK (fdict [s0]))) dw = none := nw
    have sw := sf.trans (sm_new (o := .lst [V.int s0]) nw)
    have nfw : df ≠ dw := ne_of_none upd_same nw
    have nH : ∀ {b : Addr} {o : HO}, H b = some o → b ≠ df ∧ b ≠ dw := fun h => ⟨ne_of_none h nf, fun z => by rw [z] at h; rw [sf _ _ h] at nw; cases nw⟩
    refine ⟨_, _, rfl, ?_⟩
    refine ⟨fun m σ H' => ∃ (fs ws : List Int) (h : Int) (a b : Option V), (m = rmeas M.n fs ws ∧ m ≤ 30) ∧ σ = [some (.ref p), some (.int s0), some (.ref df), some (.ref dw), a, b] ∧ Same H H' ∧ H' df = some (.dK (fdict fs)) ∧ H' dw = some (.lst (ws.map V.int)) ∧ RInv M.rs M.n s0 fs ws h M.rs.length,
      ⟨_, [s0], [s0], -1, _, _, ⟨rfl, ?_⟩, rfl, sw, ?_, upd_same, ?_⟩, ?_⟩
    · unfold rmeas
      simp
      omega
    · rw [upd_ne nfw, upd_same]
      rfl
    · refine ⟨List.mem_singleton.mpr rfl, by simp, fun x hx => ?_, fun x hx => .inl hx, fun r hr e => ?_⟩
      · rw [List.mem_singleton.mp hx]
        exact hs0
      · rw [List.take_length] at hr
        have := (hn r hr).1
        omega
    · rintro m σ H1 ⟨fs, ws, h, a, b, ⟨rfl, m30⟩, rfl, sm, hf, hw, v⟩
      refine ⟨_, rfl, by show 0 ≤ sizeLine; decide, fun e he => ⟨dw, e, _, rfl, rfl, SqL.of (sm_new he _ _ hw), SqL.of upd_same, _, rfl, ?_⟩⟩
      have s1 := sm.trans (sm_new (o := .lst []) he)
      have hf1 := sm_new (o := .lst []) he _ _ hf
      have hw1 := sm_new (o := .lst []) he _ _ hw
      revert s1 hf1 hw1
      generalize upd H1 e (.lst []) = H2
      intro s1 hf1 hw1
      rcases List.eq_nil_or_concat ws with rfl | ⟨ws', y, rfl⟩
      · refine iteF ?_
        refine ⟨_, rfl, df, _, fs, rfl, .inl hf1, fdict_keys fs, ?_, fun ys pn hp _ hpn => ?_⟩
        · have := ints_len v.nd v.bd
          omega
        · refine q pn ys _ (s1.trans (sm_new hpn)) ?_ upd_same (hp.mem_iff.mpr v.here) fun r hr hs => hp.mem_iff.mpr (v.done r hr (hp.mem_iff.mp hs))
          cases e2 : H pn with
          | none => rfl
          | some o => rw [s1 _ _ e2] at hpn; cases hpn
      · have ne : (!((ws'.concat y).map V.int).isEmpty) = true := by simp
        rw [ne]
        refine iteT ?_
        rw [List.concat_eq_append] at hw1 v ⊢
        refine ⟨fun σ' H' => ∃ m', m' < rmeas M.n fs (ws' ++ [y]) ∧ ∃ (fs ws : List Int) (h : Int) (a b : Option V), (m' = rmeas M.n fs ws ∧ m' ≤ 30) ∧ σ' = [some (.ref p), some (.int s0), some (.ref df), some (.ref dw), a, b] ∧ Same H H' ∧ H' df = some (.dK (fdict fs)) ∧ H' dw = some (.lst (ws.map V.int)) ∧ RInv M.rs M.n s0 fs ws h M.rs.length,
          fun _ _ z => z, ?_⟩
        refine ⟨_, rfl, .inl ⟨rfl, _, SqL.of hw1⟩, dw, _, .int y, rfl, rfl, hw1, by rw [List.map_append]; exact last_of _ _, ?_⟩
        have s2 : Same H (upd H2 dw (.lst ((ws' ++ [y]).map V.int).dropLast)) := fun b o hb => by
          rw [upd_ne (nH hb).2]
          exact s1 b o hb
        have hf2 : (upd H2 dw (.lst ((ws' ++ [y]).map V.int).dropLast)) df = some (.dK (fdict fs)) := by
          rw [upd_ne nfw]
          exact hf1
        have hw2 : (upd H2 dw (.lst ((ws' ++ [y]).map V.int).dropLast)) dw = some (.lst (ws'.map V.int)) := by
          rw [upd_same, List.map_append]
          simp
        revert s2 hf2 hw2
        generalize upd H2 dw (.lst ((ws' ++ [y]).map V.int).dropLast) = H3
        intro s2 hf2 hw2
        refine ⟨_, rfl, p, C, dx, _, _, rfl, s2 _ _ g0, T.cls, T.n_own_reactions, mf_rs _ _ _ _, t4, rfl, ⟨rv, SqT.of (s2 _ _ g4)⟩, ?_⟩
        refine for_it (walk_tup (K := K) (a := t4) (xs := rv)) (fun i σ' H' => ∃ (fs2 ws2 : List Int) (b : Option V), σ' = [some (.ref p), some (.int s0), some (.ref df), some (.ref dw), some (.int y), b] ∧ Same H H' ∧ H' df = some (.dK (fdict fs2)) ∧ H' dw = some (.lst (ws2.map V.int)) ∧
          RInv M.rs M.n s0 fs2 ws2 y i ∧ rmeas M.n fs2 ws2 ≤ rmeas M.n fs ws') ⟨fs, ws', _, rfl, s2, hf2, hw2, v.pop, Nat.le_refl _⟩ (fun i σ' H' _ ⟨_, _, _, _, z, _⟩ => SqT.of (z _ _ g4)) ?_ ?_
        · rintro i x σ' H4 H5 hi ⟨fs2, ws2, b2, rfl, s4, hf4, hw4, v4, m4⟩ ⟨rfl, hx⟩
          obtain ⟨r, hri, a3, d1, d2, rfl, h1, h2, h3⟩ := paired_get gr hx
          have h1 := s4 _ _ h1
          have hb := (hn r (List.mem_of_getElem? hri)).2
          refine ⟨_, rfl, a3, _, 0, _, rfl, rfl, SqT.of h1, atI_nat (j := 0) rfl, _, rfl, rfl, decide (r.st = y), dint _ _, ?_⟩
          by_cases hc : r.st = y
          · rw [decide_eq_true hc]
            refine iteT ?_
            refine ⟨_, rfl, a3, _, 3, _, rfl, rfl, SqT.of h1, atI_nat (j := 3) rfl, _, rfl, df, _, rfl, DGet.k (k := Sum.inl r.nx) hf4, _, rfl, ?_⟩
            rw [fdict_get]
            by_cases hm : r.nx ∈ fs2
            · rw [decide_eq_true hm]
              refine iteF ?_
              exact ⟨fs2, ws2, _, rfl, s4, hf4, hw4, v4.skip hri fun _ => hm, m4⟩
            · rw [decide_eq_false hm]
              refine iteT ?_
              have len2 := ints_len v4.nd v4.bd
              have hw64 : ws2.length ≤ 1000 := by
                rw [List.concat_eq_append] at m30
                unfold rmeas at m4 m30
                rw [List.length_append, List.length_singleton] at m30
                omega
              refine ⟨_, rfl, _, rfl, a3, _, 3, _, rfl, rfl, SqT.of h1, atI_nat (j := 3) rfl, df, _, rfl, DPut.k (k := Sum.inl r.nx) hf4 (small1000 (by rw [fdict_len]; omega)), ?_⟩
              rw [fdict_put hm]
              have s5 : Same H (upd H5 df (.dK (fdict (fs2 ++ [r.nx])))) := fun b o hb => by
                rw [upd_ne (nH hb).1]
                exact s4 b o hb
              have hw5 : (upd H5 df (.dK (fdict (fs2 ++ [r.nx])))) dw = some (.lst (ws2.map V.int)) := by
                rw [upd_ne nfw.symm]
                exact hw4
              have h1' : (upd H5 df (.dK (fdict (fs2 ++ [r.nx])))) a3 = some (.tup [.int r.st, .ref d1, .ref d2, .int r.nx]) := by
                rw [upd_ne (ne_of h1 hf4 (by intro z; cases z))]
                exact h1
              refine ⟨_, rfl, .inl ⟨rfl, _, SqL.of hw5⟩, _, rfl, a3, _, 3, _, rfl, rfl, SqT.of h1', atI_nat (j := 3) rfl, dw, _, _, rfl, rfl, hw5, small1000 (by rw [List.length_map]; omega), ?_⟩
              refine ⟨fs2 ++ [r.nx], ws2 ++ [r.nx], _, rfl, fun b o hb => ?_, ?_, ?_, v4.push hri hb hm, Nat.le_trans (v4.push_meas hb hm) m4⟩
              · rw [upd_ne (nH hb).2]
                exact s5 b o hb
              · rw [upd_ne nfw, upd_same]
              · rw [upd_same, List.map_append]
                rfl
          · rw [decide_eq_false hc]
            refine iteF ?_
            exact ⟨fs2, ws2, _, rfl, s4, hf4, hw4, v4.skip hri fun z => absurd z hc, m4⟩
        · rintro σ' H4 ⟨fs2, ws2, b2, rfl, s4, hf4, hw4, v4, m4⟩
          rw [paired_len gr] at v4
          rw [List.concat_eq_append] at m30
          refine ⟨rmeas M.n fs2 ws2, ?_, fs2, ws2, y, _, _, ⟨rfl, ?_⟩, rfl, s4, hf4, hw4, v4⟩
          · unfold rmeas at m4 ⊢
            rw [List.length_append, List.length_singleton]
            omega
          · unfold rmeas at m4 m30 ⊢
            rw [List.length_append, List.length_singleton] at m30
            omega
end
end LB
set_option Elab.async false
set_option linter.all false
set_option maxRecDepth 100000
namespace LB
open PySem PySem.Spec PyProof.Rows L2 ClX
theorem ledTo_append (rs : List Rx) : ∀ (a b : List Nat) (s : Int), ledTo rs s (a ++ b) = ledTo rs (ledTo rs s a) b
  | [], _, _ => rfl
  | n :: a, b, s => ledTo_append rs a b _
theorem leads_append {rs : List Rx} : ∀ {a b : List Nat} {s : Int}, Leads rs s a → Leads rs (ledTo rs s a) b → Leads rs s (a ++ b)
  | [], _, _, _, h => h
  | n :: a, b, s, ⟨r, h1, h2, h3⟩, h => by
    refine ⟨r, h1, h2, leads_append h3 ?_⟩
    have e : ledTo rs s (n :: a) = ledTo rs r.nx a := by
      show ledTo rs (match rs[n]? with | some r => r.nx | none => s) a = _
      rw [h1]
    rw [e] at h
    exact h
theorem leads_last {rs : List Rx} : ∀ {a : List Nat} {n : Nat} {s : Int}, Leads rs s (a ++ [n]) → ∃ r, rs[n]? = some r ∧ ledTo rs s (a ++ [n]) = r.nx
  | [], n, s, ⟨r, h1, h2, _⟩ => ⟨r, h1, by
      show ledTo rs (match rs[n]? with | some r => r.nx | none => s) [] = _
      rw [h1]
      rfl⟩
  | m :: a, n, s, ⟨r, h1, h2, h3⟩ => by
    obtain ⟨q, g1, g2⟩ := leads_last h3
    refine ⟨q, g1, ?_⟩
    rw [← g2]
    show ledTo rs (match rs[m]? with | some r => r.nx | none => s) (a ++ [n]) = _
    rw [h1]
theorem nums_at {ns : List Nat} {i : Nat} {x : V} (h : (nums ns)[i]? = some x) : ∃ n, ns[i]? = some n ∧ x = V.int (n : Int) := map_at h
theorem nums_len (ns : List Nat) : (nums ns).length = ns.length := by simp [nums]
section
variable {P : Program} {w : World} {K : PySem.W.Frag} {mg : Str → Option Value} {base : Heap} {C fI : Addr}
/-! want_leading, led_to -/
def spLead (C : Addr) : Sp := fun vs H Q _ => ∃ (m : V) (M : Mx) (a : Addr) (ns : List Nat), vs = [m, .ref a] ∧ MachAt C H m M ∧ H a = some (.lst (nums ns)) ∧ Leads M.rs 0 ns ∧ ∀ H', Same H H' → Q .non H'
theorem ok_want_leading (T : Tx K mg C fI) (D : DefAt K mg "want_leading" swant_leading) (cL : Cal P w K mg base 1 "is_list" ["value"] spIsList) (cN : Cal P w K mg base 3 "is_number_at" ["machine", "standing", "value"] (spNumAt C)) :
    Cal P w K mg base 4 "want_leading" ["machine", "run"] (spLead C) := by
  refine Cal.mk D scwant_leading (fun _ _ _ _ _ _ us hl => match us, hl with | [_, _], _ => rfl) (fun vs H Q E h => ?_) ?_
  · obtain ⟨m, M, a, ns, rfl, _⟩ := h
    rfl
  · rintro X cdv A outer f s H vs Q E rfl hr ⟨m, M, a, ns, rfl, hM, ha, hl, q⟩
    obtain ⟨p, dx, t1, t2, t4, rv, rfl, g0, g1, g2, g4, gr⟩ := id hM
    refine ⟨_, pss_cons (ps_if (pt_not (pt_val (pe_cal cL (hr.mono (by decide)) (by rfl) (pa_cons (pv 1) pa_nil)))) (pss_one ps_never) pss_nil)
      (pss_cons (ps_set (i := 2) scwant_leading.nd rfl (Or.inl rfl) pe_int)
      (pss_one (ps_for PassesOwn.never rfl (pi_enum (by rfl) T.f_enumerate (pa_cons (pv 1) pa_nil)) (pg_tup rfl (pgs_cons (pg_name (i := 3) scwant_leading.nd rfl (Or.inl rfl)) (pgs_cons (pg_name (i := 4) scwant_leading.nd rfl (Or.inl rfl)) pgs_nil)))
        (pss_cons (ps_if (pt_not (pt_val (pe_cal cN hr (by rfl) (pa_cons (pv 0) (pa_cons (pv 2) (pa_cons (pv 4) pa_nil)))))) (pss_one ps_never) pss_nil)
        (pss_one (ps_set (i := 2) scwant_leading.nd rfl (Or.inl rfl) (pe_ix ix_tup (pe_ix ix_tup (pe_fld (pv 0) rfl) (pv 4) (fun _ _ => rfl)) pe_int (fun _ _ => rfl)))))))), ?_⟩
    refine ⟨_, rfl, a, rfl, .inl ⟨_, ha⟩, fun H1 s1 => ⟨true, rfl, ?_⟩⟩
    refine iteF ?_
    refine ⟨_, rfl, a, _, rfl, SqL.of (s1 _ _ ha), ?_⟩
    refine for_it (walk_enum (K := K) (a := a) (xs := nums ns)) (fun i σ H' => Same H H' ∧ (∃ b c, σ = [some (.ref p), some (.ref a), some (.int (ledTo M.rs 0 (ns.take i))), b, c]) ∧ Leads M.rs (ledTo M.rs 0 (ns.take i)) (ns.drop i)) ⟨s1, ⟨_, _, rfl⟩, hl⟩ (fun i σ H' _ hp => SqL.of (hp.1 _ _ ha)) ?_ ?_
    · rintro i x σ H1 H2 hi ⟨sm, ⟨b, c, rfl⟩, ld⟩ ⟨t, x1, x2, rfl, ht, rfl, e1, e2⟩
      cases e1
      obtain ⟨n, hn, rfl⟩ := nums_at e2
      have lt : i < ns.length := (List.getElem?_eq_some_iff.mp hn).1
      have en := (List.getElem?_eq_some_iff.mp hn).2
      have s2 := sm.trans (sm_new (o := .tup [.int (i : Nat), .int (n : Int)]) ht)
      rw [List.drop_eq_getElem_cons lt, en] at ld
      obtain ⟨r, r1, r2, r3⟩ := ld
      obtain ⟨x, hx, a3, d1, d2, rfl, h1, h2, h3⟩ := paired_get' gr r1
      refine ⟨t, _, rfl, SqT.of upd_same, rfl, _, _, rfl, _, _, rfl, rfl, ?_⟩
      refine ⟨_, rfl, _, rfl, _, rfl, _, M, n, r, _, rfl, hM.mono s2, r1, r2, true, rfl, ?_⟩
      refine iteF ?_
      refine ⟨_, rfl, p, C, dx, _, _, rfl, s2 _ _ g0, T.cls, T.n_own_reactions, mf_rs _ _ _ _, _, rfl, t4, rv, (n : Int), _, rfl, rfl, SqT.of (s2 _ _ g4), atI_nat hx, a3, _, 3, _, rfl, rfl, SqT.of (s2 _ _ h1), atI_nat (j := 3) rfl, ?_⟩
      have e5 : ledTo M.rs 0 (ns.take (i + 1)) = r.nx := by
        rw [List.take_succ_eq_append_getElem lt, en, ledTo_append]
        show ledTo M.rs (match M.rs[n]? with | some r => r.nx | none => _) [] = _
        rw [r1]
        rfl
      refine ⟨s2, ⟨some (.int (i : Nat)), some (.int (n : Int)), ?_⟩, ?_⟩
      · rw [e5]
        rfl
      · rw [e5]
        exact r3
    · rintro σ H1 ⟨sm, _, _⟩
      exact q _ sm
def spLedTo (C : Addr) : Sp := fun vs H Q _ => ∃ (m : V) (M : Mx) (s : Int) (a : Addr) (ns : List Nat), vs = [m, .int s, .ref a] ∧ MachAt C H m M ∧ H a = some (.lst (nums ns)) ∧ Leads M.rs s ns ∧ Q (.int (ledTo M.rs s ns)) H
theorem ok_led_to (T : Tx K mg C fI) (D : DefAt K mg "led_to" sled_to) : Cal P w K mg base 1 "led_to" ["machine", "standing", "run"] (spLedTo C) := by
  refine Cal.mk D scled_to (fun _ _ _ _ _ _ us hl => match us, hl with | [_, _, _], _ => rfl) (fun vs H Q E h => ?_) ?_
  · obtain ⟨m, M, s, a, ns, rfl, _⟩ := h
    rfl
  · rintro X cdv A outer f s H vs Q E rfl hr ⟨m, M, st, a, ns, rfl, hM, ha, hl, q⟩
    obtain ⟨p, dx, t1, t2, t4, rv, rfl, g0, g1, g2, g4, gr⟩ := id hM
    refine ⟨_, pss_one (ps_ret (pe_ifExp (pt_cmpR op_gt (pe_callB call_len_seq (by rfl) T.f_len b_len (pa_cons (pv 2) pa_nil)) pe_int (nomark _))
      (pe_ix ix_tup (pe_ix ix_tup (pe_fld (pv 0) rfl) (pe_ix ix_list (pv 2) (pe_un un_neg pe_int) (fun _ _ => rfl)) (fun _ _ => rfl)) pe_int (fun _ _ => rfl)) (pv 1))), ?_⟩
    refine ⟨_, rfl, a, _, rfl, .inl (SqL.of ha), _, _, rfl, rfl, decide ((0 : Int) < (nums ns).length), rfl, ?_⟩
    rcases List.eq_nil_or_concat ns with rfl | ⟨ns', n, rfl⟩
    · refine iteF ?_
      exact ⟨_, rfl, q⟩
    · rw [List.concat_eq_append] at ha hl q ⊢
      rw [decide_eq_true (by rw [nums_len, List.length_append, List.length_singleton]; omega)]
      obtain ⟨r, r1, r2⟩ := leads_last hl
      rw [r2] at q
      obtain ⟨x, hx, a3, d1, d2, rfl, h1, h2, h3⟩ := paired_get' gr r1
      refine iteT ?_
      refine ⟨_, rfl, p, C, dx, _, _, rfl, g0, T.cls, T.n_own_reactions, mf_rs _ _ _ _, _, rfl, 1, rfl, a, _, -1, .int (n : Int), rfl, rfl, SqL.of ha, ?_, t4, rv, (n : Int), _, rfl, rfl, SqT.of g4, atI_nat hx, a3, _, 3, _, rfl, rfl, SqT.of h1, atI_nat (j := 3) rfl, q⟩
      rw [show nums (ns' ++ [n]) = nums ns' ++ [V.int (n : Int)] by simp [nums]]
      exact atI_last _ _
end
end LB
set_option Elab.async false
set_option linter.all false
set_option maxRecDepth 100000
namespace LB
open PySem PySem.Spec PyProof.Rows L2
/-! ### how often a run takes from a line -/
def hasL (r : Rx) (z : Str) : Bool := (wsGet r.tk z).isSome
def oneL (rs : List Rx) (z : Str) (n : Nat) : Nat := match rs[n]? with
  | some r => if hasL r z = true then 1 else 0
  | none => 0
def cntRun (rs : List Rx) (z : Str) (ns : List Nat) : Nat := (ns.map (oneL rs z)).sum
theorem cntRun_append (rs : List Rx) (z : Str) (a b : List Nat) : cntRun rs z (a ++ b) = cntRun rs z a + cntRun rs z b := by
  unfold cntRun
  rw [List.map_append, List.sum_append]
theorem hasL_iff {r : Rx} {z : Str} : hasL r z = true ↔ z ∈ r.tk.map (·.1) := by
  unfold hasL
  have : ∀ ws : Ws, (wsGet ws z).isSome = true ↔ z ∈ ws.map (·.1) := by
    intro ws
    induction ws with
    | nil => simp [wsGet]
    | cons p t ih =>
      show (if p.1 = z then some p.2 else wsGet t z).isSome = true ↔ _
      rw [List.map_cons, List.mem_cons]
      by_cases e : p.1 = z
      · rw [if_pos e]
        simp [e]
      · have e2 : ¬ z = p.1 := fun q => e q.symm
        rw [if_neg e, ih]
        simp [e2]
  exact this r.tk
/-! ### lines with the addresses of their lists -/
abbrev Fl := List (Str × Addr)
def mkFl (fl : Fl) : List (Key × V) := fl.map fun p => ((Sum.inr p.1 : Key), V.ref p.2)
theorem mkFl_len (fl : Fl) : (mkFl fl).length = fl.length := by simp [mkFl]
theorem mkFl_get : ∀ {fl : Fl} {z : Str} {a : Addr}, (fl.map (·.1)).Nodup → (z, a) ∈ fl → valV (mkFl fl) (Sum.inr z : Key) = some (.ref a)
  | p :: fl, z, a, nd, h => by
    obtain ⟨n1, n2⟩ := List.nodup_cons.mp (show (p.1 :: fl.map (·.1)).Nodup from nd)
    rw [show mkFl (p :: fl) = ((Sum.inr p.1 : Key), V.ref p.2) :: mkFl fl from rfl]
    rcases List.mem_cons.mp h with e | h
    · subst e
      exact valV_pos rfl
    · have ne : ¬ (Sum.inr p.1 : Key) = Sum.inr z := fun e => n1 (by rw [Sum.inr.inj e]; exact List.mem_map.mpr ⟨_, h, rfl⟩)
      rw [valV_neg ne]
      exact mkFl_get n2 h
theorem mkFl_none : ∀ {fl : Fl} {z : Str}, z ∉ fl.map (·.1) → valV (mkFl fl) (Sum.inr z : Key) = none
  | [], _, _ => rfl
  | p :: fl, z, h => by
    rw [show mkFl (p :: fl) = ((Sum.inr p.1 : Key), V.ref p.2) :: mkFl fl from rfl]
    rw [List.map_cons] at h
    have ne : ¬ (Sum.inr p.1 : Key) = Sum.inr z := fun e => h (by rw [Sum.inr.inj e]; exact List.mem_cons_self)
    rw [valV_neg ne]
    exact mkFl_none fun m => h (List.mem_cons_of_mem _ m)
theorem mkFl_put {fl : Fl} {z : Str} {a : Addr} (h : z ∉ fl.map (·.1)) : putK (mkFl fl) (Sum.inr z : Key) (V.ref a) = mkFl (fl ++ [(z, a)]) := by
  rw [putK_new _ (mkFl_none h)]
  unfold mkFl
  rw [List.map_append]
  rfl
theorem fst_mem {fl : Fl} {z : Str} (h : z ∈ fl.map (·.1)) : ∃ a, (z, a) ∈ fl := by
  obtain ⟨p, hp, e⟩ := List.mem_map.mp h
  exact ⟨p.2, by rw [← e]; exact hp⟩
theorem snd_inj : ∀ {fl : Fl} {p q : Str × Addr}, (fl.map (·.2)).Nodup → p ∈ fl → q ∈ fl → p.2 = q.2 → p = q
  | x :: fl, p, q, nd, hp, hq, e => by
    obtain ⟨n1, n2⟩ := List.nodup_cons.mp (show (x.2 :: fl.map (·.2)).Nodup from nd)
    rcases List.mem_cons.mp hp with e1 | hp <;> rcases List.mem_cons.mp hq with e2 | hq
    · rw [e1, e2]
    · rw [e1] at e
      exact absurd (List.mem_map.mpr ⟨q, hq, e.symm⟩) n1
    · rw [e2] at e
      exact absurd (List.mem_map.mpr ⟨p, hp, e⟩) n1
    · exact snd_inj n2 hp hq e
theorem fst_inj : ∀ {fl : Fl} {p q : Str × Addr}, (fl.map (·.1)).Nodup → p ∈ fl → q ∈ fl → p.1 = q.1 → p = q
  | x :: fl, p, q, nd, hp, hq, e => by
    obtain ⟨n1, n2⟩ := List.nodup_cons.mp (show (x.1 :: fl.map (·.1)).Nodup from nd)
    rcases List.mem_cons.mp hp with e1 | hp <;> rcases List.mem_cons.mp hq with e2 | hq
    · rw [e1, e2]
    · rw [e1] at e
      exact absurd (List.mem_map.mpr ⟨q, hq, e.symm⟩) n1
    · rw [e2] at e
      exact absurd (List.mem_map.mpr ⟨p, hp, e⟩) n1
    · exact fst_inj n2 hp hq e
/-- the dict at df holds the lists, so long as c says -/
structure FT (H : Hp) (df : Addr) (fl : Fl) (c : Str → Nat) : Prop where
  d : H df = some (.dK (mkFl fl))
  l : ∀ p ∈ fl, ∃ xs, H p.2 = some (.lst xs) ∧ xs.length = c p.1
theorem FT.congr {H : Hp} {df : Addr} {fl : Fl} {c c' : Str → Nat} (h : FT H df fl c) (e : ∀ p ∈ fl, c p.1 = c' p.1) : FT H df fl c' := ⟨h.d, fun p hp => by rw [← e p hp]; exact h.l p hp⟩
theorem FT.push {H : Hp} {df : Addr} {fl : Fl} {c : Str → Nat} {z : Str} {a : Addr} {xs : List V} {v : V} (h : FT H df fl c) (nd1 : (fl.map (·.1)).Nodup) (nd : (fl.map (·.2)).Nodup) (hz : (z, a) ∈ fl) (hx : H a = some (.lst xs)) : FT (upd H a (.lst (xs ++ [v]))) df fl (fun y => c y + if y = z then 1 else 0) where
  d := by
    rw [upd_ne (ne_of h.d hx (by intro q; cases q))]
    exact h.d
  l := fun p hp => by
    obtain ⟨ys, hy, hl⟩ := h.l p hp
    by_cases e : p.2 = a
    · have e2 := snd_inj nd hp hz e
      subst e2
      rw [hy] at hx
      cases hx
      exact ⟨_, upd_same, by rw [List.length_append, hl, if_pos rfl]; rfl⟩
    · refine ⟨ys, by rw [upd_ne e]; exact hy, ?_⟩
      by_cases e2 : p.1 = z
      · exact absurd (congrArg Prod.snd (fst_inj nd1 hp hz e2)) e
      · rw [if_neg e2, hl]
        rfl
theorem FT.same {H H' : Hp} {df : Addr} {fl : Fl} {c : Str → Nat} (h : FT H df fl c) (e : Same H H') : FT H' df fl c := ⟨e _ _ h.d, fun p hp => let ⟨xs, h1, h2⟩ := h.l p hp; ⟨xs, e _ _ h1, h2⟩⟩
theorem FT.off {H : Hp} {df d : Addr} {fl : Fl} {c : Str → Nat} {u : HO} (h : FT H df fl c) (n1 : df ≠ d) (n2 : ∀ q ∈ fl, q.2 ≠ d) : FT (upd H d u) df fl c :=
  ⟨by rw [upd_ne n1]; exact h.d, fun p hp => let ⟨xs, h1, h2⟩ := h.l p hp; ⟨xs, by rw [upd_ne (n2 p hp)]; exact h1, h2⟩⟩
theorem cntRun_le (rs : List Rx) (z : Str) : ∀ ns : List Nat, cntRun rs z ns ≤ ns.length
  | [] => Nat.le_refl _
  | n :: ns => by
    have ih := cntRun_le rs z ns
    have e : cntRun rs z (n :: ns) = oneL rs z n + cntRun rs z ns := by simp [cntRun]
    have o : oneL rs z n ≤ 1 := by
      unfold oneL
      split
      · split <;> omega
      · omega
    rw [e, List.length_cons]
    omega
theorem take_mem_succ {l : List Str} {j : Nat} {z : Str} (nd : l.Nodup) (h : l[j]? = some z) (y : Str) : (if y ∈ l.take j then 1 else 0) + (if y = z then 1 else 0) = if y ∈ l.take (j + 1) then 1 else (0 : Nat) := by
  have lt := (List.getElem?_eq_some_iff.mp h).1
  have tk : l.take (j + 1) = l.take j ++ [z] := by rw [List.take_succ_eq_append_getElem lt, (List.getElem?_eq_some_iff.mp h).2]
  have nz : z ∉ l.take j := by
    intro m
    obtain ⟨k, hk⟩ := List.mem_iff_getElem?.mp m
    rw [List.getElem?_take] at hk
    split at hk
    · rename_i hlt
      have := nd_ix nd hk h
      omega
    · cases hk
  rw [tk]
  by_cases e : y = z
  · subst e
    rw [if_neg nz, if_pos rfl, if_pos (List.mem_append_right _ (List.mem_singleton.mpr rfl))]
  · rw [if_neg e]
    by_cases m : y ∈ l.take j
    · rw [if_pos m, if_pos (List.mem_append_left _ m)]
    · rw [if_neg m, if_neg]
      intro m2
      rcases List.mem_append.mp m2 with q | q
      · exact m q
      · exact e (List.mem_singleton.mp q)
theorem sm_upd {H H1 : Hp} {d : Addr} {o : HO} (e : Same H H1) : Same (upd H d o) (upd H1 d o) := fun b u hb => by
  by_cases z : b = d
  · subst z
    rw [upd_same] at hb ⊢
    exact hb
  · rw [upd_ne z] at hb ⊢
    exact e b u hb
theorem map_fst_filter {fl : Fl} {f : Str × Addr → Bool} {z : Str} (h : z ∈ (fl.filter f).map (·.1)) : z ∈ fl.map (·.1) := by
  obtain ⟨p, hp, e⟩ := List.mem_map.mp h
  exact List.mem_map.mpr ⟨p, (List.mem_filter.mp hp).1, e⟩
end LB
set_option Elab.async false
set_option linter.all false
set_option maxRecDepth 100000
namespace LB
open PySem PySem.Spec PyProof.Rows L2
/-! ### name = {k: v for ..} on one line, the name a local -/
section
variable {X : Cx}
theorem ps_setDc {i : Nat} {y : Str} {py : Pos} {kx vx tg iter : Expr} {ifs : List Expr} {scope : Scope} {own : List (Str × Nat)} {pos spos : Pos} {wi : TI} {g : TG} {tt : TT} {tk tv : TE} (calm : X.calm = true) (hN : X.N.Nodup) (hy : X.N[i]? = some y)
    (hyl : X.env.scope.names.lookup y = some .local) (hsw : swapsWith (.DictComp kx vx [⟨tg, iter, ifs, 0⟩] scope pos) (some (.Name y py)) spos.line X.env = pure true) (hi : PI X tg iter wi) (ok : BlkOk X.N X.env.scope scope own)
    (hg : ∀ (s : Shared) (H : Hp) (C : Addr) (cl : List (Str × Addr)) (fp : List Addr), PG (X.blk s H scope (compEnvC scope cl C X.env) fp) tg g)
    (ht : ∀ (s : Shared) (H : Hp) (C : Addr) (cl : List (Str × Addr)) (fp : List Addr), PTs (X.blk s H scope (compEnvC scope cl C X.env) fp) ifs tt)
    (hk : ∀ (s : Shared) (H : Hp) (C : Addr) (cl : List (Str × Addr)) (fp : List Addr), PE (X.blk s H scope (compEnvC scope cl C X.env) fp) kx tk)
    (hv : ∀ (s : Shared) (H : Hp) (C : Addr) (cl : List (Str × Addr)) (fp : List Addr), PE (X.blk s H scope (compEnvC scope cl C X.env) fp) vx tv)
    (hs : ∀ x, foldedSetIterable iter X.env x = pure x := by intro _; rfl) : PS X (.Assign [.Name y py] (.DictComp kx vx [⟨tg, iter, ifs, 0⟩] scope pos) spos) (tAsg (tDc wi g tt tk tv (own.map (·.2))) (gName i)) := by
  refine ⟨fun pins s σ H D I h => ?_⟩
  rw [exec_Assign_Name_used _ _ _ _ hsw]
  refine wpAny_bind (wpAny_standAt (wpAny_bind ?_))
  show wpAny _ X.A (do let _ ← comprehension (.DictComp kx vx [⟨tg, iter, ifs, 0⟩] scope pos) scope X.env (firstIterPos [⟨tg, iter, ifs, 0⟩] pos) newDict false (eval iter X.env) (some (assign (.Name y py) X.env))) _ _ s
  have h2 : tDc wi g tt tk tv (own.map (·.2)) σ H (fun x H1 => gName i x σ H1 D.nx) := h
  refine wpAny_bind (thn (dc_core (Qf := fun _ s' => SP X pins D .next s') calm hN I hi ok hg ht hk hv hs h2 fun L C s' m H' J q hn f => ?_) fun _ s' hq => wpAny_pure (wpAny_pure hq))
  show wpAny _ _ (assign (.Name y py) X.env (.ref L)) _ _ _
  refine wpAny_assign_Name (store_ok2 (v := V.ref L) J hN hy (.inl hyl) rfl (fun s2 J2 ⟨a, sb, ha⟩ => ?_) (.inr hyl))
  obtain ⟨f0, f1, f2, f3, f4, f5⟩ := f
  have neq : C ≠ a := by
    rcases ha with z | z
    · rw [z]
      exact f1
    · intro e
      exact f4 y a z e.symm
  exact ⟨m, hn.sameBut sb neq, fun h3 sb3 => ⟨_, H', J2.turned (t' := s2.toks) (fun b o hb e => (sb3.2 b hb).trans e) f0 f1 f3 f4 f5, q⟩⟩
theorem sw_trueD {kx vx : Expr} {gs : List Comprehension} {scope : Scope} {pos py : Pos} {y : Str} {l : Nat} {env : Env} (hk : env.scope.kind = .function) (hy : env.scope.names.lookup y = some .local) (hl : (py.line == pos.line) = true)
    (ha : (scope.names.any fun (n, k) => n == y && (k == .local || k == .cell)) = false) : swapsWith (.DictComp kx vx gs scope pos) (some (.Name y py)) l env = pure true := by
  have ky : env.kindOf y = some .local := hy
  have hb : env.blockKind = .function := by
    unfold Env.blockKind
    rw [hk]
    rfl
  unfold swapsWith
  simp only [hb, ky, ha, Expr.pos, hl]
  rfl
end
end LB
set_option Elab.async false
set_option linter.all false
set_option maxRecDepth 100000
namespace LB
open PySem PySem.Spec PyProof.Rows L2 ClX
section
variable {P : Program} {w : World} {K : PySem.W.Frag} {mg : Str → Option Value} {base : Heap} {C fI : Addr}
/-! taken_by -/
/-- what a run takes: of each line so many -/
def TakenAt (H : Hp) (v : V) (M : Mx) (ns : List Nat) : Prop := ∃ p kvs, v = .ref p ∧ H p = some (.dK kvs) ∧ ∀ z ∈ M.ins, (cntRun M.rs z ns = 0 ∧ valV kvs (Sum.inr z : Key) = none) ∨ ∃ l xs, valV kvs (Sum.inr z : Key) = some (.ref l) ∧ H l = some (.lst xs) ∧ xs.length = cntRun M.rs z ns
def spTaken (C : Addr) : Sp := fun vs H Q _ => ∃ (m : V) (M : Mx) (a : Addr) (ns : List Nat), vs = [m, .ref a] ∧ MachAt C H m M ∧ H a = some (.lst (nums ns)) ∧ ns.length ≤ 1000 ∧ (M.ins.Nodup ∧ M.ins.length ≤ 4) ∧ (∀ r ∈ M.rs, WsOk M.ins r.tk) ∧ (∀ n ∈ ns, n < M.rs.length) ∧
  ∀ v H', Same H H' → TakenAt H' v M ns → Q v H'
theorem ok_taken_by (T : Tx K mg C fI) (D : DefAt K mg "taken_by" staken_by) : Cal P w K mg base 1 "taken_by" ["machine", "run"] (spTaken C) := by
  refine Cal.mk D sctaken_by (fun _ _ _ _ _ _ us hl => match us, hl with | [_, _], _ => rfl) (fun vs H Q E h => ?_) ?_
  · obtain ⟨m, M, a, ns, rfl, _⟩ := h
    rfl
  · rintro X cdv A outer f s H vs Q E rfl hr ⟨m, M, a, ns, rfl, hM, ha, hz, ⟨nd, h4⟩, hok, hns, q⟩
    obtain ⟨p, dx, t1, t2, t4, rv, rfl, g0, g1, g2, g4, gr⟩ := id hM
    have hu := hu_of hr
    refine ⟨_, pss_cons (ps_setDc (i := 2) (own := [("line", 4)]) (g := gName 4) (tt := tYes) rfl sctaken_by.nd rfl rfl (sw_trueD rfl rfl rfl (by decide +kernel)) (pi_tup (pe_fld (pv 0) rfl)) (blkOk_by (N := Ntaken_by) (sc := defScope staken_by) (by decide +kernel))
        (fun _ _ _ _ _ => pg_name (i := 4) sctaken_by.nd rfl (Or.inl rfl)) (fun _ _ _ _ _ => pts_nil) (fun _ _ _ _ _ => pv 4) (fun _ _ _ _ _ => pe_lst pa_nil))
      (pss_cons (ps_for PassesOwn.never rfl (pi_list (pv 1)) (pg_name (i := 3) sctaken_by.nd rfl (Or.inl rfl))
        (pss_one (ps_lock (ps_for PassesOwn.never rfl (pi_items (pe_ix ix_tup (pe_ix ix_tup (pe_fld (pv 0) rfl) (pv 3) (fun _ _ => rfl)) pe_int (fun _ _ => rfl))) (pg_tup rfl (pgs_cons (pg_name (i := 4) sctaken_by.nd rfl (Or.inl rfl)) (pgs_cons (pg_name (i := 5) sctaken_by.nd rfl (Or.inl rfl)) pgs_nil)))
          (pss_one (ps_expr (pe_bm PySem.F.plainAttrs_list PySem.F.slot_list_append PySem.F.type_list_append mt_append (pe_dget hu (pv 2) (pv 4) (fun _ _ => rfl)) (pa_cons (pv 5) pa_nil))))))))
      (pss_one (ps_ret (pe_lock (pe_dc (own := [("line", 4), ("worths", 6)]) (g := gTup K 2 (gCons (gName 4) (gCons (gName 6) gNil))) rfl sctaken_by.nd (pi_items (pv 2)) (blkOk_by (N := Ntaken_by) (sc := defScope staken_by) (by decide +kernel))
        (fun _ _ _ _ _ => pg_tupK K rfl (pgs_cons (pg_name (i := 4) sctaken_by.nd rfl (Or.inl rfl)) (pgs_cons (pg_name (i := 6) sctaken_by.nd rfl (Or.inl rfl)) pgs_nil)))
        (fun _ _ _ _ _ => pts_one (pt_cmpR (op_neNilK K hr.units0) (pv 6) (pe_lst pa_nil) (nomark _)))
        (fun _ _ _ _ _ => pv 4) (fun _ _ _ _ _ => pv 6)))))), ?_⟩
    refine ⟨_, rfl, p, C, dx, _, _, rfl, g0, T.cls, T.n_own_ins, mf_ins _ _ _ _, t1, rfl, ⟨_, SqT.of g1⟩, fun df nf => ?_⟩
    refine dc_it (walk_tup (K := K) (a := t1) (xs := M.ins.map V.str)) (fun i H' => Same H H' ∧ ∃ fl : Fl, fl.map (·.1) = M.ins.take i ∧ (fl.map (·.2)).Nodup ∧ H' df = some (.dK (mkFl fl)) ∧ ∀ q ∈ fl, H' q.2 = some (.lst []) ∧ H q.2 = none)
      ⟨sm_new nf, [], by simp, List.nodup_nil, upd_same, fun q hq => by cases hq⟩ (fun i H' _ hp => SqT.of (hp.1 _ _ g1)) ?_ ?_
    · rintro i x H1 H2 hi ⟨sm, fl, f1, f2, f3, f4⟩ ⟨rfl, hx⟩
      obtain ⟨z, hz1, rfl⟩ := map_at hx
      have lt := (List.getElem?_eq_some_iff.mp hz1).1
      refine ⟨rfl, ?_⟩
      refine yesT ?_
      refine ⟨_, rfl, by show 0 ≤ sizeLine; decide, fun l nl => ⟨mkFl fl, Sum.inr z, rfl, ?_, ?_, ?_⟩⟩
      · exact sm_new nl _ _ f3
      · have e := congrArg List.length f1
        rw [List.length_map, List.length_take] at e
        rw [mkFl_len]
        exact small1000 (by omega)
      · have lne : l ≠ df := fun e => by
          rw [e, f3] at nl
          cases nl
        refine ⟨sm_mut (sm.trans (sm_new nl)) nf, fl ++ [(z, l)], ?_, ?_, ?_, fun q hq => ?_⟩
        · rw [List.map_append, f1, List.take_succ_eq_append_getElem lt, (List.getElem?_eq_some_iff.mp hz1).2]
          rfl
        · rw [List.map_append]
          refine nd_snoc f2 fun m => ?_
          obtain ⟨q, hq, e⟩ := List.mem_map.mp m
          have := (f4 q hq).1
          rw [e, nl] at this
          cases this
        · rw [upd_same, mkFl_put (by rw [f1]; exact notin_take nd hz1)]
        · rcases List.mem_append.mp hq with hq | hq
          · obtain ⟨k1, k2⟩ := f4 q hq
            refine ⟨?_, k2⟩
            rw [upd_ne (ne_of k1 f3 (by intro z; cases z)), upd_ne (ne_of_none k1 nl)]
            exact k1
          · rw [List.mem_singleton.mp hq]
            refine ⟨?_, sm.free nl⟩
            rw [upd_ne lne, upd_same]
    rintro H1 ⟨s1, fl, f1, f2, f3, f4⟩
    rw [List.length_map, List.take_length] at f1
    have nd1 : (fl.map (·.1)).Nodup := by
      rw [f1]
      exact nd
    refine ⟨_, rfl, a, rfl, ⟨_, SqL.of (s1 _ _ ha)⟩, ?_⟩
    refine for_it (walk_list (K := K) (a := a) (xs := nums ns)) (fun i σ H' => (∃ b c d e, σ = [some (.ref p), some (.ref a), some (.ref df), b, c, d, e]) ∧ Same H H' ∧ FT H' df fl (fun z => cntRun M.rs z (ns.take i)))
      ⟨⟨_, _, _, _, rfl⟩, s1, f3, fun q hq => ⟨[], (f4 q hq).1, by simp [cntRun]⟩⟩ (fun i σ H' _ hp => SqL.of (hp.2.1 _ _ ha)) ?_ ?_
    · rintro i x σ H2 H3 hi ⟨⟨b, c, d, e, rfl⟩, s2, ft⟩ ⟨rfl, hx⟩
      obtain ⟨n, hn, rfl⟩ := nums_at hx
      have lti : i < ns.length := (List.getElem?_eq_some_iff.mp hn).1
      have ltn := hns n (List.mem_of_getElem? hn)
      obtain ⟨r, hr⟩ : ∃ r, M.rs[n]? = some r := ⟨_, List.getElem?_eq_getElem ltn⟩
      obtain ⟨x, hx2, a3, d1, d2, rfl, h1, h2, h3⟩ := paired_get' gr hr
      obtain ⟨k1, k2, k3⟩ := hok r (List.mem_of_getElem? hr)
      refine ⟨d1, _, s2 _ _ h2, trivial, fun od => ?_⟩
      have nf1 : df ≠ d1 := (ne_of_none h2 nf).symm
      have nf2 : ∀ q ∈ fl, q.2 ≠ d1 := fun q hq => (ne_of_none h2 (f4 q hq).2).symm
      have sl : Same (upd H d1 (.frz od (.dK (kvsOf r.tk)))) (upd H3 d1 (.frz od (.dK (kvsOf r.tk)))) := sm_upd s2
      have off : ∀ {b : Addr} {o : HO}, H b = some o → (∀ k, o ≠ .dK k) → (upd H d1 (.frz od (.dK (kvsOf r.tk)))) b = some o := fun hb ne => by
        rw [upd_ne (ne_of hb h2 (ne _))]
        exact hb
      refine ⟨_, rfl, p, C, dx, _, _, rfl, sl _ _ (off g0 (by intro k z; cases z)), T.cls, T.n_own_reactions, mf_rs _ _ _ _, _, rfl, t4, rv, (n : Int), _, rfl, rfl, SqT.of (sl _ _ (off g4 (by intro k z; cases z))), atI_nat hx2,
        a3, _, 1, _, rfl, rfl, SqT.of (sl _ _ (off h1 (by intro k z; cases z))), atI_nat (j := 1) rfl, d1, od, _, rfl, upd_same, ?_⟩
      refine for_it (walk_items (d := d1) (o := od) (kvs := kvsOf r.tk)) (fun j σ' H' => (∃ c d e, σ' = [some (.ref p), some (.ref a), some (.ref df), some (.int n), c, d, e]) ∧ Same (upd H d1 (.frz od (.dK (kvsOf r.tk)))) H' ∧
          FT H' df fl (fun z => cntRun M.rs z (ns.take i) + if z ∈ (r.tk.map (·.1)).take j then 1 else 0))
        ⟨⟨_, _, _, rfl⟩, sl, (ft.off nf1 nf2).congr fun q _ => by simp⟩ (fun j σ' H' _ hp => hp.2.1 _ _ upd_same) ?_ ?_
      · rintro j x σ' H4 H5 hj ⟨⟨c, d, e, rfl⟩, s4, ft4⟩ ⟨t, x1, x2, rfl, ht, rfl, e1, e2⟩
        have hj : j < r.tk.length := by
          rw [kvsOf_len] at hj
          exact hj
        have ek : (kvsOf r.tk)[j]? = some (Sum.inr (r.tk[j]).1, V.int (r.tk[j]).2) := by
          unfold kvsOf
          rw [List.getElem?_map, List.getElem?_eq_getElem hj]
          rfl
        have e1 : ((kvsOf r.tk)[j]?.map fun kv => kV kv.1) = some x1 := e1
        have e2 : (kvsOf r.tk)[j]?.map Prod.snd = some x2 := e2
        rw [ek] at e1 e2
        cases e1
        cases e2
        have zi : (r.tk[j]).1 ∈ M.ins := (k1 _ (List.getElem_mem hj)).1
        obtain ⟨l, hl⟩ := fst_mem (fl := fl) (z := (r.tk[j]).1) (by rw [f1]; exact zi)
        have ft5 := ft4.same (sm_new (o := .tup [.str (r.tk[j]).1, .int (r.tk[j]).2]) ht)
        have s5 := s4.trans (sm_new (o := .tup [.str (r.tk[j]).1, .int (r.tk[j]).2]) ht)
        obtain ⟨xs, hx1, hx2⟩ := ft5.l _ hl
        have g := DGet.k (k := Sum.inr (r.tk[j]).1) ft5.d
        rw [mkFl_get nd1 hl] at g
        refine ⟨t, _, rfl, SqT.of upd_same, rfl, _, _, rfl, _, _, rfl, rfl, ?_⟩
        refine ⟨_, rfl, _, rfl, df, _, rfl, g, .inl ⟨rfl, _, SqL.of hx1⟩, _, rfl, l, xs, _, rfl, rfl, hx1, ?_, ?_⟩
        · have c1 := cntRun_le M.rs (r.tk[j]).1 (ns.take i)
          rw [List.length_take] at c1
          rw [hx2]
          refine Nat.lt_of_le_of_lt (m := 1001) ?_ (by decide)
          show cntRun M.rs (r.tk[j]).1 (ns.take i) + (if _ then 1 else 0) ≤ 1001
          split <;> omega
        · refine ⟨⟨_, _, _, rfl⟩, fun b o hb => ?_, (ft5.push nd1 f2 hl hx1).congr fun q _ => ?_⟩
          · have ne : b ≠ l := fun z => by
              have hn := (f4 _ hl).2
              by_cases zb : b = d1
              · rw [z] at zb
                exact nf2 _ hl zb
              · rw [upd_ne zb, z] at hb
                rw [show H l = none from hn] at hb
                cases hb
            rw [upd_ne ne]
            exact s5 b o hb
          · have := take_mem_succ (l := r.tk.map (·.1)) k2 (j := j) (z := (r.tk[j]).1) (by rw [List.getElem?_map, List.getElem?_eq_getElem hj]; rfl) q.1
            show cntRun M.rs q.1 (ns.take i) + (if q.1 ∈ (r.tk.map (·.1)).take j then 1 else 0) + (if q.1 = (r.tk[j]).1 then 1 else 0) = cntRun M.rs q.1 (ns.take i) + (if q.1 ∈ (r.tk.map (·.1)).take (j + 1) then 1 else 0)
            omega
      · rintro σ' H4 ⟨⟨c, d, e, rfl⟩, s4, ft4⟩
        refine ⟨s4 _ _ upd_same, ⟨_, _, _, _, rfl⟩, sm_unlock h2 s4, (ft4.off nf1 nf2).congr fun q _ => ?_⟩
        rw [kvsOf_len, show r.tk.length = (r.tk.map (·.1)).length by rw [List.length_map], List.take_length, List.take_succ_eq_append_getElem lti, (List.getElem?_eq_some_iff.mp hn).2, cntRun_append]
        congr 1
        have e0 : cntRun M.rs q.1 [n] = oneL M.rs q.1 n := by simp [cntRun]
        rw [e0]
        unfold oneL
        rw [hr]
        show (if _ then 1 else 0) = (if _ then 1 else 0)
        by_cases hm : q.1 ∈ r.tk.map (·.1)
        · rw [if_pos hm, if_pos (hasL_iff.mpr hm)]
        · rw [if_neg hm, if_neg fun z => hm (hasL_iff.mp z)]
    · rintro σ H2 ⟨⟨b, c, d, e, rfl⟩, s2, ft⟩
      rw [nums_len, List.take_length] at ft
      refine ⟨df, _, ft.d, trivial, fun od => ⟨_, rfl, df, od, _, rfl, upd_same, fun D hD => ?_⟩⟩
      have ndf : ∀ q ∈ fl, q.2 ≠ df := fun q hq => by
        obtain ⟨xs, hx, _⟩ := ft.l q hq
        exact ne_of hx ft.d (by intro z; cases z)
      have nDf : D ≠ df := fun z => by
        rw [z, upd_same] at hD
        cases hD
      refine dc_it (walk_items (d := df) (o := od) (kvs := mkFl fl)) (fun j H' => Same (upd H2 df (.frz od (.dK (mkFl fl)))) H' ∧ H' D = some (.dK (mkFl ((fl.take j).filter fun q => decide (cntRun M.rs q.1 ns ≠ 0))))) ⟨sm_new hD, upd_same⟩ (fun j H' _ hp => hp.1 _ _ upd_same) ?_ ?_
      · rintro j x H3 H4 hj ⟨s3, hD3⟩ ⟨t, x1, x2, rfl, ht, rfl, e1, e2⟩
        rw [mkFl_len] at hj
        have ek : (mkFl fl)[j]? = some (Sum.inr (fl[j]).1, V.ref (fl[j]).2) := by
          unfold mkFl
          rw [List.getElem?_map, List.getElem?_eq_getElem hj]
          rfl
        have e1 : ((mkFl fl)[j]?.map fun kv => kV kv.1) = some x1 := e1
        have e2 : (mkFl fl)[j]?.map Prod.snd = some x2 := e2
        rw [ek] at e1 e2
        cases e1
        cases e2
        obtain ⟨xs, hx, hxl⟩ := ft.l _ (List.getElem_mem hj)
        have s4 := s3.trans (sm_new (o := .tup [.str (fl[j]).1, .ref (fl[j]).2]) ht)
        have hx4 := s4 (fl[j]).2 (.lst xs) (by rw [upd_ne (ndf _ (List.getElem_mem hj))]; exact hx)
        have hD4 := sm_new (o := .tup [.str (fl[j]).1, .ref (fl[j]).2]) ht _ _ hD3
        refine ⟨t, _, rfl, SqT.of upd_same, rfl, _, _, rfl, _, _, rfl, rfl, ?_⟩
        refine ⟨rfl, ?_⟩
        refine ⟨_, rfl, by show 0 ≤ sizeLine; decide, fun e he => ⟨(fl[j]).2, e, xs, rfl, rfl, SqL.of (sm_new he _ _ hx4), SqL.of upd_same, _, rfl, ?_⟩⟩
        have tk : (fl.take (j + 1)).filter (fun q => decide (cntRun M.rs q.1 ns ≠ 0)) = (fl.take j).filter (fun q => decide (cntRun M.rs q.1 ns ≠ 0)) ++ (if cntRun M.rs (fl[j]).1 ns ≠ 0 then [fl[j]] else []) := by
          rw [List.take_succ_eq_append_getElem hj, List.filter_append]
          congr 1
          by_cases z : cntRun M.rs (fl[j]).1 ns ≠ 0
          · simp [z]
          · simp [z]
        cases xs with
        | nil =>
          have z : ¬ cntRun M.rs (fl[j]).1 ns ≠ 0 := fun h => h hxl.symm
          refine iteF ?_
          refine ⟨s4.trans (sm_new he), ?_⟩
          rw [tk, if_neg z, List.append_nil]
          exact sm_new he _ _ hD4
        | cons x0 xr =>
          have z : cntRun M.rs (fl[j]).1 ns ≠ 0 := fun h => by
            have h2 : (x0 :: xr).length = cntRun M.rs (fl[j]).1 ns := hxl
            rw [h] at h2
            cases h2
          refine iteT ?_
          refine ⟨_, rfl, _, rfl, _, Sum.inr (fl[j]).1, rfl, sm_new he _ _ hD4, ?_, sm_mut (s4.trans (sm_new he)) hD, ?_⟩
          · rw [mkFl_len]
            have c1 := List.length_filter_le (fun q => decide (cntRun M.rs q.1 ns ≠ 0)) (fl.take j)
            have c2 := congrArg List.length f1
            rw [List.length_map] at c2
            rw [List.length_take] at c1
            exact small1000 (by omega)
          · rw [upd_same, tk, if_pos z, mkFl_put fun m => ?_]
            obtain ⟨q, hq, e⟩ := List.mem_map.mp m
            have hq2 := (List.mem_filter.mp hq).1
            have := notin_take nd1 (i := j) (z := (fl[j]).1) (by rw [List.getElem?_map, List.getElem?_eq_getElem hj]; rfl)
            rw [← List.map_take] at this
            exact this (List.mem_map.mpr ⟨q, hq2, e⟩)
      · rintro H3 ⟨s3, hD3⟩
        rw [mkFl_len, List.take_length] at hD3
        refine ⟨s3 _ _ upd_same, q _ _ ?_ ⟨D, _, rfl, by rw [upd_ne nDf]; exact hD3, fun z hz2 => ?_⟩⟩
        · intro b o hb
          have nb : b ≠ df := ne_of_none hb nf
          rw [upd_ne nb]
          exact s3 b o (by rw [upd_ne nb]; exact s2 b o hb)
        · obtain ⟨l, hl⟩ := fst_mem (fl := fl) (z := z) (by rw [f1]; exact hz2)
          by_cases hc : cntRun M.rs z ns = 0
          · refine .inl ⟨hc, mkFl_none fun m => ?_⟩
            obtain ⟨q, hq, e⟩ := List.mem_map.mp m
            have := of_decide_eq_true (List.mem_filter.mp hq).2
            rw [e] at this
            exact this hc
          · obtain ⟨xs, hx, hxl⟩ := ft.l _ hl
            refine .inr ⟨l, xs, mkFl_get ?_ (List.mem_filter.mpr ⟨hl, decide_eq_true hc⟩), ?_, hxl⟩
            · exact (List.Sublist.map _ List.filter_sublist).nodup nd1
            · rw [upd_ne (ndf _ hl)]
              exact s3 _ _ (by rw [upd_ne (ndf _ hl)]; exact hx)
end
end LB
set_option Elab.async false
set_option linter.all false
set_option maxRecDepth 100000
namespace LB
open PySem PySem.Spec PyProof.Rows L2 ClX
section
variable {P : Program} {w : World} {K : PySem.W.Frag} {mg : Str → Option Value} {base : Heap} {C fI : Addr}
/-! taken, stands_at -/
def spTook (C : Addr) : Sp := fun vs H Q _ => ∃ (m : V) (M : Mx) (a : Addr) (ns : List Nat), vs = [m, .ref a] ∧ MachAt C H m M ∧ H a = some (.lst (nums ns)) ∧ Leads M.rs 0 ns ∧ ns.length ≤ 1000 ∧ (M.ins.Nodup ∧ M.ins.length ≤ 4) ∧ (∀ r ∈ M.rs, WsOk M.ins r.tk) ∧
  ∀ v H', Same H H' → TakenAt H' v M ns → Q v H'
theorem leads_lt {rs : List Rx} : ∀ {ns : List Nat} {s : Int}, Leads rs s ns → ∀ n ∈ ns, n < rs.length
  | m :: ns, _, ⟨r, h1, _, h3⟩, n, hn => by
    rcases List.mem_cons.mp hn with e | hn
    · rw [e]
      exact (List.getElem?_eq_some_iff.mp h1).1
    · exact leads_lt h3 n hn
theorem ok_taken (T : Tx K mg C fI) (D : DefAt K mg "taken" staken) (cW : Cal P w K mg base 4 "want_leading" ["machine", "run"] (spLead C)) (cT : Cal P w K mg base 1 "taken_by" ["machine", "run"] (spTaken C)) :
    Cal P w K mg base 5 "taken" ["machine", "run"] (spTook C) := by
  refine Cal.mk D sctaken (fun _ _ _ _ _ _ us hl => match us, hl with | [_, _], _ => rfl) (fun vs H Q E h => ?_) ?_
  · obtain ⟨m, M, a, ns, rfl, _⟩ := h
    rfl
  · rintro X cdv A outer f s H vs Q E rfl hr ⟨m, M, a, ns, rfl, hM, ha, hl, hz, hi, hok, q⟩
    refine ⟨_, pss_cons (ps_expr (pe_cal cW hr (by rfl) (pa_cons (pv 0) (pa_cons (pv 1) pa_nil))))
      (pss_one (ps_ret (pe_cal cT (hr.mono (by decide)) (by rfl) (pa_cons (pv 0) (pa_cons (pv 1) pa_nil))))), ?_⟩
    refine ⟨_, rfl, _, rfl, _, M, a, ns, rfl, hM, ha, hl, fun H1 s1 => ?_⟩
    refine ⟨_, rfl, _, rfl, _, M, a, ns, rfl, hM.mono s1, s1 _ _ ha, hz, hi, hok, leads_lt hl, fun v H2 s2 t => ?_⟩
    exact q v H2 (s1.trans s2) t
def spStands (C : Addr) : Sp := fun vs H Q _ => ∃ (m : V) (M : Mx) (a : Addr) (ns : List Nat), vs = [m, .ref a] ∧ MachAt C H m M ∧ H a = some (.lst (nums ns)) ∧ Leads M.rs 0 ns ∧ ∀ H', Same H H' → Q (.int (ledTo M.rs 0 ns)) H'
theorem ok_stands_at (T : Tx K mg C fI) (D : DefAt K mg "stands_at" sstands_at) (cW : Cal P w K mg base 4 "want_leading" ["machine", "run"] (spLead C)) (cT : Cal P w K mg base 1 "led_to" ["machine", "standing", "run"] (spLedTo C)) :
    Cal P w K mg base 5 "stands_at" ["machine", "run"] (spStands C) := by
  refine Cal.mk D scstands_at (fun _ _ _ _ _ _ us hl => match us, hl with | [_, _], _ => rfl) (fun vs H Q E h => ?_) ?_
  · obtain ⟨m, M, a, ns, rfl, _⟩ := h
    rfl
  · rintro X cdv A outer f s H vs Q E rfl hr ⟨m, M, a, ns, rfl, hM, ha, hl, q⟩
    refine ⟨_, pss_cons (ps_expr (pe_cal cW hr (by rfl) (pa_cons (pv 0) (pa_cons (pv 1) pa_nil))))
      (pss_one (ps_ret (pe_cal cT (hr.mono (by decide)) (by rfl) (pa_cons (pv 0) (pa_cons pe_int (pa_cons (pv 1) pa_nil)))))), ?_⟩
    refine ⟨_, rfl, _, rfl, _, M, a, ns, rfl, hM, ha, hl, fun H1 s1 => ?_⟩
    exact ⟨_, rfl, _, rfl, _, M, 0, a, ns, rfl, hM.mono s1, s1 _ _ ha, hl, q _ s1⟩
end
end LB
set_option Elab.async false
set_option linter.all false
set_option maxRecDepth 100000
namespace LB
open PySem PySem.Spec PyProof.Rows L2 ClX
/-! ### counts; a node less one reaction -/
def CtOk (ns : List Str) (ws : Ws) : Prop := (∀ p ∈ ws, p.1 ∈ ns ∧ 0 ≤ p.2) ∧ (ws.map (·.1)).Nodup ∧ ws.length ≤ 1000
def lessBy (ins : List Str) (r : Rx) (left : List Int) : List Int := List.zipWith (fun z m => m - (if hasL r z = true then 1 else 0)) ins left
theorem lessBy_len {ins : List Str} {r : Rx} {left : List Int} (h : left.length = ins.length) : (lessBy ins r left).length = ins.length := by
  unfold lessBy
  rw [List.length_zipWith, h, Nat.min_self]
theorem lessBy_at {ins : List Str} {r : Rx} {left : List Int} {i : Nat} {z : Str} {m : Int} (h1 : ins[i]? = some z) (h2 : left[i]? = some m) : (lessBy ins r left)[i]? = some (m - (if hasL r z = true then 1 else 0)) := by
  unfold lessBy
  rw [List.getElem?_zipWith, h1, h2]
theorem lessBy_take {ins : List Str} {r : Rx} {left : List Int} {i : Nat} {z : Str} {m : Int} (h1 : ins[i]? = some z) (h2 : left[i]? = some m) : (lessBy ins r left).take (i + 1) = (lessBy ins r left).take i ++ [m - (if hasL r z = true then 1 else 0)] := by
  have e := lessBy_at (r := r) h1 h2
  obtain ⟨lt, eq⟩ := List.getElem?_eq_some_iff.mp e
  rw [List.take_succ_eq_append_getElem lt, eq]
theorem walk_zipT {K : PySem.W.Frag} {a b : Addr} {xs ys : List V} {n : Nat} (hn : n = min xs.length ys.length) : Walk (RZ.ItzT K a b) n (fun H => SqT K H a xs ∧ SqT K H b ys) (YPair (fun i => xs[i]?) (fun i => ys[i]?)) := by
  subst hn
  refine ⟨fun i _ hi q => ?_, fun _ q => ⟨xs, ys, q.1, q.2, by omega⟩, fun i H v H' _ q y => ?_⟩
  · have h1 : i < xs.length := by omega
    have h2 : i < ys.length := by omega
    exact ⟨xs, ys, xs[i], ys[i], q.1, q.2, by simp [h1], by simp [h2]⟩
  · obtain ⟨T, x, z, h1, h2, h3, h4, h5⟩ := y
    exact ⟨T, x, z, h1, h2, h3, h4 xs q.1, h5 ys q.2⟩
theorem tup_lock {K : PySem.W.Frag} {H : Hp} {l d : Addr} {xs : List V} {kvs : List (Key × V)} {od : Obj} (hl : SqT K H l xs) (hd : H d = some (.dK kvs)) : SqT K (upd H d (.frz od (.dK kvs))) l xs := by
  rcases hl with (h | ⟨o, h⟩) | h
  · exact .inl (.inl (by rw [upd_ne (ne_of h hd (by intro z; cases z))]; exact h))
  · exact .inl (.inr ⟨o, by rw [upd_ne (ne_of h hd (by intro z; cases z))]; exact h⟩)
  · exact .inr h
section
variable {P : Program} {w : World} {K : PySem.W.Frag} {mg : Str → Option Value} {base : Heap} {C fI : Addr}
/-! is_counts -/
def spCounts (C : Addr) : Sp := fun vs H Q _ => ∃ (m : V) (M : Mx) (d : Addr) (ws : Ws), vs = [m, .ref d] ∧ MachAt C H m M ∧ H d = some (.dK (kvsOf ws)) ∧ CtOk M.ins ws ∧ ∀ H', Same H H' → Q (.bl true) H'
theorem ok_is_counts (T : Tx K mg C fI) (D : DefAt K mg "is_counts" sis_counts) (cW : Cal P w K mg base 2 "is_count" ["value"] spCount) : Cal P w K mg base 3 "is_counts" ["machine", "value"] (spCounts C) := by
  refine Cal.mk D scis_counts (fun _ _ _ _ _ _ us hl => match us, hl with | [_, _], _ => rfl) (fun vs H Q E h => ?_) ?_
  · obtain ⟨m, M, d, ws, rfl, _⟩ := h
    rfl
  · rintro X cdv A outer f s H vs Q E rfl hr ⟨m, M, d, ws, rfl, hM, hd, ⟨hw, nd, hz⟩, q⟩
    obtain ⟨p, dx, t1, t2, t4, rv, rfl, g0, g1, g2, g4, gr⟩ := id hM
    have hu := hu_of hr
    refine ⟨_, pss_cons (ps_if (pt_not (pt_val (pe_callB call_isi (by rfl) T.f_isinstance b_isinstance (pa_cons (pv 1) (pa_cons (pe_bltn (v := .ty "dict") (by rfl) T.f_dict b_dict rfl) pa_nil))))) (pss_one (ps_ret pe_bl)) pss_nil)
      (pss_one (ps_ret (pe_callB (cr_all rfl) (by rfl) T.f_all b_all (pa_cons (pe_lock (pe_lc (own := [("line", 2)]) (g := gName 2) (tt := tYes) rfl scis_counts.nd (pi_keys (pv 1)) (blkOk_by (N := Nis_counts) (sc := defScope sis_counts) (by decide +kernel))
        (fun _ _ _ _ _ => pg_name (i := 2) scis_counts.nd rfl (Or.inl rfl)) (fun _ _ _ _ _ => pts_nil)
        (fun _ _ _ _ _ => pe_and (pe_callB (call_isiKK K) (by rfl) T.f_isinstance b_isinstance (pa_cons (pv 2) (pa_cons (pe_bltn (v := .ty "str") (by rfl) T.f_str b_str rfl) pa_nil)))
          (pe_and (pe_cmpR (op_in_seqK K) (pv 2) (pe_fldK K (pv 0) rfl) (by rfl)) (pe_one (pe_cal cW hr (by rfl) (pa_cons (pe_dget hu (pv 1) (pv 2) (fun _ _ => rfl)) pa_nil))))))) pa_nil)))), ?_⟩
    refine ⟨_, rfl, _, _, _, _, true, rfl, .ty _, .base (.dK hd), kit_ty (by decide +kernel), true, rfl, iteF ?_⟩
    refine ⟨d, _, hd, trivial, fun od => ⟨_, rfl, d, od, rfl, .inl ⟨_, upd_same, fun D hD => ?_⟩⟩⟩
    have g00 : (upd H d (.frz od (.dK (kvsOf ws)))) p = some (.ins C dx (mflds t1 t2 M.n t4)) := by rw [upd_ne (ne_of g0 hd (by intro z; cases z))]; exact g0
    have g10 := tup_lock (od := od) (SqT.of (K := K) g1) hd
    refine lc_it walk_keys (PAll (upd H d (.frz od (.dK (kvsOf ws)))) D) (pall_0 hD) (fun i H1 _ hp => hp.1 _ _ upd_same) ?_ ?_
    · rintro i x H1 H2 hi hp ⟨rfl, k, v, hk, rfl⟩
      unfold kvsOf at hk hi
      rw [List.getElem?_map] at hk
      rw [List.length_map] at hi
      obtain ⟨y, hp2, hp3⟩ := Option.map_eq_some_iff.mp hk
      cases hp3
      obtain ⟨w1, w2⟩ := hw y (List.mem_of_getElem? hp2)
      have hg : wsGet ws y.1 = some y.2 := wsGet_mem nd (List.mem_of_getElem? hp2)
      refine ⟨rfl, ?_⟩
      refine yesT ?_
      refine ⟨_, rfl, _, _, _, _, true, rfl, .ty _, .base (.str _), kit_ty (by decide +kernel), true, rfl, ?_⟩
      refine iteT ?_
      refine ⟨_, rfl, _, rfl, p, C, dx, _, _, rfl, hp.1 _ _ g00, T.cls, T.n_own_ins, mf_ins _ _ _ _, t1, _, rfl, .inr (SqT.mono hp.1 g10), rfl, flat_strs _, true, ?_, ?_⟩
      · show V.bl (inV (.str y.1) (M.ins.map V.str)) = _
        rw [inV_strs, decide_eq_true w1]
      · refine iteT ?_
        refine ⟨_, rfl, _, rfl, d, .int y.2, rfl, ?_, y.2, rfl, ?_⟩
        · have := dg_ws (z := y.1) (.inr ⟨od, hp.1 _ _ upd_same⟩ : Rd H2 d (.dK (kvsOf ws)))
          rw [hg] at this
          exact this
        · exact q_true (Q := fun y H4 => ∃ acc, H4 D = some (.lst acc) ∧ acc.length < sizeLine ∧ PAll (upd H d (.frz od (.dK (kvsOf ws)))) D (i + 1) (upd H4 D (.lst (acc ++ [y])))) w2 (pall_step hp hD (Same.refl _) hi (Nat.le_trans hz (by decide)))
    · intro H1 hp
      have sm := sm_unlock hd hp.1
      refine ⟨hp.1 _ _ upd_same, D, List.replicate (kvsOf ws).length true, rfl, SqL.of ?_, ?_⟩
      · rw [upd_ne]
        · exact hp.2
        · intro z
          rw [z, upd_same] at hD
          cases hD
      · rw [allT_all]
        exact q _ sm
/-! with_less -/
def spLess (C : Addr) : Sp := fun vs H Q _ => ∃ (m : V) (M : Mx) (n : Nat) (r : Rx) (l : Addr) (left : List Int), vs = [m, .int n, .ref l] ∧ MachAt C H m M ∧ M.rs[n]? = some r ∧ H l = some (.tup (left.map V.int)) ∧ left.length = M.ins.length ∧ M.ins.length ≤ 4 ∧
  ∀ p H', Same H H' → H p = none → H' p = some (.tup ((lessBy M.ins r left).map V.int)) → Q (.ref p) H'
theorem ok_with_less (T : Tx K mg C fI) (D : DefAt K mg "with_less" swith_less) : Cal P w K mg base 1 "with_less" ["machine", "number", "left"] (spLess C) := by
  refine Cal.mk D scwith_less (fun _ _ _ _ _ _ us hl => match us, hl with | [_, _, _], _ => rfl) (fun vs H Q E h => ?_) ?_
  · obtain ⟨m, M, n, r, l, left, rfl, _⟩ := h
    rfl
  · rintro X cdv A outer f s H vs Q E rfl hr ⟨m, M, n, r, l, left, rfl, hM, hn, hl, le, l4, q⟩
    obtain ⟨p, dx, t1, t2, t4, rv, rfl, g0, g1, g2, g4, gr⟩ := id hM
    have hu := hu_of hr
    obtain ⟨x, hx, a, d1, d2, rfl, h1, h2, h3⟩ := paired_get' gr hn
    refine ⟨_, pss_cons (ps_set (i := 3) scwith_less.nd rfl (Or.inr rfl) (pe_ix ix_tup (pe_ix ix_tup (pe_fld (pv 0) rfl) (pv 1) (fun _ _ => rfl)) pe_int (fun _ _ => rfl)))
      (pss_one (ps_ret (pe_callTy call_tuple_of (by rfl) T.f_tuple b_tuple (pa_cons (pe_lc (own := [("line", 4), ("many", 5)]) (g := gTup K 2 (gCons (gName 4) (gCons (gName 5) gNil))) (tt := tYes) rfl scwith_less.nd (RZ.pi_zipA (by rfl) T.f_zip (pa_cons (pe_fld (pv 0) rfl) (pa_cons (pv 2) pa_nil)))
        (blkOk_by (N := Nwith_less) (sc := defScope swith_less) (by decide +kernel))
        (fun _ _ _ _ _ => pg_tupK K rfl (pgs_cons (pg_name (i := 4) scwith_less.nd rfl (Or.inl rfl)) (pgs_cons (pg_name (i := 5) scwith_less.nd rfl (Or.inl rfl)) pgs_nil)))
        (fun _ _ _ _ _ => pts_nil)
        (fun _ _ _ _ _ => pe_op op_sub (pv 5) (pe_callTy call_int1 (by rfl) T.f_int b_int (pa_cons (pe_cmp (pc_din hu (pv 4) (pv 3))) pa_nil)))) pa_nil)))), ?_⟩
    refine ⟨_, rfl, p, C, dx, _, _, rfl, g0, T.cls, T.n_own_reactions, mf_rs _ _ _ _, _, rfl, t4, rv, (n : Int), _, rfl, rfl, SqT.of g4, atI_nat hx, a, _, 1, _, rfl, rfl, SqT.of h1, atI_nat (j := 1) rfl, ?_⟩
    refine ⟨_, rfl, p, C, dx, _, _, rfl, g0, T.cls, T.n_own_ins, mf_ins _ _ _ _, _, rfl, t1, l, _, _, rfl, .inr ⟨SqT.of g1, SqT.of hl, ?_⟩⟩
    intro D hD
    have ml : min (M.ins.map V.str).length (left.map V.int).length = M.ins.length := by
      rw [List.length_map, List.length_map, le, Nat.min_self]
    refine lc_it (walk_zipT (K := K) (a := t1) (b := l) (xs := M.ins.map V.str) (ys := left.map V.int) rfl) (fun i H' => Same H H' ∧ H' D = some (.lst (((lessBy M.ins r left).take i).map V.int))) ⟨sm_new hD, upd_same⟩
      (fun i H' _ hp => ⟨SqT.of (hp.1 _ _ g1), SqT.of (hp.1 _ _ hl)⟩) ?_ ?_
    · rintro i x H1 H2 hi ⟨sm, ha⟩ ⟨t, x1, x2, rfl, ht, rfl, e1, e2⟩
      rw [ml] at hi
      obtain ⟨z, hz, rfl⟩ := map_at (show (M.ins.map V.str)[i]? = some x1 from e1)
      obtain ⟨j, hj, rfl⟩ := map_at (show (left.map V.int)[i]? = some x2 from e2)
      have s2 := sm_new (o := .tup [.str z, .int j]) ht
      refine ⟨t, _, rfl, SqT.of upd_same, rfl, _, _, rfl, _, _, rfl, rfl, ?_⟩
      refine ⟨rfl, ?_⟩
      refine yesT ?_
      have g := dg_ws (z := z) (.inl (s2 _ _ (sm _ _ h2)) : Rd (upd H1 t (.tup [.str z, .int j])) d1 (.dK (kvsOf r.tk)))
      refine ⟨_, rfl, _, rfl, _, rfl, d1, _, rfl, g, .inr ⟨hasL r z, ?_, _, _, rfl, rfl, ?_⟩⟩
      · show [V.bl ((wsGet r.tk z).map V.int).isSome] = _
        unfold hasL
        cases wsGet r.tk z <;> rfl
      · refine ⟨_, s2 _ _ ha, ?_, sm_mut (sm.trans s2) hD, ?_⟩
        · rw [List.length_map, List.length_take, lessBy_len le]
          exact small1000 (by omega)
        · rw [upd_same, lessBy_take hz hj, List.map_append]
          rfl
    · rintro H1 ⟨sm, ha⟩
      rw [ml, ← lessBy_len (r := r) le, List.take_length] at ha
      refine ⟨D, _, rfl, .inl ⟨SqL.of ha, fun u hu2 => ?_⟩⟩
      refine q u _ (sm.trans (sm_new hu2)) ?_ upd_same
      cases e : H u with
      | none => rfl
      | some o => rw [sm _ _ e] at hu2; cases hu2
end
end LB
set_option Elab.async false
set_option linter.all false
set_option maxRecDepth 100000
namespace LB
open PySem PySem.Spec PyProof.Rows L2
/-! ### the search by standings and what is left: a list of what was found, in order -/
abbrev PN := Node × List Nat
def nextN (ins : List Str) (r : Rx) (x : Node) : Node := (r.nx, lessBy ins r x.2)
def tryB (rs : List Rx) (ins : List Str) (x : PN) (fs : List PN) (n : Nat) : List PN := match rs[n]? with
  | some r => if (∀ y ∈ (nextN ins r x.1).2, 0 ≤ y) ∧ nextN ins r x.1 ∉ fs.map (·.1) then fs ++ [(nextN ins r x.1, x.2 ++ [n])] else fs
  | none => fs
def expB (rs : List Rx) (ins : List Str) (fs : List PN) (x : PN) (ns : List Nat) : List PN := ns.foldl (tryB rs ins x) fs
def seqB (rs : List Rx) (ins : List Str) (b : Node) : Nat → List PN
  | 0 => [(b, [])]
  | k + 1 => match (seqB rs ins b k)[k]? with
    | some x => expB rs ins (seqB rs ins b k) x (numsAt rs x.1.1)
    | none => seqB rs ins b k
theorem tryB_some {rs : List Rx} {ins : List Str} {x : PN} {fs : List PN} {n : Nat} {r : Rx} (h : rs[n]? = some r) :
    tryB rs ins x fs n = if (∀ y ∈ (nextN ins r x.1).2, 0 ≤ y) ∧ nextN ins r x.1 ∉ fs.map (·.1) then fs ++ [(nextN ins r x.1, x.2 ++ [n])] else fs := by
  unfold tryB
  rw [h]
theorem expB_snoc (rs : List Rx) (ins : List Str) (fs : List PN) (x : PN) (ns : List Nat) (n : Nat) : expB rs ins fs x (ns ++ [n]) = tryB rs ins x (expB rs ins fs x ns) n := by
  unfold expB
  rw [List.foldl_append]
  rfl
theorem tryB_pre (rs : List Rx) (ins : List Str) (x : PN) (fs : List PN) (n : Nat) : ∃ t, tryB rs ins x fs n = fs ++ t := by
  unfold tryB
  split
  · split
    · exact ⟨_, rfl⟩
    · exact ⟨[], (List.append_nil _).symm⟩
  · exact ⟨[], (List.append_nil _).symm⟩
theorem expB_pre (rs : List Rx) (ins : List Str) (x : PN) : ∀ (ns : List Nat) (fs : List PN), ∃ t, expB rs ins fs x ns = fs ++ t
  | [], fs => ⟨[], (List.append_nil _).symm⟩
  | n :: ns, fs => by
    obtain ⟨t, h⟩ := tryB_pre rs ins x fs n
    obtain ⟨u, h2⟩ := expB_pre rs ins x ns (tryB rs ins x fs n)
    refine ⟨t ++ u, ?_⟩
    show expB rs ins (tryB rs ins x fs n) x ns = _
    rw [h2, h, List.append_assoc]
theorem seqB_step {rs : List Rx} {ins : List Str} {b : Node} {k : Nat} {x : PN} (h : (seqB rs ins b k)[k]? = some x) : seqB rs ins b (k + 1) = expB rs ins (seqB rs ins b k) x (numsAt rs x.1.1) := by
  conv => lhs; unfold seqB
  rw [h]
theorem seqB_stop {rs : List Rx} {ins : List Str} {b : Node} {k : Nat} (h : (seqB rs ins b k).length ≤ k) : seqB rs ins b (k + 1) = seqB rs ins b k := by
  conv => lhs; unfold seqB
  rw [List.getElem?_eq_none h]
theorem seqB_pre1 (rs : List Rx) (ins : List Str) (b : Node) (k : Nat) : ∃ t, seqB rs ins b (k + 1) = seqB rs ins b k ++ t := by
  cases h : (seqB rs ins b k)[k]? with
  | some x =>
    rw [seqB_step h]
    exact expB_pre _ _ _ _ _
  | none =>
    rw [seqB_stop (List.getElem?_eq_none_iff.mp h)]
    exact ⟨[], (List.append_nil _).symm⟩
theorem seqB_pre (rs : List Rx) (ins : List Str) (b : Node) (k : Nat) : ∀ d, ∃ t, seqB rs ins b (k + d) = seqB rs ins b k ++ t
  | 0 => ⟨[], (List.append_nil _).symm⟩
  | d + 1 => by
    obtain ⟨t, h⟩ := seqB_pre rs ins b k d
    obtain ⟨u, h2⟩ := seqB_pre1 rs ins b (k + d)
    exact ⟨t ++ u, by rw [show k + (d + 1) = k + d + 1 from rfl, h2, h, List.append_assoc]⟩
theorem seqB_end {rs : List Rx} {ins : List Str} {b : Node} {k : Nat} (h : (seqB rs ins b k).length ≤ k) : ∀ d, seqB rs ins b (k + d) = seqB rs ins b k
  | 0 => rfl
  | d + 1 => by
    have ih := seqB_end h d
    rw [show k + (d + 1) = k + d + 1 from rfl, seqB_stop (by rw [ih]; omega), ih]
/-- what the search answers -/
def IsRound (rs : List Rx) (ins : List Str) (b g : Node) : Option (List Nat) → Prop
  | some p => ∃ k, (g, p) ∈ seqB rs ins b k
  | none => ∃ k, (seqB rs ins b k).length ≤ k ∧ g ∉ (seqB rs ins b k).map (·.1)
/-! what holds of all that was found -/
structure BOk (rs : List Rx) (ins : List Str) (n : Int) (b : Node) (e : PN) : Prop where
  ld : Leads rs b.1 e.2
  to : ledTo rs b.1 e.2 = e.1.1
  le : e.1.2.length = ins.length
  ct : ∀ (i : Nat) (z : Str) (m : Int), ins[i]? = some z → b.2[i]? = some m → e.1.2[i]? = some (m - (cntRun rs z e.2 : Nat))
  nn : ∀ y ∈ e.1.2, 0 ≤ y
  sm : (e.2.length : Int) + e.1.2.sum ≤ b.2.sum
  bd : 0 ≤ e.1.1 ∧ e.1.1 < n
structure BAll (rs : List Rx) (ins : List Str) (n : Int) (b : Node) (fs : List PN) : Prop where
  nd : (fs.map (·.1)).Nodup
  ok : ∀ e ∈ fs, BOk rs ins n b e
theorem less_le {r : Rx} : ∀ {ins : List Str} {l : List Int}, l.length = ins.length → (lessBy ins r l).sum ≤ l.sum
  | [], [], _ => by simp [lessBy]
  | z :: ins, m :: l, h => by
    have ih := less_le (r := r) (ins := ins) (l := l) (by simpa using h)
    show ((m - (if hasL r z = true then 1 else 0)) :: lessBy ins r l).sum ≤ (m :: l).sum
    rw [List.sum_cons, List.sum_cons]
    split <;> omega
theorem less_sum {r : Rx} : ∀ {ins : List Str} {l : List Int}, l.length = ins.length → (∃ z ∈ ins, hasL r z = true) → (lessBy ins r l).sum + 1 ≤ l.sum
  | [], _, _, ⟨_, h, _⟩ => by cases h
  | z :: ins, [], h, _ => by cases h
  | z :: ins, m :: l, h, ⟨y, hy, e⟩ => by
    show ((m - (if hasL r z = true then 1 else 0)) :: lessBy ins r l).sum + 1 ≤ (m :: l).sum
    rw [List.sum_cons, List.sum_cons]
    have hl : l.length = ins.length := by simpa using h
    rcases List.mem_cons.mp hy with q | q
    · subst q
      rw [if_pos e]
      have := less_le (r := r) hl
      omega
    · have := less_sum hl ⟨y, q, e⟩
      split <;> omega
/-- what a scene's reactions are like -/
def RsOk (rs : List Rx) (ins : List Str) (n : Int) : Prop := ∀ r ∈ rs, (0 ≤ r.nx ∧ r.nx < n) ∧ ∃ z ∈ ins, hasL r z = true
theorem mem_numsAt {rs : List Rx} {s : Int} {i : Nat} (h : i ∈ numsAt rs s) : ∃ r, rs[i]? = some r ∧ r.st = s := by
  have := (List.mem_filter.mp h).2
  unfold isAt at this
  split at this
  · rename_i r hr
    exact ⟨r, hr, of_decide_eq_true this⟩
  · cases this
theorem BOk.next {rs : List Rx} {ins : List Str} {n : Int} {b : Node} {x : PN} {i : Nat} {r : Rx} (h : BOk rs ins n b x) (R : RsOk rs ins n) (hr : rs[i]? = some r) (hs : r.st = x.1.1) (hn : ∀ y ∈ (nextN ins r x.1).2, 0 ≤ y) : BOk rs ins n b (nextN ins r x.1, x.2 ++ [i]) where
  ld := leads_append h.ld ⟨r, hr, by rw [h.to]; exact hs, trivial⟩
  to := by
    show ledTo rs b.1 (x.2 ++ [i]) = r.nx
    rw [ledTo_append, h.to]
    show ledTo rs (match rs[i]? with | some r => r.nx | none => x.1.1) [] = r.nx
    rw [hr]
    rfl
  le := lessBy_len h.le
  ct := fun j z m hz hm => by
    have e := h.ct j z m hz hm
    have e2 := lessBy_at (r := r) hz e
    show (lessBy ins r x.1.2)[j]? = some (m - (cntRun rs z (x.2 ++ [i]) : Nat))
    rw [e2, cntRun_append]
    have e3 : cntRun rs z [i] = if hasL r z = true then 1 else 0 := by
      unfold cntRun oneL
      simp only [List.map_cons, List.map_nil, hr]
      simp
    rw [e3]
    congr 1
    split <;> omega
  nn := hn
  sm := by
    have h1 := h.sm
    have h2 := less_sum h.le (R r (List.mem_of_getElem? hr)).2
    show ((x.2 ++ [i]).length : Int) + (lessBy ins r x.1.2).sum ≤ b.2.sum
    rw [List.length_append, List.length_singleton]
    omega
  bd := (R r (List.mem_of_getElem? hr)).1
theorem BAll.try {rs : List Rx} {ins : List Str} {n : Int} {b : Node} {x : PN} {fs : List PN} {i : Nat} (h : BAll rs ins n b fs) (R : RsOk rs ins n) (hx : BOk rs ins n b x) (hi : i ∈ numsAt rs x.1.1) : BAll rs ins n b (tryB rs ins x fs i) := by
  obtain ⟨r, hr, hs⟩ := mem_numsAt hi
  rw [tryB_some hr]
  split
  · rename_i c
    refine ⟨?_, fun e he => ?_⟩
    · rw [List.map_append]
      exact nd_snoc h.nd c.2
    · rcases List.mem_append.mp he with he | he
      · exact h.ok e he
      · rw [List.mem_singleton.mp he]
        exact hx.next R hr hs c.1
  · exact h
theorem BAll.exp {rs : List Rx} {ins : List Str} {n : Int} {b : Node} {x : PN} (R : RsOk rs ins n) (hx : BOk rs ins n b x) : ∀ {ns : List Nat} {fs : List PN}, BAll rs ins n b fs → (∀ i ∈ ns, i ∈ numsAt rs x.1.1) → BAll rs ins n b (expB rs ins fs x ns)
  | [], _, h, _ => h
  | i :: ns, fs, h, hi => BAll.exp (ns := ns) R hx (h.try R hx (hi i List.mem_cons_self)) fun j hj => hi j (List.mem_cons_of_mem _ hj)
theorem seqB_all {rs : List Rx} {ins : List Str} {n : Int} {b : Node} (R : RsOk rs ins n) (hb : 0 ≤ b.1 ∧ b.1 < n) (hl : b.2.length = ins.length) (hn : ∀ y ∈ b.2, 0 ≤ y) : ∀ k, BAll rs ins n b (seqB rs ins b k)
  | 0 => ⟨by show [b].Nodup; simp, fun e he => by
      rw [List.mem_singleton.mp he]
      exact ⟨trivial, rfl, hl, fun i z m _ hm => by
        show b.2[i]? = some (m - (cntRun rs z [] : Nat))
        rw [hm]
        simp [cntRun], hn, by simp, hb⟩⟩
  | k + 1 => by
    have ih := seqB_all R hb hl hn k
    cases h : (seqB rs ins b k)[k]? with
    | some x =>
      rw [seqB_step h]
      exact BAll.exp R (ih.ok x (List.mem_of_getElem? h)) ih fun i hi => hi
    | none =>
      rw [seqB_stop (List.getElem?_eq_none_iff.mp h)]
      exact ih
/-! one answer only -/
theorem key_one {α β : Type} : ∀ {l : List (α × β)} {a : α} {p q : β}, (l.map (·.1)).Nodup → (a, p) ∈ l → (a, q) ∈ l → p = q
  | x :: l, a, p, q, nd, hp, hq => by
    obtain ⟨n1, n2⟩ := List.nodup_cons.mp (show (x.1 :: l.map (·.1)).Nodup from nd)
    rcases List.mem_cons.mp hp with e1 | hp <;> rcases List.mem_cons.mp hq with e2 | hq
    · rw [← e1] at e2
      exact (congrArg Prod.snd e2).symm
    · rw [← e1] at n1
      exact absurd (List.mem_map.mpr ⟨_, hq, rfl⟩) n1
    · rw [← e2] at n1
      exact absurd (List.mem_map.mpr ⟨_, hp, rfl⟩) n1
    · exact key_one n2 hp hq
theorem seqB_le {rs : List Rx} {ins : List Str} {b : Node} {k k' : Nat} {e : PN} (h : k ≤ k') (he : e ∈ seqB rs ins b k) : e ∈ seqB rs ins b k' := by
  obtain ⟨t, ht⟩ := seqB_pre rs ins b k (k' - k)
  rw [show k + (k' - k) = k' by omega] at ht
  rw [ht]
  exact List.mem_append_left _ he
theorem round_one {rs : List Rx} {ins : List Str} {b g : Node} {x y : Option (List Nat)} (nd : ∀ k, ((seqB rs ins b k).map (·.1)).Nodup) (hx : IsRound rs ins b g x) (hy : IsRound rs ins b g y) : x = y := by
  have cross : ∀ {p : List Nat}, IsRound rs ins b g (some p) → IsRound rs ins b g none → False := by
    rintro p ⟨k, h1⟩ ⟨j, h2, h3⟩
    refine h3 (List.mem_map.mpr ⟨(g, p), ?_, rfl⟩)
    rcases Nat.le_total k j with h | h
    · exact seqB_le h h1
    · have := seqB_end h2 (k - j)
      rw [show j + (k - j) = k by omega] at this
      rw [← this]
      exact h1
  cases x with
  | none =>
    cases y with
    | none => rfl
    | some q => exact (cross hy hx).elim
  | some p =>
    cases y with
    | none => exact (cross hx hy).elim
    | some q =>
      obtain ⟨k, h1⟩ := hx
      obtain ⟨j, h2⟩ := hy
      rcases Nat.le_total k j with h | h
      · rw [key_one (nd j) (seqB_le h h1) h2]
      · rw [key_one (nd k) h1 (seqB_le h h2)]
/-! so many at most -/
def boxL : Nat → List (List Int)
  | 0 => [[]]
  | m + 1 => (List.range 13).flatMap fun (i : Nat) => (boxL m).map fun l => (i : Int) :: l
theorem flat_len {α β : Type} (f : α → List β) (c : Nat) : ∀ l : List α, (∀ x ∈ l, (f x).length = c) → (l.flatMap f).length = l.length * c
  | [], _ => by simp
  | x :: l, h => by
    rw [List.flatMap_cons, List.length_append, h x List.mem_cons_self, flat_len f c l (fun y hy => h y (List.mem_cons_of_mem _ hy)), List.length_cons, Nat.succ_mul, Nat.add_comm]
theorem boxL_len : ∀ m, (boxL m).length = 13 ^ m
  | 0 => rfl
  | m + 1 => by
    unfold boxL
    rw [flat_len _ (13 ^ m), List.length_range, Nat.pow_succ, Nat.mul_comm]
    intro x _
    rw [List.length_map, boxL_len m]
theorem mem_boxL : ∀ {l : List Int}, (∀ y ∈ l, 0 ≤ y ∧ y ≤ 12) → l ∈ boxL l.length
  | [], _ => by simp [boxL]
  | y :: l, h => by
    obtain ⟨h1, h2⟩ := h y List.mem_cons_self
    show y :: l ∈ boxL (l.length + 1)
    unfold boxL
    refine List.mem_flatMap.mpr ⟨y.toNat, List.mem_range.mpr (by omega), List.mem_map.mpr ⟨l, mem_boxL fun z hz => h z (List.mem_cons_of_mem _ hz), ?_⟩⟩
    rw [show ((y.toNat : Nat) : Int) = y by omega]
theorem le_sum : ∀ {l : List Int} {y : Int}, (∀ x ∈ l, 0 ≤ x) → y ∈ l → y ≤ l.sum
  | x :: l, y, h, hy => by
    have hs : 0 ≤ l.sum := by
      have : ∀ m : List Int, (∀ x ∈ m, 0 ≤ x) → 0 ≤ m.sum := fun m => by
        induction m with
        | nil => intro _; simp
        | cons a m ih =>
          intro hm
          have h1 := hm a List.mem_cons_self
          have h2 := ih fun z hz => hm z (List.mem_cons_of_mem _ hz)
          rw [List.sum_cons]
          omega
      exact this l fun z hz => h z (List.mem_cons_of_mem _ hz)
    have hx := h x List.mem_cons_self
    rw [List.sum_cons]
    rcases List.mem_cons.mp hy with e | e
    · subst e
      omega
    · have := le_sum (fun z hz => h z (List.mem_cons_of_mem _ hz)) e
      omega
def bBig : Nat := 342732
theorem seqB_len {rs : List Rx} {ins : List Str} {n : Int} {b : Node} {fs : List PN} (h : BAll rs ins n b fs) (hn : n ≤ 12) (h4 : ins.length ≤ 4) (hs : b.2.sum ≤ 12) : fs.length ≤ bBig := by
  have h1 := nodup_len ((List.range 12).flatMap fun s => (boxL ins.length).map fun l => (((s : Nat) : Int), l)) (fs.map (·.1)) h.nd fun x hx => by
    obtain ⟨e, he, rfl⟩ := List.mem_map.mp hx
    have o := h.ok e he
    obtain ⟨b1, b2⟩ := o.bd
    refine List.mem_flatMap.mpr ⟨e.1.1.toNat, List.mem_range.mpr (by omega), List.mem_map.mpr ⟨e.1.2, ?_, ?_⟩⟩
    · rw [← o.le]
      refine mem_boxL fun y hy => ⟨o.nn y hy, ?_⟩
      have := le_sum o.nn hy
      have := o.sm
      omega
    · rw [show ((e.1.1.toNat : Nat) : Int) = e.1.1 by omega]
  rw [List.length_map, flat_len _ (13 ^ ins.length), List.length_range] at h1
  · refine Nat.le_trans h1 ?_
    have : 13 ^ ins.length ≤ 13 ^ 4 := Nat.pow_le_pow_right (by decide) h4
    exact Nat.le_trans (Nat.mul_le_mul_left _ this) (by decide)
  · intro x _
    rw [List.length_map, boxL_len]
end LB
set_option Elab.async false
set_option linter.all false
set_option maxRecDepth 100000
namespace LB
open PySem PySem.Spec PyProof.Rows L2
/-! ### the heap without some addresses: what is told of it stands when they change -/
def off (S : List Addr) (H : Hp) : Hp := fun b => if b ∈ S then none else H b
section
variable {S : List Addr} {H H' H0 : Hp} {a b : Addr} {o : HO}
theorem off_at (h : off S H b = some o) : H b = some o ∧ b ∉ S := by
  unfold off at h
  split at h
  · cases h
  · rename_i n
    exact ⟨h, n⟩
theorem off_in (h : H b = some o) (n : b ∉ S) : off S H b = some o := by
  unfold off
  rw [if_neg n]
  exact h
theorem off_le : Same (off S H) H := fun b o h => (off_at h).1
theorem off_ext (h : ∀ b, b ∉ S → H' b = H b) : off S H' = off S H := by
  funext b
  unfold off
  by_cases e : b ∈ S
  · rw [if_pos e, if_pos e]
  · rw [if_neg e, if_neg e, h b e]
theorem off_mut (h : a ∈ S) : off S (upd H a o) = off S H := off_ext fun b n => upd_ne fun e => n (e ▸ h)
theorem off_mut' (h : a ∈ S) (e : ∀ b, b ≠ a → H' b = H b) : off S H' = off S H := off_ext fun b n => e b fun z => n (z ▸ h)
theorem off_same (e : Same H H') : Same (off S H) (off S H') := fun b o h => off_in (e b o (off_at h).1) (off_at h).2
theorem off_new (h : H a = none) : Same (off S H) (off S (upd H a o)) := off_same fun b u e => by
  rw [upd_ne (ne_of_none e h)]
  exact e
theorem off_up (e : Same H0 H) (h : ∀ a ∈ S, H0 a = none) : Same H0 (off S H) := fun b o hb => off_in (e b o hb) fun m => by
  rw [h b m] at hb
  cases hb
theorem off_no (h : a ∈ S) : off S H a = none := by
  unfold off
  rw [if_pos h]
theorem off_nin (h : ∀ a ∈ S, ∃ o, H a = some o) (hb : H b = none) : b ∉ S := fun m => by
  obtain ⟨o, e⟩ := h b m
  rw [e] at hb
  cases hb
end
theorem NodeAt.mv {H H' : Hp} {v : V} {n : Node} (h : NodeAt H v n) (e : ∀ b xs, H b = some (.tup xs) → H' b = some (.tup xs)) : NodeAt H' v n := by
  obtain ⟨t, u, ev, h1, h2⟩ := h
  exact ⟨t, u, ev, e _ _ h1, e _ _ h2⟩
theorem NDAt.mv {P : Program} {w : World} {H H' : Hp} {a : Addr} {kvs : List (Node × V)} (h : NDAt P w H a kvs) (e : ∀ b xs, H b = some (.tup xs) → H' b = some (.tup xs)) (ha : H' a = H a) : NDAt P w H' a kvs := by
  obtain ⟨xs, h1, h2, h3, h4⟩ := h
  exact ⟨xs, ha.trans h1, h2, paired_mono h3 fun p q r => ⟨r.1, r.2.1.mv e, r.2.2⟩, h4⟩
theorem NDAt.is {P : Program} {w : World} {H : Hp} {a : Addr} {kvs : List (Node × V)} (h : NDAt P w H a kvs) : ∃ phi, H a = some (.ext phi) := by
  obtain ⟨xs, h1, _⟩ := h
  exact ⟨_, h1⟩
/-- a found node with its path's list, which H0 does not know -/
def PVat (H0 H : Hp) (p : Node × V) (e : PN) : Prop := p.1 = e.1 ∧ ∃ a, p.2 = .ref a ∧ H0 a = none ∧ H a = some (.lst (nums e.2))
theorem PVat.mono {H0 H H' : Hp} {p : Node × V} {e : PN} (s : Same H H') (h : PVat H0 H p e) : PVat H0 H' p e := ⟨h.1, let ⟨a, h1, h0, h2⟩ := h.2; ⟨a, h1, h0, s _ _ h2⟩⟩
theorem pv_mono {H0 H H' : Hp} {kvs : List (Node × V)} {fs : List PN} (s : Same H H') (h : Paired (PVat H0 H) kvs fs) : Paired (PVat H0 H') kvs fs := paired_mono h fun _ _ q => q.mono s
/-- the nodes of a dict and those of a list are the same ones -/
def KeyAt (p : Node × V) (e : PN) : Prop := p.1 = e.1
theorem ka_none {kvs : List (Node × V)} {fs : List PN} (h : Paired KeyAt kvs fs) (n : Node) : (ndGet kvs n).isSome = decide (n ∈ fs.map (·.1)) := by
  induction h with
  | nil => rfl
  | @cons p e ps es r _ ih =>
    have r : p.1 = e.1 := r
    unfold ndGet
    by_cases c : p.1 = n
    · rw [if_pos c]
      have : n ∈ ((e :: es).map (·.1)) := by
        rw [List.map_cons, ← r, c]
        exact List.mem_cons_self
      rw [decide_eq_true this]
      rfl
    · rw [if_neg c, ih]
      rw [Bool.eq_iff_iff, decide_eq_true_iff, decide_eq_true_iff, List.map_cons, List.mem_cons, ← r]
      exact ⟨.inr, fun q => q.resolve_left fun z => c z.symm⟩
theorem ka_ndGet {kvs : List (Node × V)} {fs : List PN} (h : Paired KeyAt kvs fs) {n : Node} (hn : n ∉ fs.map (·.1)) : ndGet kvs n = none := by
  have := ka_none h n
  rw [decide_eq_false hn] at this
  cases e : ndGet kvs n with
  | none => rfl
  | some v => rw [e] at this; cases this
theorem pv_ka {H0 H : Hp} {kvs : List (Node × V)} {fs : List PN} (h : Paired (PVat H0 H) kvs fs) : Paired KeyAt kvs fs := paired_mono h fun _ _ q => q.1
theorem pv_none {H0 H : Hp} {kvs : List (Node × V)} {fs : List PN} (h : Paired (PVat H0 H) kvs fs) (n : Node) : (ndGet kvs n).isSome = decide (n ∈ fs.map (·.1)) := ka_none (pv_ka h) n
theorem pv_get {H0 H : Hp} {kvs : List (Node × V)} {fs : List PN} (h : Paired (PVat H0 H) kvs fs) (nd : (fs.map (·.1)).Nodup) {e : PN} (he : e ∈ fs) : ∃ a, ndGet kvs e.1 = some (.ref a) ∧ H0 a = none ∧ H a = some (.lst (nums e.2)) := by
  induction h with
  | nil => cases he
  | @cons p x ps es r _ ih =>
    obtain ⟨n1, n2⟩ := List.nodup_cons.mp (show (x.1 :: es.map (·.1)).Nodup from nd)
    unfold ndGet
    rcases List.mem_cons.mp he with q | q
    · subst q
      obtain ⟨a, h1, h0, h2⟩ := r.2
      rw [if_pos r.1, h1]
      exact ⟨a, rfl, h0, h2⟩
    · rw [if_neg]
      · exact ih n2 q
      · intro z
        rw [r.1] at z
        exact n1 (z ▸ List.mem_map.mpr ⟨e, q, rfl⟩)
theorem pv_ndGet {H0 H : Hp} {kvs : List (Node × V)} {fs : List PN} (h : Paired (PVat H0 H) kvs fs) {n : Node} (hn : n ∉ fs.map (·.1)) : ndGet kvs n = none := ka_ndGet (pv_ka h) hn
theorem sum_nn : ∀ {m : List Int}, (∀ x ∈ m, 0 ≤ x) → 0 ≤ m.sum
  | [], _ => by simp
  | a :: m, hm => by
    have h1 := hm a List.mem_cons_self
    have h2 := sum_nn fun z hz => hm z (List.mem_cons_of_mem _ hz)
    rw [List.sum_cons]
    omega
theorem BOk.short {rs : List Rx} {ins : List Str} {n : Int} {b : Node} {e : PN} (h : BOk rs ins n b e) (hs : b.2.sum ≤ 12) : e.2.length ≤ 12 := by
  have h1 := h.sm
  have h2 := sum_nn h.nn
  omega
theorem bBig_lt : bBig + 1 < sizeLine := by decide
/-- the answer of a search, where it stands: a new list, or None -/
def ResAt (H H' : Hp) (v : V) : Option (List Nat) → Prop
  | some p => ∃ a, v = .ref a ∧ H a = none ∧ H' a = some (.lst (nums p))
  | none => v = .non
theorem nums_snoc (p : List Nat) (n : Nat) : nums (p ++ [n]) = nums p ++ [V.int (n : Int)] := by simp [nums]
theorem same_none {H H' : Hp} {b : Addr} (e : Same H H') (h : H' b = none) : H b = none := by
  cases q : H b with
  | none => rfl
  | some o => rw [e _ _ q] at h; cases h
theorem drop_snoc {α : Type} {l : List α} {k : Nat} {x : α} (h : k ≤ l.length) : (l ++ [x]).drop k = l.drop k ++ [x] := by
  rw [List.drop_append_of_le_length h]
end LB
set_option Elab.async false
set_option linter.all false
set_option maxRecDepth 100000
namespace LB
open PySem PySem.Spec PyProof.Rows L2 ClX
theorem iteT' {c : Prop} [Decidable c] {A B : Prop} (h : c) (a : A) : if decide c = true then A else B := by
  rw [decide_eq_true h]
  exact iteT a
theorem iteF' {c : Prop} [Decidable c] {A B : Prop} (h : ¬ c) (b : B) : if decide c = true then A else B := by
  rw [decide_eq_false h]
  exact iteF b
theorem six0 (n : Nat) : seqIndex? 0 (n + 1) = some 0 := by
  unfold seqIndex?
  simp
/-- the search under way: fs found, those from k on waiting -/
structure RState (P : Program) (w : World) (H0 H : Hp) (df dw : Addr) (fs : List PN) (k : Nat) : Prop where
  sm : Same H0 (off [df, dw] H)
  nd : ∃ kvs, NDAt P w H df kvs ∧ Paired (PVat H0 (off [df, dw] H)) kvs fs
  wt : ∃ ws, H dw = some (.lst ws) ∧ Paired (NodeAt (off [df, dw] H)) ws ((fs.drop k).map (·.1))
section
variable {P : Program} {w : World} {H0 H H' : Hp} {df dw : Addr} {fs : List PN} {k : Nat}
theorem RState.grow (h : RState P w H0 H df dw fs k) (e : Same H H') : RState P w H0 H' df dw fs k := by
  obtain ⟨sm, ⟨kvs, n1, n2⟩, ⟨ws, w1, w2⟩⟩ := h
  exact ⟨sm.trans (off_same e), ⟨kvs, n1.mono e, pv_mono (off_same e) n2⟩, ⟨ws, e _ _ w1, paired_mono w2 fun _ _ q => q.mono (off_same e)⟩⟩
theorem RState.nin (h : RState P w H0 H df dw fs k) {b : Addr} (hb : H b = none) : b ∉ [df, dw] := by
  obtain ⟨sm, ⟨kvs, n1, n2⟩, ⟨ws, w1, w2⟩⟩ := h
  refine off_nin (H := H) (fun a ha => ?_) hb
  obtain ⟨phi, e⟩ := n1.is
  rcases List.mem_cons.mp ha with q | q
  · rw [q]
    exact ⟨_, e⟩
  · rw [List.mem_singleton.mp q]
    exact ⟨_, w1⟩
theorem RState.le (h : RState P w H0 H df dw fs k) : Same H0 H := h.sm.trans off_le
theorem RState.pop {x : PN} (h : RState P w H0 H df dw fs k) (hx : fs[k]? = some x) : ∃ y ws, H dw = some (.lst (y :: ws)) ∧ NodeAt (off [df, dw] H) y x.1 ∧ RState P w H0 (upd H dw (.lst ws)) df dw fs (k + 1) := by
  obtain ⟨sm, ⟨kvs, n1, n2⟩, ⟨ws, w1, w2⟩⟩ := h
  obtain ⟨lt, rfl⟩ := List.getElem?_eq_some_iff.mp hx
  rw [List.drop_eq_getElem_cons lt, List.map_cons] at w2
  cases w2 with
  | @cons y _ ys _ r rr =>
    have e : off [df, dw] (upd H dw (.lst ys)) = off [df, dw] H := off_mut (by simp)
    obtain ⟨phi, ep⟩ := n1.is
    refine ⟨y, ys, w1, r, ⟨by rw [e]; exact sm, ⟨kvs, n1.mv (fun b xs hb => ?_) ?_, by rw [e]; exact n2⟩, ⟨ys, upd_same, by rw [e]; exact rr⟩⟩⟩
    · rw [upd_ne (ne_of hb w1 (by intro z; cases z))]
      exact hb
    · rw [upd_ne (ne_of ep w1 (by intro z; cases z))]
theorem RState.put {kvs : List (Node × V)} {ws : List V} {n : Node} {p : List Nat} {pa : Addr} {tv : V} (hle : k ≤ fs.length) (sm : Same H0 (off [df, dw] H)) (n1 : NDAt P w H df kvs) (n2 : Paired (PVat H0 (off [df, dw] H)) kvs fs) (w1 : H dw = some (.lst ws)) (w2 : Paired (NodeAt (off [df, dw] H)) ws ((fs.drop k).map (·.1)))
    (tn : NodeAt (off [df, dw] H) tv n) (hp : off [df, dw] H pa = some (.lst (nums p))) (hp0 : H0 pa = none) (e : ∀ b, b ≠ df → H' b = H b) (n3 : NDAt P w H' df (kvs ++ [(n, .ref pa)])) : H' dw = some (.lst ws) ∧ RState P w H0 (upd H' dw (.lst (ws ++ [tv]))) df dw (fs ++ [(n, p)]) k := by
  obtain ⟨phi, ep⟩ := n1.is
  obtain ⟨phi3, ep3⟩ := n3.is
  have hw : H' dw = some (.lst ws) := (e dw (ne_of w1 ep (by intro z; cases z))).trans w1
  have e2 : off [df, dw] (upd H' dw (.lst (ws ++ [tv]))) = off [df, dw] H := by
    rw [off_mut (by simp)]
    exact off_mut' (by simp) e
  refine ⟨hw, ⟨by rw [e2]; exact sm, ⟨_, n3.mv (fun b xs hb => ?_) ?_, ?_⟩, ⟨_, upd_same, ?_⟩⟩⟩
  · rw [upd_ne (ne_of hb hw (by intro z; cases z))]
    exact hb
  · rw [upd_ne (ne_of ep3 hw (by intro z; cases z))]
  · rw [e2]
    exact paired_snoc ⟨rfl, pa, rfl, hp0, hp⟩ n2
  · rw [e2, drop_snoc hle, List.map_append]
    exact paired_snoc tn w2
end
theorem RState.res {P : Program} {w : World} {H0 H : Hp} {df dw : Addr} {k : Nat} {rs : List Rx} {ins : List Str} {b g : Node} (R : RState P w H0 H df dw (seqB rs ins b k) k) (nd : ((seqB rs ins b k).map (·.1)).Nodup) (hc : (seqB rs ins b k).length ≤ k ∨ g ∈ (seqB rs ins b k).map (·.1)) :
    ∃ kvs, NDAt P w H df kvs ∧ ∃ res, IsRound rs ins b g res ∧ ResAt H0 H ((ndGet kvs g).getD .non) res := by
  obtain ⟨sm, ⟨kvs, n1, n2⟩, _⟩ := R
  refine ⟨kvs, n1, ?_⟩
  by_cases c : g ∈ (seqB rs ins b k).map (·.1)
  · obtain ⟨e, he, rfl⟩ := List.mem_map.mp c
    obtain ⟨a, a1, a0, a2⟩ := pv_get n2 nd he
    refine ⟨some e.2, ⟨k, he⟩, ?_⟩
    rw [a1]
    exact ⟨a, rfl, a0, (off_at a2).1⟩
  · refine ⟨none, ⟨k, hc.resolve_right c, c⟩, ?_⟩
    rw [pv_ndGet n2 c]
    rfl
section
variable {P : Program} {w : World} {K : PySem.W.Frag} {mg : Str → Option Value} {base : Heap} {C fI : Addr}
/-! round_from -/
def zerosN (n : Nat) : List Int := List.replicate n 0
theorem zerosN_map (n : Nat) : (zerosN n).map V.int = List.replicate n (V.int 0) := by
  unfold zerosN
  rw [List.map_replicate]
theorem zerosN_len (n : Nat) : (zerosN n).length = n := List.length_replicate
def spFrom (C : Addr) : Sp := fun vs H Q _ => ∃ (m : V) (M : Mx) (s : Int) (l : Addr) (left : List Int), vs = [m, .int s, .ref l] ∧ MachAt C H m M ∧ M.rs.length ≤ 1000 ∧ H l = some (.tup (left.map V.int)) ∧ (left.length = M.ins.length ∧ M.ins ≠ [] ∧ M.ins.length ≤ 4) ∧ (∀ y ∈ left, 0 ≤ y) ∧ left.sum ≤ 12 ∧
  (0 ≤ s ∧ s < M.n) ∧ M.n ≤ 12 ∧ RsOk M.rs M.ins M.n ∧ ∀ v H' res, Same H H' → IsRound M.rs M.ins (s, left) (s, zerosN M.ins.length) res → ResAt H H' v res → Q v H'
theorem ok_round_from (T : Tx K mg C fI) (D : DefAt K mg "round_from" sround_from) (cN : Cal P w K mg base 1 "numbers_at" ["machine", "standing"] (spNums C)) (cL : Cal P w K mg base 1 "with_less" ["machine", "number", "left"] (spLess C)) :
    Cal P w K mg base 2 "round_from" ["machine", "standing", "left"] (spFrom C) := by
  refine Cal.mk D scround_from (fun _ _ _ _ _ _ us hl => match us, hl with | [_, _, _], _ => rfl) (fun vs H Q E h => ?_) ?_
  · obtain ⟨m, M, s, l, left, rfl, _⟩ := h
    rfl
  · rintro X cdv A outer f s H vs Q E rfl hr ⟨m, M, st, l, left, rfl, hM, hz, hl, ⟨le, ne, l4⟩, nn, s12, hst, hn12, hR, q⟩
    obtain ⟨p, dx, t1, t2, t4, rv, rfl, g0, g1, g2, g4, gr⟩ := id hM
    have hu64 := Nat.lt_of_le_of_lt (Nat.le_succ _) (room65 hr)
    refine ⟨_, pss_cons (ps_set (i := 3) scround_from.nd rfl (Or.inl rfl) (pe_tup (pa_cons (pv 1) (pa_cons (pe_callTy call_tuple_of (by rfl) T.f_tuple b_tuple (pa_cons (pe_lc (own := [("line", 9)]) (g := gName 9) (tt := tYes) rfl scround_from.nd (pi_tup (pe_fld (pv 0) rfl))
        (blkOk_by (N := Nround_from) (sc := defScope sround_from) (by decide +kernel)) (fun _ _ _ _ _ => pg_name (i := 9) scround_from.nd rfl (Or.inl rfl)) (fun _ _ _ _ _ => pts_nil) (fun _ _ _ _ _ => pe_int)) pa_nil)) pa_nil))))
      (pss_cons (ps_par (i := 4) (j := 5) rfl scround_from.nd rfl rfl (by decide) rfl rfl (pa_cons (pe_dispN hu64 (pe_tup (pa_cons (pv 1) (pa_cons (pv 2) pa_nil))) (pe_lst pa_nil)) (pa_cons (pe_lst (pa_cons (pe_tup (pa_cons (pv 1) (pa_cons (pv 2) pa_nil))) pa_nil)) pa_nil)) (by rfl))
      (pss_cons (ps_while PassesOwn.never (PW.pt (pw_and (pt_cmpR (op_neNil hr.units0) (pv 5) (pe_lst pa_nil) (nomark _)) (pw_and1 (pt_cmpR (op_notInND hu64) (pv 3) (pv 4) (by rfl)))))
        (pss_cons (ps_set (i := 6) scround_from.nd rfl (Or.inl rfl) (pe_bm PySem.F.plainAttrs_list PySem.F.slot_list_pop PySem.F.type_list_pop mt_popAt (pv 5) (pa_cons pe_int pa_nil)))
        (pss_one (ps_for PassesOwn.never rfl (pi_list (pe_cal cN (hr.mono (by decide)) (by rfl) (pa_cons (pv 0) (pa_cons (pe_ix ix_tup (pv 6) pe_int (fun _ _ => rfl)) pa_nil)))) (pg_name (i := 7) scround_from.nd rfl (Or.inl rfl))
          (pss_cons (ps_set (i := 8) scround_from.nd rfl (Or.inl rfl) (pe_tup (pa_cons (pe_ix ix_tup (pe_ix ix_tup (pe_fld (pv 0) rfl) (pv 7) (fun _ _ => rfl)) pe_int (fun _ _ => rfl)) (pa_cons (pe_cal cL (hr.mono (by decide)) (by rfl) (pa_cons (pv 0) (pa_cons (pv 7) (pa_cons (pe_ix ix_tup (pv 6) pe_int (fun _ _ => rfl)) pa_nil)))) pa_nil))))
          (pss_one (ps_if (PW.pt (pw_and (pt_cmpR (op_notInND hu64) (pv 8) (pv 4) (by rfl)) (pw_and1 (pt_cmpR op_ge (pe_callB (cr_minT rfl) (by rfl) T.f_min b_min (pa_cons (pe_ix ix_tup (pv 8) pe_int (fun _ _ => rfl)) pa_nil)) pe_int (nomark _)))))
            (pss_cons (ps_asg (pe_op op_cat (pe_ndget hu64 (pv 4) (pv 6) (fun _ _ => rfl)) (pe_lst (pa_cons (pv 7) pa_nil))) (pg_sub (pv 4) (pv 8) (set_nd hu64)))
              (pss_one (ps_expr (pe_bm PySem.F.plainAttrs_list PySem.F.slot_list_append PySem.F.type_list_append mt_append (pv 5) (pa_cons (pv 8) pa_nil)))))
            pss_nil)))))))
      (pss_one (ps_ret (pe_ndget1 hu64 (pv 4) (pv 3) ⟨rfl, rfl, rfl, rfl⟩))))), ?_⟩
    -- the goal
    refine ⟨_, rfl, _, rfl, p, C, dx, _, _, rfl, g0, T.cls, T.n_own_ins, mf_ins _ _ _ _, t1, rfl, ⟨_, SqT.of g1⟩, fun D hD => ?_⟩
    refine lc_it (walk_tup (K := K) (a := t1) (xs := M.ins.map V.str)) (fun i H' => Same H H' ∧ H' D = some (.lst (List.replicate i (V.int 0)))) ⟨sm_new hD, upd_same⟩ (fun i H' _ hp => SqT.of (hp.1 _ _ g1)) ?_ ?_
    · rintro i x H1 H2 hi ⟨sm, ha⟩ ⟨rfl, hx⟩
      refine ⟨rfl, ?_⟩
      refine yesT ?_
      refine ⟨_, ha, ?_, sm_mut sm hD, ?_⟩
      · rw [List.length_map] at hi
        rw [List.length_replicate]
        exact small1000 (by omega)
      · rw [upd_same, List.replicate_succ']
    rintro H1 ⟨s1, hD1⟩
    refine ⟨D, _, rfl, .inl ⟨SqL.of hD1, fun gz hgz => ?_⟩⟩
    refine ⟨by show 2 ≤ sizeLine; decide, fun gt hgt => ?_⟩
    have gN : NodeAt (upd (upd H1 gz (.tup (List.replicate (M.ins.map V.str).length (V.int 0)))) gt (.tup [.int st, .ref gz])) (.ref gt) (st, zerosN M.ins.length) := by
      refine ⟨gt, gz, rfl, upd_same, ?_⟩
      rw [upd_ne (ne_of_none upd_same hgt), upd_same, zerosN_map, List.length_map]
    have s2 : Same H (upd (upd H1 gz (.tup (List.replicate (M.ins.map V.str).length (V.int 0)))) gt (.tup [.int st, .ref gz])) := (s1.trans (sm_new hgz)).trans (sm_new hgt)
    revert gN s2
    generalize upd (upd H1 gz (.tup (List.replicate (M.ins.map V.str).length (V.int 0)))) gt (.tup [.int st, .ref gz]) = H2
    intro gN s2
    have hl2 := s2 _ _ hl
    -- what is found, what waits
    refine fun df nf => ⟨_, rfl, _, rfl, by show 2 ≤ sizeLine; decide, fun kt hkt => ?_⟩
    refine ⟨by show 0 ≤ sizeLine; decide, fun el hel => ?_⟩
    have nkd : df ≠ kt := ne_of_none upd_same hkt
    have hdf : (upd (upd (upd H2 df (.dK [])) kt (.tup [.int st, .ref l])) el (.lst [])) df = some (.dK []) := by
      rw [upd_ne (ne_of_none (by rw [upd_ne nkd, upd_same]) hel), upd_ne nkd, upd_same]
    have nel2 : H2 el = none := same_none (sm_new nf) (same_none (sm_new hkt) hel)
    have s3 : Same H2 (upd (upd (upd H2 df (.dK [])) kt (.tup [.int st, .ref l])) el (.lst [])) := ((sm_new nf).trans (sm_new hkt)).trans (sm_new hel)
    have hkt3 : (upd (upd (upd H2 df (.dK [])) kt (.tup [.int st, .ref l])) el (.lst [])) kt = some (.tup [.int st, .ref l]) := by
      rw [upd_ne (ne_of_none upd_same hel), upd_same]
    have hel3 : (upd (upd (upd H2 df (.dK [])) kt (.tup [.int st, .ref l])) el (.lst [])) el = some (.lst []) := upd_same
    revert hdf s3 hkt3 hel3
    generalize upd (upd (upd H2 df (.dK [])) kt (.tup [.int st, .ref l])) el (.lst []) = H3
    intro hdf s3 hkt3 hel3
    refine ⟨hdf, (st, left), ⟨kt, l, rfl, hkt3, s3 _ _ hl2⟩, fun H4 e4 n4 => ?_⟩
    have s4 : Same H2 H4 := fun b o hb => by
      rw [e4 b (ne_of_none hb nf)]
      exact s3 b o hb
    have nel : el ≠ df := ne_of hel3 hdf (by intro z; cases z)
    have hel4 : H4 el = some (.lst []) := by
      rw [e4 el nel]
      exact hel3
    clear hdf s3 hkt3 hel3 nkd
    refine ⟨_, rfl, _, rfl, by show 2 ≤ sizeLine; decide, fun nt hnt => ?_⟩
    refine ⟨by show 1 ≤ sizeLine; decide, fun dw hdw => ?_⟩
    obtain ⟨phi4, ep4⟩ := n4.is
    have s5 : Same H4 (upd (upd H4 nt (.tup [.int st, .ref l])) dw (.lst [.ref nt])) := (sm_new hnt).trans (sm_new hdw)
    have hnt5 : (upd (upd H4 nt (.tup [.int st, .ref l])) dw (.lst [.ref nt])) nt = some (.tup [.int st, .ref l]) := by
      rw [upd_ne (ne_of_none upd_same hdw), upd_same]
    have hdw5 : (upd (upd H4 nt (.tup [.int st, .ref l])) dw (.lst [.ref nt])) dw = some (.lst [.ref nt]) := upd_same
    have nw2 : H2 dw = none := same_none s4 (same_none (sm_new hnt) hdw)
    have nelw : el ≠ dw := fun z => by
      rw [← z] at hdw
      rw [sm_new hnt _ _ hel4] at hdw
      cases hdw
    revert s5 hnt5 hdw5
    generalize upd (upd H4 nt (.tup [.int st, .ref l])) dw (.lst [.ref nt]) = H5
    intro s5 hnt5 hdw5
    have ndw : dw ≠ df := ne_of hdw5 (s5 _ _ ep4) (by intro z; cases z)
    have s25 : Same H2 (off [df, dw] H5) := off_up (s4.trans s5) fun a ha => by
      rcases List.mem_cons.mp ha with z | z
      · rw [z]
        exact nf
      · rw [List.mem_singleton.mp z]
        exact nw2
    have tup5 : ∀ {b : Addr} {xs : List V}, H5 b = some (.tup xs) → off [df, dw] H5 b = some (.tup xs) := fun {b xs} hb => off_in hb fun m => by
      rcases List.mem_cons.mp m with z | z
      · rw [z, s5 _ _ ep4] at hb
        cases hb
      · rw [List.mem_singleton.mp z, hdw5] at hb
        cases hb
    have R0 : RState P w H2 H5 df dw (seqB M.rs M.ins (st, left) 0) 0 := by
      refine ⟨s25, ⟨_, n4.mono s5, .cons ⟨rfl, el, rfl, nel2, off_in (s5 _ _ hel4) ?_⟩ .nil⟩, ⟨_, hdw5, .cons ⟨nt, l, rfl, tup5 hnt5, tup5 (s5 _ _ (s4 _ _ hl2))⟩ .nil⟩⟩
      intro m
      rcases List.mem_cons.mp m with z | z
      · exact nel z
      · exact nelw (List.mem_singleton.mp z)
    have BA := seqB_all (b := (st, left)) hR hst le nn
    refine ⟨_, _, rfl, ?_⟩
    refine ⟨fun m σ H' => ∃ (k : Nat) (a b c d : Option V), (m = bBig - k ∧ k ≤ (seqB M.rs M.ins (st, left) k).length) ∧ σ = [some (.ref p), some (.int st), some (.ref l), some (.ref gt), some (.ref df), some (.ref dw), a, b, c, d] ∧ RState P w H2 H' df dw (seqB M.rs M.ins (st, left) k) k,
      ⟨_, 0, _, _, _, _, ⟨rfl, Nat.zero_le _⟩, rfl, R0⟩, ?_⟩
    rintro m σ H6 ⟨k, a, b, c, d, ⟨rfl, hk⟩, rfl, R⟩
    have ND := BA k
    have LE : (seqB M.rs M.ins (st, left) k).length ≤ bBig := seqB_len ND hn12 l4 s12
    obtain ⟨kvs0, n10, n20⟩ := R.nd
    obtain ⟨ws0, w10, w20⟩ := R.wt
    refine ⟨_, rfl, by show 0 ≤ sizeLine; decide, fun e he => ⟨dw, e, _, rfl, rfl, SqL.of (sm_new he _ _ w10), SqL.of upd_same, _, rfl, ?_⟩⟩
    have R1 := R.grow (sm_new (o := .lst []) he)
    have w11 := sm_new (o := .lst []) he _ _ w10
    revert R1 w11
    generalize upd H6 e (.lst []) = H7
    intro R1 w11
    cases ws0 with
    | nil =>
      have hle : (seqB M.rs M.ins (st, left) k).length ≤ k := by
        have e1 := paired_len w20
        rw [List.length_map, List.length_drop] at e1
        simp at e1
        omega
      obtain ⟨kvs, n1, res, i1, i2⟩ := R1.res (g := (st, zerosN M.ins.length)) ND.nd (.inl hle)
      refine iteF ?_
      refine ⟨_, rfl, df, kvs, rfl, n1, _, rfl, _, kvs, gN.mono R1.le, n1, q _ _ res (s2.trans R1.le) i1 ?_⟩
      cases res with
      | none => exact i2
      | some pp => obtain ⟨a, a1, a0, a2⟩ := i2; exact ⟨a, a1, same_none s2 a0, a2⟩
    | cons y0 wr =>
    refine iteT ?_
    obtain ⟨kvs1, n11, n21⟩ := id R1.nd
    refine ⟨_, rfl, _, rfl, df, _, kvs1, rfl, gN.mono R1.le, n11, _, rfl, ?_⟩
    rw [pv_none n21]
    by_cases hg : (st, zerosN M.ins.length) ∈ (seqB M.rs M.ins (st, left) k).map (·.1)
    · rw [decide_eq_true hg]
      obtain ⟨kvs, n1, res, i1, i2⟩ := R1.res (g := (st, zerosN M.ins.length)) ND.nd (.inr hg)
      refine iteF ?_
      refine ⟨_, rfl, df, kvs, rfl, n1, _, rfl, _, kvs, gN.mono R1.le, n1, q _ _ res (s2.trans R1.le) i1 ?_⟩
      cases res with
      | none => exact i2
      | some pp => obtain ⟨a, a1, a0, a2⟩ := i2; exact ⟨a, a1, same_none s2 a0, a2⟩
    rw [decide_eq_false hg]
    refine iteT ?_
    have hlt : k < (seqB M.rs M.ins (st, left) k).length := by
      have e1 := paired_len w20
      rw [List.length_map, List.length_drop, List.length_cons] at e1
      omega
    obtain ⟨x, hx⟩ : ∃ x, (seqB M.rs M.ins (st, left) k)[k]? = some x := ⟨_, List.getElem?_eq_getElem hlt⟩
    obtain ⟨y, ws, w12, yN, R2⟩ := R1.pop hx
    rw [w11] at w12
    cases w12
    refine ⟨fun σ' H' => ∃ m', m' < bBig - k ∧ ∃ (k : Nat) (a b c d : Option V), (m' = bBig - k ∧ k ≤ (seqB M.rs M.ins (st, left) k).length) ∧ σ' = [some (.ref p), some (.int st), some (.ref l), some (.ref gt), some (.ref df), some (.ref dw), a, b, c, d] ∧ RState P w H2 H' df dw (seqB M.rs M.ins (st, left) k) k,
      fun _ _ z => z, ?_⟩
    refine ⟨_, rfl, .inl ⟨rfl, _, SqL.of w11⟩, dw, _, 0, 0, y0, rfl, rfl, w11, by decide, by decide, six0 _, rfl, ?_⟩
    show _
    have yN2 : NodeAt (off [df, dw] (upd H7 dw (.lst wr))) y0 x.1 := by
      rw [off_mut (by simp)]
      exact yN
    have hXok := ND.ok x (List.mem_of_getElem? hx)
    have e8 : (upd H7 dw (.lst ((y0 :: wr).eraseIdx 0))) = upd H7 dw (.lst wr) := rfl
    rw [e8]
    revert yN2 R2
    generalize upd H7 dw (.lst wr) = H8
    intro R2 yN2
    obtain ⟨hb, hu2, rfl, y1, y2⟩ := yN2
    have M8 := hM.mono (s2.trans R2.le)
    refine ⟨_, rfl, _, rfl, hb, _, 0, _, rfl, rfl, SqT.of (off_at y1).1, atI_nat (j := 0) rfl, _, M, x.1.1, rfl, M8, hz, fun nq H9 s9 hnq hq9 => ⟨nq, rfl, ⟨_, SqL.of hq9⟩, ?_⟩⟩
    have R3 := R2.grow s9
    have qn := R2.nin hnq
    have s89 : Same (off [df, dw] H8) (off [df, dw] H9) := off_same s9
    have hq9' := off_in hq9 qn
    refine for_it (walk_list (K := K) (a := nq) (xs := nums (numsAt M.rs x.1.1))) (fun i σ' H' => ∃ (b c d : Option V), σ' = [some (.ref p), some (.int st), some (.ref l), some (.ref gt), some (.ref df), some (.ref dw), some (.ref hb), b, c, d] ∧ Same (off [df, dw] H9) (off [df, dw] H') ∧
        RState P w H2 H' df dw (expB M.rs M.ins (seqB M.rs M.ins (st, left) k) x ((numsAt M.rs x.1.1).take i)) (k + 1))
      ⟨_, _, _, rfl, Same.refl _, R3⟩ (fun i σ' H' _ ⟨_, _, _, _, z, _⟩ => SqL.of (off_at (z _ _ hq9')).1) ?_ ?_
    · rintro i v σ' H10 H' hi ⟨b, c, d, rfl, s9', R4⟩ ⟨rfl, hv⟩
      obtain ⟨n, hn, rfl⟩ := nums_at hv
      have lti : i < (numsAt M.rs x.1.1).length := (List.getElem?_eq_some_iff.mp hn).1
      have hmem := List.mem_of_getElem? hn
      obtain ⟨r, hr1, hrs⟩ := mem_numsAt hmem
      obtain ⟨xv, hxv, a3, d1, d2, rfl, h1, h2, h3⟩ := paired_get' gr hr1
      have S2 : Same H H' := s2.trans R4.le
      have y1' := (off_at (s9' _ _ (s89 _ _ y1))).1
      have y2' := (off_at (s9' _ _ (s89 _ _ y2))).1
      refine ⟨_, rfl, p, C, dx, _, _, rfl, S2 _ _ g0, T.cls, T.n_own_reactions, mf_rs _ _ _ _, _, rfl, t4, rv, (n : Int), _, rfl, rfl, SqT.of (S2 _ _ g4), atI_nat hxv, a3, _, 3, _, rfl, rfl, SqT.of (S2 _ _ h1), atI_nat (j := 3) rfl, ?_⟩
      refine ⟨_, rfl, _, rfl, _, rfl, hb, _, 1, _, rfl, rfl, SqT.of y1', atI_nat (j := 1) rfl, _, M, n, r, hu2, x.1.2, rfl, hM.mono S2, hr1, y2', hXok.le, l4, fun pl Hl sl nl hpl => ?_⟩
      refine ⟨by show 2 ≤ sizeLine; decide, fun tt htt => ?_⟩
      have sA : Same H' (upd Hl tt (.tup [.int r.nx, .ref pl])) := sl.trans (sm_new htt)
      have hpl2 : (upd Hl tt (.tup [.int r.nx, .ref pl])) pl = some (.tup ((lessBy M.ins r x.1.2).map V.int)) := by
        rw [upd_ne (ne_of_none hpl htt)]
        exact hpl
      have htt2 : (upd Hl tt (.tup [.int r.nx, .ref pl])) tt = some (.tup [.int r.nx, .ref pl]) := upd_same
      have ttn : tt ∉ [df, dw] := R4.nin (same_none sl htt)
      have pln : pl ∉ [df, dw] := R4.nin nl
      revert sA hpl2 htt2
      generalize upd Hl tt (.tup [.int r.nx, .ref pl]) = HA
      intro sA hpl2 htt2
      have R5 := R4.grow sA
      have tN : NodeAt (off [df, dw] HA) (.ref tt) (nextN M.ins r x.1) := ⟨tt, pl, rfl, off_in htt2 ttn, off_in hpl2 pln⟩
      have s9A := s9'.trans (off_same (S := [df, dw]) sA)
      have ex : expB M.rs M.ins (seqB M.rs M.ins (st, left) k) x ((numsAt M.rs x.1.1).take (i + 1)) = tryB M.rs M.ins x (expB M.rs M.ins (seqB M.rs M.ins (st, left) k) x ((numsAt M.rs x.1.1).take i)) n := by
        rw [List.take_succ_eq_append_getElem lti, (List.getElem?_eq_some_iff.mp hn).2, expB_snoc]
      rw [tryB_some hr1] at ex
      have BE := BAll.exp hR hXok (ns := (numsAt M.rs x.1.1).take i) ND fun j hj => List.mem_of_mem_take hj
      have LEE := seqB_len BE hn12 l4 s12
      have PRE := expB_pre M.rs M.ins x ((numsAt M.rs x.1.1).take i) (seqB M.rs M.ins (st, left) k)
      revert ex R5 BE LEE PRE
      generalize expB M.rs M.ins (seqB M.rs M.ins (st, left) k) x ((numsAt M.rs x.1.1).take i) = fs
      generalize expB M.rs M.ins (seqB M.rs M.ins (st, left) k) x ((numsAt M.rs x.1.1).take (i + 1)) = fs'
      intro R5 ex BE LEE ⟨tl, PRE⟩
      have klt : k < fs.length := by
        rw [PRE, List.length_append]
        omega
      have hxm : x ∈ fs := by
        rw [PRE]
        exact List.mem_append_left _ (List.mem_of_getElem? hx)
      obtain ⟨kvs, n1, n2⟩ := R5.nd
      obtain ⟨ws2, w1, w2⟩ := R5.wt
      refine ⟨_, rfl, _, rfl, df, _, kvs, rfl, tN.mono off_le, n1, _, rfl, ?_⟩
      rw [pv_none n2]
      by_cases hin : nextN M.ins r x.1 ∈ fs.map (·.1)
      · rw [decide_eq_true hin]
        rw [if_neg fun z => z.2 hin] at ex
        refine iteF ?_
        rw [ex]
        exact ⟨_, _, _, rfl, s9A, R5⟩
      rw [decide_eq_false hin]
      refine iteT ?_
      refine ⟨_, rfl, tt, _, 1, _, rfl, rfl, SqT.of htt2, atI_nat (j := 1) rfl, pl, _, rfl, SqT.of hpl2, ?_, fun mm hmm hmin => ⟨_, _, rfl, rfl, _, rfl, ?_⟩⟩
      · rw [lessBy_len hXok.le]
        exact List.length_pos_iff.mpr ne
      by_cases hm0 : 0 ≤ mm
      · have hall : ∀ y ∈ (nextN M.ins r x.1).2, 0 ≤ y := fun y hy => Int.le_trans hm0 (hmin y hy)
        rw [if_pos ⟨hall, hin⟩] at ex
        refine iteT' hm0 ?_
        obtain ⟨a, a1, a0, a2⟩ := pv_get n2 BE.nd hxm
        have a2' := (off_at a2).1
        refine ⟨_, rfl, _, rfl, df, x.1, kvs, _, rfl, ⟨hb, hu2, rfl, sA _ _ y1', sA _ _ y2'⟩, n1, a1, _, rfl, by show 1 ≤ sizeLine; decide, fun ln hln => ?_⟩
        have hs12 := hXok.short s12
        refine ⟨a, ln, _, _, rfl, rfl, sm_new hln _ _ a2', upd_same, ?_, fun pa hpa => ?_⟩
        · rw [nums_len]
          show x.2.length + 1 ≤ sizeLine
          exact Nat.le_trans (show x.2.length + 1 ≤ 13 by omega) (by decide)
        have sB : Same HA (upd (upd HA ln (.lst [.int n])) pa (.lst (nums x.2 ++ [.int n]))) := (sm_new hln).trans (sm_new hpa)
        have hpa2 : (upd (upd HA ln (.lst [.int n])) pa (.lst (nums x.2 ++ [.int n]))) pa = some (.lst (nums (x.2 ++ [n]))) := by
          rw [upd_same, nums_snoc]
        have hpaA : HA pa = none := same_none (sm_new hln) hpa
        have pan : pa ∉ [df, dw] := R5.nin hpaA
        have pa0 : H2 pa = none := same_none R5.le hpaA
        revert sB hpa2
        generalize upd (upd HA ln (.lst [.int n])) pa (.lst (nums x.2 ++ [.int n])) = HB
        intro sB hpa2
        have n1B := n1.mono sB
        refine ⟨_, rfl, _, rfl, df, _, kvs, rfl, (tN.mono off_le).mono sB, n1B, pv_ndGet n2 hin, ?_, fun HC eC nC => ?_⟩
        · rw [paired_len n2]
          exact Nat.lt_of_le_of_lt LEE (by decide)
        obtain ⟨hwC, R6⟩ := RState.put (n := nextN M.ins r x.1) (p := x.2 ++ [n]) (tv := .ref tt) klt (R5.sm.trans (off_same sB)) n1B (pv_mono (off_same sB) n2) (sB _ _ w1) (paired_mono w2 fun _ _ q => q.mono (off_same sB)) (tN.mono (off_same sB)) (off_in hpa2 pan) pa0 eC nC
        refine ⟨_, rfl, .inl ⟨rfl, _, SqL.of hwC⟩, _, rfl, dw, _, _, rfl, rfl, hwC, ?_, ?_⟩
        · have e1 := paired_len w2
          rw [List.length_map, List.length_drop] at e1
          rw [e1]
          exact Nat.lt_of_le_of_lt (Nat.le_trans (Nat.sub_le _ _) LEE) (by decide)
        rw [ex]
        refine ⟨_, _, _, rfl, (s9A.trans (off_same sB)).trans ?_, R6⟩
        rw [off_mut (show dw ∈ [df, dw] by simp), off_mut' (show df ∈ [df, dw] by simp) eC]
        exact Same.refl _
      · rw [if_neg fun z => hm0 (z.1 mm hmm)] at ex
        refine iteF' hm0 ?_
        rw [ex]
        exact ⟨_, _, _, rfl, s9A, R5⟩
    · rintro σ' H' ⟨b, c, d, rfl, s9', R4⟩
      rw [nums_len, List.take_length] at R4
      rw [← seqB_step hx] at R4
      refine ⟨_, ?_, k + 1, _, _, _, _, ⟨rfl, ?_⟩, rfl, R4⟩
      · omega
      · obtain ⟨t, ht⟩ := seqB_pre1 M.rs M.ins (st, left) k
        rw [ht, List.length_append]
        omega
end
end LB
set_option Elab.async false
set_option linter.all false
set_option maxRecDepth 100000
namespace LB
open PySem PySem.Spec PyProof.Rows L2
/-! ### counts by lines -/
def leftOf (ins : List Str) (ws : Ws) : List Int := ins.map fun z => (wsGet ws z).getD 0
theorem leftOf_len (ins : List Str) (ws : Ws) : (leftOf ins ws).length = ins.length := List.length_map _
theorem wsGet_none : ∀ {ws : Ws} {z : Str}, z ∉ ws.map (·.1) → wsGet ws z = none
  | [], _, _ => rfl
  | p :: r, z, h => by
    rw [List.map_cons] at h
    rw [wsGet_cons, if_neg (fun (e : p.1 = z) => h (e ▸ List.mem_cons_self))]
    exact wsGet_none fun m => h (List.mem_cons_of_mem _ m)
theorem sum_if {z : Str} {v : Int} (f : Str → Int) : ∀ {ins : List Str}, ins.Nodup → (ins.map fun y => if z = y then v else f y).sum = (ins.map f).sum + if z ∈ ins then v - f z else 0
  | [], _ => by simp
  | y :: ins, nd => by
    obtain ⟨n1, n2⟩ := List.nodup_cons.mp nd
    have ih := sum_if (z := z) (v := v) f n2
    rw [List.map_cons, List.map_cons, List.sum_cons, List.sum_cons, ih]
    by_cases e : z = y
    · subst e
      rw [if_pos rfl, if_neg n1, if_pos List.mem_cons_self]
      omega
    · rw [if_neg e]
      by_cases m : z ∈ ins
      · rw [if_pos m, if_pos (List.mem_cons_of_mem _ m)]
        omega
      · rw [if_neg m, if_neg]
        · omega
        · intro q
          rcases List.mem_cons.mp q with q | q
          · exact e q
          · exact m q
theorem leftOf_sum {ins : List Str} (nd : ins.Nodup) : ∀ {ws : Ws}, (∀ p ∈ ws, p.1 ∈ ins) → (ws.map (·.1)).Nodup → (leftOf ins ws).sum = (ws.map (·.2)).sum
  | [], _, _ => by
    unfold leftOf
    have : ∀ l : List Str, (l.map fun z => (0 : Int)).sum = 0 := fun l => by
      induction l with
      | nil => rfl
      | cons y l ih =>
        rw [List.map_cons, List.sum_cons, ih]
        rfl
    exact this ins
  | p :: ws, h, hn => by
    obtain ⟨n1, n2⟩ := List.nodup_cons.mp (show (p.1 :: ws.map (·.1)).Nodup from hn)
    have ih := leftOf_sum nd (ws := ws) (fun q hq => h q (List.mem_cons_of_mem _ hq)) n2
    have e : leftOf ins (p :: ws) = ins.map fun y => if p.1 = y then p.2 else (wsGet ws y).getD 0 := by
      unfold leftOf
      refine List.map_congr_left fun y _ => ?_
      rw [wsGet_cons]
      by_cases c : p.1 = y
      · rw [if_pos c, if_pos c]
        rfl
      · rw [if_neg c, if_neg c]
    rw [e, sum_if _ nd, if_pos (h p List.mem_cons_self), wsGet_none n1, List.map_cons, List.sum_cons]
    unfold leftOf at ih
    rw [ih]
    show _ + (p.2 - 0) = _
    omega
theorem wsGet_some : ∀ {ws : Ws} {z : Str} {v : Int}, wsGet ws z = some v → (z, v) ∈ ws
  | p :: r, z, v, h => by
    rw [wsGet_cons] at h
    by_cases e : p.1 = z
    · rw [if_pos e] at h
      cases h
      rw [← e]
      exact List.mem_cons_self
    · rw [if_neg e] at h
      exact List.mem_cons_of_mem _ (wsGet_some h)
theorem leftOf_nn {ins : List Str} {ws : Ws} (h : ∀ p ∈ ws, 0 ≤ p.2) : ∀ y ∈ leftOf ins ws, 0 ≤ y := fun y hy => by
  obtain ⟨z, _, rfl⟩ := List.mem_map.mp hy
  show 0 ≤ (wsGet ws z).getD 0
  cases e : wsGet ws z with
  | none => exact Int.le_refl 0
  | some v => exact h _ (wsGet_some e)
/-- a standing that is reached from 0 -/
def Reached (rs : List Rx) (s : Int) : Prop := ∃ ns, Leads rs 0 ns ∧ ledTo rs 0 ns = s
theorem closed_leads {rs : List Rx} {L : List Int} (h : ∀ r ∈ rs, r.st ∈ L → r.nx ∈ L) : ∀ {ns : List Nat} {s : Int}, s ∈ L → Leads rs s ns → ledTo rs s ns ∈ L
  | [], _, hs, _ => hs
  | n :: ns, s, hs, ⟨r, h1, h2, h3⟩ => by
    have e : ledTo rs s (n :: ns) = ledTo rs r.nx ns := by
      show ledTo rs (match rs[n]? with | some r => r.nx | none => s) ns = _
      rw [h1]
    rw [e]
    exact closed_leads h (h r (List.mem_of_getElem? h1) (by rw [h2]; exact hs)) h3
theorem Reached.mem {rs : List Rx} {s : Int} {L : List Int} (h : Reached rs s) (h0 : 0 ∈ L) (hc : ∀ r ∈ rs, r.st ∈ L → r.nx ∈ L) : s ∈ L := by
  obtain ⟨ns, h1, h2⟩ := h
  rw [← h2]
  exact closed_leads hc h0 h1
theorem Reached.zero (rs : List Rx) : Reached rs 0 := ⟨[], trivial, rfl⟩
theorem Reached.next {rs : List Rx} {s : Int} {r : Rx} (h : Reached rs s) (hr : r ∈ rs) (hs : r.st = s) : Reached rs r.nx := by
  obtain ⟨ns, h1, h2⟩ := h
  obtain ⟨i, hi⟩ := List.mem_iff_getElem?.mp hr
  refine ⟨ns ++ [i], leads_append h1 ⟨r, hi, by rw [h2]; exact hs, trivial⟩, ?_⟩
  rw [ledTo_append]
  show ledTo rs (match rs[i]? with | some r => r.nx | none => _) [] = _
  rw [hi]
  rfl
end LB
set_option Elab.async false
set_option linter.all false
set_option maxRecDepth 100000
namespace LB
open PySem PySem.Spec PyProof.Rows L2 ClX
section
variable {P : Program} {w : World} {K : PySem.W.Frag} {mg : Str → Option Value} {base : Heap} {C fI : Addr}
/-! round_with -/
/-- a machine that rounds are asked of -/
structure MOk (M : Mx) : Prop where
  nd : M.ins.Nodup
  i4 : M.ins ≠ [] ∧ M.ins.length ≤ 4
  sz : 1 ≤ M.n ∧ M.n ≤ 12
  rl : M.rs.length ≤ 1000
  st : ∀ r ∈ M.rs, 0 ≤ r.st
  ok : RsOk M.rs M.ins M.n
def spWith (C : Addr) : Sp := fun vs H Q _ => ∃ (m : V) (M : Mx) (s : Int) (d : Addr) (ws : Ws), vs = [m, .int s, .ref d] ∧ MachAt C H m M ∧ MOk M ∧ (0 ≤ s ∧ s < M.n) ∧ Reached M.rs s ∧ H d = some (.dK (kvsOf ws)) ∧ CtOk M.ins ws ∧ (ws.map (·.2)).sum ≤ 12 ∧
  ∀ v H' res, Same H H' → IsRound M.rs M.ins (s, leftOf M.ins ws) (s, zerosN M.ins.length) res → ResAt H H' v res → Q v H'
theorem ok_round_with (T : Tx K mg C fI) (D : DefAt K mg "round_with" sround_with) (cS : Cal P w K mg base 3 "want_standing" ["machine", "value"] (spWantStd C)) (cC : Cal P w K mg base 3 "is_counts" ["machine", "value"] (spCounts C))
    (cM : Cal P w K mg base 1 "want_at_most" ["what", "many", "limit"] spMost) (cR : Cal P w K mg base 1 "reached_from" ["machine", "standing"] (spReach C)) (cF : Cal P w K mg base 2 "round_from" ["machine", "standing", "left"] (spFrom C)) :
    CalK P w K mg base 4 "round_with" ["machine", "standing", "counts"] ["counts", "standing", "machine"] (spWith C) := by
  refine CalK.mk D scround_with (fun _ _ _ _ _ _ us hl => match us, hl with | [_, _, _], _ => rfl) (fun _ _ _ _ _ _ us hl => match us, hl with | [_, _, _], _ => rfl) (fun vs H Q E h => ?_) ?_
  · obtain ⟨m, M, s, d, ws, rfl, _⟩ := h
    rfl
  · rintro X cdv A outer f s H vs Q E rfl hr ⟨m, M, st, d, ws, rfl, hM, O, hst, hre, hd, hC, h12, q⟩
    obtain ⟨p, dx, t1, t2, t4, rv, rfl, g0, g1, g2, g4, gr⟩ := id hM
    obtain ⟨tm, hm⟩ := T.i_MOST_COUNTS
    have hu := hu_of hr
    have r1 := hr.mono (show 1 ≤ 3 by decide)
    have r2 := hr.mono (show 2 ≤ 3 by decide)
    refine ⟨_, pss_cons (ps_expr (pe_cal cS hr (by rfl) (pa_cons (pv 0) (pa_cons (pv 1) pa_nil))))
      (pss_cons (ps_if (pt_not (pt_val (pe_cal cC hr (by rfl) (pa_cons (pv 0) (pa_cons (pv 2) pa_nil))))) (pss_one ps_never) pss_nil)
      (pss_cons (ps_expr (pe_cal cM r1 (by rfl) (pa_cons pe_str (pa_cons (pe_callB (cr_sumV rfl) (by rfl) T.f_sum b_sum (pa_cons (pe_dvalues (pv 2)) pa_nil)) (pa_cons (pe_glob (v := .int 12) (by rfl) hm ⟨_, rfl⟩) pa_nil)))))
      (pss_cons (ps_if (pt_cmpR op_notIn_seq (pv 1) (pe_cal cR r1 (by rfl) (pa_cons (pv 0) (pa_cons pe_int pa_nil))) (by rfl)) (pss_one ps_never) pss_nil)
      (pss_one (ps_ret (pe_cal cF r2 (by rfl) (pa_cons (pv 0) (pa_cons (pv 1) (pa_cons (pe_callTy call_tuple_of (by rfl) T.f_tuple b_tuple (pa_cons (pe_lc (own := [("line", 3)]) (g := gName 3) (tt := tYes) rfl scround_with.nd (pi_tup (pe_fld (pv 0) rfl))
        (blkOk_by (N := Nround_with) (sc := defScope sround_with) (by decide +kernel)) (fun _ _ _ _ _ => pg_name (i := 3) scround_with.nd rfl (Or.inl rfl)) (fun _ _ _ _ _ => pts_nil) (fun _ _ _ _ _ => pe_dget2 hu (pv 2) (pv 3) pe_int ⟨rfl, rfl, rfl, rfl⟩)) pa_nil)) pa_nil))))))))), ?_⟩
    refine ⟨_, rfl, _, rfl, _, M, st, rfl, hM, hst, ?_⟩
    refine ⟨_, rfl, _, rfl, _, M, d, ws, rfl, hM, hd, hC, fun H1 s1 => ⟨true, rfl, ?_⟩⟩
    refine iteF ?_
    refine ⟨_, rfl, d, kvsOf ws, rfl, s1 _ _ hd, fun vw hvw => ⟨vw, d, ws, rfl, upd_same, ?_, _, _, 12, rfl, h12, ?_⟩⟩
    · exact sm_new hvw _ _ (s1 _ _ hd)
    have s2 := s1.trans (sm_new (o := .ext (isView vw d)) hvw)
    revert s2
    generalize upd H1 vw (.ext (isView vw d)) = H2
    intro s2
    refine ⟨_, rfl, _, rfl, _, M, 0, rfl, hM.mono s2, fun r hr => ⟨O.st r hr, (O.ok r hr).1⟩, ⟨Int.le_refl 0, Int.lt_of_lt_of_le (by decide) O.sz.1⟩, O.sz.2, fun lp L H3 s3 hlp hL h0 hc => ?_⟩
    refine ⟨lp, _, rfl, .inl (SqL.of hL), rfl, flat_ints _, false, ?_, ?_⟩
    · show V.bl (!inV (.int st) (L.map V.int)) = _
      rw [inV_ints, decide_eq_true (hre.mem h0 hc)]
      rfl
    refine iteF ?_
    have e3 := s2.trans s3
    refine ⟨_, rfl, _, rfl, _, rfl, p, C, dx, _, _, rfl, e3 _ _ g0, T.cls, T.n_own_ins, mf_ins _ _ _ _, t1, rfl, ⟨_, SqT.of (e3 _ _ g1)⟩, fun D hD => ?_⟩
    refine lc_it (walk_tup (K := K) (a := t1) (xs := M.ins.map V.str)) (fun i H' => Same H3 H' ∧ H' D = some (.lst (((leftOf M.ins ws).take i).map V.int))) ⟨sm_new hD, upd_same⟩ (fun i H' _ hp => SqT.of (hp.1 _ _ (e3 _ _ g1))) ?_ ?_
    · rintro i x H4 H5 hi ⟨sm, ha⟩ ⟨rfl, hx⟩
      obtain ⟨z, hz, rfl⟩ := map_at hx
      have hd5 := sm _ _ (e3 _ _ hd)
      refine ⟨rfl, ?_⟩
      refine yesT ?_
      refine ⟨_, rfl, d, rfl, .inl ⟨_, .inl hd5⟩, _, rfl, _, dg_ws (z := z) (.inl hd5), ?_⟩
      have ev : (((wsGet ws z).map V.int).getD (V.int 0)) = V.int ((wsGet ws z).getD 0) := by cases wsGet ws z <;> rfl
      have e7 : (leftOf M.ins ws)[i]? = some ((wsGet ws z).getD 0) := by
        unfold leftOf
        rw [List.getElem?_map, hz]
        rfl
      obtain ⟨lt7, eq7⟩ := List.getElem?_eq_some_iff.mp e7
      refine ⟨_, ha, ?_, sm_mut sm hD, ?_⟩
      · have h4 := O.i4.2
        rw [leftOf_len] at lt7
        rw [List.length_map, List.length_take]
        exact small1000 (by omega)
      · rw [upd_same, List.take_succ_eq_append_getElem lt7, eq7, List.map_append]
        show some (HO.lst (_ ++ [(((wsGet ws z).map V.int).getD (V.int 0))])) = _
        rw [ev]
        rfl
    · rintro H4 ⟨s4, hD4⟩
      rw [List.length_map, ← leftOf_len M.ins ws, List.take_length] at hD4
      refine ⟨D, _, rfl, .inl ⟨SqL.of hD4, fun u hu2 => ?_⟩⟩
      have e5 := (e3.trans s4).trans (sm_new (o := .tup ((leftOf M.ins ws).map V.int)) hu2)
      refine ⟨_, M, st, u, leftOf M.ins ws, rfl, hM.mono e5, O.rl, upd_same, ⟨leftOf_len _ _, O.i4.1, O.i4.2⟩, leftOf_nn fun p hp => (hC.1 p hp).2, ?_, hst, O.sz.2, O.ok, fun v H5 res s5 i1 i2 => ?_⟩
      · rw [leftOf_sum O.nd (fun p hp => (hC.1 p hp).1) hC.2.1]
        exact h12
      refine q v H5 res (e5.trans s5) i1 ?_
      cases res with
      | none => exact i2
      | some pp => obtain ⟨a, a1, a0, a2⟩ := i2; exact ⟨a, a1, same_none e5 a0, a2⟩
end
end LB
set_option Elab.async false
set_option linter.all false
set_option maxRecDepth 100000
namespace LB
open PySem PySem.Spec PyProof.Rows L2
/-! ### a dict's value set -/
def wsPut (ws : Ws) (z : Str) (v : Int) : Ws := if z ∈ ws.map (·.1) then ws.map (fun p => if p.1 = z then (z, v) else p) else ws ++ [(z, v)]
theorem kvsOf_keys (ws : Ws) : (kvsOf ws).map (·.1) = ws.map fun p => Sum.inr p.1 := by
  unfold kvsOf
  rw [List.map_map]
  rfl
theorem putK_put (ws : Ws) (z : Str) (v : Int) : putK (kvsOf ws) (Sum.inr z : Key) (V.int v) = kvsOf (wsPut ws z v) := by
  unfold wsPut
  by_cases h : z ∈ ws.map (·.1)
  · rw [if_pos h]
    obtain ⟨p, hp, e⟩ := List.mem_map.mp h
    have e2 : ((kvsOf ws).any fun kv => decide (kv.1 = (Sum.inr z : Key))) = true := List.any_eq_true.mpr ⟨(Sum.inr p.1, V.int p.2), List.mem_map.mpr ⟨p, hp, rfl⟩, by rw [← e]; exact decide_eq_true rfl⟩
    unfold putK
    rw [if_pos e2]
    unfold kvsOf
    rw [List.map_map, List.map_map]
    refine List.map_congr_left fun q _ => ?_
    show (if (Sum.inr q.1 : Key) = Sum.inr z then ((Sum.inr q.1 : Key), V.int v) else (Sum.inr q.1, V.int q.2)) = ((Sum.inr (if q.1 = z then (z, v) else q).1 : Key), V.int (if q.1 = z then (z, v) else q).2)
    by_cases c : q.1 = z
    · rw [if_pos c, if_pos (by rw [c]), c]
    · rw [if_neg c, if_neg fun e => c (Sum.inr.inj e)]
  · rw [if_neg h]
    exact putK_ws (wsGet_none h)
theorem put_keys (ws : Ws) (z : Str) (v : Int) : (wsPut ws z v).map (·.1) = if z ∈ ws.map (·.1) then ws.map (·.1) else ws.map (·.1) ++ [z] := by
  unfold wsPut
  by_cases h : z ∈ ws.map (·.1)
  · rw [if_pos h, if_pos h, List.map_map]
    refine List.map_congr_left fun q _ => ?_
    show (if q.1 = z then (z, v) else q).1 = q.1
    by_cases c : q.1 = z
    · rw [if_pos c, c]
    · rw [if_neg c]
  · rw [if_neg h, if_neg h, List.map_append]
    rfl
theorem put_nodup {ws : Ws} {z : Str} {v : Int} (nd : (ws.map (·.1)).Nodup) : ((wsPut ws z v).map (·.1)).Nodup := by
  rw [put_keys]
  split
  · exact nd
  · rename_i h
    exact nd_snoc nd h
theorem put_mem {ws : Ws} {z : Str} {v : Int} {p : Str × Int} (h : p ∈ wsPut ws z v) : p ∈ ws ∨ p = (z, v) := by
  unfold wsPut at h
  split at h
  · obtain ⟨q, hq, e⟩ := List.mem_map.mp h
    by_cases c : q.1 = z
    · rw [if_pos c] at e
      exact .inr e.symm
    · rw [if_neg c] at e
      exact .inl (e ▸ hq)
  · rcases List.mem_append.mp h with h | h
    · exact .inl h
    · exact .inr (List.mem_singleton.mp h)
theorem CtOk.len {ins : List Str} {ws : Ws} (h : CtOk ins ws) : ws.length ≤ ins.length := by
  have := nodup_len ins (ws.map (·.1)) h.2.1 fun x hx => by
    obtain ⟨p, hp, e⟩ := List.mem_map.mp hx
    rw [← e]
    exact (h.1 p hp).1
  rwa [List.length_map] at this
theorem CtOk.put {ins : List Str} {ws : Ws} {z : Str} {v : Int} (h : CtOk ins ws) (h4 : ins.length ≤ 1000) (hz : z ∈ ins) (hv : 0 ≤ v) : CtOk ins (wsPut ws z v) := by
  have h1 : ∀ p ∈ wsPut ws z v, p.1 ∈ ins ∧ 0 ≤ p.2 := fun p hp => by
    rcases put_mem hp with q | q
    · exact h.1 p q
    · rw [q]
      exact ⟨hz, hv⟩
  have h2 : ((wsPut ws z v).map (·.1)).Nodup := put_nodup h.2.1
  refine ⟨h1, h2, ?_⟩
  have := nodup_len ins ((wsPut ws z v).map (·.1)) h2 fun x hx => by
    obtain ⟨p, hp, e⟩ := List.mem_map.mp hx
    rw [← e]
    exact (h1 p hp).1
  rw [List.length_map] at this
  omega
theorem put_sum : ∀ {ws : Ws} {z : Str} {v : Int}, (ws.map (·.1)).Nodup → ((wsPut ws z v).map (·.2)).sum = (ws.map (·.2)).sum + (v - (wsGet ws z).getD 0)
  | [], z, v, _ => by
    show (v + 0 : Int) = 0 + (v - 0)
    omega
  | p :: ws, z, v, nd => by
    obtain ⟨n1, n2⟩ := List.nodup_cons.mp (show (p.1 :: ws.map (·.1)).Nodup from nd)
    have ih := put_sum (z := z) (v := v) n2
    by_cases e : p.1 = z
    · have e2 : wsPut (p :: ws) z v = (z, v) :: ws := by
        unfold wsPut
        rw [if_pos (by rw [List.map_cons, e]; exact List.mem_cons_self), List.map_cons, if_pos e]
        congr 1
        rw [e] at n1
        have : ∀ l : Ws, z ∉ l.map (·.1) → l.map (fun p => if p.1 = z then (z, v) else p) = l := fun l => by
          induction l with
          | nil => intro _; rfl
          | cons q l il =>
            intro hl
            rw [List.map_cons] at hl
            rw [List.map_cons, if_neg (fun (c : q.1 = z) => hl (by rw [c]; exact List.mem_cons_self)), il fun m => hl (List.mem_cons_of_mem _ m)]
        exact this ws n1
      rw [e2, wsGet_cons, if_pos e, List.map_cons, List.map_cons, List.sum_cons, List.sum_cons]
      show v + _ = p.2 + _ + (v - p.2)
      omega
    · have e2 : wsPut (p :: ws) z v = p :: wsPut ws z v := by
        unfold wsPut
        by_cases m : z ∈ ws.map (·.1)
        · rw [if_pos m, if_pos (by rw [List.map_cons]; exact List.mem_cons_of_mem _ m), List.map_cons, if_neg e]
        · rw [if_neg m, if_neg (by
            rw [List.map_cons]
            intro q
            rcases List.mem_cons.mp q with q | q
            · exact e q.symm
            · exact m q)]
          rfl
      rw [e2, wsGet_cons, if_neg e, List.map_cons, List.map_cons, List.sum_cons, List.sum_cons, ih]
      omega
theorem ctNil (ins : List Str) : CtOk ins [] := ⟨fun p hp => (by cases hp), List.nodup_nil, Nat.zero_le _⟩
theorem get_nn {ws : Ws} {z : Str} (h : ∀ p ∈ ws, 0 ≤ p.2) : 0 ≤ (wsGet ws z).getD 0 := by
  cases e : wsGet ws z with
  | none => exact Int.le_refl 0
  | some v => exact h _ (wsGet_some e)
/-! ### a scene -/
def SceneAt (H : Hp) (v : V) (M : Mx) : Prop := ∃ a li lo ld rv, v = .ref a ∧ H a = some (.tup [.ref li, .ref lo, .int M.n, .ref ld]) ∧ H li = some (.lst (M.ins.map V.str)) ∧ H lo = some (.lst (M.outs.map V.str)) ∧ H ld = some (.lst rv) ∧ RxsAt H rv M.rs
theorem SceneAt.mono {H H' : Hp} {v : V} {M : Mx} (e : Same H H') (h : SceneAt H v M) : SceneAt H' v M := by
  obtain ⟨a, li, lo, ld, rv, ev, h1, h2, h3, h4, h5⟩ := h
  exact ⟨a, li, lo, ld, rv, ev, e _ _ h1, e _ _ h2, e _ _ h3, e _ _ h4, h5.mono e⟩
theorem walk_zipM {K : PySem.W.Frag} {a b : Addr} {xs ys : List V} (hn : xs.length = ys.length) : Walk (ItzM K a b) xs.length (fun H => SqL K H a xs ∧ SqT K H b ys) (YPair (fun i => xs[i]?) (fun i => ys[i]?)) := by
  refine ⟨fun i _ hi q => ?_, fun _ q => ⟨xs, ys, q.1, q.2, rfl, hn.symm⟩, fun i H v H' _ q y => ?_⟩
  · have h2 : i < ys.length := by omega
    exact ⟨xs, ys, xs[i], ys[i], q.1, q.2, by simp [hi], by simp [h2]⟩
  · obtain ⟨T, x, z, h1, h2, h3, h4, h5⟩ := y
    exact ⟨T, x, z, h1, h2, h3, h4 xs q.1, h5 ys q.2⟩
end LB
set_option Elab.async false
set_option linter.all false
set_option maxRecDepth 100000
namespace LB
open PySem PySem.Spec PyProof.Rows L2 ClX
section
variable {P : Program} {w : World} {K : PySem.W.Frag} {mg : Str → Option Value} {base : Heap} {C fI : Addr}
/-! _law_less -/
def spLLess : Sp := fun vs H Q _ => ∃ (sc dv : V) (M : Mx) (r : Rx) (l : Addr) (left : List Int), vs = [sc, .ref l, dv] ∧ SceneAt H sc M ∧ RxAt H dv r ∧ H l = some (.tup (left.map V.int)) ∧ left.length = M.ins.length ∧ M.ins.length ≤ 4 ∧
  ∀ p H', Same H H' → H p = none → H' p = some (.tup ((lessBy M.ins r left).map V.int)) → Q (.ref p) H'
theorem ok__law_less (T : Tx K mg C fI) (D : DefAt K mg "_law_less" s_law_less) : Cal P w K mg base 1 "_law_less" ["_law_scene_here", "_law_left", "_law_deed"] spLLess := by
  refine Cal.mk D sc_law_less (fun _ _ _ _ _ _ us hl => match us, hl with | [_, _, _], _ => rfl) (fun vs H Q E h => ?_) ?_
  · obtain ⟨sc, dv, M, r, l, left, rfl, _⟩ := h
    rfl
  · rintro X cdv A outer f s H vs Q E rfl hr ⟨sc, dv, M, r, l, left, rfl, hS, hR, hl, le, l4, q⟩
    obtain ⟨a, li, lo, ld, rv, rfl, g0, g1, g2, g3, gr⟩ := hS
    obtain ⟨ra, d1, d2, rfl, h1, h2, h3⟩ := hR
    have hu := hu_of hr
    refine ⟨_, pss_one (ps_ret (pe_callTy call_tuple_of (by rfl) T.f_tuple b_tuple (pa_cons (pe_lc (own := [("_law_wire", 3), ("_law_amount", 4)]) (g := gTup K 2 (gCons (gName 3) (gCons (gName 4) gNil))) (tt := tYes) rfl sc_law_less.nd (pi_zipM (by rfl) T.f_zip (pa_cons (pe_ix ix_tup (pv 0) pe_int (fun _ _ => rfl)) (pa_cons (pv 1) pa_nil)))
        (blkOk_by (N := N_law_less) (sc := defScope s_law_less) (by decide +kernel))
        (fun _ _ _ _ _ => pg_tupK K rfl (pgs_cons (pg_name (i := 3) sc_law_less.nd rfl (Or.inl rfl)) (pgs_cons (pg_name (i := 4) sc_law_less.nd rfl (Or.inl rfl)) pgs_nil)))
        (fun _ _ _ _ _ => pts_nil)
        (fun _ _ _ _ _ => pe_op op_sub (pv 4) (pe_callTy call_int1 (by rfl) T.f_int b_int (pa_cons (pe_cmp (pc_din hu (pv 3) (pe_ix (ix_tupK K) (pv 2) pe_int (fun _ _ => rfl)))) pa_nil)))) pa_nil))), ?_⟩
    refine ⟨_, rfl, a, _, 0, _, rfl, rfl, SqT.of g0, atI_nat (j := 0) rfl, _, rfl, li, l, _, _, rfl, SqL.of g1, SqT.of hl, fun D hD => ?_⟩
    have ml : (M.ins.map V.str).length = (left.map V.int).length := by
      rw [List.length_map, List.length_map, le]
    refine lc_it (walk_zipM (K := K) (a := li) (b := l) ml) (fun i H' => Same H H' ∧ H' D = some (.lst (((lessBy M.ins r left).take i).map V.int))) ⟨sm_new hD, upd_same⟩
      (fun i H' _ hp => ⟨SqL.of (hp.1 _ _ g1), SqT.of (hp.1 _ _ hl)⟩) ?_ ?_
    · rintro i x H1 H2 hi ⟨sm, ha⟩ ⟨t, x1, x2, rfl, ht, rfl, e1, e2⟩
      rw [List.length_map] at hi
      obtain ⟨z, hz, rfl⟩ := map_at (show (M.ins.map V.str)[i]? = some x1 from e1)
      obtain ⟨j, hj, rfl⟩ := map_at (show (left.map V.int)[i]? = some x2 from e2)
      have s2 := sm_new (o := .tup [.str z, .int j]) ht
      refine ⟨t, _, rfl, SqT.of upd_same, rfl, _, _, rfl, _, _, rfl, rfl, ?_⟩
      refine ⟨rfl, ?_⟩
      refine yesT ?_
      have g := dg_ws (z := z) (.inl (s2 _ _ (sm _ _ h2)) : Rd (upd H1 t (.tup [.str z, .int j])) d1 (.dK (kvsOf r.tk)))
      refine ⟨_, rfl, _, rfl, _, rfl, ra, _, 1, _, rfl, rfl, SqT.of (s2 _ _ (sm _ _ h1)), atI_nat (j := 1) rfl, d1, _, rfl, g, .inr ⟨hasL r z, ?_, _, _, rfl, rfl, ?_⟩⟩
      · show [V.bl ((wsGet r.tk z).map V.int).isSome] = _
        unfold hasL
        cases wsGet r.tk z <;> rfl
      · refine ⟨_, s2 _ _ ha, ?_, sm_mut (sm.trans s2) hD, ?_⟩
        · rw [List.length_map, List.length_take, lessBy_len le]
          exact small1000 (by omega)
        · rw [upd_same, lessBy_take hz hj, List.map_append]
          rfl
    · rintro H1 ⟨sm, ha⟩
      rw [List.length_map, ← lessBy_len (r := r) le, List.take_length] at ha
      refine ⟨D, _, rfl, .inl ⟨SqL.of ha, fun u hu2 => ?_⟩⟩
      exact q u _ (sm.trans (sm_new hu2)) (same_none sm hu2) upd_same
end
end LB
set_option Elab.async false
set_option linter.all false
set_option maxRecDepth 100000
namespace LB
open PySem PySem.Spec PyProof.Rows L2 ClX
section
variable {P : Program} {w : World} {K : PySem.W.Frag} {mg : Str → Option Value} {base : Heap} {C fI : Addr}
/-! _law_near -/
def NearOk (M : Mx) (L : List Int) : Prop := L.Nodup ∧ ∀ x ∈ L, Reached M.rs x ∧ 0 ≤ x ∧ x < M.n
theorem NearOk.put {M : Mx} {L : List Int} {r : Rx} (h : NearOk M L) (hr : r ∈ M.rs) (hs : r.st ∈ L) (hb : 0 ≤ r.nx ∧ r.nx < M.n) (hn : r.nx ∉ L) : NearOk M (L ++ [r.nx]) :=
  ⟨nd_snoc h.1 hn, fun x hx => by
    rcases List.mem_append.mp hx with hx | hx
    · exact h.2 x hx
    · rw [List.mem_singleton.mp hx]
      exact ⟨(h.2 _ hs).1.next hr rfl, hb⟩⟩
def spNear : Sp := fun vs H Q _ => ∃ (sc : V) (M : Mx), vs = [sc] ∧ SceneAt H sc M ∧ (1 ≤ M.n ∧ M.n ≤ 12) ∧ (∀ r ∈ M.rs, 0 ≤ r.nx ∧ r.nx < M.n) ∧
  ∀ (p : Addr) (L : List Int) (H' : Hp), Same H H' → H p = none → H' p = some (.lst (L.map V.int)) → (∀ x ∈ L, Reached M.rs x ∧ 0 ≤ x ∧ x < M.n) → Q (.ref p) H'
theorem ok__law_near (T : Tx K mg C fI) (D : DefAt K mg "_law_near" s_law_near) : Cal P w K mg base 1 "_law_near" ["_law_scene_here"] spNear := by
  refine Cal.mk D sc_law_near (fun _ _ _ _ _ _ us hl => match us, hl with | [_], _ => rfl) (fun vs H Q E h => ?_) ?_
  · obtain ⟨sc, M, rfl, _⟩ := h
    rfl
  · rintro X cdv A outer f s H vs Q E rfl hr ⟨sc, M, rfl, hS, hz, hb, q⟩
    obtain ⟨a, li, lo, ld, rv, rfl, g0, g1, g2, g3, gr⟩ := hS
    have hu := hu_of hr
    refine ⟨_, pss_cons (ps_set (i := 1) sc_law_near.nd rfl (Or.inl rfl) (pe_disp (pps_cons pe_int pe_bl pps_nil) (by rfl) (by rfl) (fun z => by cases z) (by decide)))
      (pss_cons (ps_for PassesOwn.never rfl (pi_range1 (by rfl) T.f_range (pa_cons (pe_ix ix_tup (pv 0) pe_int (fun _ _ => rfl)) pa_nil)) (pg_name (i := 2) sc_law_near.nd rfl (Or.inl rfl))
        (pss_one (ps_for PassesOwn.never rfl (pi_list (pe_ix ix_tup (pv 0) pe_int (fun _ _ => rfl))) (pg_name (i := 3) sc_law_near.nd rfl (Or.inl rfl))
          (pss_one (ps_if (pt_cmp (pc_din hu (pe_ix ix_tup (pv 3) pe_int (fun _ _ => rfl)) (pv 1))) (pss_one (ps_dput hu (pv 1) (pe_ix ix_tup (pv 3) pe_int (fun _ _ => rfl)) pe_bl rfl)) pss_nil)))))
      (pss_one (ps_ret (pe_callB (call_sortedDI rfl) (by rfl) T.f_sorted b_sorted (pa_cons (pv 1) pa_nil))))), ?_⟩
    refine fun df nf => ⟨upd_same, [((Sum.inl 0 : Key), V.bl true)], rfl, by show 1 ≤ 15; decide, ?_⟩
    have sf : Same H (upd (upd H df (.dK [])) df (.dK (fdict [0]))) := sm_mut (sm_new nf) nf
    have hf : (upd (upd H df (.dK [])) df (.dK (fdict [0]))) df = some (.dK (fdict [0])) := upd_same
    show _
    have e0 : (upd (upd H df (.dK [])) df (.dK (mergeK [] [((Sum.inl 0 : Key), V.bl true)]))) = (upd (upd H df (.dK [])) df (.dK (fdict [0]))) := rfl
    rw [e0]
    revert sf hf
    generalize (upd (upd H df (.dK [])) df (.dK (fdict [0]))) = H1
    intro sf hf
    have near0 : NearOk M [0] := ⟨by simp, fun x hx => by
      rw [List.mem_singleton.mp hx]
      exact ⟨Reached.zero _, by omega⟩⟩
    refine ⟨_, rfl, a, _, 2, _, rfl, rfl, SqT.of (sf _ _ g0), atI_nat (j := 2) rfl, M.n, rfl, by omega, by omega, ?_⟩
    refine for_it walk_range (fun i σ H' => ∃ (b c : Option V) (fs : List Int), σ = [some (.ref a), some (.ref df), b, c] ∧ Same H H' ∧ H' df = some (.dK (fdict fs)) ∧ NearOk M fs) ⟨_, _, [0], rfl, sf, hf, near0⟩ (fun _ _ _ _ _ => trivial) ?_ ?_
    · rintro i x σ H2 H3 hi ⟨b, c, fs, rfl, sm, hf2, no⟩ ⟨rfl, rfl⟩
      refine ⟨_, rfl, a, _, 3, _, rfl, rfl, SqT.of (sm _ _ g0), atI_nat (j := 3) rfl, ld, rfl, ⟨rv, SqL.of (sm _ _ g3)⟩, ?_⟩
      refine for_it (walk_list (K := K) (a := ld) (xs := rv)) (fun i σ H' => ∃ (b c : Option V) (fs : List Int), σ = [some (.ref a), some (.ref df), b, c] ∧ Same H H' ∧ H' df = some (.dK (fdict fs)) ∧ NearOk M fs) ⟨_, _, fs, rfl, sm, hf2, no⟩ (fun i σ H' _ ⟨_, _, _, _, z, _⟩ => SqL.of (z _ _ g3)) ?_ ?_
      · rintro j x σ H4 H5 hj ⟨b, c, fs, rfl, s4, hf4, no⟩ ⟨rfl, hx⟩
        obtain ⟨r, hri, a3, d1, d2, rfl, h1, h2, h3⟩ := paired_get gr hx
        have h1 := s4 _ _ h1
        have hrm := List.mem_of_getElem? hri
        refine ⟨_, rfl, a3, _, 0, _, rfl, rfl, SqT.of h1, atI_nat (j := 0) rfl, _, rfl, df, _, rfl, DGet.k (k := Sum.inl r.st) hf4, _, rfl, ?_⟩
        rw [fdict_get]
        by_cases hm : r.st ∈ fs
        · rw [decide_eq_true hm]
          refine iteT ?_
          have len := ints_len no.1 fun x hx => (no.2 x hx).2
          refine ⟨_, rfl, _, rfl, a3, _, 3, _, rfl, rfl, SqT.of h1, atI_nat (j := 3) rfl, df, _, rfl, DPut.k (k := Sum.inl r.nx) hf4 (small1000 (by rw [fdict_len]; omega)), ?_⟩
          by_cases ho : r.nx ∈ fs
          · rw [fdict_old ho]
            exact ⟨_, _, fs, rfl, sm_mut s4 nf, upd_same, no⟩
          · rw [fdict_put ho]
            exact ⟨_, _, fs ++ [r.nx], rfl, sm_mut s4 nf, upd_same, no.put hrm hm (hb r hrm) ho⟩
        · rw [decide_eq_false hm]
          refine iteF ?_
          exact ⟨_, _, fs, rfl, s4, hf4, no⟩
      · rintro σ H4 h
        exact h
    · rintro σ H2 ⟨b, c, fs, rfl, sm, hf2, no⟩
      refine ⟨_, rfl, df, _, fs, rfl, .inl hf2, fdict_keys fs, ?_, fun ys pn hp _ hpn => ?_⟩
      · have := ints_len no.1 fun x hx => (no.2 x hx).2
        omega
      · exact q pn ys _ (sm.trans (sm_new hpn)) (same_none sm hpn) upd_same fun x hx => no.2 x (hp.mem_iff.mp hx)
/-! _law_counts -/
def spLCounts : Sp := fun vs H Q _ => ∃ (sc : V) (M : Mx) (l : Addr) (ns : List Nat), vs = [sc, .ref l] ∧ SceneAt H sc M ∧ H l = some (.lst (nums ns)) ∧ (∀ n ∈ ns, n < M.rs.length) ∧ (M.ins.Nodup ∧ M.ins.length ≤ 4) ∧ (∀ r ∈ M.rs, WsOk M.ins r.tk) ∧
  ∀ (p : Addr) (ws : Ws) (H' : Hp), Same H H' → H p = none → H' p = some (.dK (kvsOf ws)) → CtOk M.ins ws → Q (.ref p) H'
theorem ok__law_counts (T : Tx K mg C fI) (D : DefAt K mg "_law_counts" s_law_counts) : Cal P w K mg base 1 "_law_counts" ["_law_scene_here", "_law_path"] spLCounts := by
  refine Cal.mk D sc_law_counts (fun _ _ _ _ _ _ us hl => match us, hl with | [_, _], _ => rfl) (fun vs H Q E h => ?_) ?_
  · obtain ⟨sc, M, l, ns, rfl, _⟩ := h
    rfl
  · rintro X cdv A outer f s H vs Q E rfl hr ⟨sc, M, l, ns, rfl, hS, hl, hns, ⟨nd, h4⟩, hok, q⟩
    obtain ⟨a, li, lo, ld, rv, rfl, g0, g1, g2, g3, gr⟩ := hS
    have hu := hu_of hr
    refine ⟨_, pss_cons (ps_set (i := 2) sc_law_counts.nd rfl (Or.inl rfl) pe_dnewK)
      (pss_cons (ps_for PassesOwn.never rfl (pi_list (pv 1)) (pg_name (i := 3) sc_law_counts.nd rfl (Or.inl rfl))
        (pss_one (ps_lock (ps_for PassesOwn.never rfl (pi_keys (pe_ix ix_tup (pe_ix ix_list (pe_ix ix_tup (pv 0) pe_int (fun _ _ => rfl)) (pv 3) (fun _ _ => rfl)) pe_int (fun _ _ => rfl))) (pg_name (i := 4) sc_law_counts.nd rfl (Or.inl rfl))
          (pss_one (ps_dput hu (pv 2) (pv 4) (pe_op op_add (pe_dget2 hu (pv 2) (pv 4) pe_int ⟨rfl, rfl, rfl, rfl⟩) pe_int) rfl))))))
      (pss_one (ps_ret (pv 2)))), ?_⟩
    refine fun df nf => ?_
    refine ⟨_, rfl, l, rfl, ⟨_, SqL.of (sm_new nf _ _ hl)⟩, ?_⟩
    refine for_it (walk_list (K := K) (a := l) (xs := nums ns)) (fun i σ H' => ∃ (b c : Option V) (ws : Ws), σ = [some (.ref a), some (.ref l), some (.ref df), b, c] ∧ Same H H' ∧ H' df = some (.dK (kvsOf ws)) ∧ CtOk M.ins ws) ⟨_, _, [], rfl, sm_new nf, upd_same, ctNil _⟩ (fun i σ H' _ ⟨_, _, _, _, z, _⟩ => SqL.of (z _ _ hl)) ?_ ?_
    · rintro i x σ H2 H3 hi ⟨b, c, ws, rfl, s2, hf2, ct⟩ ⟨rfl, hx⟩
      obtain ⟨n, hn, rfl⟩ := nums_at hx
      have ltn := hns n (List.mem_of_getElem? hn)
      obtain ⟨r, hr1⟩ : ∃ r, M.rs[n]? = some r := ⟨_, List.getElem?_eq_getElem ltn⟩
      obtain ⟨x, hx2, a3, d1, d2, rfl, h1, h2, h3⟩ := paired_get' gr hr1
      obtain ⟨k1, k2, k3⟩ := hok r (List.mem_of_getElem? hr1)
      have nf1 : df ≠ d1 := (ne_of_none h2 nf).symm
      refine ⟨d1, _, s2 _ _ h2, trivial, fun od => ?_⟩
      have sl : Same (upd H d1 (.frz od (.dK (kvsOf r.tk)))) (upd H3 d1 (.frz od (.dK (kvsOf r.tk)))) := sm_upd s2
      have off : ∀ {b : Addr} {o : HO}, H b = some o → (∀ k, o ≠ .dK k) → (upd H d1 (.frz od (.dK (kvsOf r.tk)))) b = some o := fun hb ne => by
        rw [upd_ne (ne_of hb h2 (ne _))]
        exact hb
      refine ⟨_, rfl, a, _, 3, _, rfl, rfl, SqT.of (sl _ _ (off g0 (by intro k z; cases z))), atI_nat (j := 3) rfl, _, rfl, ld, rv, (n : Int), _, rfl, rfl, SqL.of (sl _ _ (off g3 (by intro k z; cases z))), atI_nat hx2,
        a3, _, 1, _, rfl, rfl, SqT.of (sl _ _ (off h1 (by intro k z; cases z))), atI_nat (j := 1) rfl, d1, od, rfl, .inl ⟨_, upd_same, ?_⟩⟩
      have nfu : (upd H d1 (.frz od (.dK (kvsOf r.tk)))) df = none := by
        rw [upd_ne nf1]
        exact nf
      refine for_it walk_keys (fun j σ' H' => ∃ (c : Option V) (ws : Ws), σ' = [some (.ref a), some (.ref l), some (.ref df), some (.int n), c] ∧ Same (upd H d1 (.frz od (.dK (kvsOf r.tk)))) H' ∧ H' df = some (.dK (kvsOf ws)) ∧ CtOk M.ins ws)
        ⟨_, ws, rfl, sl, by rw [upd_ne nf1]; exact hf2, ct⟩ (fun j σ' H' _ ⟨_, _, _, z, _⟩ => z _ _ upd_same) ?_ ?_
      · rintro j x σ' H4 H5 hj ⟨c, ws, rfl, s4, hf4, ct⟩ ⟨rfl, k, v, hk, rfl⟩
        unfold kvsOf at hk
        rw [List.getElem?_map] at hk
        obtain ⟨y, hp2, hp3⟩ := Option.map_eq_some_iff.mp hk
        cases hp3
        have zi := (k1 y (List.mem_of_getElem? hp2)).1
        have g := dg_ws (z := y.1) (.inl hf4)
        have ev : (((wsGet ws y.1).map V.int).getD (V.int 0)) = V.int ((wsGet ws y.1).getD 0) := by cases wsGet ws y.1 <;> rfl
        refine ⟨_, rfl, df, rfl, .inl ⟨_, .inl hf4⟩, _, rfl, _, g, ?_⟩
        refine ⟨_, _, ev, rfl, _, rfl, _, rfl, df, _, rfl, DPut.k (k := Sum.inr y.1) hf4 (small1000 (by rw [kvsOf_len]; exact ct.2.2)), ?_⟩
        rw [putK_put]
        have e5 : (upd H5 df (.dK (kvsOf (wsPut ws y.1 ((wsGet ws y.1).getD 0 + 1))))) df = some (.dK (kvsOf (wsPut ws y.1 ((wsGet ws y.1).getD 0 + 1)))) := upd_same
        have nn := get_nn (z := y.1) fun p hp => (ct.1 p hp).2
        exact ⟨_, _, rfl, sm_mut s4 nfu, e5, ct.put (by omega) zi (by omega)⟩
      · rintro σ' H4 ⟨c, ws, rfl, s4, hf4, ct⟩
        refine ⟨s4 _ _ upd_same, _, _, ws, rfl, sm_unlock h2 s4, by rw [upd_ne nf1]; exact hf4, ct⟩
    · rintro σ H2 ⟨b, c, ws, rfl, s2, hf2, ct⟩
      exact ⟨_, rfl, q df ws _ s2 nf hf2 ct⟩
end
end LB
set_option Elab.async false
set_option linter.all false
set_option maxRecDepth 100000
namespace LB
open PySem PySem.Spec PyProof.Rows L2 ClX
/-- a row: a path's list and its node -/
def RowAt (H : Hp) (v : V) (e : PN) : Prop := ∃ a pl t, v = .ref a ∧ H a = some (.tup [.ref pl, t]) ∧ H pl = some (.lst (nums e.2)) ∧ NodeAt H t e.1
theorem RowAt.mono {H H' : Hp} {v : V} {e : PN} (s : Same H H') (h : RowAt H v e) : RowAt H' v e := by
  obtain ⟨a, pl, t, ev, h1, h2, h3⟩ := h
  exact ⟨a, pl, t, ev, s _ _ h1, s _ _ h2, h3.mono s⟩
/-- a row of the rows gone through, those found of it in later -/
structure LState (P : Program) (w : World) (Hs H : Hp) (dk dl : Addr) (fs : List PN) (L0 : Nat) : Prop where
  sm : Same (off [dk] Hs) (off [dk, dl] H)
  nd : ∃ kvs, NDAt P w H dk kvs ∧ Paired KeyAt kvs fs
  lt : ∃ lv, H dl = some (.lst lv) ∧ Paired (RowAt (off [dk, dl] H)) lv (fs.drop L0)
section
variable {P : Program} {w : World} {Hs H H1 H2 : Hp} {dk dl : Addr} {fs : List PN} {L0 : Nat}
theorem LState.grow (h : LState P w Hs H dk dl fs L0) (e : Same H H1) : LState P w Hs H1 dk dl fs L0 := by
  obtain ⟨sm, ⟨kvs, n1, n2⟩, ⟨ws, w1, w2⟩⟩ := h
  exact ⟨sm.trans (off_same e), ⟨kvs, n1.mono e, n2⟩, ⟨ws, e _ _ w1, paired_mono w2 fun _ _ q => q.mono (off_same e)⟩⟩
theorem LState.nin (h : LState P w Hs H dk dl fs L0) {b : Addr} (hb : H b = none) : b ∉ [dk, dl] := by
  obtain ⟨sm, ⟨kvs, n1, n2⟩, ⟨ws, w1, w2⟩⟩ := h
  refine off_nin (H := H) (fun a ha => ?_) hb
  obtain ⟨phi, e⟩ := n1.is
  rcases List.mem_cons.mp ha with q | q
  · rw [q]
    exact ⟨_, e⟩
  · rw [List.mem_singleton.mp q]
    exact ⟨_, w1⟩
theorem LState.put {kvs : List (Node × V)} {lv : List V} {n : Node} {p : List Nat} {bv tv : V} (hle : L0 ≤ fs.length) (sm : Same (off [dk] Hs) (off [dk, dl] H)) (n1 : NDAt P w H dk kvs) (n2 : Paired KeyAt kvs fs) (w1 : H dl = some (.lst lv)) (w2 : Paired (RowAt (off [dk, dl] H)) lv (fs.drop L0))
    (e : ∀ b, b ≠ dk → H1 b = H b) (n3 : NDAt P w H1 dk (kvs ++ [(n, bv)])) (s12 : Same H1 H2) (ht : RowAt (off [dk, dl] H2) tv (n, p)) : H2 dl = some (.lst lv) ∧ LState P w Hs (upd H2 dl (.lst (lv ++ [tv]))) dk dl (fs ++ [(n, p)]) L0 ∧ Same (off [dk, dl] H) (off [dk, dl] (upd H2 dl (.lst (lv ++ [tv])))) := by
  obtain ⟨phi, ep⟩ := n1.is
  obtain ⟨phi3, ep3⟩ := n3.is
  have hw1 : H1 dl = some (.lst lv) := (e dl (ne_of w1 ep (by intro z; cases z))).trans w1
  have hw : H2 dl = some (.lst lv) := s12 _ _ hw1
  have e1 : off [dk, dl] H1 = off [dk, dl] H := off_mut' (by simp) e
  have e2 : off [dk, dl] (upd H2 dl (.lst (lv ++ [tv]))) = off [dk, dl] H2 := off_mut (by simp)
  have so : Same (off [dk, dl] H) (off [dk, dl] H2) := by
    rw [← e1]
    exact off_same s12
  refine ⟨hw, ⟨by rw [e2]; exact sm.trans so, ⟨_, (n3.mono s12).mv (fun b xs hb => ?_) ?_, paired_snoc (F := KeyAt) (x := (n, bv)) (y := ((n, p) : PN)) rfl n2⟩, ⟨_, upd_same, ?_⟩⟩, by rw [e2]; exact so⟩
  · rw [upd_ne (ne_of hb hw (by intro z; cases z))]
    exact hb
  · rw [upd_ne (ne_of (s12 _ _ ep3) hw (by intro z; cases z))]
  · rw [e2, drop_snoc hle]
    exact paired_snoc ht (paired_mono w2 fun _ _ q => q.mono so)
end
theorem off_sub {S S' : List Addr} {H : Hp} (h : ∀ z ∈ S, z ∈ S') : Same (off S' H) (off S H) := fun b o hb => off_in (off_at hb).1 fun m => (off_at hb).2 (h b m)
/-- due: a path's list, or None -/
def DueAt (H : Hp) (v : V) : Option (List Nat) → Prop
  | some p => ∃ a, v = .ref a ∧ H a = some (.lst (nums p))
  | none => v = .non
theorem sum_zero : ∀ {l : List Int}, (∀ y ∈ l, 0 ≤ y) → l.sum = 0 → l = zerosN l.length
  | [], _, _ => rfl
  | y :: l, h, hs => by
    have h1 := h y List.mem_cons_self
    have h2 := sum_nn fun z hz => h z (List.mem_cons_of_mem _ hz)
    rw [List.sum_cons] at hs
    have e1 : y = 0 := by omega
    have e2 : l.sum = 0 := by omega
    have ih := sum_zero (fun z hz => h z (List.mem_cons_of_mem _ hz)) e2
    show y :: l = 0 :: zerosN l.length
    rw [← ih, e1]
theorem zeros_sum : ∀ n : Nat, (zerosN n).sum = 0
  | 0 => rfl
  | n + 1 => by
    show (0 :: zerosN n).sum = 0
    rw [List.sum_cons, zeros_sum n]
    rfl
section
variable {P : Program} {w : World} {K : PySem.W.Frag} {mg : Str → Option Value} {base : Heap} {C fI : Addr}
/-! _law_round -/
def spLRound : Sp := fun vs H Q _ => ∃ (sc : V) (M : Mx) (s : Int) (d : Addr) (ws : Ws), vs = [sc, .int s, .ref d] ∧ SceneAt H sc M ∧ MOk M ∧ (0 ≤ s ∧ s < M.n) ∧ H d = some (.dK (kvsOf ws)) ∧ CtOk M.ins ws ∧ (ws.map (·.2)).sum ≤ 12 ∧
  ∀ v H' res, Same H H' → IsRound M.rs M.ins (s, leftOf M.ins ws) (s, zerosN M.ins.length) res → DueAt H' v res → Q v H'
theorem ok__law_round (T : Tx K mg C fI) (D : DefAt K mg "_law_round" s_law_round) (cL : Cal P w K mg base 1 "_law_less" ["_law_scene_here", "_law_left", "_law_deed"] spLLess) :
    Cal P w K mg base 2 "_law_round" ["_law_scene_here", "_law_spot", "_law_sums_now"] spLRound := by
  refine Cal.mk D sc_law_round (fun _ _ _ _ _ _ us hl => match us, hl with | [_, _, _], _ => rfl) (fun vs H Q E h => ?_) ?_
  · obtain ⟨sc, M, s, d, ws, rfl, _⟩ := h
    rfl
  · rintro X cdv A outer f s H vs Q E rfl hr ⟨sc, M, st, d, ws, rfl, hS, O, hst, hd, hC, h12, q⟩
    obtain ⟨a, li, lo, ld, rv, rfl, g0, g1, g2, g3, gr⟩ := id hS
    have hu := hu_of hr
    have hu64 := Nat.lt_of_le_of_lt (Nat.le_succ _) (room65 hr)
    refine ⟨_, pss_cons (ps_set (i := 3) sc_law_round.nd rfl (Or.inl rfl) (pe_tup (pa_cons (pv 1) (pa_cons (pe_callTy call_tuple_of (by rfl) T.f_tuple b_tuple (pa_cons (pe_lc (own := [("_law_wire", 12)]) (g := gName 12) (tt := tYes) rfl sc_law_round.nd (pi_list (pe_ix ix_tup (pv 0) pe_int (fun _ _ => rfl)))
        (blkOk_by (N := N_law_round) (sc := defScope s_law_round) (by decide +kernel)) (fun _ _ _ _ _ => pg_name (i := 12) sc_law_round.nd rfl (Or.inl rfl)) (fun _ _ _ _ _ => pts_nil) (fun _ _ _ _ _ => pe_dget2 hu (pv 2) (pv 12) pe_int ⟨rfl, rfl, rfl, rfl⟩)) pa_nil)) pa_nil))))
      (pss_cons (ps_par (i := 4) (j := 5) rfl sc_law_round.nd rfl rfl (by decide) rfl rfl (pa_cons (pe_lst (pa_cons (pe_tup (pa_cons (pe_lst pa_nil) (pa_cons (pv 3) pa_nil))) pa_nil)) (pa_cons (pe_dispN hu64 (pv 3) pe_bl) pa_nil)) (by rfl))
      (pss_cons (ps_while PassesOwn.never (pt_cmpR (op_neNil hr.units0) (pv 4) (pe_lst pa_nil) (nomark _))
        (pss_cons (ps_set (i := 6) sc_law_round.nd rfl (Or.inl rfl) (pe_lst pa_nil))
        (pss_cons (ps_for PassesOwn.never rfl (pi_list (pv 4)) (pg_tup rfl (pgs_cons (pg_name (i := 7) sc_law_round.nd rfl (Or.inl rfl)) (pgs_cons (pg_name (i := 8) sc_law_round.nd rfl (Or.inl rfl)) pgs_nil)))
          (pss_cons (ps_if (PW.pt (pw_and (pt_cmpR op_eq (pe_ix ix_tup (pv 8) pe_int (fun _ _ => rfl)) (pv 1) (nomark _)) (pw_and1 (pt_cmpR op_eq (pe_callB (cr_sumT rfl) (by rfl) T.f_sum b_sum (pa_cons (pe_ix ix_tup (pv 8) pe_int (fun _ _ => rfl)) pa_nil)) pe_int (nomark _))))) (pss_one (ps_ret (pv 7))) pss_nil)
          (pss_one (ps_for PassesOwn.never rfl (pi_enum (by rfl) T.f_enumerate (pa_cons (pe_ix ix_tup (pv 0) pe_int (fun _ _ => rfl)) pa_nil)) (pg_tup rfl (pgs_cons (pg_name (i := 9) sc_law_round.nd rfl (Or.inl rfl)) (pgs_cons (pg_name (i := 10) sc_law_round.nd rfl (Or.inl rfl)) pgs_nil)))
            (pss_cons (ps_set (i := 11) sc_law_round.nd rfl (Or.inl rfl) (pe_tup (pa_cons (pe_ix ix_tup (pv 10) pe_int (fun _ _ => rfl)) (pa_cons (pe_cal cL hr (by rfl) (pa_cons (pv 0) (pa_cons (pe_ix ix_tup (pv 8) pe_int (fun _ _ => rfl)) (pa_cons (pv 10) pa_nil)))) pa_nil))))
            (pss_one (ps_if (PW.pt (pw_and (pt_cmpR op_eq (pe_ix ix_tup (pv 10) pe_int (fun _ _ => rfl)) (pe_ix ix_tup (pv 8) pe_int (fun _ _ => rfl)) (by rfl)) (pw_and (pt_cmpR op_ge (pe_callB (cr_minT rfl) (by rfl) T.f_min b_min (pa_cons (pe_ix ix_tup (pv 11) pe_int (fun _ _ => rfl)) pa_nil)) pe_int (nomark _)) (pw_and1 (pt_cmpR (op_notInND hu64) (pv 11) (pv 5) (by rfl))))))
              (pss_cons (ps_asg pe_bl (pg_sub (pv 5) (pv 11) (set_nd hu64)))
                (pss_one (ps_expr (pe_bm PySem.F.plainAttrs_list PySem.F.slot_list_append PySem.F.type_list_append mt_append (pv 6) (pa_cons (pe_tup (pa_cons (pe_op op_cat (pv 7) (pe_lst (pa_cons (pv 9) pa_nil))) (pa_cons (pv 11) pa_nil))) pa_nil)))))
              pss_nil)))))))
        (pss_one (ps_set (i := 4) sc_law_round.nd rfl (Or.inl rfl) (pe_callTy call_list_of (by rfl) T.f_list b_list (pa_cons (pv 6) pa_nil)))))))
      (pss_one (ps_ret pe_non)))), ?_⟩
    -- the beginning
    refine ⟨_, rfl, _, rfl, a, _, 0, _, rfl, rfl, SqT.of g0, atI_nat (j := 0) rfl, li, rfl, ⟨_, SqL.of g1⟩, fun D hD => ?_⟩
    refine lc_it (walk_list (K := K) (a := li) (xs := M.ins.map V.str)) (fun i H' => Same H H' ∧ H' D = some (.lst (((leftOf M.ins ws).take i).map V.int))) ⟨sm_new hD, upd_same⟩ (fun i H' _ hp => SqL.of (hp.1 _ _ g1)) ?_ ?_
    · rintro i x H4 H5 hi ⟨sm, ha⟩ ⟨rfl, hx⟩
      obtain ⟨z, hz, rfl⟩ := map_at hx
      have hd5 := sm _ _ hd
      refine ⟨rfl, ?_⟩
      refine yesT ?_
      refine ⟨_, rfl, d, rfl, .inl ⟨_, .inl hd5⟩, _, rfl, _, dg_ws (z := z) (.inl hd5), ?_⟩
      have ev : (((wsGet ws z).map V.int).getD (V.int 0)) = V.int ((wsGet ws z).getD 0) := by cases wsGet ws z <;> rfl
      have e7 : (leftOf M.ins ws)[i]? = some ((wsGet ws z).getD 0) := by
        unfold leftOf
        rw [List.getElem?_map, hz]
        rfl
      obtain ⟨lt7, eq7⟩ := List.getElem?_eq_some_iff.mp e7
      refine ⟨_, ha, ?_, sm_mut sm hD, ?_⟩
      · have h4 := O.i4.2
        rw [leftOf_len] at lt7
        rw [List.length_map, List.length_take]
        exact small1000 (by omega)
      · rw [upd_same, List.take_succ_eq_append_getElem lt7, eq7, List.map_append]
        show some (HO.lst (_ ++ [(((wsGet ws z).map V.int).getD (V.int 0))])) = _
        rw [ev]
        rfl
    rintro H1 ⟨s1, hD1⟩
    rw [List.length_map, ← leftOf_len M.ins ws, List.take_length] at hD1
    have nn : ∀ y ∈ leftOf M.ins ws, 0 ≤ y := leftOf_nn fun p hp => (hC.1 p hp).2
    have s12 : (leftOf M.ins ws).sum ≤ 12 := by
      rw [leftOf_sum O.nd (fun p hp => (hC.1 p hp).1) hC.2.1]
      exact h12
    have le := leftOf_len M.ins ws
    clear hd hC h12
    revert hD1 nn s12 le q
    generalize leftOf M.ins ws = left
    intro q hD1 nn s12 le
    refine ⟨D, _, rfl, .inl ⟨SqL.of hD1, fun gz hgz => ?_⟩⟩
    refine ⟨by show 2 ≤ sizeLine; decide, fun gt hgt => ?_⟩
    have gN : NodeAt (upd (upd H1 gz (.tup (left.map V.int))) gt (.tup [.int st, .ref gz])) (.ref gt) (st, left) := by
      refine ⟨gt, gz, rfl, upd_same, ?_⟩
      rw [upd_ne (ne_of_none upd_same hgt), upd_same]
    have s2 : Same H (upd (upd H1 gz (.tup (left.map V.int))) gt (.tup [.int st, .ref gz])) := (s1.trans (sm_new hgz)).trans (sm_new hgt)
    revert gN s2
    generalize upd (upd H1 gz (.tup (left.map V.int))) gt (.tup [.int st, .ref gz]) = H2
    intro gN s2
    refine ⟨by show 0 ≤ sizeLine; decide, fun el hel => ⟨_, rfl, by show 2 ≤ sizeLine; decide, fun ra hra => ⟨by show 1 ≤ sizeLine; decide, fun dr hdr => ?_⟩⟩⟩
    have r1 : RowAt (upd (upd (upd H2 el (.lst [])) ra (.tup [.ref el, .ref gt])) dr (.lst [.ref ra])) (.ref ra) ((st, left), []) := by
      refine RowAt.mono (sm_new hdr) ⟨ra, el, .ref gt, rfl, upd_same, ?_, gN.mono ((sm_new hel).trans (sm_new hra))⟩
      rw [upd_ne (ne_of_none upd_same hra), upd_same]
      rfl
    have s3 : Same H2 (upd (upd (upd H2 el (.lst [])) ra (.tup [.ref el, .ref gt])) dr (.lst [.ref ra])) := ((sm_new hel).trans (sm_new hra)).trans (sm_new hdr)
    have hdr3 : (upd (upd (upd H2 el (.lst [])) ra (.tup [.ref el, .ref gt])) dr (.lst [.ref ra])) dr = some (.lst [.ref ra]) := upd_same
    revert r1 s3 hdr3
    generalize upd (upd (upd H2 el (.lst [])) ra (.tup [.ref el, .ref gt])) dr (.lst [.ref ra]) = H3
    intro r1 s3 hdr3
    refine fun dk nk => ⟨_, rfl, ?_⟩
    refine ⟨upd_same, (st, left), (gN.mono s3).mono (sm_new nk), fun H4 e4 n4 => ?_⟩
    have s4 : Same H3 H4 := fun b o hb => by
      have nb := ne_of_none hb nk
      rw [e4 b nb, upd_ne nb]
      exact hb
    have s24 : Same H (off [dk] H4) := off_up ((s2.trans s3).trans s4) fun b hb => by
      rw [List.mem_singleton.mp hb]
      exact same_none (s2.trans s3) nk
    have s34 : Same H3 (off [dk] H4) := off_up s4 fun b hb => by
      rw [List.mem_singleton.mp hb]
      exact nk
    have BA := seqB_all (b := (st, left)) O.ok hst le nn
    refine ⟨_, _, rfl, ?_⟩
    refine ⟨fun m σ H' => ∃ (k : Nat) (dr : Addr) (rv' : List V) (b c d' e f' g h' : Option V), (m = bBig - k ∧ k ≤ (seqB M.rs M.ins (st, left) k).length) ∧ σ = [some (.ref a), some (.int st), some (.ref d), some (.ref gt), some (.ref dr), some (.ref dk), b, c, d', e, f', g, h'] ∧ Same H (off [dk] H') ∧
        (∃ kvs, NDAt P w H' dk kvs ∧ Paired KeyAt kvs (seqB M.rs M.ins (st, left) k)) ∧ off [dk] H' dr = some (.lst rv') ∧ Paired (RowAt (off [dk] H')) rv' ((seqB M.rs M.ins (st, left) k).drop k) ∧ ∀ i e, i < k → (seqB M.rs M.ins (st, left) k)[i]? = some e → e.1 ≠ (st, zerosN M.ins.length),
      ⟨_, 0, dr, [.ref ra], _, _, _, _, _, _, _, ⟨rfl, Nat.zero_le _⟩, rfl, s24, ⟨_, n4, .cons rfl .nil⟩, s34 _ _ hdr3, .cons (r1.mono s34) .nil, fun i e hi => absurd hi (Nat.not_lt_zero i)⟩, ?_⟩
    rintro m σ H6 ⟨k, dr, rv', b, c, d', e, f', g, h', ⟨rfl, hk⟩, rfl, sH, ⟨kvs, n1, n2⟩, hdr, hrows, hno⟩
    have ND := BA k
    have LE : (seqB M.rs M.ins (st, left) k).length ≤ bBig := seqB_len ND O.sz.2 O.i4.2 s12
    refine ⟨_, rfl, by show 0 ≤ sizeLine; decide, fun e he => ⟨dr, e, _, rfl, rfl, SqL.of (sm_new he _ _ (off_at hdr).1), SqL.of upd_same, _, rfl, ?_⟩⟩
    have s67 : Same H6 (upd H6 e (.lst [])) := sm_new he
    revert s67
    generalize upd H6 e (.lst []) = H7
    intro s67
    have o67 : Same (off [dk] H6) (off [dk] H7) := off_same s67
    replace hdr := o67 _ _ hdr
    replace hrows := paired_mono hrows fun _ _ q => RowAt.mono o67 q
    replace sH := sH.trans o67
    replace n1 := n1.mono s67
    clear o67 s67 he
    cases rv' with
    | nil =>
      have hle : (seqB M.rs M.ins (st, left) k).length ≤ k := by
        have e1 := paired_len hrows
        rw [List.length_drop] at e1
        simp at e1
        omega
      refine iteF ?_
      refine q _ _ none (sH.trans off_le) ⟨k, hle, fun hm => ?_⟩ rfl
      obtain ⟨x, hx, ex⟩ := List.mem_map.mp hm
      obtain ⟨i, hi⟩ := List.mem_iff_getElem?.mp hx
      have := (List.getElem?_eq_some_iff.mp hi).1
      exact hno i x (by omega) hi ex
    | cons y0 wr =>
    refine iteT ?_
    have hlt : k < (seqB M.rs M.ins (st, left) k).length := by
      have e1 := paired_len hrows
      rw [List.length_drop, List.length_cons] at e1
      omega
    refine ⟨fun σ' H' => ∃ m', m' < bBig - k ∧ ∃ (k : Nat) (dr : Addr) (rv' : List V) (b c d' e f' g h' : Option V), (m' = bBig - k ∧ k ≤ (seqB M.rs M.ins (st, left) k).length) ∧ σ' = [some (.ref a), some (.int st), some (.ref d), some (.ref gt), some (.ref dr), some (.ref dk), b, c, d', e, f', g, h'] ∧ Same H (off [dk] H') ∧
        (∃ kvs, NDAt P w H' dk kvs ∧ Paired KeyAt kvs (seqB M.rs M.ins (st, left) k)) ∧ off [dk] H' dr = some (.lst rv') ∧ Paired (RowAt (off [dk] H')) rv' ((seqB M.rs M.ins (st, left) k).drop k) ∧ ∀ i e, i < k → (seqB M.rs M.ins (st, left) k)[i]? = some e → e.1 ≠ (st, zerosN M.ins.length),
      fun _ _ z => z, ?_⟩
    -- later
    refine ⟨by show 0 ≤ sizeLine; decide, fun dl hdl => ?_⟩
    have hdl2 : (upd H7 dl (.lst [])) dl = some (.lst []) := upd_same
    have s78 : Same H7 (upd H7 dl (.lst [])) := sm_new hdl
    revert hdl2 s78
    generalize upd H7 dl (.lst []) = H8
    intro hdl2 s78
    have L0 : LState P w H7 H8 dk dl (seqB M.rs M.ins (st, left) k) (seqB M.rs M.ins (st, left) k).length := by
      refine ⟨fun b o hb => off_in (s78 _ _ (off_at hb).1) fun m => ?_, ⟨kvs, n1.mono s78, n2⟩, ⟨[], hdl2, by rw [List.drop_length]; exact .nil⟩⟩
      rcases List.mem_cons.mp m with z | z
      · exact (off_at hb).2 (by simp [z])
      · rw [List.mem_singleton.mp z] at hb
        rw [(off_at hb).1] at hdl
        cases hdl
    refine ⟨_, rfl, dr, rfl, ⟨_, SqL.of (s78 _ _ (off_at hdr).1)⟩, ?_⟩
    generalize hF : (seqB M.rs M.ins (st, left) k).length = F0 at *
    have hrl : (y0 :: wr).length = F0 - k := by
      rw [paired_len hrows, List.length_drop, hF]
    refine for_it (walk_list (K := K) (a := dr) (xs := y0 :: wr)) (fun j σ' H' => ∃ (b c d' e f' h' : Option V), σ' = [some (.ref a), some (.int st), some (.ref d), some (.ref gt), some (.ref dr), some (.ref dk), some (.ref dl), b, c, d', e, f', h'] ∧
        LState P w H7 H' dk dl (seqB M.rs M.ins (st, left) (k + j)) F0 ∧ ∀ i e, i < k + j → (seqB M.rs M.ins (st, left) (k + j))[i]? = some e → e.1 ≠ (st, zerosN M.ins.length))
      ⟨_, _, _, _, _, _, rfl, L0, hno⟩ (fun j σ' H' _ ⟨_, _, _, _, _, _, _, z, _⟩ => SqL.of (off_at (z.sm _ _ hdr)).1) ?_ ?_
    · rintro j v σ' H10 H' hj ⟨b, c, d', e, f', h', rfl, Lx, hno'⟩ ⟨rfl, hv⟩
      obtain ⟨x, hx0, hrow⟩ := paired_get hrows hv
      rw [List.getElem?_drop] at hx0
      obtain ⟨pre, hpre⟩ := seqB_pre M.rs M.ins (st, left) k j
      have ltx := (List.getElem?_eq_some_iff.mp hx0).1
      have hx : (seqB M.rs M.ins (st, left) (k + j))[k + j]? = some x := by
        rw [hpre, List.getElem?_append_left ltx]
        exact hx0
      have hF' : F0 ≤ (seqB M.rs M.ins (st, left) (k + j)).length := by
        rw [hpre, List.length_append, hF]
        omega
      have NDj := BA (k + j)
      have hXok := NDj.ok x (List.mem_of_getElem? hx)
      obtain ⟨ra, pl, tv, rfl, p1, p2, pN⟩ := hrow
      obtain ⟨tn, tu, rfl, q1, q2⟩ := pN
      have SO : Same (off [dk] H7) H' := Lx.sm.trans off_le
      refine ⟨ra, _, rfl, SqT.of (SO _ _ p1), rfl, _, _, rfl, _, _, rfl, rfl, ?_⟩
      refine ⟨_, rfl, tn, _, 0, _, rfl, rfl, SqT.of (SO _ _ q1), atI_nat (j := 0) rfl, _, rfl, rfl, decide (x.1.1 = st), dint _ _, ?_⟩
      have iff : x.1 = (st, zerosN M.ins.length) ↔ x.1.1 = st ∧ x.1.2.sum = 0 := by
        constructor
        · intro z
          rw [z]
          exact ⟨rfl, zeros_sum _⟩
        · rintro ⟨z1, z2⟩
          have z3 := sum_zero hXok.nn z2
          rw [hXok.le] at z3
          exact Prod.ext z1 z3
      suffices hgo : x.1 ≠ (st, zerosN M.ins.length) → ?go by
        by_cases c1 : x.1.1 = st
        · refine iteT' c1 ?_
          refine ⟨_, rfl, tn, _, 1, _, rfl, rfl, SqT.of (SO _ _ q1), atI_nat (j := 1) rfl, tu, x.1.2, rfl, SqT.of (SO _ _ q2), rfl, decide (x.1.2.sum = 0), dint _ _, ?_⟩
          by_cases c2 : x.1.2.sum = 0
          · refine iteT' c2 ?_
            refine ⟨_, rfl, q _ _ (some x.2) (sH.trans SO) ⟨k + j, ?_⟩ ⟨pl, rfl, SO _ _ p2⟩⟩
            rw [← iff.mpr ⟨c1, c2⟩]
            exact List.mem_of_getElem? hx
          · refine iteF' c2 ?_
            exact hgo fun z => c2 (iff.mp z).2
        · refine iteF' c1 ?_
          exact hgo fun z => c1 (iff.mp z).1
      intro hng
      have sHo : Same H (off [dk, dl] H') := sH.trans Lx.sm
      refine ⟨_, rfl, a, _, 3, _, rfl, rfl, SqT.of (sHo.trans off_le _ _ g0), atI_nat (j := 3) rfl, ld, rv, rfl, SqL.of (sHo.trans off_le _ _ g3), ?_⟩
      refine for_it (walk_enum (K := K) (a := ld) (xs := rv)) (fun i σ' H' => ∃ (f' g' e' h' : Option V), σ' = [some (.ref a), some (.int st), some (.ref d), some (.ref gt), some (.ref dr), some (.ref dk), some (.ref dl), some (.ref pl), some (.ref tn), e', f', g', h'] ∧
          LState P w H7 H' dk dl (expB M.rs M.ins (seqB M.rs M.ins (st, left) (k + j)) x ((List.range i).filter (isAt M.rs x.1.1))) F0)
        ⟨_, _, _, _, rfl, Lx⟩ (fun i σ' H' _ ⟨_, _, _, _, _, z⟩ => SqL.of (off_at (z.sm _ _ (sH _ _ g3))).1) ?_ ?_
      · rintro i v2 σ' H12 H13 hi ⟨f', g', e', h', rfl, L2⟩ ⟨t2, x1, x2, rfl, ht2, rfl, e1, e2⟩
        cases e1
        have e2 : rv[i]? = some x2 := e2
        obtain ⟨r, hr1, a3, d1, d2, rfl, h1, h2, h3⟩ := paired_get gr e2
        have hrm := List.mem_of_getElem? hr1
        have L3 := L2.grow (sm_new (o := .tup [.int (i : Nat), .ref a3]) ht2)
        have ht3 : (upd H12 t2 (.tup [.int (i : Nat), .ref a3])) t2 = some (.tup [.int (i : Nat), .ref a3]) := upd_same
        revert L3 ht3
        generalize upd H12 t2 (.tup [.int (i : Nat), .ref a3]) = HA
        intro L3 ht3
        have S7 : Same (off [dk] H7) HA := L3.sm.trans off_le
        have SA : Same H HA := sH.trans S7
        refine ⟨t2, _, rfl, SqT.of ht3, rfl, _, _, rfl, _, _, rfl, rfl, ?_⟩
        refine ⟨_, rfl, a3, _, 3, _, rfl, rfl, SqT.of (SA _ _ h1), atI_nat (j := 3) rfl, _, rfl, _, rfl, tn, _, 1, _, rfl, rfl, SqT.of (S7 _ _ q1), atI_nat (j := 1) rfl, _, rfl, _, _, M, r, tu, x.1.2, rfl, hS.mono SA, ⟨a3, d1, d2, rfl, SA _ _ h1, SA _ _ h2, SA _ _ h3⟩, S7 _ _ q2, hXok.le, O.i4.2, fun pL Hl sl nl hpl => ?_⟩
        refine ⟨by show 2 ≤ sizeLine; decide, fun tt htt => ?_⟩
        have sB : Same HA (upd Hl tt (.tup [.int r.nx, .ref pL])) := sl.trans (sm_new htt)
        have hpl2 : (upd Hl tt (.tup [.int r.nx, .ref pL])) pL = some (.tup ((lessBy M.ins r x.1.2).map V.int)) := by
          rw [upd_ne (ne_of_none hpl htt)]
          exact hpl
        have htt2 : (upd Hl tt (.tup [.int r.nx, .ref pL])) tt = some (.tup [.int r.nx, .ref pL]) := upd_same
        have ttn : tt ∉ [dk, dl] := L3.nin (same_none sl htt)
        have pln : pL ∉ [dk, dl] := L3.nin nl
        revert sB hpl2 htt2
        generalize upd Hl tt (.tup [.int r.nx, .ref pL]) = HB
        intro sB hpl2 htt2
        have L4 := L3.grow sB
        have tN : NodeAt (off [dk, dl] HB) (.ref tt) (nextN M.ins r x.1) := ⟨tt, pL, rfl, off_in htt2 ttn, off_in hpl2 pln⟩
        have S7B := S7.trans sB
        have SB := SA.trans sB
        have eA : isAt M.rs x.1.1 i = decide (r.st = x.1.1) := by
          unfold isAt
          rw [hr1]
        refine ⟨_, rfl, a3, _, 0, _, rfl, rfl, SqT.of (SB _ _ h1), atI_nat (j := 0) rfl, _, rfl, tn, _, 0, _, rfl, rfl, SqT.of (S7B _ _ q1), atI_nat (j := 0) rfl, rfl, decide (r.st = x.1.1), dint _ _, ?_⟩
        rw [range_filter_succ, eA]
        by_cases c1 : r.st = x.1.1
        rotate_left
        · refine iteF' c1 ?_
          rw [decide_eq_false c1]
          refine ⟨_, _, _, _, rfl, ?_⟩
          show LState P w H7 HB dk dl (expB M.rs M.ins _ x (_ ++ [])) F0
          rw [List.append_nil]
          exact L4
        refine iteT' c1 ?_
        rw [decide_eq_true c1]
        show tOp _ _ _ _ _ _
        have ex : expB M.rs M.ins (seqB M.rs M.ins (st, left) (k + j)) x ((List.range i).filter (isAt M.rs x.1.1) ++ (if (true : Bool) = true then [i] else [])) = tryB M.rs M.ins x (expB M.rs M.ins (seqB M.rs M.ins (st, left) (k + j)) x ((List.range i).filter (isAt M.rs x.1.1))) i := expB_snoc _ _ _ _ _ _
        rw [ex, tryB_some hr1]
        have BE := BAll.exp O.ok hXok (ns := (List.range i).filter (isAt M.rs x.1.1)) NDj fun jj hjj => by
          obtain ⟨z1, z2⟩ := List.mem_filter.mp hjj
          refine List.mem_filter.mpr ⟨List.mem_range.mpr ?_, z2⟩
          have := List.mem_range.mp z1
          have := (List.getElem?_eq_some_iff.mp hr1).1
          omega
        have LEE := seqB_len BE O.sz.2 O.i4.2 s12
        have PRE := expB_pre M.rs M.ins x ((List.range i).filter (isAt M.rs x.1.1)) (seqB M.rs M.ins (st, left) (k + j))
        clear ex
        revert L4 BE LEE PRE
        generalize expB M.rs M.ins (seqB M.rs M.ins (st, left) (k + j)) x ((List.range i).filter (isAt M.rs x.1.1)) = fs
        intro L4 BE LEE ⟨tl, PRE⟩
        have hFs : F0 ≤ fs.length := by
          rw [PRE, List.length_append]
          omega
        obtain ⟨smL, ⟨kvs2, m1, m2⟩, ⟨lv, m3, m4⟩⟩ := id L4
        refine ⟨_, rfl, tt, _, 1, _, rfl, rfl, SqT.of htt2, atI_nat (j := 1) rfl, pL, _, rfl, SqT.of hpl2, ?_, fun mm hmm hmin => ⟨_, _, rfl, rfl, _, rfl, ?_⟩⟩
        · rw [lessBy_len hXok.le]
          exact List.length_pos_iff.mpr O.i4.1
        by_cases hm0 : 0 ≤ mm
        rotate_left
        · refine iteF' hm0 ?_
          rw [if_neg fun z => hm0 (z.1 mm hmm)]
          exact ⟨_, _, _, _, rfl, L4⟩
        have hall : ∀ y ∈ (nextN M.ins r x.1).2, 0 ≤ y := fun y hy => Int.le_trans hm0 (hmin y hy)
        refine iteT' hm0 ?_
        refine ⟨_, rfl, _, rfl, dk, _, kvs2, rfl, tN.mono off_le, m1, _, rfl, ?_⟩
        rw [ka_none m2]
        by_cases hin : nextN M.ins r x.1 ∈ fs.map (·.1)
        · rw [decide_eq_true hin]
          rw [if_neg fun z => z.2 hin]
          refine iteF ?_
          exact ⟨_, _, _, _, rfl, L4⟩
        rw [decide_eq_false hin]
        rw [if_pos ⟨hall, hin⟩]
        refine iteT ?_
        refine ⟨_, rfl, _, rfl, dk, _, kvs2, rfl, tN.mono off_le, m1, ka_ndGet m2 hin, ?_, fun HC eC nC => ?_⟩
        · rw [paired_len m2]
          exact Nat.lt_of_le_of_lt LEE (by decide)
        have oC : off [dk, dl] HC = off [dk, dl] HB := off_mut' (by simp) eC
        have S7C : Same (off [dk] H7) HC := by
          refine Same.trans ?_ (off_le (S := [dk, dl]))
          rw [oC]
          exact smL
        obtain ⟨phi2, ep2⟩ := m1.is
        have hdlC : HC dl = some (.lst lv) := (eC dl (ne_of m3 ep2 (by intro z; cases z))).trans m3
        refine ⟨_, rfl, .inl ⟨rfl, _, SqL.of hdlC⟩, _, rfl, _, rfl, by show 1 ≤ sizeLine; decide, fun ln hln => ?_⟩
        have hs12 := hXok.short s12
        refine ⟨pl, ln, _, _, rfl, rfl, sm_new hln _ _ (S7C _ _ p2), upd_same, ?_, fun pa hpa => ⟨_, rfl, by show 2 ≤ sizeLine; decide, fun ta hta => ?_⟩⟩
        · rw [nums_len]
          show x.2.length + 1 ≤ sizeLine
          exact Nat.le_trans (show x.2.length + 1 ≤ 13 by omega) (by decide)
        have sD : Same HC (upd (upd (upd HC ln (.lst [.int i])) pa (.lst (nums x.2 ++ [.int i]))) ta (.tup [.ref pa, .ref tt])) := ((sm_new hln).trans (sm_new hpa)).trans (sm_new hta)
        have hpaD : (upd (upd (upd HC ln (.lst [.int i])) pa (.lst (nums x.2 ++ [.int i]))) ta (.tup [.ref pa, .ref tt])) pa = some (.lst (nums (x.2 ++ [i]))) := by
          rw [upd_ne (ne_of_none upd_same hta), upd_same, nums_snoc]
        have htaD : (upd (upd (upd HC ln (.lst [.int i])) pa (.lst (nums x.2 ++ [.int i]))) ta (.tup [.ref pa, .ref tt])) ta = some (.tup [.ref pa, .ref tt]) := upd_same
        have ninC : ∀ {b : Addr}, HC b = none → b ∉ [dk, dl] := fun {b} hb => off_nin (H := HC) (fun z hz => by
          obtain ⟨phi3, ep3⟩ := nC.is
          rcases List.mem_cons.mp hz with q | q
          · rw [q]
            exact ⟨_, ep3⟩
          · rw [List.mem_singleton.mp q]
            exact ⟨_, hdlC⟩) hb
        have pan := ninC (same_none (sm_new hln) hpa)
        have tan := ninC (same_none (sm_new hln) (same_none (sm_new hpa) hta))
        revert sD hpaD htaD
        generalize upd (upd (upd HC ln (.lst [.int i])) pa (.lst (nums x.2 ++ [.int i]))) ta (.tup [.ref pa, .ref tt]) = HD
        intro sD hpaD htaD
        have tND : NodeAt (off [dk, dl] HD) (.ref tt) (nextN M.ins r x.1) := by
          rw [← oC] at tN
          exact tN.mono (off_same sD)
        obtain ⟨hwD, L5, _⟩ := LState.put (n := nextN M.ins r x.1) (p := x.2 ++ [i]) (tv := .ref ta) hFs smL m1 m2 m3 m4 eC nC sD ⟨ta, pa, .ref tt, rfl, off_in htaD tan, off_in hpaD pan, tND⟩
        refine ⟨dl, _, _, rfl, rfl, hwD, ?_, ?_⟩
        · have e1 := paired_len m4
          rw [List.length_drop] at e1
          rw [e1]
          exact Nat.lt_of_le_of_lt (Nat.le_trans (Nat.sub_le _ _) LEE) (by decide)
        · exact ⟨_, _, _, _, rfl, L5⟩
      · rintro σ' H11 ⟨f', g', e', h', rfl, L2⟩
        rw [show (rv.length) = M.rs.length from paired_len gr] at L2
        have e5 : expB M.rs M.ins (seqB M.rs M.ins (st, left) (k + j)) x ((List.range M.rs.length).filter (isAt M.rs x.1.1)) = seqB M.rs M.ins (st, left) (k + (j + 1)) := (seqB_step hx).symm
        rw [e5] at L2
        refine ⟨_, _, _, _, _, _, rfl, L2, fun i e hi he => ?_⟩
        obtain ⟨t5, ht5⟩ := seqB_pre1 M.rs M.ins (st, left) (k + j)
        have lt5 := (List.getElem?_eq_some_iff.mp hx).1
        rw [show k + (j + 1) = k + j + 1 from rfl, ht5, List.getElem?_append_left (by omega)] at he
        rcases Nat.lt_or_ge i (k + j) with z | z
        · exact hno' i e z he
        · have : i = k + j := by omega
          subst this
          rw [hx] at he
          cases he
          exact hng
    · rintro σ' H' ⟨b, c, d', e, f', h', rfl, Lx, hno'⟩
      rw [hrl, show k + (F0 - k) = F0 by omega] at Lx hno'
      obtain ⟨smL, ⟨kvs2, m1, m2⟩, ⟨lv, m3, m4⟩⟩ := Lx
      refine ⟨_, rfl, dl, lv, rfl, .inl (SqL.of m3), fun nl hnl => ?_⟩
      have so : Same (off [dk, dl] H') (off [dk] (upd H' nl (.lst lv))) := (off_sub (H := H') (S := [dk]) (S' := [dk, dl]) fun z hz => List.mem_append_left [dl] hz).trans (off_new hnl)
      have nlk : nl ∉ [dk] := fun z => by
        obtain ⟨phi, ep⟩ := m1.is
        rw [List.mem_singleton.mp z, ep] at hnl
        cases hnl
      have hF1 : F0 ≤ (seqB M.rs M.ins (st, left) F0).length := by
        obtain ⟨t, ht⟩ := seqB_pre M.rs M.ins (st, left) k (F0 - k)
        rw [show k + (F0 - k) = F0 by omega] at ht
        rw [ht, List.length_append, hF]
        omega
      refine ⟨bBig - F0, by omega, F0, nl, lv, _, _, _, _, _, _, _, ⟨rfl, hF1⟩, rfl, (sH.trans smL).trans so, ⟨kvs2, m1.mono (sm_new hnl), m2⟩, off_in upd_same nlk, paired_mono m4 fun _ _ q => q.mono so, hno'⟩
end
end LB
set_option Elab.async false
set_option linter.all false
set_option maxRecDepth 100000
namespace LB
open PySem PySem.Spec PyProof.Rows L2 ClX
/-! ### ways from 0: what was found, in order -/
abbrev IN := Int × List Nat
structure WOk (rs : List Rx) (n : Int) (fs : List IN) : Prop where
  nd : (fs.map (·.1)).Nodup
  ok : ∀ e ∈ fs, Leads rs 0 e.2 ∧ ledTo rs 0 e.2 = e.1 ∧ e.2.length + 1 ≤ fs.length ∧ 0 ≤ e.1 ∧ e.1 < n
  zero : 0 ∈ fs.map (·.1)
def Done (rs : List Rx) (spot : Int) (fs : List IN) (k : Nat) : Prop := ∀ i e, i < k → fs[i]? = some e → e.1 ≠ spot ∧ ∀ r ∈ rs, r.st = e.1 → r.nx ∈ fs.map (·.1)
theorem WOk.len {rs : List Rx} {n : Int} {fs : List IN} (h : WOk rs n fs) : fs.length ≤ n.toNat := by
  have := ints_len h.nd fun x hx => by
    obtain ⟨e, he, rfl⟩ := List.mem_map.mp hx
    exact (h.ok e he).2.2.2
  rwa [List.length_map] at this
theorem WOk.put {rs : List Rx} {n : Int} {fs : List IN} {x : IN} {i : Nat} {r : Rx} (h : WOk rs n fs) (hx : x ∈ fs) (hr : rs[i]? = some r) (hs : r.st = x.1) (hb : 0 ≤ r.nx ∧ r.nx < n) (hn : r.nx ∉ fs.map (·.1)) : WOk rs n (fs ++ [(r.nx, x.2 ++ [i])]) where
  nd := by
    rw [List.map_append]
    exact nd_snoc h.nd hn
  ok := fun e he => by
    rw [List.length_append, List.length_singleton]
    obtain ⟨o1, o2, o3, _⟩ := h.ok x hx
    rcases List.mem_append.mp he with he | he
    · obtain ⟨a1, a2, a3, a4⟩ := h.ok e he
      exact ⟨a1, a2, by omega, a4⟩
    · rw [List.mem_singleton.mp he]
      refine ⟨leads_append o1 ⟨r, hr, by rw [o2]; exact hs, trivial⟩, ?_, ?_, hb⟩
      · show ledTo rs 0 (x.2 ++ [i]) = r.nx
        rw [ledTo_append]
        show ledTo rs (match rs[i]? with | some r => r.nx | none => _) [] = _
        rw [hr]
        rfl
      · show (x.2 ++ [i]).length + 1 ≤ fs.length + 1
        rw [List.length_append, List.length_singleton]
        omega
  zero := by
    rw [List.map_append]
    exact List.mem_append_left _ h.zero
theorem Done.grow {rs : List Rx} {s : Int} {fs : List IN} {e : IN} {k : Nat} (h : Done rs s fs k) (hk : k ≤ fs.length) : Done rs s (fs ++ [e]) k := fun i x hi hx => by
  rw [List.getElem?_append_left (by omega)] at hx
  obtain ⟨h1, h2⟩ := h i x hi hx
  exact ⟨h1, fun r hr hs => by
    rw [List.map_append]
    exact List.mem_append_left _ (h2 r hr hs)⟩
theorem Done.all {rs : List Rx} {n s : Int} {fs : List IN} {k : Nat} (w : WOk rs n fs) (h : Done rs s fs k) (hk : fs.length ≤ k) (re : Reached rs s) : False := by
  have hm := re.mem (L := fs.map (·.1)) w.zero fun r hr hs => by
    obtain ⟨e, he, es⟩ := List.mem_map.mp hs
    obtain ⟨i, hi⟩ := List.mem_iff_getElem?.mp he
    have := (List.getElem?_eq_some_iff.mp hi).1
    exact (h i e (by omega) hi).2 r hr es.symm
  obtain ⟨e, he, es⟩ := List.mem_map.mp hm
  obtain ⟨i, hi⟩ := List.mem_iff_getElem?.mp he
  have := (List.getElem?_eq_some_iff.mp hi).1
  exact (h i e (by omega) hi).1 es
def RowI (H : Hp) (v : V) (e : IN) : Prop := ∃ a pl, v = .ref a ∧ H a = some (.tup [.ref pl, .int e.1]) ∧ H pl = some (.lst (nums e.2))
theorem RowI.mono {H H' : Hp} {v : V} {e : IN} (s : Same H H') (h : RowI H v e) : RowI H' v e := by
  obtain ⟨a, pl, ev, h1, h2⟩ := h
  exact ⟨a, pl, ev, s _ _ h1, s _ _ h2⟩
structure IState (Hs H : Hp) (dk dl : Addr) (fs : List IN) (L0 : Nat) : Prop where
  sm : Same (off [dk] Hs) (off [dk, dl] H)
  nd : H dk = some (.dK (fdict (fs.map (·.1))))
  lt : ∃ lv, H dl = some (.lst lv) ∧ Paired (RowI (off [dk, dl] H)) lv (fs.drop L0)
section
variable {Hs H H1 H2 : Hp} {dk dl : Addr} {fs : List IN} {L0 : Nat}
theorem IState.grow (h : IState Hs H dk dl fs L0) (e : Same H H1) : IState Hs H1 dk dl fs L0 := by
  obtain ⟨sm, n1, ⟨ws, w1, w2⟩⟩ := h
  exact ⟨sm.trans (off_same e), e _ _ n1, ⟨ws, e _ _ w1, paired_mono w2 fun _ _ q => q.mono (off_same e)⟩⟩
end
section
variable {P : Program} {w : World} {K : PySem.W.Frag} {mg : Str → Option Value} {base : Heap} {C fI : Addr}
/-! _law_way -/
def spWay : Sp := fun vs H Q _ => ∃ (sc : V) (M : Mx) (s : Int), vs = [sc, .int s] ∧ SceneAt H sc M ∧ (1 ≤ M.n ∧ M.n ≤ 12) ∧ (∀ r ∈ M.rs, 0 ≤ r.nx ∧ r.nx < M.n) ∧ Reached M.rs s ∧
  ∀ (p : Addr) (ns : List Nat) (H' : Hp), Same H H' → H' p = some (.lst (nums ns)) → Leads M.rs 0 ns → ledTo M.rs 0 ns = s → ns.length ≤ 12 → Q (.ref p) H'
theorem ok__law_way (T : Tx K mg C fI) (D : DefAt K mg "_law_way" s_law_way) : Cal P w K mg base 1 "_law_way" ["_law_scene_here", "_law_spot"] spWay := by
  refine Cal.mk D sc_law_way (fun _ _ _ _ _ _ us hl => match us, hl with | [_, _], _ => rfl) (fun vs H Q E h => ?_) ?_
  · obtain ⟨sc, M, s, rfl, _⟩ := h
    rfl
  · rintro X cdv A outer f s H vs Q E rfl hr ⟨sc, M, st, rfl, hS, hz, hb, hre, q⟩
    obtain ⟨a, li, lo, ld, rv, rfl, g0, g1, g2, g3, gr⟩ := id hS
    have hu := hu_of hr
    refine ⟨_, pss_cons (ps_par (i := 2) (j := 3) rfl sc_law_way.nd rfl rfl (by decide) rfl rfl (pa_cons (pe_lst (pa_cons (pe_tup (pa_cons (pe_lst pa_nil) (pa_cons pe_int pa_nil))) pa_nil)) (pa_cons (pe_disp (pps_cons pe_int pe_bl pps_nil) (by rfl) (by rfl) (fun z => by cases z) (by decide)) pa_nil)) (by rfl))
      (pss_cons (ps_while PassesOwn.never (pt_cmpR (op_neNil hr.units0) (pv 2) (pe_lst pa_nil) (nomark _))
        (pss_cons (ps_set (i := 4) sc_law_way.nd rfl (Or.inl rfl) (pe_lst pa_nil))
        (pss_cons (ps_for PassesOwn.never rfl (pi_list (pv 2)) (pg_tup rfl (pgs_cons (pg_name (i := 5) sc_law_way.nd rfl (Or.inl rfl)) (pgs_cons (pg_name (i := 6) sc_law_way.nd rfl (Or.inl rfl)) pgs_nil)))
          (pss_cons (ps_if (pt_cmpR op_eq (pv 6) (pv 1) (nomark _)) (pss_one (ps_ret (pv 5))) pss_nil)
          (pss_one (ps_for PassesOwn.never rfl (pi_enum (by rfl) T.f_enumerate (pa_cons (pe_ix ix_tup (pv 0) pe_int (fun _ _ => rfl)) pa_nil)) (pg_tup rfl (pgs_cons (pg_name (i := 7) sc_law_way.nd rfl (Or.inl rfl)) (pgs_cons (pg_name (i := 8) sc_law_way.nd rfl (Or.inl rfl)) pgs_nil)))
            (pss_one (ps_if (PW.pt (pw_and (pt_cmpR op_eq (pe_ix ix_tup (pv 8) pe_int (fun _ _ => rfl)) (pv 6) (nomark _)) (pw_and1 (pt_cmp (pc_dnotin hu (pe_ix ix_tup (pv 8) pe_int (fun _ _ => rfl)) (pv 3))))))
              (pss_cons (ps_dput hu (pv 3) (pe_ix ix_tup (pv 8) pe_int (fun _ _ => rfl)) pe_bl rfl)
                (pss_one (ps_expr (pe_bm PySem.F.plainAttrs_list PySem.F.slot_list_append PySem.F.type_list_append mt_append (pv 4) (pa_cons (pe_tup (pa_cons (pe_op op_cat (pv 5) (pe_lst (pa_cons (pv 7) pa_nil))) (pa_cons (pe_ix ix_tup (pv 8) pe_int (fun _ _ => rfl)) pa_nil))) pa_nil)))))
              pss_nil))))))
        (pss_one (ps_set (i := 2) sc_law_way.nd rfl (Or.inl rfl) (pe_callTy call_list_of (by rfl) T.f_list b_list (pa_cons (pv 4) pa_nil)))))))
      (pss_one (ps_ret pe_non))), ?_⟩
    refine ⟨by show 0 ≤ sizeLine; decide, fun el hel => ⟨by show 2 ≤ sizeLine; decide, fun ra hra => ⟨by show 1 ≤ sizeLine; decide, fun dr hdr => ?_⟩⟩⟩
    have r1 : RowI (upd (upd (upd H el (.lst [])) ra (.tup [.ref el, .int 0])) dr (.lst [.ref ra])) (.ref ra) (0, []) := by
      refine RowI.mono (sm_new hdr) ⟨ra, el, rfl, upd_same, ?_⟩
      rw [upd_ne (ne_of_none upd_same hra), upd_same]
      rfl
    have s3 : Same H (upd (upd (upd H el (.lst [])) ra (.tup [.ref el, .int 0])) dr (.lst [.ref ra])) := ((sm_new hel).trans (sm_new hra)).trans (sm_new hdr)
    have hdr3 : (upd (upd (upd H el (.lst [])) ra (.tup [.ref el, .int 0])) dr (.lst [.ref ra])) dr = some (.lst [.ref ra]) := upd_same
    revert r1 s3 hdr3
    generalize upd (upd (upd H el (.lst [])) ra (.tup [.ref el, .int 0])) dr (.lst [.ref ra]) = H3
    intro r1 s3 hdr3
    refine fun dk nk => ⟨upd_same, [((Sum.inl 0 : Key), V.bl true)], rfl, by show 1 ≤ 15; decide, ?_⟩
    have e0 : (upd (upd H3 dk (.dK [])) dk (.dK (mergeK [] [((Sum.inl 0 : Key), V.bl true)]))) = (upd (upd H3 dk (.dK [])) dk (.dK (fdict [0]))) := rfl
    rw [e0]
    have s4 : Same H3 (upd (upd H3 dk (.dK [])) dk (.dK (fdict [0]))) := sm_mut (sm_new nk) nk
    have hdk4 : (upd (upd H3 dk (.dK [])) dk (.dK (fdict [0]))) dk = some (.dK (fdict [0])) := upd_same
    clear e0
    revert s4 hdk4
    generalize upd (upd H3 dk (.dK [])) dk (.dK (fdict [0])) = H4
    intro s4 hdk4
    have s24 : Same H (off [dk] H4) := off_up (s3.trans s4) fun b hb => by
      rw [List.mem_singleton.mp hb]
      exact same_none s3 nk
    have s34 : Same H3 (off [dk] H4) := off_up s4 fun b hb => by
      rw [List.mem_singleton.mp hb]
      exact nk
    have w0 : WOk M.rs M.n [(0, [])] := ⟨by simp, fun e he => by
      rw [List.mem_singleton.mp he]
      exact ⟨trivial, rfl, Nat.le_refl _, Int.le_refl 0, by show (0 : Int) < M.n; omega⟩, by simp⟩
    refine ⟨_, _, rfl, ?_⟩
    refine ⟨fun m σ H' => ∃ (k : Nat) (fs : List IN) (dr : Addr) (rv' : List V) (b c d' e f' : Option V), (m = 13 - k ∧ k ≤ fs.length) ∧ σ = [some (.ref a), some (.int st), some (.ref dr), some (.ref dk), b, c, d', e, f'] ∧ Same H (off [dk] H') ∧
        H' dk = some (.dK (fdict (fs.map (·.1)))) ∧ off [dk] H' dr = some (.lst rv') ∧ Paired (RowI (off [dk] H')) rv' (fs.drop k) ∧ WOk M.rs M.n fs ∧ Done M.rs st fs k,
      ⟨_, 0, [(0, [])], dr, [.ref ra], _, _, _, _, _, ⟨rfl, Nat.zero_le _⟩, rfl, s24, hdk4, s34 _ _ hdr3, .cons (r1.mono s34) .nil, w0, fun i e hi => absurd hi (Nat.not_lt_zero i)⟩, ?_⟩
    rintro m σ H6 ⟨k, fs0, dr, rv', b, c, d', e, f', ⟨rfl, hk⟩, rfl, sH, n1, hdr, hrows, wk, dn⟩
    have L12 : fs0.length ≤ 12 := by
      have := wk.len
      omega
    refine ⟨_, rfl, by show 0 ≤ sizeLine; decide, fun e he => ⟨dr, e, _, rfl, rfl, SqL.of (sm_new he _ _ (off_at hdr).1), SqL.of upd_same, _, rfl, ?_⟩⟩
    have s67 : Same H6 (upd H6 e (.lst [])) := sm_new he
    revert s67
    generalize upd H6 e (.lst []) = H7
    intro s67
    have o67 : Same (off [dk] H6) (off [dk] H7) := off_same s67
    replace hdr := o67 _ _ hdr
    replace hrows := paired_mono hrows fun _ _ q => RowI.mono o67 q
    replace sH := sH.trans o67
    replace n1 := s67 _ _ n1
    clear o67 s67 he
    cases rv' with
    | nil =>
      have hle : fs0.length ≤ k := by
        have e1 := paired_len hrows
        rw [List.length_drop] at e1
        simp at e1
        omega
      exact (dn.all wk hle hre).elim
    | cons y0 wr =>
    refine iteT ?_
    have hlt : k < fs0.length := by
      have e1 := paired_len hrows
      rw [List.length_drop, List.length_cons] at e1
      omega
    refine ⟨fun σ' H' => ∃ m', m' < 13 - k ∧ ∃ (k : Nat) (fs : List IN) (dr : Addr) (rv' : List V) (b c d' e f' : Option V), (m' = 13 - k ∧ k ≤ fs.length) ∧ σ' = [some (.ref a), some (.int st), some (.ref dr), some (.ref dk), b, c, d', e, f'] ∧ Same H (off [dk] H') ∧
        H' dk = some (.dK (fdict (fs.map (·.1)))) ∧ off [dk] H' dr = some (.lst rv') ∧ Paired (RowI (off [dk] H')) rv' (fs.drop k) ∧ WOk M.rs M.n fs ∧ Done M.rs st fs k,
      fun _ _ z => z, ?_⟩
    refine ⟨by show 0 ≤ sizeLine; decide, fun dl hdl => ?_⟩
    have hdl2 : (upd H7 dl (.lst [])) dl = some (.lst []) := upd_same
    have s78 : Same H7 (upd H7 dl (.lst [])) := sm_new hdl
    revert hdl2 s78
    generalize upd H7 dl (.lst []) = H8
    intro hdl2 s78
    have L0 : IState H7 H8 dk dl fs0 fs0.length := by
      refine ⟨fun b o hb => off_in (s78 _ _ (off_at hb).1) fun m => ?_, s78 _ _ n1, ⟨[], hdl2, by rw [List.drop_length]; exact .nil⟩⟩
      rcases List.mem_cons.mp m with z | z
      · exact (off_at hb).2 (by simp [z])
      · rw [List.mem_singleton.mp z] at hb
        rw [(off_at hb).1] at hdl
        cases hdl
    have ndl : dl ≠ dk := ne_of hdl2 L0.nd (by intro z; cases z)
    refine ⟨_, rfl, dr, rfl, ⟨_, SqL.of (s78 _ _ (off_at hdr).1)⟩, ?_⟩
    have hrl : (y0 :: wr).length = fs0.length - k := by
      rw [paired_len hrows, List.length_drop]
    refine for_it (walk_list (K := K) (a := dr) (xs := y0 :: wr)) (fun j σ' H' => ∃ (fs : List IN) (c d' e f' : Option V), σ' = [some (.ref a), some (.int st), some (.ref dr), some (.ref dk), some (.ref dl), c, d', e, f'] ∧
        IState H7 H' dk dl fs fs0.length ∧ (∃ t, fs = fs0 ++ t) ∧ WOk M.rs M.n fs ∧ Done M.rs st fs (k + j))
      ⟨fs0, _, _, _, _, rfl, L0, ⟨[], (List.append_nil _).symm⟩, wk, dn⟩ (fun j σ' H' _ ⟨_, _, _, _, _, _, z, _⟩ => SqL.of (off_at (z.sm _ _ hdr)).1) ?_ ?_
    · rintro j v σ' H10 H' hj ⟨fs, c, d', e, f', rfl, Lx, ⟨tl, rfl⟩, wx, dx⟩ ⟨rfl, hv⟩
      obtain ⟨x, hx0, hrow⟩ := paired_get hrows hv
      rw [List.getElem?_drop] at hx0
      have ltx := (List.getElem?_eq_some_iff.mp hx0).1
      have hx : (fs0 ++ tl)[k + j]? = some x := by
        rw [List.getElem?_append_left ltx]
        exact hx0
      have hxm := List.mem_of_getElem? hx
      obtain ⟨ra, pl, rfl, p1, p2⟩ := hrow
      have SO : Same (off [dk] H7) H' := Lx.sm.trans off_le
      refine ⟨ra, _, rfl, SqT.of (SO _ _ p1), rfl, _, _, rfl, _, _, rfl, rfl, ?_⟩
      obtain ⟨x1, x2, x3, x4⟩ := wx.ok x hxm
      refine ⟨_, rfl, _, rfl, rfl, decide (x.1 = st), dint _ _, ?_⟩
      by_cases c1 : x.1 = st
      · refine iteT' c1 ?_
        refine ⟨_, rfl, q pl x.2 _ (sH.trans SO) (SO _ _ p2) x1 (by rw [x2]; exact c1) ?_⟩
        have := wx.len
        omega
      refine iteF' c1 ?_
      have sHo : Same H (off [dk, dl] H') := sH.trans Lx.sm
      refine ⟨_, rfl, a, _, 3, _, rfl, rfl, SqT.of (sHo.trans off_le _ _ g0), atI_nat (j := 3) rfl, ld, rv, rfl, SqL.of (sHo.trans off_le _ _ g3), ?_⟩
      refine for_it (walk_enum (K := K) (a := ld) (xs := rv)) (fun i σ' H' => ∃ (fs : List IN) (e' f' : Option V), σ' = [some (.ref a), some (.int st), some (.ref dr), some (.ref dk), some (.ref dl), some (.ref pl), some (.int x.1), e', f'] ∧
          IState H7 H' dk dl fs fs0.length ∧ (∃ t, fs = fs0 ++ t) ∧ WOk M.rs M.n fs ∧ Done M.rs st fs (k + j) ∧ ∀ r ∈ M.rs.take i, r.st = x.1 → r.nx ∈ fs.map (·.1))
        ⟨_, _, _, rfl, Lx, ⟨tl, rfl⟩, wx, dx, fun r hr => by simp at hr⟩ (fun i σ' H' _ ⟨_, _, _, _, z, _⟩ => SqL.of (off_at (z.sm _ _ (sH _ _ g3))).1) ?_ ?_
      · rintro i v2 σ' H12 H13 hi ⟨fs, e', f', rfl, L2, ⟨tl2, rfl⟩, wy, dy, up⟩ ⟨t2, y1, y2, rfl, ht2, rfl, e1, e2⟩
        cases e1
        have e2 : rv[i]? = some y2 := e2
        obtain ⟨r, hr1, a3, d1, d2, rfl, h1, h2, h3⟩ := paired_get gr e2
        have hrm := List.mem_of_getElem? hr1
        have L3 := L2.grow (sm_new (o := .tup [.int (i : Nat), .ref a3]) ht2)
        have ht3 : (upd H12 t2 (.tup [.int (i : Nat), .ref a3])) t2 = some (.tup [.int (i : Nat), .ref a3]) := upd_same
        revert L3 ht3
        generalize upd H12 t2 (.tup [.int (i : Nat), .ref a3]) = HA
        intro L3 ht3
        have S7 : Same (off [dk] H7) HA := L3.sm.trans off_le
        have SA : Same H HA := sH.trans S7
        have lti := (List.getElem?_eq_some_iff.mp hr1).1
        have tk : M.rs.take (i + 1) = M.rs.take i ++ [r] := by
          rw [List.take_succ_eq_append_getElem lti, (List.getElem?_eq_some_iff.mp hr1).2]
        refine ⟨t2, _, rfl, SqT.of ht3, rfl, _, _, rfl, _, _, rfl, rfl, ?_⟩
        refine ⟨_, rfl, a3, _, 0, _, rfl, rfl, SqT.of (SA _ _ h1), atI_nat (j := 0) rfl, _, rfl, rfl, decide (r.st = x.1), dint _ _, ?_⟩
        by_cases c2 : r.st = x.1
        rotate_left
        · refine iteF' c2 ?_
          refine ⟨_, _, _, rfl, L3, ⟨tl2, rfl⟩, wy, dy, fun r' hr' hs' => ?_⟩
          rw [tk] at hr'
          rcases List.mem_append.mp hr' with z | z
          · exact up r' z hs'
          · rw [List.mem_singleton.mp z] at hs'
            exact absurd hs' c2
        refine iteT' c2 ?_
        refine ⟨_, rfl, a3, _, 3, _, rfl, rfl, SqT.of (SA _ _ h1), atI_nat (j := 3) rfl, _, rfl, dk, _, rfl, DGet.k (k := Sum.inl r.nx) L3.nd, _, rfl, ?_⟩
        rw [fdict_get]
        by_cases hm : r.nx ∈ (fs0 ++ tl2).map (·.1)
        · rw [decide_eq_true hm]
          refine iteF ?_
          refine ⟨_, _, _, rfl, L3, ⟨tl2, rfl⟩, wy, dy, fun r' hr' hs' => ?_⟩
          rw [tk] at hr'
          rcases List.mem_append.mp hr' with z | z
          · exact up r' z hs'
          · rw [List.mem_singleton.mp z]
            exact hm
        rw [decide_eq_false hm]
        refine iteT ?_
        have wl := wy.len
        refine ⟨_, rfl, _, rfl, a3, _, 3, _, rfl, rfl, SqT.of (SA _ _ h1), atI_nat (j := 3) rfl, dk, _, rfl, DPut.k (k := Sum.inl r.nx) L3.nd (small1000 (by rw [fdict_len, List.length_map]; omega)), ?_⟩
        rw [fdict_put hm]
        obtain ⟨smL, m1, ⟨lv, m3, m4⟩⟩ := L3
        have hdk5 : (upd HA dk (.dK (fdict ((fs0 ++ tl2).map (·.1) ++ [r.nx])))) dk = some (.dK (fdict (((fs0 ++ tl2) ++ [(r.nx, x.2 ++ [i])]).map (·.1)))) := by
          rw [upd_same]
          simp only [List.map_append, List.map_cons, List.map_nil]
        have o5 : off [dk, dl] (upd HA dk (.dK (fdict ((fs0 ++ tl2).map (·.1) ++ [r.nx])))) = off [dk, dl] HA := off_mut (by simp)
        have hdl5 : (upd HA dk (.dK (fdict ((fs0 ++ tl2).map (·.1) ++ [r.nx])))) dl = some (.lst lv) := by
          rw [upd_ne ndl]
          exact m3
        revert hdk5 o5 hdl5
        generalize (upd HA dk (.dK (fdict ((fs0 ++ tl2).map (·.1) ++ [r.nx])))) = HC
        intro hdk5 o5 hdl5
        have S7C : Same (off [dk] H7) HC := by
          refine Same.trans ?_ (off_le (S := [dk, dl]))
          rw [o5]
          exact smL
        have SC : Same H HC := sH.trans S7C
        refine ⟨_, rfl, .inl ⟨rfl, _, SqL.of hdl5⟩, _, rfl, _, rfl, by show 1 ≤ sizeLine; decide, fun ln hln => ?_⟩
        refine ⟨pl, ln, _, _, rfl, rfl, sm_new hln _ _ (S7C _ _ p2), upd_same, ?_, fun pa hpa => ?_⟩
        · rw [nums_len]
          show x.2.length + 1 ≤ sizeLine
          have := wx.len
          exact Nat.le_trans (show x.2.length + 1 ≤ 13 by omega) (by decide)
        have sC2 : Same HC (upd (upd HC ln (.lst [.int i])) pa (.lst (nums x.2 ++ [.int i]))) := (sm_new hln).trans (sm_new hpa)
        refine ⟨_, rfl, a3, _, 3, _, rfl, rfl, SqT.of ((SC.trans sC2) _ _ h1), atI_nat (j := 3) rfl, by show 2 ≤ sizeLine; decide, fun ta hta => ?_⟩
        have sD : Same HC (upd (upd (upd HC ln (.lst [.int i])) pa (.lst (nums x.2 ++ [.int i]))) ta (.tup [.ref pa, .int r.nx])) := sC2.trans (sm_new hta)
        have hpaD : (upd (upd (upd HC ln (.lst [.int i])) pa (.lst (nums x.2 ++ [.int i]))) ta (.tup [.ref pa, .int r.nx])) pa = some (.lst (nums (x.2 ++ [i]))) := by
          rw [upd_ne (ne_of_none upd_same hta), upd_same, nums_snoc]
        have htaD : (upd (upd (upd HC ln (.lst [.int i])) pa (.lst (nums x.2 ++ [.int i]))) ta (.tup [.ref pa, .int r.nx])) ta = some (.tup [.ref pa, .int r.nx]) := upd_same
        have ninC : ∀ {b : Addr}, HC b = none → b ∉ [dk, dl] := fun {b} hb => off_nin (H := HC) (fun z hz => by
          rcases List.mem_cons.mp hz with q | q
          · rw [q]
            exact ⟨_, hdk5⟩
          · rw [List.mem_singleton.mp q]
            exact ⟨_, hdl5⟩) hb
        have pan := ninC (same_none (sm_new hln) hpa)
        have tan := ninC (same_none sC2 hta)
        clear sC2
        revert sD hpaD htaD
        generalize upd (upd (upd HC ln (.lst [.int i])) pa (.lst (nums x.2 ++ [.int i]))) ta (.tup [.ref pa, .int r.nx]) = HD
        intro sD hpaD htaD
        have oD : off [dk, dl] (upd HD dl (.lst (lv ++ [.ref ta]))) = off [dk, dl] HD := off_mut (by simp)
        have sLD : Same (off [dk, dl] HA) (off [dk, dl] HD) := by
          rw [← o5]
          exact off_same sD
        refine ⟨dl, _, _, rfl, rfl, sD _ _ hdl5, ?_, ?_⟩
        · have e1 := paired_len m4
          rw [List.length_drop] at e1
          rw [e1]
          exact small1000 (by omega)
        · refine ⟨(fs0 ++ tl2) ++ [(r.nx, x.2 ++ [i])], _, _, rfl, ⟨?_, ?_, ⟨_, upd_same, ?_⟩⟩, ⟨tl2 ++ [(r.nx, x.2 ++ [i])], by rw [List.append_assoc]⟩, wy.put ?_ hr1 c2 (hb r hrm) hm, dy.grow ?_, fun r' hr' hs' => ?_⟩
          · rw [oD]
            exact smL.trans sLD
          · rw [upd_ne ndl.symm]
            exact sD _ _ hdk5
          · rw [oD, drop_snoc (by rw [List.length_append]; omega)]
            exact paired_snoc ⟨ta, pa, rfl, off_in htaD tan, off_in hpaD pan⟩ (paired_mono m4 fun _ _ q => q.mono sLD)
          · exact List.mem_append_left _ (List.mem_of_getElem? hx0)
          · rw [List.length_append]
            omega
          · rw [List.map_append]
            rw [tk] at hr'
            rcases List.mem_append.mp hr' with z | z
            · exact List.mem_append_left _ (up r' z hs')
            · rw [List.mem_singleton.mp z]
              exact List.mem_append_right _ (by simp)
      · rintro σ' H11 ⟨fs, e', f', rfl, L2, ⟨tl2, rfl⟩, wy, dy, up⟩
        rw [show (rv.length) = M.rs.length from paired_len gr, List.take_length] at up
        refine ⟨_, _, _, _, _, rfl, L2, ⟨tl2, rfl⟩, wy, fun i e hi he => ?_⟩
        rcases Nat.lt_or_ge i (k + j) with z | z
        · exact dy i e z he
        · have : i = k + j := by omega
          subst this
          rw [List.getElem?_append_left ltx, hx0] at he
          cases he
          exact ⟨c1, fun r hr hs => up r hr hs⟩
    · rintro σ' H' ⟨fs, c, d', e, f', rfl, Lx, ⟨tl, rfl⟩, wx, dx⟩
      rw [hrl, show k + (fs0.length - k) = fs0.length by omega] at dx
      obtain ⟨smL, m1, ⟨lv, m3, m4⟩⟩ := Lx
      refine ⟨_, rfl, dl, lv, rfl, .inl (SqL.of m3), fun nl hnl => ?_⟩
      have so : Same (off [dk, dl] H') (off [dk] (upd H' nl (.lst lv))) := (off_sub (H := H') (S := [dk]) (S' := [dk, dl]) fun z hz => List.mem_append_left [dl] hz).trans (off_new hnl)
      have nlk : nl ∉ [dk] := fun z => by
        rw [List.mem_singleton.mp z, m1] at hnl
        cases hnl
      refine ⟨13 - fs0.length, by omega, fs0.length, _, nl, lv, _, _, _, _, _, ⟨rfl, by rw [List.length_append]; omega⟩, rfl, (sH.trans smL).trans so, sm_new hnl _ _ m1, off_in upd_same nlk, paired_mono m4 fun _ _ q => q.mono so, wx, dx⟩
end
end LB
set_option Elab.async false
set_option linter.all false
set_option maxRecDepth 100000
namespace LB
open PySem PySem.Spec PyProof.Rows L2 ClX
/-! ### the pots that are drawn from: two whole numbers in a list that changes -/
def PotAt (H : Hp) (p : Addr) : Prop := ∃ a b : Int, H p = some (.lst [.int a, .int b]) ∧ 0 ≤ b ∧ b ≤ 2147483579
/-- all but the pot is as it was -/
abbrev SamB (p : Addr) (H H' : Hp) : Prop := Same (off [p] H) (off [p] H')
theorem samB_put {p : Addr} {H : Hp} {o : HO} : SamB p H (upd H p o) := by
  show Same _ (off [p] (upd H p o))
  rw [off_mut (List.mem_singleton.mpr rfl)]
  exact Same.refl _
theorem samB_new {p a : Addr} {H : Hp} {o : HO} (h : H a = none) : SamB p H (upd H a o) := off_new h
theorem samB_same {p : Addr} {H H' : Hp} (h : Same H H') : SamB p H H' := off_same h
theorem samB_at {p a : Addr} {H H' : Hp} {o : HO} (h : SamB p H H') (ha : H a = some o) (n : a ≠ p) : H' a = some o := (off_at (h a o (off_in ha fun m => n (List.mem_singleton.mp m)))).1
theorem potAt_mono {p : Addr} {H H' : Hp} (e : Same H H') (h : PotAt H p) : PotAt H' p := by
  obtain ⟨a, b, h1, h2⟩ := h
  exact ⟨a, b, e _ _ h1, h2⟩
section
variable {P : Program} {w : World} {K : PySem.W.Frag} {mg : Str → Option Value} {base : Heap} {C fI : Addr}
/-! _law_pot -/
def spPot (K : PySem.W.Frag) : Sp := fun vs H Q _ => ∃ (l : Addr) (ns : List Int) (k : Nat), vs = [.ref l, .int k] ∧ SqL K H l (ns.map V.int) ∧ ∀ p H', Same H H' → H p = none → PotAt H' p → Q (.ref p) H'
theorem ok__law_pot (T : Tx K mg C fI) (D : DefAt K mg "_law_pot" s_law_pot) : Cal P w K mg base 1 "_law_pot" ["_law_script", "_law_k"] (spPot K) := by
  refine Cal.mk D sc_law_pot (fun _ _ _ _ _ _ us hl => match us, hl with | [_, _], _ => rfl) (fun vs H Q E h => ?_) ?_
  · obtain ⟨l, ns, k, rfl, _⟩ := h
    rfl
  · rintro X cdv A outer f s H vs Q E rfl hr ⟨l, ns, k, rfl, hl, q⟩
    refine ⟨_, pss_cons (ps_set (i := 2) sc_law_pot.nd rfl (Or.inl rfl) (pe_ifExp (pt_cmpR op_lt (pv 1) (pe_callB call_len_seq (by rfl) T.f_len b_len (pa_cons (pv 0) pa_nil)) (by rfl))
        (pe_callB call_abs (by rfl) T.f_abs b_abs (pa_cons (pe_ix ix_list (pv 0) (pv 1) (fun _ _ => rfl)) pa_nil)) (pe_op op_add (pe_op op_mul pe_int (pv 1)) pe_int)))
      (pss_one (ps_ret (pe_lst (pa_cons (pe_callB (call_max2 rfl) (by rfl) T.f_max b_max (pa_cons pe_int (pa_cons (pe_op op_sub (pv 2) (pe_op op_pow pe_int pe_int)) pa_nil)))
        (pa_cons (pe_op op_add (pe_op op_mod (pe_callTy call_int1 (by rfl) T.f_int b_int (pa_cons (pe_op op_add (pe_op op_add (pe_op op_mul (pe_op op_mod (pe_callTy call_int1 (by rfl) T.f_int b_int (pa_cons (pv 2) pa_nil)) pe_int) pe_int) (pe_op op_mul pe_int (pv 1))) pe_int) pa_nil)) pe_int) pe_int) pa_nil))))), ?_⟩
    refine ⟨_, rfl, _, rfl, l, _, rfl, .inl hl, _, _, rfl, rfl, decide ((k : Int) < ns.length), by rw [List.length_map], ?_⟩
    by_cases c : (k : Int) < ns.length
    · refine iteT' c ?_
      have lt : k < ns.length := by omega
      refine ⟨_, rfl, _, rfl, l, _, _, V.int ns[k], rfl, rfl, hl, atI_nat (by rw [List.getElem?_map, List.getElem?_eq_getElem lt]; rfl), _, rfl, ?_⟩
      generalize (if ns[k] < 0 then -ns[k] else ns[k]) = cell
      refine ⟨_, rfl, _, _, rfl, rfl, ⟨by decide, by decide, by decide⟩, _, _, rfl, rfl, _, _, rfl, ?_⟩
      refine ⟨_, rfl, .inl ⟨_, rfl, _, _, rfl, rfl, (show (0 : Int) < 2147483549 by decide), _, _, rfl, rfl, .inr ⟨by decide, by decide⟩, _, rfl, _, _, rfl, rfl, .inl ⟨by decide, by decide⟩, _, _, rfl, rfl, _, _, rfl, rfl, .inl ⟨_, rfl, _, _, rfl, rfl, (show (0 : Int) < 2147483579 by decide), _, _, rfl, rfl, ?_⟩⟩⟩
      refine ⟨by show 2 ≤ sizeLine; decide, fun p hp => q p _ (sm_new hp) hp ⟨_, _, upd_same, ?_, ?_⟩⟩ <;> omega
    · refine iteF' c ?_
      refine ⟨_, rfl, _, _, rfl, rfl, .inl ⟨by decide, by decide⟩, _, _, rfl, rfl, ?_⟩
      generalize (107 * (k : Int) + 103) = cell
      refine ⟨_, rfl, _, _, rfl, rfl, ⟨by decide, by decide, by decide⟩, _, _, rfl, rfl, _, _, rfl, ?_⟩
      refine ⟨_, rfl, .inl ⟨_, rfl, _, _, rfl, rfl, (show (0 : Int) < 2147483549 by decide), _, _, rfl, rfl, .inr ⟨by decide, by decide⟩, _, rfl, _, _, rfl, rfl, .inl ⟨by decide, by decide⟩, _, _, rfl, rfl, _, _, rfl, rfl, .inl ⟨_, rfl, _, _, rfl, rfl, (show (0 : Int) < 2147483579 by decide), _, _, rfl, rfl, ?_⟩⟩⟩
      refine ⟨by show 2 ≤ sizeLine; decide, fun p hp => q p _ (sm_new hp) hp ⟨_, _, upd_same, ?_, ?_⟩⟩ <;> omega
/-! _law_draw -/
def spDraw : Sp := fun vs H Q _ => ∃ (p : Addr) (n : Int), vs = [.ref p, .int n] ∧ PotAt H p ∧ (1 ≤ n ∧ n ≤ 1000) ∧ ∀ (d : Int) H', 0 ≤ d → d < n → SamB p H H' → PotAt H' p → Q (.int d) H'
theorem ok__law_draw (T : Tx K mg C fI) (D : DefAt K mg "_law_draw" s_law_draw) : Cal P w K mg base 1 "_law_draw" ["_law_pot_here", "_law_sides"] spDraw := by
  refine Cal.mk D sc_law_draw (fun _ _ _ _ _ _ us hl => match us, hl with | [_, _], _ => rfl) (fun vs H Q E h => ?_) ?_
  · obtain ⟨p, n, rfl, _⟩ := h
    rfl
  · rintro X cdv A outer f s H vs Q E rfl hr ⟨p, n, rfl, ⟨a, b, hp, b0, b1⟩, ⟨n1, n2⟩, q⟩
    refine ⟨_, pss_cons (ps_if (pt_cmpR op_gt (pe_ix ix_list (pv 0) pe_int (fun _ _ => rfl)) pe_int (nomark _))
        (pss_cons (ps_asg (pe_callB call_divmod (by rfl) T.f_divmod b_divmod (pa_cons (pe_ix ix_list (pv 0) pe_int (fun _ _ => rfl)) (pa_cons (pv 1) pa_nil))) (pg_tup rfl (pgs_cons (pg_sub (pv 0) pe_int set_list) (pgs_cons (pg_name (i := 2) sc_law_draw.nd rfl (Or.inl rfl)) pgs_nil))))
          (pss_one (ps_ret (pv 2)))) pss_nil)
      (pss_cons (ps_asg (pe_op op_mod (pe_callTy call_int1 (by rfl) T.f_int b_int (pa_cons (pe_op op_add (pe_op op_mul (pe_ix ix_list (pv 0) pe_int (fun _ _ => rfl)) pe_int) pe_int) pa_nil)) pe_int) (pg_sub (pv 0) pe_int set_list))
      (pss_one (ps_ret (pe_op op_mod (pe_callTy call_int1 (by rfl) T.f_int b_int (pa_cons (pe_op op_fdiv (pe_op op_mod (pe_callTy call_int1 (by rfl) T.f_int b_int (pa_cons (pe_op op_mul (pe_ix ix_list (pv 0) pe_int (fun _ _ => rfl)) (pe_ix ix_list (pv 0) pe_int (fun _ _ => rfl))) pa_nil)) pe_int) pe_int) pa_nil)) (pv 1))))), ?_⟩
    refine ⟨_, rfl, p, _, 0, _, rfl, rfl, SqL.of hp, atI_nat (j := 0) rfl, _, _, rfl, rfl, decide (0 < a), rfl, ?_⟩
    by_cases c : 0 < a
    · refine iteT' c ?_
      refine ⟨_, rfl, p, _, 0, _, rfl, rfl, SqL.of hp, atI_nat (j := 0) rfl, _, rfl, _, _, rfl, ⟨by omega, by omega⟩, fun t ht => ?_⟩
      have hp1 := sm_new (o := .tup [.int (a / n), .int (a % n)]) ht _ _ hp
      refine ⟨t, _, rfl, SqT.of upd_same, rfl, _, _, rfl, ?_⟩
      refine ⟨_, rfl, p, _, 0, 0, rfl, rfl, hp1, rfl, ?_⟩
      refine ⟨_, _, rfl, rfl, ?_⟩
      refine ⟨_, rfl, q _ _ (Int.emod_nonneg _ (by omega)) (Int.emod_lt_of_pos _ (by omega)) ((samB_new ht).trans samB_put) ⟨_, b, upd_same, b0, b1⟩⟩
    · refine iteF' c ?_
      refine ⟨_, rfl, p, _, 1, _, rfl, rfl, SqL.of hp, atI_nat (j := 1) rfl, _, _, rfl, rfl, .inr ⟨by decide, by decide⟩, _, _, rfl, rfl, .inl ⟨_, rfl, _, _, rfl, rfl, (show (0 : Int) < 2147483563 by decide), ?_⟩⟩
      have m1 := Int.emod_nonneg (b * 40009 + 11103) (show (2147483563 : Int) ≠ 0 by decide)
      have m2 := Int.emod_lt_of_pos (b * 40009 + 11103) (show (0 : Int) < 2147483563 by decide)
      refine ⟨_, rfl, p, _, 1, 1, rfl, rfl, hp, rfl, ?_⟩
      have hp2 : (upd H p (.lst ([.int a, .int b].set 1 (.int ((b * 40009 + 11103) % 2147483563))))) p = some (.lst [.int a, .int ((b * 40009 + 11103) % 2147483563)]) := upd_same
      refine ⟨_, rfl, p, _, 1, _, rfl, rfl, SqL.of hp2, atI_nat (j := 1) rfl, _, rfl, p, _, 1, _, rfl, rfl, SqL.of hp2, atI_nat (j := 1) rfl, _, _, rfl, rfl, .inl ⟨by omega, by omega⟩, .inl ⟨_, rfl, _, _, rfl, rfl, (show (0 : Int) < 2147483543 by decide), _, _, rfl, rfl, ⟨by decide, by decide⟩, .inl ⟨_, rfl, _, rfl, _, _, rfl, rfl, by omega, ?_⟩⟩⟩
      exact q _ _ (Int.emod_nonneg _ (by omega)) (Int.emod_lt_of_pos _ (by omega)) samB_put ⟨a, _, hp2, by omega, by omega⟩
/-! _law_pick -/
def spPick : Sp := fun vs H Q _ => ∃ (p l : Addr) (xs : List V), vs = [.ref p, .ref l] ∧ PotAt H p ∧ H l = some (.lst xs) ∧ l ≠ p ∧ (xs ≠ [] ∧ xs.length ≤ 1000) ∧ ∀ (i : Nat) x H', xs[i]? = some x → SamB p H H' → PotAt H' p → Q x H'
theorem ok__law_pick (T : Tx K mg C fI) (D : DefAt K mg "_law_pick" s_law_pick) (cD : Cal P w K mg base 1 "_law_draw" ["_law_pot_here", "_law_sides"] spDraw) : Cal P w K mg base 2 "_law_pick" ["_law_pot_here", "_law_some"] spPick := by
  refine Cal.mk D sc_law_pick (fun _ _ _ _ _ _ us hl => match us, hl with | [_, _], _ => rfl) (fun vs H Q E h => ?_) ?_
  · obtain ⟨p, l, xs, rfl, _⟩ := h
    rfl
  · rintro X cdv A outer f s H vs Q E rfl hr ⟨p, l, xs, rfl, hp, hl, nl, ⟨ne, le⟩, q⟩
    refine ⟨_, pss_one (ps_ret (pe_ix ix_list (pv 1) (pe_cal cD hr (by rfl) (pa_cons (pv 0) (pa_cons (pe_callB call_len_seq (by rfl) T.f_len b_len (pa_cons (pv 1) pa_nil)) pa_nil))) (fun _ _ => rfl))), ?_⟩
    have pos := List.length_pos_iff.mpr ne
    refine ⟨_, rfl, _, rfl, _, rfl, l, _, rfl, .inl (SqL.of hl), p, _, rfl, hp, ⟨by omega, by omega⟩, fun d H' d0 d1 sb pt => ?_⟩
    obtain ⟨j, rfl⟩ := Int.eq_ofNat_of_zero_le d0
    have lt : j < xs.length := by omega
    exact ⟨l, xs, _, xs[j], rfl, rfl, SqL.of (samB_at sb hl nl), atI_nat (List.getElem?_eq_getElem lt), q j _ _ (List.getElem?_eq_getElem lt) sb pt⟩
end
end LB
set_option Elab.async false
set_option linter.all false
set_option maxRecDepth 100000
namespace LB
open PySem PySem.Spec PyProof.Rows L2 ClX
theorem joinG {α : Type} {G : Prop} (go cond : α → Hp → Prop) (h2 : (∀ d H, cond d H → go d H) → G) (h1 : ∀ d H, cond d H → go d H) : G := h2 h1
theorem off_more {S S' : List Addr} {H H' : Hp} (h : Same (off S H) (off S H')) (hs : ∀ z ∈ S, z ∈ S') : Same (off S' H) (off S' H') := fun b o hb => by
  obtain ⟨h1, h2⟩ := off_at hb
  exact off_in (off_at (h b o (off_in h1 fun m => h2 (hs b m)))).1 h2
theorem samB_mut {p a : Addr} {H H' : Hp} {o : HO} (e : SamB p H H') (h : H a = none) : SamB p H (upd H' a o) := fun b u hb => by
  obtain ⟨h1, h2⟩ := off_at hb
  have ne : b ≠ a := fun z => by
    rw [z, h] at h1
    cases h1
  refine off_in ?_ h2
  rw [upd_ne ne]
  exact (off_at (e b u hb)).1
theorem samB_none {p a : Addr} {H H' : Hp} (e : SamB p H H') (hp : ∃ o, H' p = some o) (h : H' a = none) : H a = none := by
  cases q : H a with
  | none => rfl
  | some o =>
    by_cases z : a = p
    · obtain ⟨o2, h2⟩ := hp
      rw [z, h2] at h
      cases h
    · rw [samB_at e q z] at h
      cases h
theorem potAt_new {p a : Addr} {H : Hp} {o : HO} (h : PotAt H p) (ha : H a = none) : PotAt (upd H a o) p := potAt_mono (sm_new ha) h
theorem potAt_is {p : Addr} {H : Hp} (h : PotAt H p) : ∃ o, H p = some o := by
  obtain ⟨a, b, h1, _⟩ := h
  exact ⟨_, h1⟩
theorem potAt_ne {p a : Addr} {H : Hp} (h : PotAt H p) (ha : H a = none) : a ≠ p := fun z => by
  obtain ⟨o, e⟩ := potAt_is h
  rw [← z, ha] at e
  cases e
theorem potAt_upd {p a : Addr} {H : Hp} {o : HO} (h : PotAt H p) (ha : a ≠ p) : PotAt (upd H a o) p := by
  obtain ⟨x, y, h1, h2⟩ := h
  exact ⟨x, y, by rw [upd_ne (Ne.symm ha)]; exact h1, h2⟩
theorem merge_ws : ∀ {b a : Ws}, ((a ++ b).map (·.1)).Nodup → mergeK (kvsOf a) (kvsOf b) = kvsOf (a ++ b)
  | [], a, _ => by
    rw [List.append_nil]
    rfl
  | p :: b, a, nd => by
    have nd2 : ((a ++ [p] ++ b).map (·.1)).Nodup := by
      rw [List.append_assoc]
      exact nd
    have hn : p.1 ∉ a.map (·.1) := by
      rw [List.map_append, List.map_append, List.nodup_append] at nd2
      have h1 := nd2.1
      rw [List.nodup_append] at h1
      exact fun m => h1.2.2 p.1 m p.1 (by simp) rfl
    show mergeK (putK (kvsOf a) (Sum.inr p.1) (V.int p.2)) (kvsOf b) = _
    rw [putK_ws (wsGet_none hn), merge_ws nd2, List.append_assoc]
    rfl
theorem merge_nil {ws : Ws} (nd : (ws.map (·.1)).Nodup) : mergeK [] (kvsOf ws) = kvsOf ws := merge_ws (a := []) nd
theorem distinct_snoc {rs : List Rx} {r : Rx} (h : Distinct rs) (hr : (rs.any fun q => rxEq q r) = false) : Distinct (rs ++ [r]) := fun i x hx => by
  rcases Nat.lt_or_ge i rs.length with c | c
  · rw [List.getElem?_append_left c] at hx
    rw [List.take_append_of_le_length (Nat.le_of_lt c)]
    exact h i x hx
  · rw [List.getElem?_append_right c] at hx
    have e : i = rs.length := by
      have := (List.getElem?_eq_some_iff.mp hx).1
      simp at this
      omega
    subst e
    simp at hx
    subst hx
    rw [List.take_append_of_le_length (Nat.le_refl _), List.take_length]
    exact hr
/-- the drawn worths of some lines -/
def WsD (ns : List Str) (ws : Ws) : Prop := (ws.map (·.1)).Sublist ns ∧ ∀ x ∈ ws, 0 ≤ x.2 ∧ x.2 ≤ 2
theorem WsD.ok {ns : List Str} {ws : Ws} (h : WsD ns ws) (nd : ns.Nodup) (hl : ns.length ≤ 1000) : WsOk ns ws := by
  refine ⟨fun p hp => ⟨h.1.subset (List.mem_map.mpr ⟨p, hp, rfl⟩), (h.2 p hp).1, by have := (h.2 p hp).2; omega⟩, h.1.nodup nd, ?_⟩
  have := h.1.length_le
  rw [List.length_map] at this
  omega
def PairD (H : Hp) (q : Addr) (kv : Key × V) : Prop := H q = some (.tup [kV kv.1, kv.2])
section
variable {P : Program} {w : World} {K : PySem.W.Frag} {mg : Str → Option Value} {base : Heap} {C fI : Addr}
/-! _law_deeds -/
def DSt (p fl : Addr) (ins outs : List Str) (n : Int) (H H' : Hp) (i : Nat) : Prop := SamB p H H' ∧ PotAt H' p ∧ ∃ rv rs, H' fl = some (.lst rv) ∧ RxsAt (off [p, fl] H') rv rs ∧ (∀ r ∈ rs, RxOk ins outs n r) ∧ Distinct rs ∧ rs.length ≤ i
def spDeeds : Sp := fun vs H Q _ => ∃ (p li lo : Addr) (ins outs : List Str) (n many sorts : Int), vs = [.ref p, .ref li, .ref lo, .int n, .int many, .int sorts] ∧ PotAt H p ∧ off [p] H li = some (.lst (ins.map V.str)) ∧ off [p] H lo = some (.lst (outs.map V.str)) ∧
  (ins.Nodup ∧ ins ≠ [] ∧ ins.length ≤ 4) ∧ (outs.Nodup ∧ outs.length ≤ 3) ∧ (1 ≤ n ∧ n ≤ 4) ∧ (0 ≤ many ∧ many ≤ 10) ∧ (1 ≤ sorts ∧ sorts ≤ 3) ∧
  ∀ (fl : Addr) (rv : List V) (rs : List Rx) (H' : Hp), SamB p H H' → PotAt H' p → off [p] H' fl = some (.lst rv) → RxsAt (off [p] H') rv rs → (∀ r ∈ rs, RxOk ins outs n r) → Distinct rs → rs.length ≤ 10 → Q (.ref fl) H'
theorem ok__law_deeds (T : Tx K mg C fI) (D : DefAt K mg "_law_deeds" s_law_deeds) (cD : Cal P w K mg base 1 "_law_draw" ["_law_pot_here", "_law_sides"] spDraw) (cP : Cal P w K mg base 2 "_law_pick" ["_law_pot_here", "_law_some"] spPick) :
    Cal P w K mg base 3 "_law_deeds" ["_law_pot_here", "_law_wires_in", "_law_wires_out", "_law_size", "_law_many", "_law_sorts"] spDeeds := by
  refine Cal.mk D sc_law_deeds (fun _ _ _ _ _ _ us hl => match us, hl with | [_, _, _, _, _, _], _ => rfl) (fun vs H Q E h => ?_) ?_
  · obtain ⟨p, li, lo, ins, outs, n, many, sorts, rfl, _⟩ := h
    rfl
  · rintro X cdv A outer f s H vs Q E rfl hr ⟨p, li, lo, ins, outs, n, many, sorts, rfl, hp, hli, hlo, ⟨nd1, ne1, l1⟩, ⟨nd2, l2⟩, ⟨n1, n4⟩, ⟨m0, m1⟩, ⟨so1, so3⟩, q⟩
    have r1 := hr.mono (show 1 ≤ 2 by decide)
    refine ⟨_, pss_cons (ps_set (i := 6) sc_law_deeds.nd rfl (Or.inl rfl) (pe_lst pa_nil))
      (pss_cons (ps_for PassesOwn.never rfl (pi_range1 (by rfl) T.f_range (pa_cons (pv 4) pa_nil)) (pg_name (i := 7) sc_law_deeds.nd rfl (Or.inl rfl))
        (pss_cons (ps_set (i := 8) sc_law_deeds.nd rfl (Or.inl rfl) (pe_callTy (call_dictP rfl) (by rfl) T.f_dict b_dict (pa_cons (pe_lc (own := [("_law_wire", 11)]) (g := gName 11) rfl sc_law_deeds.nd (pi_list (pv 1)) (blkOk_by (N := N_law_deeds) (sc := defScope s_law_deeds) (by decide +kernel))
          (fun _ _ _ _ _ => pg_name (i := 11) sc_law_deeds.nd rfl (Or.inl rfl)) (fun _ _ _ _ _ => pts_one (pt_cmpR op_eq (pe_cal cD r1 (by rfl) (pa_cons (pv 0) (pa_cons pe_int pa_nil))) pe_int (nomark _)))
          (fun _ _ _ _ _ => pe_tup (pa_cons (pv 11) (pa_cons (pe_cal cD r1 (by rfl) (pa_cons (pv 0) (pa_cons (pv 5) pa_nil))) pa_nil)))) pa_nil)))
        (pss_cons (ps_if (pt_cmpR (op_eqNilD hr.units0) (pv 8) pe_dnewK (nomark _)) (pss_one (ps_set (i := 8) sc_law_deeds.nd rfl (Or.inl rfl) (pe_disp (pps_cons (pe_cal cP hr (by rfl) (pa_cons (pv 0) (pa_cons (pv 1) pa_nil))) (pe_cal cD r1 (by rfl) (pa_cons (pv 0) (pa_cons (pv 5) pa_nil))) pps_nil) (by rfl) (by rfl) (fun z => by cases z) (by decide)))) pss_nil)
        (pss_cons (ps_set (i := 9) sc_law_deeds.nd rfl (Or.inl rfl) (pe_callTy (call_dictP rfl) (by rfl) T.f_dict b_dict (pa_cons (pe_lc (own := [("_law_wire", 11)]) (g := gName 11) rfl sc_law_deeds.nd (pi_list (pv 2)) (blkOk_by (N := N_law_deeds) (sc := defScope s_law_deeds) (by decide +kernel))
          (fun _ _ _ _ _ => pg_name (i := 11) sc_law_deeds.nd rfl (Or.inl rfl)) (fun _ _ _ _ _ => pts_one (pt_cmpR op_eq (pe_cal cD r1 (by rfl) (pa_cons (pv 0) (pa_cons pe_int pa_nil))) pe_int (nomark _)))
          (fun _ _ _ _ _ => pe_tup (pa_cons (pv 11) (pa_cons (pe_cal cD r1 (by rfl) (pa_cons (pv 0) (pa_cons (pv 5) pa_nil))) pa_nil)))) pa_nil)))
        (pss_cons (ps_set (i := 10) sc_law_deeds.nd rfl (Or.inl rfl) (pe_tup (pa_cons (pe_cal cD r1 (by rfl) (pa_cons (pv 0) (pa_cons (pv 3) pa_nil))) (pa_cons (pv 8) (pa_cons (pv 9) (pa_cons (pe_cal cD r1 (by rfl) (pa_cons (pv 0) (pa_cons (pv 3) pa_nil))) pa_nil))))))
        (pss_one (ps_if (pt_cmpR (op_notInRx (room65 hr)) (pv 10) (pv 6) (by rfl)) (pss_one (ps_expr (pe_bm PySem.F.plainAttrs_list PySem.F.slot_list_append PySem.F.type_list_append mt_append (pv 6) (pa_cons (pv 10) pa_nil)))) pss_nil)))))))
      (pss_one (ps_ret (pv 6)))), ?_⟩
    refine ⟨by show 0 ≤ sizeLine; decide, fun fl hfl => ?_⟩
    have nfp := potAt_ne hp hfl
    refine ⟨_, rfl, many, rfl, by omega, by omega, ?_⟩
    refine for_it walk_range (fun i σ H' => (∃ b c d e g, σ = [some (.ref p), some (.ref li), some (.ref lo), some (.int n), some (.int many), some (.int sorts), some (.ref fl), b, c, d, e, g]) ∧ DSt p fl ins outs n H H' i)
      ⟨⟨_, _, _, _, _, rfl⟩, samB_new hfl, potAt_new hp hfl, [], [], upd_same, .nil, (fun r hr => by cases hr), (fun i r hr => by simp at hr), Nat.le_refl _⟩ (fun _ _ _ _ _ => trivial) ?_ ?_
    rotate_left
    · rintro σ H' ⟨⟨b, c, d, e, g, rfl⟩, sb, pt, rv, rs, h1, h2, h3, h4, h5⟩
      exact ⟨_, rfl, q fl rv rs H' sb pt (off_in h1 fun m => nfp (List.mem_singleton.mp m)) (h2.mono (off_sub fun z hz => List.mem_append_left [fl] hz)) h3 h4 (by omega)⟩
    rintro i x σ H0 HB hi ⟨⟨b, c, d, e, g, rfl⟩, sbB, ptB, rv, rs, hfl0, hrs0, hok0, hds0, hle0⟩ ⟨rfl, rfl⟩
    have hliB := sbB _ _ hli
    have hloB := sbB _ _ hlo
    refine ⟨_, rfl, li, rfl, ⟨_, SqL.of (off_at hliB).1⟩, fun D1 hD1 => ?_⟩
    have nDp1 := potAt_ne ptB hD1
    refine lc_it (walk_list (K := K) (a := li) (xs := ins.map V.str)) (fun j H' => SamB p HB H' ∧ PotAt H' p ∧ ∃ ps ws, H' D1 = some (.lst (ps.map V.ref)) ∧ Paired (PairD H') ps (kvsOf ws) ∧ WsD (ins.take j) ws)
      ⟨samB_new hD1, potAt_new ptB hD1, [], [], upd_same, .nil, List.nil_sublist _, fun x hx => by cases hx⟩ (fun j H' _ hp => SqL.of (off_at (hp.1 _ _ hliB)).1) ?_ ?_
    · rintro j x H1 H2 hj ⟨sb, pt, ps, ws, hl1, hps, wd⟩ ⟨rfl, hx⟩
      rw [List.length_map] at hj
      obtain ⟨z, hz, rfl⟩ := map_at hx
      have tkz : ins.take (j + 1) = ins.take j ++ [z] := by rw [List.take_succ_eq_append_getElem hj, (List.getElem?_eq_some_iff.mp hz).2]
      refine ⟨rfl, ?_⟩
      refine ⟨_, rfl, p, 2, rfl, pt, ⟨by decide, by decide⟩, fun d H3 d0 d1 sb3 pt3 => ⟨rfl, decide (d = 0), dint _ _, ?_⟩⟩
      have hl3 := samB_at sb3 hl1 nDp1
      have hps3 : Paired (PairD H3) ps (kvsOf ws) := paired_mono hps fun q kv h => samB_at sb3 h fun e => by
        obtain ⟨a, b, e1, _⟩ := pt
        rw [← e] at e1
        rw [show H2 q = _ from h] at e1
        cases e1
      by_cases c : d = 0
      · refine iteT' c ?_
        refine ⟨_, rfl, _, rfl, _, rfl, p, sorts, rfl, pt3, ⟨by omega, by omega⟩, fun v H4 v0 v1 sb4 pt4 => ⟨by show 2 ≤ sizeLine; decide, fun u hu => ?_⟩⟩
        have hl4 := samB_at sb4 hl3 nDp1
        have nu : D1 ≠ u := ne_of_none hl4 hu
        have hps4 : Paired (PairD H4) ps (kvsOf ws) := paired_mono hps3 fun q kv h => samB_at sb4 h fun e => by
          obtain ⟨a, b, e1, _⟩ := pt3
          rw [← e] at e1
          rw [show H3 q = _ from h] at e1
          cases e1
        have sb14 : SamB p HB (upd H4 u (.tup [.str z, .int v])) := (((sb.trans sb3).trans sb4)).trans (samB_new hu)
        have hl5 : (upd H4 u (.tup [.str z, .int v])) D1 = some (.lst (ps.map V.ref)) := by
          rw [upd_ne nu]
          exact hl4
        have pl := paired_len hps
        have wl := wd.1.length_le
        refine ⟨_, hl5, ?_, samB_mut sb14 hD1, potAt_upd (potAt_new pt4 hu) nDp1, ps ++ [u], ws ++ [(z, v)], by rw [upd_same, List.map_append]; rfl, ?_, ?_⟩
        · rw [List.length_map, pl, kvsOf_len]
          rw [List.length_map, List.length_take] at wl
          exact small1000 (by omega)
        · rw [kvsOf_append]
          refine paired_snoc ?_ (paired_mono hps4 fun q kv h => ?_)
          · show (upd (upd H4 u _) D1 _) u = _
            rw [upd_ne nu.symm, upd_same]
            rfl
          · show (upd (upd H4 u _) D1 _) q = _
            rw [upd_ne (ne_of h hl4 (by intro e; cases e)), upd_ne (ne_of_none h hu)]
            exact h
        · rw [tkz]
          refine ⟨?_, fun x hx => ?_⟩
          · rw [List.map_append]
            exact wd.1.append (List.Sublist.refl _)
          · rcases List.mem_append.mp hx with m | m
            · exact wd.2 x m
            · rw [List.mem_singleton.mp m]
              exact ⟨v0, by show v ≤ 2; omega⟩
      · refine iteF' c ?_
        refine ⟨sb.trans sb3, pt3, ps, ws, hl3, hps3, ?_, wd.2⟩
        rw [tkz]
        exact wd.1.trans (List.sublist_append_left _ _)
    rintro HC1 ⟨sb1, pt1, ps1, ws1, hl1, hps1, wd1⟩
    rw [List.length_map, List.take_length] at wd1
    refine ⟨D1, ps1, kvsOf ws1, rfl, SqL.of hl1, paired_mono hps1 fun q kv h => SqT.of h, fun d1 hd1 => ?_⟩
    rw [merge_nil (wd1.1.nodup nd1)]
    have hdd1 : (upd HC1 d1 (.dK (kvsOf ws1))) d1 = some (.dK (kvsOf ws1)) := upd_same
    have sbb1 : SamB p HB (upd HC1 d1 (.dK (kvsOf ws1))) := sb1.trans (samB_new hd1)
    have ptt1 : PotAt (upd HC1 d1 (.dK (kvsOf ws1))) p := potAt_new pt1 hd1
    clear hl1 hps1
    revert hdd1 sbb1 ptt1
    generalize upd HC1 d1 (.dK (kvsOf ws1)) = HE1
    intro hdd1 sbb1 ptt1
    have wok1 := wd1.ok nd1 (by omega)
    refine ⟨_, rfl, fun e he => ⟨d1, e, _, rfl, rfl, sm_new he _ _ hdd1, upd_same, _, rfl, ?_⟩⟩
    refine joinG (α := Addr) ?go (fun d H' => SamB p HB H' ∧ PotAt H' p ∧ ∃ tk, H' d = some (.dK (kvsOf tk)) ∧ WsOk ins tk ∧ tk ≠ []) ?h2 ?h1
    case h2 =>
      intro hgo
      have hddE := sm_new (o := .dK []) he _ _ hdd1
      have sbE := sbb1.trans (samB_new (o := .dK []) he)
      have ptE := potAt_new (o := .dK []) ptt1 he
      revert hddE sbE ptE
      generalize upd HE1 e (.dK []) = HF
      intro hddE sbE ptE
      cases ews : ws1 with
      | nil =>
        subst ews
        refine iteT ?_
        refine fun d2 hd2 => ?_
        have pt2 := potAt_new (o := .dK []) ptE hd2
        have sb2 := sbE.trans (samB_new (o := .dK []) hd2)
        have hd22 : (upd HF d2 (.dK [])) d2 = some (.dK []) := upd_same
        have nd2p := potAt_ne ptE hd2
        revert pt2 sb2 hd22
        generalize upd HF d2 (.dK []) = HG
        intro pt2 sb2 hd22
        refine ⟨_, rfl, _, rfl, p, li, _, rfl, pt2, (off_at (sb2 _ _ hliB)).1, fun m => (off_at hliB).2 (List.mem_singleton.mpr m), ⟨fun m => ne1 (by simpa using m), by rw [List.length_map]; omega⟩, fun ii x HH hx sbH ptH => ?_⟩
        obtain ⟨z, hz, rfl⟩ := map_at hx
        refine ⟨_, rfl, _, rfl, p, sorts, rfl, ptH, ⟨by omega, by omega⟩, fun v HI v0 v1 sbI ptI => ?_⟩
        have hd2I := samB_at sbI (samB_at sbH hd22 nd2p) nd2p
        refine ⟨hd2I, [((Sum.inr z : Key), V.int v)], rfl, by show 1 ≤ 15; decide, ?_⟩
        have hkv : mergeK [] [((Sum.inr z : Key), V.int v)] = kvsOf [(z, v)] := rfl
        rw [hkv]
        have hK : (upd HI d2 (.dK (kvsOf [(z, v)]))) d2 = some (.dK (kvsOf [(z, v)])) := upd_same
        have ptK : PotAt (upd HI d2 (.dK (kvsOf [(z, v)]))) p := potAt_upd ptI nd2p
        have hd2B : HB d2 = none := samB_none sbE (potAt_is ptE) hd2
        have sbK : SamB p HB (upd HI d2 (.dK (kvsOf [(z, v)]))) := samB_mut ((sb2.trans sbH).trans sbI) hd2B
        clear hkv
        revert hK ptK sbK
        generalize upd HI d2 (.dK (kvsOf [(z, v)])) = HK
        intro hK ptK sbK
        refine hgo d2 HK ⟨sbK, ptK, _, hK, ⟨fun x hx => ?_, by simp, by show 1 ≤ 1000; decide⟩, by simp⟩
        rw [List.mem_singleton.mp hx]
        exact ⟨List.mem_of_getElem? hz, v0, by show v ≤ 9; omega⟩
      | cons y yr =>
        refine iteF ?_
        exact hgo d1 HF ⟨sbE, ptE, ws1, hddE, wok1, by rw [ews]; simp⟩
    clear hdd1 sbb1 ptt1 hd1 sb1 pt1 he
    case h1 =>
    rintro dt HT ⟨sbT, ptT, tk, hdt, wtk, netk⟩
    have hloT := sbT _ _ hloB
    refine ⟨_, rfl, lo, rfl, ⟨_, SqL.of (off_at hloT).1⟩, fun D2 hD2 => ?_⟩
    have nDp2 := potAt_ne ptT hD2
    refine lc_it (walk_list (K := K) (a := lo) (xs := outs.map V.str)) (fun j H' => SamB p HT H' ∧ PotAt H' p ∧ ∃ ps ws, H' D2 = some (.lst (ps.map V.ref)) ∧ Paired (PairD H') ps (kvsOf ws) ∧ WsD (outs.take j) ws)
      ⟨samB_new hD2, potAt_new ptT hD2, [], [], upd_same, .nil, List.nil_sublist _, fun x hx => by cases hx⟩ (fun j H' _ hp => SqL.of (off_at (hp.1 _ _ hloT)).1) ?_ ?_
    · rintro j x H1 H2 hj ⟨sb, pt, ps, ws, hl1, hps, wd⟩ ⟨rfl, hx⟩
      rw [List.length_map] at hj
      obtain ⟨z, hz, rfl⟩ := map_at hx
      have tkz : outs.take (j + 1) = outs.take j ++ [z] := by rw [List.take_succ_eq_append_getElem hj, (List.getElem?_eq_some_iff.mp hz).2]
      refine ⟨rfl, ?_⟩
      refine ⟨_, rfl, p, 2, rfl, pt, ⟨by decide, by decide⟩, fun d H3 d0 d1 sb3 pt3 => ⟨rfl, decide (d = 0), dint _ _, ?_⟩⟩
      have hl3 := samB_at sb3 hl1 nDp2
      have hps3 : Paired (PairD H3) ps (kvsOf ws) := paired_mono hps fun q kv h => samB_at sb3 h fun e => by
        obtain ⟨a, b, e1, _⟩ := pt
        rw [← e] at e1
        rw [show H2 q = _ from h] at e1
        cases e1
      by_cases c : d = 0
      · refine iteT' c ?_
        refine ⟨_, rfl, _, rfl, _, rfl, p, sorts, rfl, pt3, ⟨by omega, by omega⟩, fun v H4 v0 v1 sb4 pt4 => ⟨by show 2 ≤ sizeLine; decide, fun u hu => ?_⟩⟩
        have hl4 := samB_at sb4 hl3 nDp2
        have nu : D2 ≠ u := ne_of_none hl4 hu
        have hps4 : Paired (PairD H4) ps (kvsOf ws) := paired_mono hps3 fun q kv h => samB_at sb4 h fun e => by
          obtain ⟨a, b, e1, _⟩ := pt3
          rw [← e] at e1
          rw [show H3 q = _ from h] at e1
          cases e1
        have sb14 : SamB p HT (upd H4 u (.tup [.str z, .int v])) := (((sb.trans sb3).trans sb4)).trans (samB_new hu)
        have hl5 : (upd H4 u (.tup [.str z, .int v])) D2 = some (.lst (ps.map V.ref)) := by
          rw [upd_ne nu]
          exact hl4
        have pl := paired_len hps
        have wl := wd.1.length_le
        refine ⟨_, hl5, ?_, samB_mut sb14 hD2, potAt_upd (potAt_new pt4 hu) nDp2, ps ++ [u], ws ++ [(z, v)], by rw [upd_same, List.map_append]; rfl, ?_, ?_⟩
        · rw [List.length_map, pl, kvsOf_len]
          rw [List.length_map, List.length_take] at wl
          exact small1000 (by omega)
        · rw [kvsOf_append]
          refine paired_snoc ?_ (paired_mono hps4 fun q kv h => ?_)
          · show (upd (upd H4 u _) D2 _) u = _
            rw [upd_ne nu.symm, upd_same]
            rfl
          · show (upd (upd H4 u _) D2 _) q = _
            rw [upd_ne (ne_of h hl4 (by intro e; cases e)), upd_ne (ne_of_none h hu)]
            exact h
        · rw [tkz]
          refine ⟨?_, fun x hx => ?_⟩
          · rw [List.map_append]
            exact wd.1.append (List.Sublist.refl _)
          · rcases List.mem_append.mp hx with m | m
            · exact wd.2 x m
            · rw [List.mem_singleton.mp m]
              exact ⟨v0, by show v ≤ 2; omega⟩
      · refine iteF' c ?_
        refine ⟨sb.trans sb3, pt3, ps, ws, hl3, hps3, ?_, wd.2⟩
        rw [tkz]
        exact wd.1.trans (List.sublist_append_left _ _)
    rintro HC2 ⟨sb2, pt2, ps2, ws2, hl2, hps2, wd2⟩
    rw [List.length_map, List.take_length] at wd2
    refine ⟨D2, ps2, kvsOf ws2, rfl, SqL.of hl2, paired_mono hps2 fun q kv h => SqT.of h, fun d2 hd2 => ?_⟩
    rw [merge_nil (wd2.1.nodup nd2)]
    have hdd2 : (upd HC2 d2 (.dK (kvsOf ws2))) d2 = some (.dK (kvsOf ws2)) := upd_same
    have sbb2 : SamB p HT (upd HC2 d2 (.dK (kvsOf ws2))) := sb2.trans (samB_new hd2)
    have ptt2 : PotAt (upd HC2 d2 (.dK (kvsOf ws2))) p := potAt_new pt2 hd2
    clear hl2 hps2
    revert hdd2 sbb2 ptt2
    generalize upd HC2 d2 (.dK (kvsOf ws2)) = HE2
    intro hdd2 sbb2 ptt2
    have wok2 := wd2.ok nd2 (by omega)
    have hdt2 : HE2 dt = some (.dK (kvsOf tk)) := samB_at sbb2 hdt fun z => by
      obtain ⟨a, b, e1, _⟩ := ptT
      rw [← z, hdt] at e1
      cases e1
    refine ⟨_, rfl, _, rfl, p, n, rfl, ptt2, ⟨by omega, by omega⟩, fun s1 HU s10 s11 sbU ptU => ?_⟩
    refine ⟨_, rfl, _, rfl, _, rfl, _, rfl, p, n, rfl, ptU, ⟨by omega, by omega⟩, fun s2 HV s20 s21 sbV ptV => ⟨by show 4 ≤ sizeLine; decide, fun a3 ha3 => ?_⟩⟩
    have sbW : SamB p HB (upd HV a3 (.tup [.int s1, .ref dt, .ref d2, .int s2])) := (((sbT.trans sbb2).trans sbU).trans sbV).trans (samB_new ha3)
    have ptW := potAt_new (o := .tup [.int s1, .ref dt, .ref d2, .int s2]) ptV ha3
    have dne : ∀ {d : Addr} {kvs : List (Key × V)} {H' : Hp}, H' d = some (.dK kvs) → PotAt H' p → d ≠ p := fun {d kvs H'} h1 h2 z => by
      obtain ⟨a, b, e1, _⟩ := h2
      rw [← z, h1] at e1
      cases e1
    have hdtW : (upd HV a3 (.tup [.int s1, .ref dt, .ref d2, .int s2])) dt = some (.dK (kvsOf tk)) := by
      have := samB_at sbV (samB_at sbU hdt2 (dne hdt2 ptt2)) (dne hdt2 ptt2)
      rw [upd_ne (ne_of_none this ha3)]
      exact this
    have hd2W : (upd HV a3 (.tup [.int s1, .ref dt, .ref d2, .int s2])) d2 = some (.dK (kvsOf ws2)) := by
      have := samB_at sbV (samB_at sbU hdd2 (dne hdd2 ptt2)) (dne hdd2 ptt2)
      rw [upd_ne (ne_of_none this ha3)]
      exact this
    have haW : (upd HV a3 (.tup [.int s1, .ref dt, .ref d2, .int s2])) a3 = some (.tup [.int s1, .ref dt, .ref d2, .int s2]) := upd_same
    revert sbW ptW hdtW hd2W haW
    generalize upd HV a3 (.tup [.int s1, .ref dt, .ref d2, .int s2]) = HW
    intro sbW ptW hdtW hd2W haW
    have hflW := samB_at sbW hfl0 nfp
    have oW := off_more (S' := [p, fl]) sbW fun z hz => List.mem_append_left [fl] hz
    have hrsW := hrs0.mono oW
    have hno : ∀ {b : Addr} {o : HO}, HW b = some o → (∀ l, o ≠ .lst l) → b ∉ [p, fl] := fun {b o} hb ho m => by
      rcases List.mem_cons.mp m with z | z
      · obtain ⟨x, y, e1, _⟩ := ptW
        rw [← z, hb] at e1
        cases e1
        exact ho _ rfl
      · rw [List.mem_singleton.mp z, hflW] at hb
        cases hb
        exact ho _ rfl
    have hrW : RxAt (off [p, fl] HW) (.ref a3) ⟨s1, tk, ws2, s2⟩ := ⟨a3, dt, d2, rfl, off_in haW (hno haW (by intro l z; cases z)), off_in hdtW (hno hdtW (by intro l z; cases z)), off_in hd2W (hno hd2W (by intro l z; cases z))⟩
    have hok : RxOk ins outs n ⟨s1, tk, ws2, s2⟩ := ⟨⟨s10, s11⟩, ⟨s20, s21⟩, ⟨wtk, netk⟩, wok2⟩
    refine ⟨_, rfl, _, rfl, fl, rv, rs, ⟨s1, tk, ws2, s2⟩, rfl, hflW, hrsW.mono off_le, hrW.mono off_le, fun r hr => (hok0 r hr).once, _, rfl, ?_⟩
    cases hany : (rs.any fun q => rxEq q ⟨s1, tk, ws2, s2⟩) with
    | true =>
      refine iteF ?_
      exact ⟨⟨_, _, _, _, _, rfl⟩, sbB.trans sbW, ptW, rv, rs, hflW, hrsW, hok0, hds0, by omega⟩
    | false =>
      refine iteT ?_
      refine ⟨_, rfl, .inl ⟨rfl, _, SqL.of hflW⟩, _, rfl, fl, _, _, rfl, rfl, hflW, ?_, ?_⟩
      · rw [paired_len hrsW]
        exact small1000 (by omega)
      · have oX : off [p, fl] (upd HW fl (.lst (rv ++ [.ref a3]))) = off [p, fl] HW := off_mut (by simp)
        refine ⟨⟨_, _, _, _, _, rfl⟩, samB_mut (sbB.trans sbW) hfl, potAt_upd ptW nfp, rv ++ [.ref a3], rs ++ [⟨s1, tk, ws2, s2⟩], upd_same, ?_, fun r hr => ?_, distinct_snoc hds0 hany, by rw [List.length_append, List.length_singleton]; omega⟩
        · rw [oX]
          exact paired_snoc hrW hrsW
        · rcases List.mem_append.mp hr with m | m
          · exact hok0 r m
          · rw [List.mem_singleton.mp m]
            exact hok
end
end LB
set_option Elab.async false
set_option linter.all false
set_option maxRecDepth 100000
namespace LB
open PySem PySem.Spec PyProof.Rows L2 ClX
def insL : List (List Str) := [["a"], ["a", "b"], ["b", "a"], ["in", "a", "xyzxyzxy"], ["d", "c", "b", "a"]]
def outsL : List (List Str) := [[], ["o"], ["p", "o"], ["o", "out", "q"]]
instance (z : Str) : Decidable (NameOk z) := by unfold NameOk; infer_instance
instance (ns : List Str) : Decidable (InsOk ns) := by unfold InsOk; infer_instance
instance (z : Str) : Decidable (ShortT z) := by unfold ShortT; infer_instance
theorem insL_ok : ∀ ns ∈ insL, InsOk ns ∧ ns ≠ [] ∧ ns.length ≤ 4 ∧ ∀ z ∈ ns, ShortT z := by decide +kernel
theorem outsL_ok : ∀ os ∈ outsL, InsOk os ∧ os.length ≤ 3 := by decide +kernel
theorem inout_ok : ∀ ns ∈ insL, ∀ os ∈ outsL, ∀ z ∈ os, z ∉ ns := by decide +kernel
/-- a list of lines -/
def LinesAt (H : Hp) (v : V) (ns : List Str) : Prop := ∃ a, v = .ref a ∧ H a = some (.lst (ns.map V.str))
theorem LinesAt.mono {H H' : Hp} {v : V} {ns : List Str} (e : Same H H') (h : LinesAt H v ns) : LinesAt H' v ns := by
  obtain ⟨a, ev, h1⟩ := h
  exact ⟨a, ev, e _ _ h1⟩
theorem off_here {S : List Addr} {H : Hp} {a : Addr} {o : HO} (h : H a = none) (n : a ∉ S) : off S (upd H a o) a = some o := off_in upd_same n
theorem made_of {M : Mx} (h1 : M.ins ∈ insL) (h2 : M.outs ∈ outsL) (hn : 1 ≤ M.n ∧ M.n ≤ 4) (ok : ∀ r ∈ M.rs, RxOk M.ins M.outs M.n r) (ds : Distinct M.rs) (hl : M.rs.length ≤ 10) : Made M.ins M.outs M.n M.rs :=
  ⟨(insL_ok _ h1).1, ⟨(insL_ok _ h1).2.1, (insL_ok _ h1).2.2.1⟩, (outsL_ok _ h2).1, (outsL_ok _ h2).2, inout_ok _ h1 _ h2, ⟨hn.1, by omega⟩, ok, ds, by omega⟩
section
variable {P : Program} {w : World} {K : PySem.W.Frag} {mg : Str → Option Value} {base : Heap} {C fI : Addr}
/-! _law_scene -/
structure ScOk (M : Mx) : Prop where
  i : M.ins ∈ insL
  o : M.outs ∈ outsL
  n : 1 ≤ M.n ∧ M.n ≤ 4
  ok : ∀ r ∈ M.rs, RxOk M.ins M.outs M.n r
  ds : Distinct M.rs
  le : M.rs.length ≤ 10
def spScene : Sp := fun vs H Q _ => ∃ (p : Addr), vs = [.ref p, .int 4, .int 10] ∧ PotAt H p ∧ ∀ v M H', SamB p H H' → PotAt H' p → SceneAt (off [p] H') v M → ScOk M → Q v H'
theorem ok__law_scene (T : Tx K mg C fI) (D : DefAt K mg "_law_scene" s_law_scene) (cD : Cal P w K mg base 1 "_law_draw" ["_law_pot_here", "_law_sides"] spDraw) (cP : Cal P w K mg base 2 "_law_pick" ["_law_pot_here", "_law_some"] spPick)
    (cE : Cal P w K mg base 3 "_law_deeds" ["_law_pot_here", "_law_wires_in", "_law_wires_out", "_law_size", "_law_many", "_law_sorts"] spDeeds) : Cal P w K mg base 4 "_law_scene" ["_law_pot_here", "_law_most_size", "_law_most_deeds"] spScene := by
  refine Cal.mk D sc_law_scene (fun _ _ _ _ _ _ us hl => match us, hl with | [_, _, _], _ => rfl) (fun vs H Q E h => ?_) ?_
  · obtain ⟨p, rfl, _⟩ := h
    rfl
  · rintro X cdv A outer f s H vs Q E rfl hr ⟨p, rfl, hp, q⟩
    have r1 := hr.mono (show 1 ≤ 3 by decide)
    have r2 := hr.mono (show 2 ≤ 3 by decide)
    refine ⟨_, pss_cons (ps_set (i := 3) sc_law_scene.nd rfl (Or.inl rfl) (pe_cal cP r2 (by rfl) (pa_cons (pv 0) (pa_cons (pe_lst (pa_cons (pe_lst (pa_cons pe_str pa_nil)) (pa_cons (pe_lst (pa_cons pe_str (pa_cons pe_str pa_nil))) (pa_cons (pe_lst (pa_cons pe_str (pa_cons pe_str pa_nil)))
        (pa_cons (pe_lst (pa_cons pe_str (pa_cons pe_str (pa_cons pe_str pa_nil)))) (pa_cons (pe_lst (pa_cons pe_str (pa_cons pe_str (pa_cons pe_str (pa_cons pe_str pa_nil))))) pa_nil)))))) pa_nil))))
      (pss_cons (ps_set (i := 4) sc_law_scene.nd rfl (Or.inl rfl) (pe_cal cP r2 (by rfl) (pa_cons (pv 0) (pa_cons (pe_lst (pa_cons (pe_lst pa_nil) (pa_cons (pe_lst (pa_cons pe_str pa_nil)) (pa_cons (pe_lst (pa_cons pe_str (pa_cons pe_str pa_nil)))
        (pa_cons (pe_lst (pa_cons pe_str (pa_cons pe_str (pa_cons pe_str pa_nil)))) pa_nil))))) pa_nil))))
      (pss_cons (ps_par (i := 5) (j := 6) rfl sc_law_scene.nd rfl rfl (by decide) rfl rfl (pa_cons (pe_op op_add pe_int (pe_cal cD r1 (by rfl) (pa_cons (pv 0) (pa_cons (pv 1) pa_nil)))) (pa_cons (pe_cal cP r2 (by rfl) (pa_cons (pv 0) (pa_cons (pe_lst (pa_cons pe_int (pa_cons pe_int (pa_cons pe_int (pa_cons pe_int pa_nil))))) pa_nil))) pa_nil)) (by rfl))
      (pss_one (ps_ret (pe_tup (pa_cons (pv 3) (pa_cons (pv 4) (pa_cons (pv 5) (pa_cons (pe_cal cE hr (by rfl) (pa_cons (pv 0) (pa_cons (pv 3) (pa_cons (pv 4) (pa_cons (pv 5) (pa_cons (pe_cal cD r1 (by rfl) (pa_cons (pv 0) (pa_cons (pe_op op_add (pv 2) pe_int) pa_nil))) (pa_cons (pv 6) pa_nil))))))) pa_nil))))))))), ?_⟩
    -- the in-lines
    refine ⟨_, rfl, ⟨by show 1 ≤ sizeLine; decide, fun l1 h1 => ⟨by show 2 ≤ sizeLine; decide, fun l2 h2 => ⟨by show 2 ≤ sizeLine; decide, fun l3 h3 => ⟨by show 3 ≤ sizeLine; decide, fun l4 h4 => ⟨by show 4 ≤ sizeLine; decide, fun l5 h5 => ⟨by show 5 ≤ sizeLine; decide, fun l6 h6 => ?_⟩⟩⟩⟩⟩⟩⟩
    have p1 := potAt_new (o := .lst [.str "a"]) hp h1
    have p2 := potAt_new (o := .lst [.str "a", .str "b"]) p1 h2
    have p3 := potAt_new (o := .lst [.str "b", .str "a"]) p2 h3
    have p4 := potAt_new (o := .lst [.str "in", .str "a", .str "xyzxyzxy"]) p3 h4
    have p5 := potAt_new (o := .lst [.str "d", .str "c", .str "b", .str "a"]) p4 h5
    have p6 := potAt_new (o := .lst [.ref l1, .ref l2, .ref l3, .ref l4, .ref l5]) p5 h6
    have m : ∀ {x : Addr} {G : Hp}, PotAt G p → G x = none → x ∉ [p] := fun a b z => potAt_ne a b (List.mem_singleton.mp z)
    have s6 := samB_new (p := p) (o := .lst [.ref l1, .ref l2, .ref l3, .ref l4, .ref l5]) h6
    have s5 := samB_new (p := p) (o := .lst [.str "d", .str "c", .str "b", .str "a"]) h5
    have s4 := samB_new (p := p) (o := .lst [.str "in", .str "a", .str "xyzxyzxy"]) h4
    have s3 := samB_new (p := p) (o := .lst [.str "b", .str "a"]) h3
    have s2 := samB_new (p := p) (o := .lst [.str "a", .str "b"]) h2
    have s1 := samB_new (p := p) (o := .lst [.str "a"]) h1
    have c1 := s1.trans (s2.trans (s3.trans (s4.trans (s5.trans s6))))
    have c2 : Paired (LinesAt (off [p] _)) [.ref l1, .ref l2, .ref l3, .ref l4, .ref l5] insL := .cons ⟨l1, rfl, (s2.trans (s3.trans (s4.trans (s5.trans s6)))) _ _ (off_here h1 (m hp h1))⟩ (.cons ⟨l2, rfl, (s3.trans (s4.trans (s5.trans s6))) _ _ (off_here h2 (m p1 h2))⟩ (.cons ⟨l3, rfl, (s4.trans (s5.trans s6)) _ _ (off_here h3 (m p2 h3))⟩
      (.cons ⟨l4, rfl, (s5.trans s6) _ _ (off_here h4 (m p3 h4))⟩ (.cons ⟨l5, rfl, s6 _ _ (off_here h5 (m p4 h5))⟩ .nil))))
    have c3 : (upd (upd (upd (upd (upd (upd H l1 (.lst [.str "a"])) l2 (.lst [.str "a", .str "b"])) l3 (.lst [.str "b", .str "a"])) l4 (.lst [.str "in", .str "a", .str "xyzxyzxy"])) l5 (.lst [.str "d", .str "c", .str "b", .str "a"])) l6 (.lst [.ref l1, .ref l2, .ref l3, .ref l4, .ref l5])) l6 = some (.lst [.ref l1, .ref l2, .ref l3, .ref l4, .ref l5]) := upd_same
    clear p1 p2 p3 p4 p5 s1 s2 s3 s4 s5 s6 m h1 h2 h3 h4 h5 h6
    revert c1 c2 c3 p6
    generalize upd (upd (upd (upd (upd (upd H l1 (.lst [.str "a"])) l2 (.lst [.str "a", .str "b"])) l3 (.lst [.str "b", .str "a"])) l4 (.lst [.str "in", .str "a", .str "xyzxyzxy"])) l5 (.lst [.str "d", .str "c", .str "b", .str "a"])) l6 (.lst [.ref l1, .ref l2, .ref l3, .ref l4, .ref l5]) = HX
    intro p6 c1 c2 c3
    have nl6 : l6 ≠ p := fun z => by
      obtain ⟨a, b, e1, _⟩ := p6
      rw [← z, c3] at e1
      cases e1
    refine ⟨p, l6, _, rfl, p6, c3, nl6, ⟨by simp, by show 5 ≤ 1000; decide⟩, fun ii x H1 hx sb1 pt1 => ?_⟩
    obtain ⟨ins, hins, li, rfl, hli⟩ := paired_get c2 hx
    have hinsm := List.mem_of_getElem? hins
    have hli1 := sb1 _ _ hli
    have sB1 := c1.trans sb1
    clear c1 c2 c3 p6 hli sb1 nl6 hx hins
    -- the out-lines
    refine ⟨_, rfl, ⟨by show 0 ≤ sizeLine; decide, fun l1 h1 => ⟨by show 1 ≤ sizeLine; decide, fun l2 h2 => ⟨by show 2 ≤ sizeLine; decide, fun l3 h3 => ⟨by show 3 ≤ sizeLine; decide, fun l4 h4 => ⟨by show 4 ≤ sizeLine; decide, fun l5 h5 => ?_⟩⟩⟩⟩⟩⟩
    have p1 := potAt_new (o := .lst []) pt1 h1
    have p2 := potAt_new (o := .lst [.str "o"]) p1 h2
    have p3 := potAt_new (o := .lst [.str "p", .str "o"]) p2 h3
    have p4 := potAt_new (o := .lst [.str "o", .str "out", .str "q"]) p3 h4
    have p5 := potAt_new (o := .lst [.ref l1, .ref l2, .ref l3, .ref l4]) p4 h5
    have m : ∀ {x : Addr} {G : Hp}, PotAt G p → G x = none → x ∉ [p] := fun a b z => potAt_ne a b (List.mem_singleton.mp z)
    have s5 := samB_new (p := p) (o := .lst [.ref l1, .ref l2, .ref l3, .ref l4]) h5
    have s4 := samB_new (p := p) (o := .lst [.str "o", .str "out", .str "q"]) h4
    have s3 := samB_new (p := p) (o := .lst [.str "p", .str "o"]) h3
    have s2 := samB_new (p := p) (o := .lst [.str "o"]) h2
    have s1 := samB_new (p := p) (o := .lst []) h1
    have c1 := s1.trans (s2.trans (s3.trans (s4.trans s5)))
    have c2 : Paired (LinesAt (off [p] _)) [.ref l1, .ref l2, .ref l3, .ref l4] outsL := .cons ⟨l1, rfl, (s2.trans (s3.trans (s4.trans s5))) _ _ (off_here h1 (m pt1 h1))⟩ (.cons ⟨l2, rfl, (s3.trans (s4.trans s5)) _ _ (off_here h2 (m p1 h2))⟩ (.cons ⟨l3, rfl, (s4.trans s5) _ _ (off_here h3 (m p2 h3))⟩
      (.cons ⟨l4, rfl, s5 _ _ (off_here h4 (m p3 h4))⟩ .nil)))
    have c3 : (upd (upd (upd (upd (upd H1 l1 (.lst [])) l2 (.lst [.str "o"])) l3 (.lst [.str "p", .str "o"])) l4 (.lst [.str "o", .str "out", .str "q"])) l5 (.lst [.ref l1, .ref l2, .ref l3, .ref l4])) l5 = some (.lst [.ref l1, .ref l2, .ref l3, .ref l4]) := upd_same
    clear p1 p2 p3 p4 s1 s2 s3 s4 s5 m h1 h2 h3 h4 h5
    revert c1 c2 c3 p5
    generalize upd (upd (upd (upd (upd H1 l1 (.lst [])) l2 (.lst [.str "o"])) l3 (.lst [.str "p", .str "o"])) l4 (.lst [.str "o", .str "out", .str "q"])) l5 (.lst [.ref l1, .ref l2, .ref l3, .ref l4]) = HY
    intro p5 c1 c2 c3
    have nl5 : l5 ≠ p := fun z => by
      obtain ⟨a, b, e1, _⟩ := p5
      rw [← z, c3] at e1
      cases e1
    refine ⟨p, l5, _, rfl, p5, c3, nl5, ⟨by simp, by show 4 ≤ 1000; decide⟩, fun ii x H2 hx sb2 pt2 => ?_⟩
    obtain ⟨outs, houts, lo, rfl, hlo⟩ := paired_get c2 hx
    have houtsm := List.mem_of_getElem? houts
    have hlo2 := sb2 _ _ hlo
    have hli2 := (c1.trans sb2) _ _ hli1
    have sB2 := sB1.trans (c1.trans sb2)
    clear c1 c2 c3 p5 hlo sb2 nl5 hx houts hli1 sB1
    -- the size, the sorts
    refine ⟨_, rfl, _, rfl, p, 4, rfl, pt2, ⟨by decide, by decide⟩, fun d H3 d0 d1 sb3 pt3 => ⟨_, _, rfl, rfl, ?_⟩⟩
    refine ⟨_, rfl, ⟨by show 4 ≤ sizeLine; decide, fun l7 h7 => ?_⟩⟩
    have pt4 := potAt_new (o := .lst [.int 1, .int 2, .int 2, .int 3]) pt3 h7
    have sb4 := samB_new (p := p) (o := .lst [.int 1, .int 2, .int 2, .int 3]) h7
    have h74 : (upd H3 l7 (.lst [.int 1, .int 2, .int 2, .int 3])) l7 = some (.lst [.int 1, .int 2, .int 2, .int 3]) := upd_same
    have n7 := potAt_ne pt3 h7
    revert pt4 sb4 h74
    generalize upd H3 l7 (.lst [.int 1, .int 2, .int 2, .int 3]) = H4
    intro pt4 sb4 h74
    refine ⟨p, l7, _, rfl, pt4, h74, n7, ⟨by simp, by show 4 ≤ 1000; decide⟩, fun ii x H5 hx sb5 pt5 => ?_⟩
    obtain ⟨so, rfl, so1, so3⟩ : ∃ so : Int, x = V.int so ∧ 1 ≤ so ∧ so ≤ 3 := by
      have hm := List.mem_of_getElem? hx
      rcases List.mem_cons.mp hm with e | hm
      · exact ⟨1, e, by decide, by decide⟩
      rcases List.mem_cons.mp hm with e | hm
      · exact ⟨2, e, by decide, by decide⟩
      rcases List.mem_cons.mp hm with e | hm
      · exact ⟨2, e, by decide, by decide⟩
      rcases List.mem_cons.mp hm with e | hm
      · exact ⟨3, e, by decide, by decide⟩
      · cases hm
    refine ⟨_, _, rfl, ?_⟩
    have sB5 := sB2.trans (sb3.trans (sb4.trans sb5))
    have hlo5 := (sb3.trans (sb4.trans sb5)) _ _ hlo2
    have hli5 := (sb3.trans (sb4.trans sb5)) _ _ hli2
    refine ⟨_, rfl, _, rfl, _, rfl, _, rfl, _, rfl, _, rfl, _, rfl, _, rfl, _, rfl, _, _, rfl, rfl, p, 11, rfl, pt5, ⟨by decide, by decide⟩, fun mm H6 mm0 mm1 sb6 pt6 => ?_⟩
    have hlo6 := sb6 _ _ hlo5
    have hli6 := sb6 _ _ hli5
    have ki := insL_ok _ hinsm
    have ko := outsL_ok _ houtsm
    refine ⟨_, rfl, p, li, lo, ins, outs, 1 + d, mm, so, rfl, pt6, hli6, hlo6, ⟨ki.1.2, ki.2.1, ki.2.2.1⟩, ⟨ko.1.2, ko.2⟩, ⟨by omega, by omega⟩, ⟨mm0, by omega⟩, ⟨so1, so3⟩, fun fl rv rs H7 sb7 pt7 hfl hrs hok hds hle => ?_⟩
    refine ⟨by show 4 ≤ sizeLine; decide, fun a ha => ?_⟩
    have sb8 := samB_new (p := p) (o := .tup [.ref li, .ref lo, .int (1 + d), .ref fl]) ha
    refine q _ ⟨ins, outs, 1 + d, rs⟩ _ (sB5.trans (sb6.trans (sb7.trans sb8))) (potAt_new pt7 ha) ⟨a, li, lo, fl, rv, rfl, off_here ha fun z => potAt_ne pt7 ha (List.mem_singleton.mp z), (sb7.trans sb8) _ _ hli6, (sb7.trans sb8) _ _ hlo6, sb8 _ _ hfl, hrs.mono sb8⟩ ⟨hinsm, houtsm, ⟨by show (1 : Int) ≤ 1 + d; omega, by show 1 + d ≤ (4 : Int); omega⟩, hok, hds, hle⟩
end
end LB
set_option Elab.async false
set_option linter.all false
set_option maxRecDepth 100000
namespace LB
open PySem PySem.Spec PyProof.Rows L2 ClX
/-- a dict of counts -/
def CtAt (ins : List Str) (H : Hp) (v : V) (ws : Ws) : Prop := WsAt H v ws ∧ CtOk ins ws ∧ (ws.map (·.2)).sum ≤ 12
theorem CtAt.mono {ins : List Str} {H H' : Hp} {v : V} {ws : Ws} (e : Same H H') (h : CtAt ins H v ws) : CtAt ins H' v ws := ⟨h.1.mono e, h.2⟩
section
variable {P : Program} {w : World} {K : PySem.W.Frag} {mg : Str → Option Value} {base : Heap} {C fI : Addr}
/-! _law_walked -/
def spWalked : Sp := fun vs H Q _ => ∃ (p : Addr) (sc : V) (M : Mx) (s : Int), vs = [.ref p, sc, .int s] ∧ PotAt H p ∧ SceneAt (off [p] H) sc M ∧ ScOk M ∧ ∀ v ws H', SamB p H H' → PotAt H' p → CtAt M.ins (off [p] H') v ws → Q v H'
theorem ok__law_walked (T : Tx K mg C fI) (D : DefAt K mg "_law_walked" s_law_walked) (cP : Cal P w K mg base 2 "_law_pick" ["_law_pot_here", "_law_some"] spPick) (cC : Cal P w K mg base 1 "_law_counts" ["_law_scene_here", "_law_path"] spLCounts) :
    Cal P w K mg base 3 "_law_walked" ["_law_pot_here", "_law_scene_here", "_law_spot"] spWalked := by
  refine Cal.mk D sc_law_walked (fun _ _ _ _ _ _ us hl => match us, hl with | [_, _, _], _ => rfl) (fun vs H Q E h => ?_) ?_
  · obtain ⟨p, sc, M, s, rfl, _⟩ := h
    rfl
  · rintro X cdv A outer f s H vs Q E rfl hr ⟨p, sc, M, st, rfl, hp, hS, O, q⟩
    have hu := hu_of hr
    have r1 := hr.mono (show 1 ≤ 2 by decide)
    refine ⟨_, pss_cons (ps_asg (pe_tup (pa_cons (pe_lst pa_nil) (pa_cons (pv 2) (pa_cons (pe_lst pa_nil) pa_nil)))) (pg_tup rfl (pgs_cons (pg_name (i := 3) sc_law_walked.nd rfl (Or.inl rfl)) (pgs_cons (pg_name (i := 4) sc_law_walked.nd rfl (Or.inr rfl)) (pgs_cons (pg_name (i := 5) sc_law_walked.nd rfl (Or.inl rfl)) pgs_nil)))))
      (pss_cons (ps_for PassesOwn.never rfl (pi_range1 (by rfl) T.f_range (pa_cons pe_int pa_nil)) (pg_name (i := 6) sc_law_walked.nd rfl (Or.inl rfl))
        (pss_cons (ps_setLc (i := 7) (own := [("_law_k", 9), ("_law_deed", 10)]) (g := gTup K 2 (gCons (gName 9) (gCons (gName 10) gNil))) rfl sc_law_walked.nd rfl rfl (sw_true rfl rfl rfl (by decide +kernel)) (pi_enum (by rfl) T.f_enumerate (pa_cons (pe_ix ix_tup (pv 1) pe_int (fun _ _ => rfl)) pa_nil)) (blkOk_by (N := N_law_walked) (sc := defScope s_law_walked) (by decide +kernel))
          (fun _ _ _ _ _ => pg_tupK K rfl (pgs_cons (pg_name (i := 9) sc_law_walked.nd rfl (Or.inl rfl)) (pgs_cons (pg_name (i := 10) sc_law_walked.nd rfl (Or.inl rfl)) pgs_nil)))
          (fun _ _ _ _ _ => pts_one (pt_cmpR op_eq (pe_ix (ix_tupK K) (pv 10) pe_int (fun _ _ => rfl)) (pv 4) (nomark _)))
          (fun _ _ _ _ _ => pv 9))
        (pss_one (ps_if (pt_cmpR (op_neNil hr.units0) (pv 7) (pe_lst pa_nil) (nomark _))
          (pss_cons (ps_expr (pe_bm PySem.F.plainAttrs_list PySem.F.slot_list_append PySem.F.type_list_append mt_append (pv 3) (pa_cons (pe_cal cP hr (by rfl) (pa_cons (pv 0) (pa_cons (pv 7) pa_nil))) pa_nil)))
          (pss_cons (ps_set (i := 4) sc_law_walked.nd rfl (Or.inr rfl) (pe_ix ix_tup (pe_ix ix_list (pe_ix ix_tup (pv 1) pe_int (fun _ _ => rfl)) (pe_ix ix_list (pv 3) (pe_un un_neg pe_int) (fun _ _ => rfl)) (fun _ _ => rfl)) pe_int (fun _ _ => rfl)))
          (pss_cons (ps_set (i := 8) sc_law_walked.nd rfl (Or.inr rfl) (pe_cal cC r1 (by rfl) (pa_cons (pv 1) (pa_cons (pv 3) pa_nil))))
          (pss_one (ps_if (PW.pt (pw_and (pt_cmpR op_eq (pv 4) (pv 2) (nomark _)) (pw_and1 (pt_cmpR op_le (pe_callB (cr_sum rfl) (by rfl) T.f_sum b_sum (pa_cons (pe_lock (pe_lc (own := [("_law_wire", 11)]) (g := gName 11) (tt := tYes) rfl sc_law_walked.nd (pi_keys (pv 8)) (blkOk_by (N := N_law_walked) (sc := defScope s_law_walked) (by decide +kernel))
              (fun _ _ _ _ _ => pg_name (i := 11) sc_law_walked.nd rfl (Or.inl rfl)) (fun _ _ _ _ _ => pts_nil) (fun _ _ _ _ _ => pe_dget hu (pv 8) (pv 11) (fun _ _ => rfl)))) pa_nil)) pe_int (nomark _)))))
            (pss_one (ps_expr (pe_bm PySem.F.plainAttrs_list PySem.F.slot_list_append PySem.F.type_list_append mt_append (pv 5) (pa_cons (pv 8) pa_nil)))) pss_nil))))) pss_nil))))
      (pss_one (ps_ret (pe_ifExp (pt_cmpR (op_neNil hr.units0) (pv 5) (pe_lst pa_nil) (nomark _)) (pe_cal cP hr (by rfl) (pa_cons (pv 0) (pa_cons (pv 5) pa_nil))) pe_dnewK)))), ?_⟩
    obtain ⟨a, li, lo, ld, rv, rfl, g0, g1, g2, g3, gr⟩ := id hS
    -- the beginning
    refine ⟨by show 0 ≤ sizeLine; decide, fun pa hpa => ⟨_, rfl, ⟨by show 0 ≤ sizeLine; decide, fun fl hfl => ⟨by show 3 ≤ sizeLine; decide, fun t ht => ?_⟩⟩⟩⟩
    refine ⟨t, _, rfl, SqT.of upd_same, rfl, _, _, rfl, _, _, rfl, _, _, rfl, rfl, ?_⟩
    have b1 : SamB p H (upd (upd (upd H pa (.lst [])) fl (.lst [])) t (.tup [.ref pa, .int st, .ref fl])) := (samB_new hpa).trans ((samB_new hfl).trans (samB_new ht))
    have b2 : PotAt (upd (upd (upd H pa (.lst [])) fl (.lst [])) t (.tup [.ref pa, .int st, .ref fl])) p := potAt_new (potAt_new (potAt_new hp hpa) hfl) ht
    have npa := potAt_ne hp hpa
    have nfl := potAt_ne (potAt_new (o := .lst []) hp hpa) hfl
    have npf : pa ≠ fl := ne_of_none upd_same hfl
    have b3 : (upd (upd (upd H pa (.lst [])) fl (.lst [])) t (.tup [.ref pa, .int st, .ref fl])) pa = some (.lst (nums [])) := by
      rw [upd_ne (ne_of_none (by rw [upd_ne npf, upd_same]) ht), upd_ne npf, upd_same]
      rfl
    have b4 : (upd (upd (upd H pa (.lst [])) fl (.lst [])) t (.tup [.ref pa, .int st, .ref fl])) fl = some (.lst []) := by
      rw [upd_ne (ne_of_none upd_same ht), upd_same]
    have hfl0 : H fl = none := same_none (sm_new hpa) hfl
    clear hfl ht
    revert b1 b2 b3 b4
    generalize upd (upd (upd H pa (.lst [])) fl (.lst [])) t (.tup [.ref pa, .int st, .ref fl]) = H1
    intro b1 b2 b3 b4
    have hrl : rv.length = M.rs.length := paired_len gr
    have hI := insL_ok _ O.i
    have hwk : ∀ r ∈ M.rs, WsOk M.ins r.tk := fun r hr => (O.ok r hr).2.2.1.1
    refine ⟨12, rfl, by decide, by decide, ?_⟩
    refine for_it walk_range (fun i σ H' => ∃ (here : Int) (b c d e f g : Option V) (ns : List Nat) (fv : List V) (fws : List Ws), σ = [some (.ref p), some (.ref a), some (.int st), some (.ref pa), some (.int here), some (.ref fl), b, c, d, e, f, g] ∧
        SamB p H H' ∧ PotAt H' p ∧ H' pa = some (.lst (nums ns)) ∧ (∀ n ∈ ns, n < M.rs.length) ∧ ns.length ≤ i ∧ H' fl = some (.lst fv) ∧ Paired (CtAt M.ins (off [p, pa, fl] H')) fv fws ∧ fv.length ≤ i)
      ⟨st, _, _, _, _, _, _, [], [], [], rfl, b1, b2, b3, (fun n hn => by cases hn), Nat.le_refl _, b4, .nil, Nat.le_refl _⟩ (fun _ _ _ _ _ => trivial) ?_ ?_
    · rintro i x σ H2 HB hi ⟨here, b, c, d, e, f, g, ns, fv, fws, rfl, sbB, ptB, hpaB, hns, hnl, hflB, hfwB, hfn⟩ ⟨rfl, rfl⟩
      have hi12 : i < 12 := hi
      have gB0 := (off_at (sbB _ _ g0)).1
      have gB3 := (off_at (sbB _ _ g3)).1
      refine ⟨_, rfl, a, _, 3, _, rfl, rfl, SqT.of gB0, atI_nat (j := 3) rfl, ld, rv, rfl, SqL.of gB3, fun D hD => ?_⟩
      refine lc_it (walk_enum (K := K) (a := ld) (xs := rv)) (fun j H' => Same HB H' ∧ ∃ ks, H' D = some (.lst (nums ks)) ∧ (∀ n ∈ ks, n < M.rs.length) ∧ ks.length ≤ j) ⟨sm_new hD, [], upd_same, (fun n hn => by cases hn), Nat.le_refl _⟩ (fun j H' _ hp => SqL.of (hp.1 _ _ gB3)) ?_ ?_
      · rintro j x H2 H3 hj ⟨sm, ks, hk1, hk2, hk3⟩ ⟨t, x1, x2, rfl, ht, rfl, e1, e2⟩
        cases e1
        have e2 : rv[j]? = some x2 := e2
        obtain ⟨r, hri, a3, d1, d2, rfl, h1, h2, h3⟩ := paired_get gr e2
        have s2 := sm_new (o := .tup [.int (j : Nat), .ref a3]) ht
        have h1' := s2 _ _ (sm _ _ (off_at (sbB _ _ h1)).1)
        have ltj : j < M.rs.length := (List.getElem?_eq_some_iff.mp hri).1
        have hle := O.le
        refine ⟨t, _, rfl, SqT.of upd_same, rfl, _, _, rfl, _, _, rfl, rfl, ?_⟩
        refine ⟨rfl, ?_⟩
        refine ⟨_, rfl, a3, _, 0, _, rfl, rfl, SqT.of h1', atI_nat (j := 0) rfl, _, rfl, rfl, decide (r.st = here), dint _ _, ?_⟩
        by_cases hc : r.st = here
        · refine iteT' hc ?_
          refine ⟨_, rfl, _, s2 _ _ hk1, ?_, sm_mut (sm.trans s2) hD, ks ++ [j], by rw [upd_same, nums_snoc], ?_, ?_⟩
          · rw [nums_len]
            exact small1000 (by omega)
          · intro n hn
            rcases List.mem_append.mp hn with z | z
            · exact hk2 n z
            · rw [List.mem_singleton.mp z]
              exact ltj
          · rw [List.length_append, List.length_singleton]
            omega
        · refine iteF' hc ?_
          exact ⟨sm.trans s2, ks, s2 _ _ hk1, hk2, by omega⟩
      rintro HC ⟨sC, ks, hk1, hk2, hk3⟩
      refine ⟨_, rfl, by show 0 ≤ sizeLine; decide, fun e he => ⟨D, e, _, rfl, rfl, SqL.of (sm_new he _ _ hk1), SqL.of upd_same, _, rfl, ?_⟩⟩
      have sE := sC.trans (sm_new (o := .lst []) he)
      have hkE := sm_new (o := .lst []) he _ _ hk1
      clear hk1 he sC
      revert sE hkE
      generalize upd HC e (.lst []) = HE
      intro sE hkE
      have ptE := potAt_mono sE ptB
      have sbE := sbB.trans (samB_same sE)
      have hpaE := sE _ _ hpaB
      have hflE := sE _ _ hflB
      have hfwE := paired_mono hfwB fun _ _ q => CtAt.mono (off_same sE) q
      have nD : D ≠ p := potAt_ne ptB hD
      have nDpa : D ≠ pa := (ne_of_none hpaB hD).symm
      cases hks : ks with
      | nil =>
        refine iteF ?_
        exact ⟨here, _, _, _, _, _, _, ns, fv, fws, rfl, sbE, ptE, hpaE, hns, by omega, hflE, hfwE, by omega⟩
      | cons k0 kr =>
      have hne : ks ≠ [] := by
        rw [hks]
        simp
      refine iteT ?_
      have hle := O.le
      refine ⟨_, rfl, .inl ⟨rfl, _, SqL.of hpaE⟩, _, rfl, _, rfl, p, D, nums ks, rfl, ptE, hkE, nD, ⟨by unfold nums; simpa using hne, by rw [nums_len]; omega⟩, fun ii x HF hx sbF ptF => ?_⟩
      obtain ⟨n, hn, rfl⟩ := nums_at hx
      have hnlt := hk2 n (List.mem_of_getElem? hn)
      have hpaF := samB_at sbF hpaE npa
      have hflF := samB_at sbF hflE nfl
      have hfwF := paired_mono hfwE fun _ _ q => CtAt.mono (off_more (S' := [p, pa, fl]) sbF fun z hz => List.mem_append_left [pa, fl] hz) q
      refine ⟨pa, _, _, rfl, rfl, hpaF, by rw [nums_len]; exact small1000 (by omega), ?_⟩
      have hpaH : H pa = none := hpa
      have oG : off [p, pa, fl] (upd HF pa (.lst (nums ns ++ [V.int (n : Int)]))) = off [p, pa, fl] HF := off_mut (by simp)
      have hpaG : (upd HF pa (.lst (nums ns ++ [V.int (n : Int)]))) pa = some (.lst (nums (ns ++ [n]))) := by rw [upd_same, nums_snoc]
      have sbG : SamB p H (upd HF pa (.lst (nums ns ++ [V.int (n : Int)]))) := samB_mut (sbE.trans sbF) hpaH
      have ptG := potAt_upd (o := .lst (nums ns ++ [V.int (n : Int)])) ptF npa
      have hflG : (upd HF pa (.lst (nums ns ++ [V.int (n : Int)]))) fl = some (.lst fv) := by
        rw [upd_ne (Ne.symm npf)]
        exact hflF
      rw [← oG] at hfwF
      clear oG
      revert hpaG sbG ptG hflG hfwF
      generalize upd HF pa (.lst (nums ns ++ [V.int (n : Int)])) = HG
      intro hfwF hpaG sbG ptG hflG
      obtain ⟨r, hr1⟩ : ∃ r, M.rs[n]? = some r := ⟨_, List.getElem?_eq_getElem hnlt⟩
      obtain ⟨x, hx2, a3, d1, d2, rfl, h1, h2, h3⟩ := paired_get' gr hr1
      have gG0 := (off_at (sbG _ _ g0)).1
      have gG3 := (off_at (sbG _ _ g3)).1
      have h1G := (off_at (sbG _ _ h1)).1
      have hnsG : ∀ m ∈ ns ++ [n], m < M.rs.length := fun m hm => by
        rcases List.mem_append.mp hm with z | z
        · exact hns m z
        · rw [List.mem_singleton.mp z]
          exact hnlt
      refine ⟨_, rfl, a, _, 3, _, rfl, rfl, SqT.of gG0, atI_nat (j := 3) rfl, _, rfl, 1, rfl, pa, _, -1, .int (n : Int), rfl, rfl, SqL.of hpaG, by rw [nums_snoc]; exact atI_last _ _, ld, rv, (n : Int), _, rfl, rfl, SqL.of gG3, atI_nat hx2, a3, _, 3, _, rfl, rfl, SqT.of h1G, atI_nat (j := 3) rfl, ?_⟩
      refine ⟨_, rfl, _, rfl, _, M, pa, ns ++ [n], rfl, (hS.mono sbG).mono off_le, hpaG, hnsG, ⟨hI.1.2, hI.2.2.1⟩, hwk, fun dc ws HH sH ndc hdc ct => ?_⟩
      have ptH := potAt_mono sH ptG
      have sbH := sbG.trans (samB_same sH)
      have hpaH := sH _ _ hpaG
      have hflH := sH _ _ hflG
      have hfwH := paired_mono hfwF fun _ _ q => CtAt.mono (off_same sH) q
      have hnlG : (ns ++ [n]).length ≤ i + 1 := by
        rw [List.length_append, List.length_singleton]
        omega
      refine ⟨_, rfl, _, rfl, rfl, decide (r.nx = st), dint _ _, ?_⟩
      by_cases c1 : r.nx = st
      rotate_left
      · refine iteF' c1 ?_
        exact ⟨r.nx, _, _, _, _, _, _, ns ++ [n], fv, fws, rfl, sbH, ptH, hpaH, hnsG, hnlG, hflH, hfwH, by omega⟩
      refine iteT' c1 ?_
      refine ⟨dc, _, hdc, trivial, fun od => ⟨_, rfl, dc, od, rfl, .inl ⟨_, upd_same, fun D2 hD2 => ?_⟩⟩⟩
      refine lc_it walk_keys (fun j H' => Same (upd HH dc (.frz od (.dK (kvsOf ws)))) H' ∧ H' D2 = some (.lst (((ws.map (·.2)).take j).map V.int))) ⟨sm_new hD2, upd_same⟩ (fun j H' _ hp => hp.1 _ _ upd_same) ?_ ?_
      · rintro j x H4 H5 hj ⟨sm, hl⟩ ⟨rfl, k, v, hk, rfl⟩
        unfold kvsOf at hk hj
        rw [List.getElem?_map] at hk
        rw [List.length_map] at hj
        obtain ⟨y, hp2, hp3⟩ := Option.map_eq_some_iff.mp hk
        cases hp3
        have hg : wsGet ws y.1 = some y.2 := wsGet_mem ct.2.1 (List.mem_of_getElem? hp2)
        refine ⟨rfl, ?_⟩
        refine yesT ?_
        have g := dg_ws (z := y.1) (.inr ⟨od, sm _ _ upd_same⟩ : Rd H5 dc (.dK (kvsOf ws)))
        rw [hg] at g
        have lt2 : j < (ws.map (·.2)).length := by
          rw [List.length_map]
          exact hj
        have eq2 : (ws.map (·.2))[j] = y.2 := by
          rw [List.getElem_map]
          rw [(List.getElem?_eq_some_iff.mp hp2).2]
        refine ⟨_, rfl, _, rfl, dc, _, rfl, g, _, hl, ?_, sm_mut sm hD2, ?_⟩
        · have := ct.2.2
          rw [List.length_map, List.length_take, List.length_map]
          exact small1000 (by omega)
        · rw [upd_same, List.take_succ_eq_append_getElem lt2, eq2, List.map_append]
          rfl
      rintro H4 ⟨sm4, hl4⟩
      have e4 : ((ws.map (·.2)).take (kvsOf ws).length) = ws.map (·.2) := by
        rw [kvsOf_len]
        conv => lhs; rw [show ws.length = (ws.map (·.2)).length by rw [List.length_map]]
        exact List.take_length
      rw [e4] at hl4
      have sm5 := sm_unlock hdc sm4
      have nD2 : D2 ≠ dc := fun z => by
        rw [z, upd_same] at hD2
        cases hD2
      refine ⟨sm4 _ _ upd_same, D2, ws.map (·.2), rfl, SqL.of (by rw [upd_ne nD2]; exact hl4), _, _, rfl, rfl, _, rfl, ?_⟩
      clear hl4 sm4
      revert sm5
      generalize upd H4 dc (.dK (kvsOf ws)) = H5
      intro sm5
      have ptI := potAt_mono sm5 ptH
      have sbI := sbH.trans (samB_same sm5)
      have hpaI := sm5 _ _ hpaH
      have hflI := sm5 _ _ hflH
      have hfwI := paired_mono hfwH fun _ _ q => CtAt.mono (off_same sm5) q
      have hdcI := sm5 _ _ hdc
      by_cases c2 : (ws.map (·.2)).sum ≤ 12
      rotate_left
      · refine iteF' c2 ?_
        exact ⟨r.nx, _, _, _, _, _, _, ns ++ [n], fv, fws, rfl, sbI, ptI, hpaI, hnsG, hnlG, hflI, hfwI, by omega⟩
      refine iteT' c2 ?_
      refine ⟨_, rfl, .inl ⟨rfl, _, SqL.of hflI⟩, _, rfl, fl, _, _, rfl, rfl, hflI, small1000 (by omega), ?_⟩
      have oJ : off [p, pa, fl] (upd H5 fl (.lst (fv ++ [.ref dc]))) = off [p, pa, fl] H5 := off_mut (by simp)
      refine ⟨r.nx, _, _, _, _, _, _, ns ++ [n], fv ++ [.ref dc], fws ++ [ws], rfl, samB_mut sbI hfl0, potAt_upd ptI nfl, by rw [upd_ne npf]; exact hpaI, hnsG, hnlG, upd_same, ?_, by rw [List.length_append, List.length_singleton]; omega⟩
      rw [oJ]
      refine paired_snoc ⟨⟨dc, rfl, off_in hdcI fun m => ?_⟩, ct, c2⟩ hfwI
      rcases List.mem_cons.mp m with z | m
      · obtain ⟨y1, y2, y3, _⟩ := ptI
        rw [← z, hdcI] at y3
        cases y3
      · rcases List.mem_cons.mp m with z | m
        · rw [z, hpaI] at hdcI
          cases hdcI
        · rw [List.mem_singleton.mp m, hflI] at hdcI
          cases hdcI
    · rintro σ H2 ⟨here, b, c, d, e, f, g, ns, fv, fws, rfl, sbB, ptB, hpaB, hns, hnl, hflB, hfwB, hfn⟩
      refine ⟨_, rfl, by show 0 ≤ sizeLine; decide, fun e he => ⟨fl, e, _, rfl, rfl, SqL.of (sm_new he _ _ hflB), SqL.of upd_same, _, rfl, ?_⟩⟩
      have sE := sm_new (o := .lst []) he
      revert sE
      generalize upd H2 e (.lst []) = HE
      intro sE
      have ptE := potAt_mono sE ptB
      have sbE := sbB.trans (samB_same sE)
      have hflE := sE _ _ hflB
      have hfwE := paired_mono hfwB fun _ _ q => CtAt.mono (off_same sE) q
      cases hfv : fv with
      | nil =>
        refine iteF ?_
        refine fun dn hdn => ?_
        refine q _ [] _ (sbE.trans (samB_new hdn)) (potAt_new ptE hdn) ⟨⟨dn, rfl, off_here hdn fun z => potAt_ne ptE hdn (List.mem_singleton.mp z)⟩, ctNil _, by decide⟩
      | cons v0 vr =>
        refine iteT ?_
        refine ⟨_, rfl, _, rfl, p, fl, fv, rfl, ptE, hflE, nfl, ⟨by rw [hfv]; simp, by omega⟩, fun ii x HF hx sbF ptF => ?_⟩
        obtain ⟨ws, _, hct⟩ := paired_get hfwE hx
        exact q x ws HF (sbE.trans sbF) ptF ((hct.mono (off_sub fun z hz => List.mem_append_left [pa, fl] hz)).mono sbF)
end
end LB
set_option Elab.async false
set_option linter.all false
set_option maxRecDepth 100000
namespace LB
open PySem PySem.Spec PyProof.Rows L2 ClX
section
variable {P : Program} {w : World} {K : PySem.W.Frag} {mg : Str → Option Value} {base : Heap} {C fI : Addr}
/-! _law_drawn -/
def spDrawn : Sp := fun vs H Q _ => ∃ (p : Addr) (sc : V) (M : Mx), vs = [.ref p, sc] ∧ PotAt H p ∧ SceneAt (off [p] H) sc M ∧ ScOk M ∧ ∀ v ws H', SamB p H H' → PotAt H' p → CtAt M.ins (off [p] H') v ws → Q v H'
theorem ok__law_drawn (T : Tx K mg C fI) (D : DefAt K mg "_law_drawn" s_law_drawn) (cD : Cal P w K mg base 1 "_law_draw" ["_law_pot_here", "_law_sides"] spDraw) (cP : Cal P w K mg base 2 "_law_pick" ["_law_pot_here", "_law_some"] spPick) :
    Cal P w K mg base 3 "_law_drawn" ["_law_pot_here", "_law_scene_here"] spDrawn := by
  refine Cal.mk D sc_law_drawn (fun _ _ _ _ _ _ us hl => match us, hl with | [_, _], _ => rfl) (fun vs H Q E h => ?_) ?_
  · obtain ⟨p, sc, M, rfl, _⟩ := h
    rfl
  · rintro X cdv A outer f s H vs Q E rfl hr ⟨p, sc, M, rfl, hp, hS, O, q⟩
    have hu := hu_of hr
    have r1 := hr.mono (show 1 ≤ 2 by decide)
    refine ⟨_, pss_cons (ps_set (i := 2) sc_law_drawn.nd rfl (Or.inl rfl) pe_dnewK)
      (pss_cons (ps_for PassesOwn.never rfl (pi_range1 (by rfl) T.f_range (pa_cons (pe_cal cD r1 (by rfl) (pa_cons (pv 0) (pa_cons pe_int pa_nil))) pa_nil)) (pg_name (i := 3) sc_law_drawn.nd rfl (Or.inl rfl))
        (pss_cons (ps_set (i := 4) sc_law_drawn.nd rfl (Or.inl rfl) (pe_cal cP hr (by rfl) (pa_cons (pv 0) (pa_cons (pe_ix ix_tup (pv 1) pe_int (fun _ _ => rfl)) pa_nil))))
        (pss_one (ps_dput hu (pv 2) (pv 4) (pe_op op_add (pe_dget2 hu (pv 2) (pv 4) pe_int ⟨rfl, rfl, rfl, rfl⟩) pe_int) rfl))))
      (pss_one (ps_ret (pv 2)))), ?_⟩
    obtain ⟨a, li, lo, ld, rv, rfl, g0, g1, g2, g3, gr⟩ := id hS
    have hI := insL_ok _ O.i
    refine fun df hdf => ?_
    have ndf := potAt_ne hp hdf
    refine ⟨_, rfl, p, 13, rfl, potAt_new hp hdf, ⟨by decide, by decide⟩, fun dn H1 d0 d1 sb1 pt1 => ⟨dn, rfl, by omega, by omega, ?_⟩⟩
    have hdf1 := samB_at sb1 (upd_same : (upd H df (.dK [])) df = some (.dK [])) ndf
    refine for_it walk_range (fun i σ H' => ∃ (b c : Option V) (ws : Ws), σ = [some (.ref p), some (.ref a), some (.ref df), b, c] ∧ SamB p H H' ∧ PotAt H' p ∧ H' df = some (.dK (kvsOf ws)) ∧ CtOk M.ins ws ∧ (ws.map (·.2)).sum = (i : Int))
      ⟨_, _, [], rfl, (samB_new hdf).trans sb1, pt1, hdf1, ctNil _, rfl⟩ (fun _ _ _ _ _ => trivial) ?_ ?_
    · rintro i x σ H2 H3 hi ⟨b, c, ws, rfl, sb, pt, hd, ct, sm⟩ ⟨rfl, rfl⟩
      refine ⟨_, rfl, _, rfl, a, _, 0, _, rfl, rfl, SqT.of (off_at (sb _ _ g0)).1, atI_nat (j := 0) rfl, p, li, _, rfl, pt, (off_at (sb _ _ g1)).1, fun z => (off_at g1).2 (List.mem_singleton.mpr z), ⟨fun z => hI.2.1 (by simpa using z), by rw [List.length_map]; have := hI.2.2.1; omega⟩, fun ii x H4 hx sb4 pt4 => ?_⟩
      obtain ⟨z, hz, rfl⟩ := map_at hx
      have hd4 := samB_at sb4 hd ndf
      have ev : (((wsGet ws z).map V.int).getD (V.int 0)) = V.int ((wsGet ws z).getD 0) := by cases wsGet ws z <;> rfl
      refine ⟨_, rfl, df, rfl, .inl ⟨_, .inl hd4⟩, _, rfl, _, dg_ws (z := z) (.inl hd4), _, _, ev, rfl, _, rfl, _, rfl, df, _, rfl, DPut.k (k := Sum.inr z) hd4 (small1000 (by rw [kvsOf_len]; exact ct.2.2)), ?_⟩
      rw [putK_put]
      have e5 : (upd H4 df (.dK (kvsOf (wsPut ws z ((wsGet ws z).getD 0 + 1))))) df = some (.dK (kvsOf (wsPut ws z ((wsGet ws z).getD 0 + 1)))) := upd_same
      have nn := get_nn (z := z) fun p hp => (ct.1 p hp).2
      refine ⟨_, _, _, rfl, samB_mut (sb.trans sb4) hdf, potAt_upd pt4 ndf, e5, ct.put (by have := hI.2.2.1; omega) (List.mem_of_getElem? hz) (by omega), ?_⟩
      rw [put_sum ct.2.1, sm]
      omega
    · rintro σ H2 ⟨b, c, ws, rfl, sb, pt, hd, ct, sm⟩
      exact ⟨_, rfl, q _ ws H2 sb pt ⟨⟨df, rfl, off_in hd fun m => ndf (List.mem_singleton.mp m)⟩, ct, by rw [sm]; omega⟩⟩
end
end LB
set_option Elab.async false
set_option linter.all false
set_option maxRecDepth 100000
namespace LB
open PySem PySem.Spec PyProof.Rows L2
/-! ### a scene and the machine made of it -/
def ordM (M : Mx) : Mx := ⟨M.ins, M.outs, M.n, M.rs.map (ordR M.ins M.outs)⟩
section
variable {ins outs : List Str} {rs : List Rx}
theorem hasL_ord {r : Rx} {z : Str} (h : z ∈ ins) : hasL (ordR ins outs r) z = hasL r z := by
  show (wsGet (ordW ins r.tk) z).isSome = (wsGet r.tk z).isSome
  rw [wsGet_ordW, if_pos h]
theorem lessBy_ord (r : Rx) (left : List Int) : lessBy ins (ordR ins outs r) left = lessBy ins r left := by
  have : ∀ (l : List Str) (left : List Int), (∀ z ∈ l, z ∈ ins) → lessBy l (ordR ins outs r) left = lessBy l r left := fun l => by
    induction l with
    | nil =>
      intro left _
      rfl
    | cons y l ih =>
      intro left h
      cases left with
      | nil => rfl
      | cons m left =>
        show (m - _) :: lessBy l (ordR ins outs r) left = (m - _) :: lessBy l r left
        rw [ih left fun z hz => h z (List.mem_cons_of_mem _ hz), hasL_ord (h y List.mem_cons_self)]
  exact this ins left fun z hz => hz
theorem isAt_ord (s : Int) (i : Nat) : isAt (rs.map (ordR ins outs)) s i = isAt rs s i := by
  unfold isAt
  rw [List.getElem?_map]
  cases rs[i]? <;> rfl
theorem numsAt_ord (s : Int) : numsAt (rs.map (ordR ins outs)) s = numsAt rs s := by
  unfold numsAt
  rw [List.length_map]
  congr 1
  funext i
  exact isAt_ord s i
theorem tryB_ord (x : PN) (fs : List PN) (n : Nat) : tryB (rs.map (ordR ins outs)) ins x fs n = tryB rs ins x fs n := by
  unfold tryB
  rw [List.getElem?_map]
  cases rs[n]? with
  | none => rfl
  | some r =>
    show (if (∀ y ∈ (nextN ins (ordR ins outs r) x.1).2, 0 ≤ y) ∧ nextN ins (ordR ins outs r) x.1 ∉ fs.map (·.1) then _ else _) = _
    have e : nextN ins (ordR ins outs r) x.1 = nextN ins r x.1 := by
      unfold nextN
      rw [lessBy_ord]
      rfl
    rw [e]
theorem expB_ord (fs : List PN) (x : PN) (ns : List Nat) : expB (rs.map (ordR ins outs)) ins fs x ns = expB rs ins fs x ns := by
  unfold expB
  congr 1
  funext a n
  exact tryB_ord x a n
theorem seqB_ord (b : Node) : ∀ k, seqB (rs.map (ordR ins outs)) ins b k = seqB rs ins b k
  | 0 => rfl
  | k + 1 => by
    unfold seqB
    rw [seqB_ord b k]
    cases (seqB rs ins b k)[k]? with
    | none => rfl
    | some x =>
      show expB _ _ _ _ _ = expB _ _ _ _ _
      rw [expB_ord, numsAt_ord]
theorem round_ord {b g : Node} {res : Option (List Nat)} (h : IsRound (rs.map (ordR ins outs)) ins b g res) : IsRound rs ins b g res := by
  cases res with
  | none =>
    obtain ⟨k, h1, h2⟩ := h
    rw [seqB_ord] at h1 h2
    exact ⟨k, h1, h2⟩
  | some p =>
    obtain ⟨k, h1⟩ := h
    rw [seqB_ord] at h1
    exact ⟨k, h1⟩
theorem leads_ord : ∀ {ns : List Nat} {s : Int}, Leads rs s ns → Leads (rs.map (ordR ins outs)) s ns
  | [], _, _ => trivial
  | n :: ns, s, ⟨r, h1, h2, h3⟩ => ⟨ordR ins outs r, by rw [List.getElem?_map, h1]; rfl, h2, leads_ord h3⟩
theorem ledTo_ord : ∀ (ns : List Nat) (s : Int), ledTo (rs.map (ordR ins outs)) s ns = ledTo rs s ns
  | [], _ => rfl
  | n :: ns, s => by
    show ledTo (rs.map (ordR ins outs)) (match (rs.map (ordR ins outs))[n]? with | some r => r.nx | none => s) ns = ledTo rs (match rs[n]? with | some r => r.nx | none => s) ns
    rw [List.getElem?_map]
    cases rs[n]? with
    | none => exact ledTo_ord ns s
    | some r => exact ledTo_ord ns r.nx
theorem cnt_ord {z : Str} (h : z ∈ ins) (ns : List Nat) : cntRun (rs.map (ordR ins outs)) z ns = cntRun rs z ns := by
  unfold cntRun
  congr 1
  refine List.map_congr_left fun n _ => ?_
  unfold oneL
  rw [List.getElem?_map]
  cases rs[n]? with
  | none => rfl
  | some r =>
    show (if hasL (ordR ins outs r) z = true then 1 else 0) = _
    rw [hasL_ord h]
theorem reached_ord {s : Int} (h : Reached rs s) : Reached (rs.map (ordR ins outs)) s := by
  obtain ⟨ns, h1, h2⟩ := h
  exact ⟨ns, leads_ord h1, by rw [ledTo_ord]; exact h2⟩
end
theorem ScOk.has {M : Mx} (O : ScOk M) {r : Rx} (hr : r ∈ M.rs) : ∃ z ∈ M.ins, hasL r z = true := by
  obtain ⟨_, _, ⟨⟨h1, _⟩, h2⟩, _⟩ := O.ok r hr
  cases e : r.tk with
  | nil => exact absurd e h2
  | cons p t =>
    have hp : p ∈ r.tk := by
      rw [e]
      exact List.mem_cons_self
    exact ⟨p.1, (h1 p hp).1, hasL_iff.mpr (List.mem_map.mpr ⟨p, hp, rfl⟩)⟩
theorem ScOk.mok {M : Mx} (O : ScOk M) : MOk M where
  nd := (insL_ok _ O.i).1.2
  i4 := ⟨(insL_ok _ O.i).2.1, (insL_ok _ O.i).2.2.1⟩
  sz := ⟨O.n.1, by have := O.n.2; omega⟩
  rl := by have := O.le; omega
  st := fun r hr => (O.ok r hr).1.1
  ok := fun r hr => ⟨(O.ok r hr).2.1, O.has hr⟩
theorem ScOk.mokO {M : Mx} (O : ScOk M) : MOk (ordM M) where
  nd := O.mok.nd
  i4 := O.mok.i4
  sz := O.mok.sz
  rl := by
    show (M.rs.map _).length ≤ 1000
    rw [List.length_map]
    exact O.mok.rl
  st := fun r hr => by
    obtain ⟨q, hq, rfl⟩ := List.mem_map.mp hr
    exact O.mok.st q hq
  ok := fun r hr => by
    obtain ⟨q, hq, rfl⟩ := List.mem_map.mp hr
    obtain ⟨h1, z, h2, h3⟩ := O.mok.ok q hq
    exact ⟨h1, z, h2, by rw [hasL_ord h2]; exact h3⟩
theorem ScOk.wkO {M : Mx} (O : ScOk M) : ∀ r ∈ (ordM M).rs, WsOk (ordM M).ins r.tk := fun r hr => by
  obtain ⟨q, hq, rfl⟩ := List.mem_map.mp hr
  obtain ⟨_, _, ⟨⟨h1, h2, h3⟩, _⟩, _⟩ := O.ok q hq
  refine ⟨fun p hp => ?_, ordW_nodup O.mok.nd, ?_⟩
  · obtain ⟨e1, e2⟩ := ordW_mem hp
    exact ⟨e1, (h1 _ (wsGet_some e2)).2⟩
  · have e1 := ordW_len q.tk M.ins
    have e2 := O.mok.i4.2
    show (ordW M.ins q.tk).length ≤ 1000
    omega
theorem nd_rev {l : List Str} (h : l.Nodup) : l.reverse.Nodup := (List.reverse_perm l).nodup_iff.mpr h
/-! ### all lines told, from behind -/
def allOf (ins : List Str) (f : Str → Int) : Ws := ins.map fun z => (z, f z)
def fullOf (ins : List Str) (ws : Ws) : Ws := (allOf ins fun z => (wsGet ws z).getD 0).reverse
theorem all_keys (ins : List Str) (f : Str → Int) : (allOf ins f).map (·.1) = ins := by
  unfold allOf
  rw [List.map_map]
  exact List.map_id ins
theorem full_keys (ins : List Str) (ws : Ws) : (fullOf ins ws).map (·.1) = ins.reverse := by
  unfold fullOf
  rw [List.map_reverse, all_keys]
theorem all_get {ins : List Str} {f : Str → Int} {z : Str} (nd : ins.Nodup) (h : z ∈ ins) : wsGet (allOf ins f) z = some (f z) := by
  have h1 : (z, f z) ∈ allOf ins f := List.mem_map.mpr ⟨z, h, rfl⟩
  exact wsGet_mem (p := (z, f z)) (by rw [all_keys]; exact nd) h1
theorem full_get {ins : List Str} {ws : Ws} {z : Str} (nd : ins.Nodup) (h : z ∈ ins) : wsGet (fullOf ins ws) z = some ((wsGet ws z).getD 0) := by
  have h1 : (z, (wsGet ws z).getD 0) ∈ fullOf ins ws := List.mem_reverse.mpr (List.mem_map.mpr ⟨z, h, rfl⟩)
  exact wsGet_mem (p := (z, (wsGet ws z).getD 0)) (by rw [full_keys]; exact nd_rev nd) h1
theorem full_left {ins : List Str} {ws : Ws} (nd : ins.Nodup) : leftOf ins (fullOf ins ws) = leftOf ins ws := by
  unfold leftOf
  refine List.map_congr_left fun z hz => ?_
  rw [full_get nd hz]
  rfl
theorem full_ct {ins : List Str} {ws : Ws} (nd : ins.Nodup) (hl : ins.length ≤ 1000) (h : CtOk ins ws) : CtOk ins (fullOf ins ws) := by
  refine ⟨fun p hp => ?_, by rw [full_keys]; exact nd_rev nd, ?_⟩
  · obtain ⟨z, hz, rfl⟩ := List.mem_map.mp (List.mem_reverse.mp hp)
    exact ⟨hz, get_nn fun p hp => (h.1 p hp).2⟩
  · show ((ins.map _).reverse).length ≤ 1000
    rw [List.length_reverse, List.length_map]
    exact hl
theorem full_sum {ins : List Str} {ws : Ws} (nd : ins.Nodup) (hl : ins.length ≤ 1000) (h : CtOk ins ws) : ((fullOf ins ws).map (·.2)).sum = (ws.map (·.2)).sum := by
  have f := full_ct nd hl h
  rw [← leftOf_sum nd (fun p hp => (f.1 p hp).1) f.2.1, full_left nd, leftOf_sum nd (fun p hp => (h.1 p hp).1) h.2.1]
/-! ### what a round takes -/
theorem round_is {M : Mx} {s : Int} {ws : Ws} {p : List Nat} (O : ScOk M) (hs : 0 ≤ s ∧ s < M.n) (ct : CtOk M.ins ws) (h12 : (ws.map (·.2)).sum ≤ 12) (h : IsRound M.rs M.ins (s, leftOf M.ins ws) (s, zerosN M.ins.length) (some p)) :
    Leads M.rs s p ∧ ledTo M.rs s p = s ∧ p.length ≤ 12 ∧ ∀ z ∈ M.ins, (cntRun M.rs z p : Int) = (wsGet ws z).getD 0 := by
  obtain ⟨k, hk⟩ := h
  have B := (seqB_all (b := (s, leftOf M.ins ws)) O.mok.ok hs (leftOf_len _ _) (leftOf_nn fun p hp => (ct.1 p hp).2) k).ok _ hk
  refine ⟨B.ld, B.to, B.short ?_, fun z hz => ?_⟩
  · show (leftOf M.ins ws).sum ≤ 12
    rw [leftOf_sum O.mok.nd (fun p hp => (ct.1 p hp).1) ct.2.1]
    exact h12
  · obtain ⟨i, hi⟩ := List.mem_iff_getElem?.mp hz
    have lt := (List.getElem?_eq_some_iff.mp hi).1
    have e1 := B.ct i z ((wsGet ws z).getD 0) hi (by
      show (leftOf M.ins ws)[i]? = _
      unfold leftOf
      rw [List.getElem?_map, hi]
      rfl)
    have e2 : (zerosN M.ins.length)[i]? = some 0 := by
      unfold zerosN
      rw [List.getElem?_replicate, if_pos lt]
    have e3 : (zerosN M.ins.length)[i]? = some ((wsGet ws z).getD 0 - (cntRun M.rs z p : Nat)) := e1
    rw [e2] at e3
    injection e3 with e3
    omega
theorem round_same {M : Mx} {s : Int} {ws : Ws} {x y : Option (List Nat)} (O : ScOk M) (hs : 0 ≤ s ∧ s < M.n) (ct : CtOk M.ins ws) (hx : IsRound M.rs M.ins (s, leftOf M.ins ws) (s, zerosN M.ins.length) x) (hy : IsRound M.rs M.ins (s, leftOf M.ins ws) (s, zerosN M.ins.length) y) : x = y :=
  round_one (fun k => (seqB_all (b := (s, leftOf M.ins ws)) O.mok.ok hs (leftOf_len _ _) (leftOf_nn fun p hp => (ct.1 p hp).2) k).nd) hx hy
end LB
set_option Elab.async false
set_option linter.all false
set_option maxRecDepth 100000
namespace LB
open PySem PySem.Spec PyProof.Rows L2
theorem callR_or {X : Cx} {f : Value} {r1 r2 : List V → Hp → VK → Prop} (h1 : CallR X f r1) (h2 : CallR X f r2) : CallR X f (fun xs H Q => r1 xs H Q ∨ r2 xs H Q) := by
  intro pins s σ H xs us Q I r h
  rcases h with h | h
  · exact h1 pins s σ H xs us Q I r h
  · exact h2 pins s σ H xs us Q I r h
/-! ### the text of a round -/
def shownR : Option (List Nat) → Str
  | none => "None"
  | some p => (dInts (p.map fun (n : Nat) => (n : Int))).shown
theorem nums_ints (p : List Nat) : nums p = (p.map fun (n : Nat) => (n : Int)).map V.int := by
  unfold nums
  rw [List.map_map]
  rfl
def ShortR (res : Option (List Nat)) : Prop := ∀ p, res = some p → p.length ≤ 1000 ∧ ∀ n ∈ p, n < 1000
def rReprA (K : PySem.W.Frag) : List V → Hp → VK → Prop := fun xs H Q => (xs = [.non] ∧ Q (.str "None") H) ∨ (∃ a ns, xs = [.ref a] ∧ SqL K H a (ns.map V.int) ∧ (∀ n ∈ ns, SmallI n) ∧ ns.length ≤ 1000 ∧ Q (.str (dInts ns).shown) H)
theorem call_reprA {X : Cx} (hg : X.A.guards = some []) (hu : X.A.units + 64 < cLine) : CallR X (.builtin "repr") (rReprA X.K) := callR_or call_reprN (call_reprL hg hu)
theorem repr_due {K : PySem.W.Frag} {H : Hp} {v : V} {res : Option (List Nat)} {Q : VK} (h : DueAt H v res) (hs : ShortR res) (q : Q (.str (shownR res)) H) : rReprA K [v] H Q := by
  cases res with
  | none => exact .inl ⟨by rw [show v = .non from h], q⟩
  | some p =>
    obtain ⟨a, rfl, ha⟩ := h
    obtain ⟨h1, h2⟩ := hs p rfl
    refine .inr ⟨a, _, rfl, SqL.of (by rw [← nums_ints]; exact ha), fun n hn => ?_, by rw [List.length_map]; exact h1, q⟩
    obtain ⟨m, hm, rfl⟩ := List.mem_map.mp hn
    have := h2 m hm
    show ((m : Int)).natAbs < 10 ^ 12
    omega
theorem res_due {H H' : Hp} {v : V} {res : Option (List Nat)} (h : ResAt H H' v res) : DueAt H' v res := by
  cases res with
  | none => exact h
  | some p =>
    obtain ⟨a, h1, _, h2⟩ := h
    exact ⟨a, h1, h2⟩
theorem DueAt.mono {H H' : Hp} {v : V} {res : Option (List Nat)} (e : Same H H') (h : DueAt H v res) : DueAt H' v res := by
  cases res with
  | none => exact h
  | some p =>
    obtain ⟨a, h1, h2⟩ := h
    exact ⟨a, h1, e _ _ h2⟩
theorem nums_append (a b : List Nat) : nums (a ++ b) = nums a ++ nums b := List.map_append
/-! ### pairs in a list -/
def PSt (Hx : Hp) (D : Addr) (ins : List Str) (f : Str → Int) (i : Nat) (H' : Hp) : Prop := Same Hx H' ∧ ∃ ps : List Addr, H' D = some (.lst (ps.map V.ref)) ∧ Paired (PairD H') ps (kvsOf ((allOf ins f).take i))
theorem PSt.zero {Hx : Hp} {D : Addr} {ins : List Str} {f : Str → Int} (h : Hx D = none) : PSt Hx D ins f 0 (upd Hx D (.lst [])) := ⟨sm_new h, [], upd_same, .nil⟩
theorem allOf_len (ins : List Str) (f : Str → Int) : (allOf ins f).length = ins.length := List.length_map _
theorem PSt.step {Hx H' H'' : Hp} {D u : Addr} {ins : List Str} {f : Str → Int} {i : Nat} {z : Str} (h : PSt Hx D ins f i H') (hD : Hx D = none) (e : Same H' H'') (hu : H'' u = none) (hz : ins[i]? = some z) (hl : ins.length ≤ 1000) :
    ∃ acc, (upd H'' u (.tup [.str z, .int (f z)])) D = some (.lst acc) ∧ acc.length < sizeLine ∧ PSt Hx D ins f (i + 1) (upd (upd H'' u (.tup [.str z, .int (f z)])) D (.lst (acc ++ [.ref u]))) := by
  obtain ⟨sm, ps, h1, h2⟩ := h
  have hl1 := e _ _ h1
  have ne : D ≠ u := ne_of_none hl1 hu
  have hi : (allOf ins f)[i]? = some (z, f z) := by
    unfold allOf
    rw [List.getElem?_map, hz]
    rfl
  have lt := (List.getElem?_eq_some_iff.mp hi).1
  refine ⟨ps.map V.ref, by rw [upd_ne ne]; exact hl1, ?_, sm_mut ((sm.trans e).trans (sm_new hu)) hD, ps ++ [u], by rw [upd_same, List.map_append]; rfl, ?_⟩
  · rw [List.length_map, paired_len h2, kvsOf_len, List.length_take]
    rw [allOf_len] at lt ⊢
    exact small1000 (by omega)
  · rw [List.take_succ_eq_append_getElem lt, (List.getElem?_eq_some_iff.mp hi).2, kvsOf_append]
    refine paired_snoc ?_ (paired_mono h2 fun q kv hq => ?_)
    · show (upd (upd H'' u _) D _) u = _
      rw [upd_ne ne.symm, upd_same]
      rfl
    · have hq2 := e _ _ (show H' q = _ from hq)
      show (upd (upd H'' u _) D _) q = _
      rw [upd_ne (ne_of hq2 hl1 (by intro z; cases z)), upd_ne (ne_of_none hq2 hu)]
      exact hq2
theorem PSt.end {Hx H' : Hp} {D : Addr} {ins : List Str} {f : Str → Int} {n : Nat} (h : PSt Hx D ins f n H') (hn : n = ins.length) : Same Hx H' ∧ ∃ ps : List Addr, H' D = some (.lst (ps.map V.ref)) ∧ Paired (PairD H') ps (kvsOf (allOf ins f)) := by
  obtain ⟨sm, ps, h1, h2⟩ := h
  rw [hn, ← allOf_len ins f, List.take_length] at h2
  exact ⟨sm, ps, h1, h2⟩
theorem paired_app {α β : Type} {F : α → β → Prop} : ∀ {a : List α} {b : List β} {c : List α} {d : List β}, Paired F a b → Paired F c d → Paired F (a ++ c) (b ++ d)
  | _, _, _, _, .nil, h => h
  | _, _, _, _, .cons r t, h => .cons r (paired_app t h)
theorem paired_rev {α β : Type} {F : α → β → Prop} : ∀ {a : List α} {b : List β}, Paired F a b → Paired F a.reverse b.reverse
  | _, _, .nil => .nil
  | _, _, .cons r t => by
    rw [List.reverse_cons, List.reverse_cons]
    exact paired_app (paired_rev t) (.cons r .nil)
theorem full_kvs (ins : List Str) (ws : Ws) : kvsOf (fullOf ins ws) = (kvsOf (allOf ins fun z => (wsGet ws z).getD 0)).reverse := by
  unfold kvsOf fullOf
  rw [List.map_reverse]
theorem merge_all {ins : List Str} {f : Str → Int} (nd : ins.Nodup) : mergeK [] (kvsOf (allOf ins f)) = kvsOf (allOf ins f) := merge_nil (by rw [all_keys]; exact nd)
theorem merge_full {ins : List Str} {ws : Ws} (nd : ins.Nodup) : mergeK [] (kvsOf (fullOf ins ws)) = kvsOf (fullOf ins ws) := merge_nil (by rw [full_keys]; exact nd_rev nd)
theorem all_flat {ins : List Str} {f : Str → Int} (nd : ins.Nodup) : ∀ p ∈ kvsOf (allOf ins f), valV (kvsOf (allOf ins f)) p.1 = some p.2 ∧ flatB p.2 = true := fun p hp => by
  obtain ⟨q, hq, rfl⟩ := List.mem_map.mp hp
  refine ⟨?_, rfl⟩
  show valV (kvsOf (allOf ins f)) (Sum.inr q.1 : Key) = some (V.int q.2)
  rw [valV_kvsOf, wsGet_mem (by rw [all_keys]; exact nd) hq]
  rfl
/-- what stands at a line of what was taken, or an empty list -/
theorem taken_len {K : PySem.W.Frag} {H H' : Hp} {M : Mx} {ns : List Nat} {kvs : List (Key × V)} {z : Str} {e : Addr} (h : (cntRun M.rs z ns = 0 ∧ valV kvs (Sum.inr z : Key) = none) ∨ ∃ l xs, valV kvs (Sum.inr z : Key) = some (.ref l) ∧ H l = some (.lst xs) ∧ xs.length = cntRun M.rs z ns) (s : Same H H') (he : H' e = some (.lst [])) :
    ∃ a ys, (valV kvs (Sum.inr z : Key)).getD (.ref e) = .ref a ∧ SqL K H' a ys ∧ ys.length = cntRun M.rs z ns := by
  rcases h with ⟨h1, h2⟩ | ⟨l, xs, h1, h2, h3⟩
  · refine ⟨e, [], by rw [h2]; rfl, SqL.of he, h1.symm⟩
  · exact ⟨l, xs, by rw [h1]; rfl, SqL.of (s _ _ h2), h3⟩
end LB
set_option Elab.async false
set_option linter.all false
set_option maxRecDepth 100000
namespace LB
open PySem PySem.Spec PyProof.Rows L2 ClX
section
variable {P : Program} {w : World} {K : PySem.W.Frag} {mg : Str → Option Value} {base : Heap} {C fI : Addr}
/-! _law_told_right -/
def spTold (C : Addr) : Sp := fun vs H Q _ => ∃ (g sc : V) (M : Mx) (s : Int) (d : Addr) (ws : Ws), vs = [g, sc, .int s, .ref d] ∧ MachAt C H g (ordM M) ∧ SceneAt H sc M ∧ ScOk M ∧ (0 ≤ s ∧ s < M.n) ∧ Reached M.rs s ∧ H d = some (.dK (kvsOf ws)) ∧ CtOk M.ins ws ∧ (ws.map (·.2)).sum ≤ 12 ∧
  ∀ H', Same H H' → Q (.bl true) H'
theorem ok__law_told_right (T : Tx K mg C fI) (D : DefAt K mg "_law_told_right" s_law_told_right) (cR : Cal P w K mg base 2 "_law_round" ["_law_scene_here", "_law_spot", "_law_sums_now"] spLRound)
    (cW : CalK P w K mg base 4 "round_with" ["machine", "standing", "counts"] ["counts", "standing", "machine"] (spWith C)) (cY : Cal P w K mg base 1 "_law_way" ["_law_scene_here", "_law_spot"] spWay)
    (cT : Cal P w K mg base 5 "taken" ["machine", "run"] (spTook C)) (cS : Cal P w K mg base 5 "stands_at" ["machine", "run"] (spStands C)) :
    CalG P w K mg base 6 "_law_told_right" ["_law_gear", "_law_scene_here", "_law_spot", "_law_sums_now"] (spTold C) := by
  refine CalG.mk D sc_law_told_right (fun _ _ _ _ _ _ us hl => match us, hl with | [_, _, _, _], _ => rfl) (fun vs H Q E h => ?_) ?_
  · obtain ⟨g, sc, M, s, d, ws, rfl, _⟩ := h
    rfl
  · rintro X cdv A outer f s H vs Q E rfl hgd hr ⟨g, sc, M, st, d, ws, rfl, hM, hS, O, hst, hre, hd, ct, h12, q⟩
    have hu := hu_of hr
    have hu64 := Nat.lt_of_le_of_lt (Nat.le_succ _) (room65 hr)
    have r1 := hr.mono (show 1 ≤ 5 by decide)
    have r2 := hr.mono (show 2 ≤ 5 by decide)
    have r4 := hr.mono (show 4 ≤ 5 by decide)
    refine ⟨_, pss_cons (ps_par (i := 4) (j := 5) rfl sc_law_told_right.nd rfl rfl (by decide) rfl rfl (pa_cons (pe_cal cR r2 (by rfl) (pa_cons (pv 1) (pa_cons (pv 2) (pa_cons (pv 3) pa_nil)))) (pa_cons (pe_callB (call_reprD hgd hu64) (by rfl) T.f_repr b_repr (pa_cons (pv 3) pa_nil)) pa_nil)) (by rfl))
      (pss_cons (ps_set (i := 6) sc_law_told_right.nd rfl (Or.inl rfl) (pe_callTy (call_dictP rfl) (by rfl) T.f_dict b_dict (pa_cons (pe_revL (pe_lc (own := [("_law_wire", 14)]) (g := gName 14) (tt := tYes) rfl sc_law_told_right.nd (pi_list (pe_ix ix_tup (pv 1) pe_int (fun _ _ => rfl))) (blkOk_by (N := N_law_told_right) (sc := defScope s_law_told_right) (by decide +kernel))
        (fun _ _ _ _ _ => pg_name (i := 14) sc_law_told_right.nd rfl (Or.inl rfl)) (fun _ _ _ _ _ => pts_nil) (fun _ _ _ _ _ => pe_tup (pa_cons (pv 14) (pa_cons (pe_dget2 hu (pv 3) (pv 14) pe_int ⟨rfl, rfl, rfl, rfl⟩) pa_nil))))) pa_nil)))
      (pss_cons (ps_for PassesOwn.never rfl (pi_list (pe_lst (pa_cons (pv 3) (pa_cons (pv 6) pa_nil)))) (pg_name (i := 7) sc_law_told_right.nd rfl (Or.inl rfl))
        (pss_cons (ps_set (i := 8) sc_law_told_right.nd rfl (Or.inl rfl) (pe_cal cW.cal r4 (by rfl) (pa_cons (pv 0) (pa_cons (pv 2) (pa_cons (pv 7) pa_nil)))))
        (pss_cons (ps_if (PW.pt (pw_or (pt_cmpR op_ne (pe_callB (call_reprA hgd hu64) (by rfl) T.f_repr b_repr (pa_cons (pv 8) pa_nil)) (pe_callB (call_reprA hgd hu64) (by rfl) T.f_repr b_repr (pa_cons (pv 4) pa_nil)) (by rfl))
            (pw_or1 (pt_cmpR op_ne (pe_callB (call_reprA hgd hu64) (by rfl) T.f_repr b_repr (pa_cons (pe_calK cW r4 (by rfl) (pk_cons (pv 7) (pk_cons (pv 2) (pk_cons (pv 0) pk_nil)))) pa_nil)) (pe_callB (call_reprA hgd hu64) (by rfl) T.f_repr b_repr (pa_cons (pv 4) pa_nil)) (by rfl))))) (pss_one (ps_ret pe_bl)) pss_nil)
        (pss_one (ps_if (pt_cmp (pc_notN (pv 8))) (pss_one (ps_expr (pe_bm PySem.F.plainAttrs_list PySem.F.slot_list_append PySem.F.type_list_append mt_append (pv 8) (pa_cons pe_non pa_nil)))) pss_nil)))))
      (pss_cons (ps_if (PW.pt (pw_or (pt_cmp (pc_isN (pv 4))) (pw_or1 (pt_cmpR op_ne (pe_callB (call_reprD hgd hu64) (by rfl) T.f_repr b_repr (pa_cons (pv 3) pa_nil)) (pv 5) (by rfl))))) (pss_one (ps_ret (pe_cmpR op_eq (pe_callB (call_reprD hgd hu64) (by rfl) T.f_repr b_repr (pa_cons (pv 3) pa_nil)) (pv 5) (by rfl)))) pss_nil)
      (pss_cons (ps_set (i := 9) sc_law_told_right.nd rfl (Or.inl rfl) (pe_cal cY r1 (by rfl) (pa_cons (pv 1) (pa_cons (pv 2) pa_nil))))
      (pss_cons (ps_asg (pe_tup (pa_cons (pe_cal cT hr (by rfl) (pa_cons (pv 0) (pa_cons (pv 9) pa_nil))) (pa_cons (pe_cal cT hr (by rfl) (pa_cons (pv 0) (pa_cons (pe_op op_cat (pe_op op_cat (pv 9) (pv 4)) (pv 4)) pa_nil))) pa_nil))) (pg_tup rfl (pgs_cons (pg_name (i := 10) sc_law_told_right.nd rfl (Or.inr rfl)) (pgs_cons (pg_name (i := 11) sc_law_told_right.nd rfl (Or.inr rfl)) pgs_nil))))
      (pss_cons (ps_set (i := 12) sc_law_told_right.nd rfl (Or.inl rfl) (pe_callTy (call_dictP rfl) (by rfl) T.f_dict b_dict (pa_cons (pe_lc (own := [("_law_wire", 14)]) (g := gName 14) (tt := tYes) rfl sc_law_told_right.nd (pi_list (pe_ix ix_tup (pv 1) pe_int (fun _ _ => rfl))) (blkOk_by (N := N_law_told_right) (sc := defScope s_law_told_right) (by decide +kernel))
        (fun _ _ _ _ _ => pg_name (i := 14) sc_law_told_right.nd rfl (Or.inl rfl)) (fun _ _ _ _ _ => pts_nil) (fun _ _ _ _ _ => pe_tup (pa_cons (pv 14) (pa_cons (pe_op op_sub (pe_callB (call_len_seqK K) (by rfl) T.f_len b_len (pa_cons (pe_dget2 hu (pv 11) (pv 14) (pe_lst pa_nil) ⟨rfl, rfl, rfl, rfl⟩) pa_nil))
          (pe_callB (call_len_seqK K) (by rfl) T.f_len b_len (pa_cons (pe_dget2 hu (pv 10) (pv 14) (pe_lst pa_nil) ⟨rfl, rfl, rfl, rfl⟩) pa_nil))) pa_nil)))) pa_nil)))
      (pss_cons (ps_set (i := 13) sc_law_told_right.nd rfl (Or.inl rfl) (pe_callTy (call_dictP rfl) (by rfl) T.f_dict b_dict (pa_cons (pe_lc (own := [("_law_wire", 14)]) (g := gName 14) (tt := tYes) rfl sc_law_told_right.nd (pi_list (pe_ix ix_tup (pv 1) pe_int (fun _ _ => rfl))) (blkOk_by (N := N_law_told_right) (sc := defScope s_law_told_right) (by decide +kernel))
        (fun _ _ _ _ _ => pg_name (i := 14) sc_law_told_right.nd rfl (Or.inl rfl)) (fun _ _ _ _ _ => pts_nil) (fun _ _ _ _ _ => pe_tup (pa_cons (pv 14) (pa_cons (pe_op op_mul pe_int (pe_dget2 hu (pv 3) (pv 14) pe_int ⟨rfl, rfl, rfl, rfl⟩)) pa_nil)))) pa_nil)))
      (pss_one (ps_ret (pe_and (pe_cmpR op_eq (pe_cal cS hr (by rfl) (pa_cons (pv 0) (pa_cons (pe_op op_cat (pv 9) (pv 4)) pa_nil))) (pv 2) (by rfl)) (pe_one (pe_cmpR (op_eq_dictA hr.units0) (pv 12) (pv 13) (by rfl))))))))))))), ?_⟩
    obtain ⟨a, li, lo, ld, rv, rfl, g0, g1, g2, g3, gr⟩ := id hS
    have hI := insL_ok _ O.i
    have nd := O.mok.nd
    have hl4 := O.mok.i4.2
    have hshort : ∀ p ∈ ws, ShortT p.1 ∧ SmallI p.2 := fun p hp => by
      refine ⟨hI.2.2.2 _ (ct.1 p hp).1, ?_⟩
      have h1 := (ct.1 p hp).2
      have h2 : p.2 ≤ (ws.map (·.2)).sum := le_sum (fun x hx => by
        obtain ⟨y, hy, rfl⟩ := List.mem_map.mp hx
        exact (ct.1 y hy).2) (List.mem_map.mpr ⟨p, hp, rfl⟩)
      show p.2.natAbs < 10 ^ 12
      omega
    -- due, kept
    refine ⟨_, rfl, _, rfl, _, rfl, _, M, st, d, ws, rfl, hS, O.mok, hst, hd, ct, h12, fun dv H1 res s1 hres hdue => ?_⟩
    have hd1 := s1 _ _ hd
    refine ⟨_, rfl, d, ws, rfl, hd1, hshort, ct.2.2, _, _, rfl, ?_⟩
    have hshR : ShortR res := fun p hp => by
      subst hp
      obtain ⟨l1, l2, l3, l4⟩ := round_is O hst ct h12 hres
      refine ⟨by omega, fun n hn => ?_⟩
      have e1 := leads_lt l1 n hn
      have e2 := O.le
      omega
    -- full
    refine ⟨_, rfl, a, _, 0, _, rfl, rfl, SqT.of (s1 _ _ g0), atI_nat (j := 0) rfl, li, rfl, ⟨_, SqL.of (s1 _ _ g1)⟩, fun D1 hD1 => ?_⟩
    refine lc_it (walk_list (K := K) (a := li) (xs := M.ins.map V.str)) (PSt H1 D1 M.ins fun z => (wsGet ws z).getD 0) (PSt.zero hD1) (fun i H' _ hp => SqL.of (hp.1 _ _ (s1 _ _ g1))) ?_ ?_
    · rintro i x H2 H3 hi hp ⟨rfl, hx⟩
      obtain ⟨z, hz, rfl⟩ := map_at hx
      refine ⟨rfl, ?_⟩
      refine yesT ?_
      have hd3 := hp.1 _ _ hd1
      have ev : (((wsGet ws z).map V.int).getD (V.int 0)) = V.int ((wsGet ws z).getD 0) := by cases wsGet ws z <;> rfl
      refine ⟨_, rfl, _, rfl, d, rfl, .inl ⟨_, .inl hd3⟩, _, rfl, _, dg_ws (z := z) (.inl hd3), by show 2 ≤ sizeLine; decide, fun u hu2 => ?_⟩
      show ∃ acc, (upd H3 u (.tup [.str z, (((wsGet ws z).map V.int).getD (V.int 0))])) D1 = some (.lst acc) ∧ acc.length < sizeLine ∧ PSt H1 D1 M.ins (fun z => (wsGet ws z).getD 0) (i + 1) (upd (upd H3 u (.tup [.str z, (((wsGet ws z).map V.int).getD (V.int 0))])) D1 (.lst (acc ++ [.ref u])))
      rw [ev]
      exact hp.step hD1 (Same.refl _) hu2 hz (by omega)
    rintro H2 hp
    obtain ⟨sm2, ps, hps1, hps2⟩ := hp.end (List.length_map _)
    refine ⟨D1, _, rfl, SqL.of hps1, fun rl hrl => ?_⟩
    refine ⟨rl, ps.reverse, kvsOf (fullOf M.ins ws), rfl, SqL.of (by rw [upd_same, List.map_reverse]), ?_, fun df hdf => ?_⟩
    · rw [full_kvs]
      exact paired_mono (paired_rev hps2) fun q kv h => SqT.of (sm_new hrl _ _ h)
    rw [merge_full nd]
    have s3 : Same H1 (upd (upd H2 rl (.lst (ps.map V.ref).reverse)) df (.dK (kvsOf (fullOf M.ins ws)))) := (sm2.trans (sm_new hrl)).trans (sm_new hdf)
    have hdf3 : (upd (upd H2 rl (.lst (ps.map V.ref).reverse)) df (.dK (kvsOf (fullOf M.ins ws)))) df = some (.dK (kvsOf (fullOf M.ins ws))) := upd_same
    clear hps1 hps2 hp
    revert s3 hdf3
    generalize upd (upd H2 rl (.lst (ps.map V.ref).reverse)) df (.dK (kvsOf (fullOf M.ins ws))) = H3
    intro s3 hdf3
    -- the two that are given
    refine ⟨_, rfl, _, rfl, by show 2 ≤ sizeLine; decide, fun gl hgl => ⟨gl, rfl, ⟨_, SqL.of upd_same⟩, ?_⟩⟩
    have s4 : Same H (upd H3 gl (.lst [.ref d, .ref df])) := (s1.trans s3).trans (sm_new hgl)
    have hgl4 : (upd H3 gl (.lst [.ref d, .ref df])) gl = some (.lst [.ref d, .ref df]) := upd_same
    have hdf4 := sm_new (o := .lst [.ref d, .ref df]) hgl _ _ hdf3
    have hdue4 := hdue.mono (s3.trans (sm_new (o := .lst [.ref d, .ref df]) hgl))
    revert s4 hgl4 hdf4 hdue4
    generalize upd H3 gl (.lst [.ref d, .ref df]) = H4
    intro s4 hgl4 hdf4 hdue4
    refine for_it (walk_list (K := K) (a := gl) (xs := [.ref d, .ref df])) (fun i σ H' => ∃ (b7 b8 b9 b10 b11 b12 b13 b14 : Option V), σ = [some g, some (.ref a), some (.int st), some (.ref d), some dv, some (.str (dWs ws).shown), some (.ref df), b7, b8, b9, b10, b11, b12, b13, b14] ∧ Same H4 H')
      ⟨_, _, _, _, _, _, _, _, rfl, Same.refl _⟩ (fun i σ H' _ ⟨_, _, _, _, _, _, _, _, _, z⟩ => SqL.of (z _ _ hgl4)) ?_ ?_
    · rintro i x σ H5 H6 hi ⟨b7, b8, b9, b10, b11, b12, b13, b14, rfl, s5⟩ ⟨rfl, hx⟩
      have s05 := s4.trans s5
      obtain ⟨dg, wg, rfl, hdg, ctg, h12g, hlg⟩ : ∃ (dg : Addr) (wg : Ws), x = V.ref dg ∧ H6 dg = some (.dK (kvsOf wg)) ∧ CtOk M.ins wg ∧ (wg.map (·.2)).sum ≤ 12 ∧ leftOf M.ins wg = leftOf M.ins ws := by
        have hm := List.mem_of_getElem? hx
        rcases List.mem_cons.mp hm with z | hm
        · exact ⟨d, ws, z, s05 _ _ hd, ct, h12, rfl⟩
        · exact ⟨df, fullOf M.ins ws, List.mem_singleton.mp hm, s5 _ _ hdf4, full_ct nd (by omega) ct, by rw [full_sum nd (by omega) ct]; exact h12, full_left nd⟩
      have same : ∀ {r2 : Option (List Nat)}, IsRound (ordM M).rs (ordM M).ins (st, leftOf (ordM M).ins wg) (st, zerosN (ordM M).ins.length) r2 → r2 = res := fun {r2} h => by
        refine round_same O hst ct (round_ord (ins := M.ins) (outs := M.outs) ?_) hres
        rw [← hlg]
        exact h
      refine ⟨_, rfl, _, rfl, _, rfl, _, ordM M, st, dg, wg, rfl, hM.mono s05, O.mokO, hst, reached_ord hre, hdg, ctg, h12g, fun tv H7 r2 s7 i7 t7 => ?_⟩
      obtain rfl := same i7
      have hdue7 := (hdue4.mono s5).mono s7
      cases r2 with
      | none =>
        obtain rfl : tv = .non := t7
        obtain rfl : dv = .non := hdue7
        refine ⟨_, rfl, .inl ⟨rfl, _, rfl, .inl ⟨rfl, rfl, false, by simp, ?_⟩⟩⟩
        refine iteF ?_
        refine ⟨_, rfl, _, rfl, _, rfl, rfl, rfl, _, ordM M, st, dg, wg, rfl, hM.mono (s05.trans s7), O.mokO, hst, reached_ord hre, s7 _ _ hdg, ctg, h12g, fun tv2 H8 r3 s8 i8 t8 => ?_⟩
        obtain rfl := same i8
        obtain rfl : tv2 = .non := t8
        refine .inl ⟨rfl, _, rfl, .inl ⟨rfl, rfl, false, by simp, ?_⟩⟩
        refine iteF ?_
        refine ⟨_, rfl, false, by simp, ?_⟩
        refine iteF ?_
        exact ⟨_, _, _, _, _, _, _, _, rfl, s5.trans (s7.trans s8)⟩
      | some p =>
        obtain ⟨ta, rfl, ta1, ta2⟩ := t7
        obtain ⟨da, rfl, da2⟩ := hdue7
        obtain ⟨l1, l2⟩ := hshR p rfl
        have hsm : ∀ n ∈ p.map (fun (n : Nat) => (n : Int)), SmallI n := fun n hn => by
          obtain ⟨m, hm, rfl⟩ := List.mem_map.mp hn
          have := l2 m hm
          show ((m : Int)).natAbs < 10 ^ 12
          omega
        have hln : (p.map (fun (n : Nat) => (n : Int))).length ≤ 1000 := by
          rw [List.length_map]
          exact l1
        have sq : ∀ {b : Addr} {G : Hp}, G b = some (.lst (nums p)) → SqL K G b ((p.map (fun (n : Nat) => (n : Int))).map V.int) := fun {b G} h => SqL.of (by rw [← nums_ints]; exact h)
        refine ⟨_, rfl, .inr ⟨ta, _, rfl, sq ta2, hsm, hln, _, rfl, .inr ⟨da, _, rfl, sq da2, hsm, hln, rfl, false, by simp, ?_⟩⟩⟩
        refine iteF ?_
        refine ⟨_, rfl, _, rfl, _, rfl, rfl, rfl, _, ordM M, st, dg, wg, rfl, hM.mono (s05.trans s7), O.mokO, hst, reached_ord hre, s7 _ _ hdg, ctg, h12g, fun tv2 H8 r3 s8 i8 t8 => ?_⟩
        obtain rfl := same i8
        obtain ⟨tb, rfl, tb1, tb2⟩ := t8
        refine .inr ⟨tb, _, rfl, sq tb2, hsm, hln, _, rfl, .inr ⟨da, _, rfl, sq (s8 _ _ da2), hsm, hln, rfl, false, by simp, ?_⟩⟩
        refine iteF ?_
        refine ⟨_, rfl, true, by simp, ?_⟩
        refine iteT ?_
        have ta3 := s8 _ _ ta2
        refine ⟨_, rfl, .inl ⟨rfl, _, SqL.of ta3⟩, ta, _, _, rfl, rfl, ta3, by rw [nums_len]; exact small1000 l1, ?_⟩
        exact ⟨_, _, _, _, _, _, _, _, rfl, s5.trans (sm_mut (s7.trans s8) ta1)⟩
    rintro σ H5 ⟨b7, b8, b9, b10, b11, b12, b13, b14, rfl, s5⟩
    have s05 := s4.trans s5
    have hdue5 := hdue4.mono s5
    have hd5 := s05 _ _ hd
    cases res with
    | none =>
      obtain rfl : dv = .non := hdue5
      refine ⟨_, rfl, true, by simp, ?_⟩
      refine iteT ?_
      refine ⟨_, rfl, d, ws, rfl, hd5, hshort, ct.2.2, _, rfl, rfl, ?_⟩
      rw [decide_eq_true rfl]
      exact q _ s05
    | some p =>
    obtain ⟨al, rfl, hal⟩ := hdue5
    refine ⟨_, rfl, false, by simp, ?_⟩
    refine iteF ?_
    refine ⟨_, rfl, d, ws, rfl, hd5, hshort, ct.2.2, _, rfl, rfl, false, by simp, ?_⟩
    refine iteF ?_
    obtain ⟨l1, l2, l3, l4⟩ := round_is O hst ct h12 hres
    -- the way
    refine ⟨_, rfl, _, rfl, _, M, st, rfl, hS.mono s05, O.mok.sz, fun r hr => (O.mok.ok r hr).1, hre, fun wl wn H6 s6 hwl wld wto wlen => ?_⟩
    have s06 := s05.trans s6
    have hal6 := s6 _ _ hal
    have lw : Leads (ordM M).rs 0 wn := leads_ord wld
    have lp : Leads (ordM M).rs 0 (wn ++ p) := leads_ord (leads_append wld (by rw [wto]; exact l1))
    have lpp : Leads (ordM M).rs 0 (wn ++ p ++ p) := leads_ord (leads_append (leads_append wld (by rw [wto]; exact l1)) (by rw [ledTo_append, wto, l2]; exact l1))
    -- one, two
    refine ⟨_, rfl, _, rfl, g, ordM M, wl, wn, rfl, hM.mono s06, hwl, lw, by omega, ⟨nd, hl4⟩, O.wkO, fun v1 H7 s7 t1 => ?_⟩
    have hwl7 := s7 _ _ hwl
    have hal7 := s7 _ _ hal6
    refine ⟨_, rfl, _, rfl, _, rfl, wl, al, _, _, rfl, rfl, hwl7, hal7, ?_, fun c1 hc1 => ⟨_, rfl, c1, al, _, _, rfl, rfl, upd_same, sm_new hc1 _ _ hal7, ?_, fun c2 hc2 => ?_⟩⟩
    · rw [nums_len, nums_len]
      exact Nat.le_trans (show wn.length + p.length ≤ 24 by omega) (by decide)
    · rw [List.length_append, nums_len, nums_len]
      exact Nat.le_trans (show wn.length + p.length + p.length ≤ 36 by omega) (by decide)
    have s8 : Same H7 (upd (upd H7 c1 (.lst (nums wn ++ nums p))) c2 (.lst (nums wn ++ nums p ++ nums p))) := (sm_new hc1).trans (sm_new hc2)
    have hc8 : (upd (upd H7 c1 (.lst (nums wn ++ nums p))) c2 (.lst (nums wn ++ nums p ++ nums p))) c2 = some (.lst (nums (wn ++ p ++ p))) := by
      rw [upd_same, nums_append, nums_append]
    revert s8 hc8
    generalize upd (upd H7 c1 (.lst (nums wn ++ nums p))) c2 (.lst (nums wn ++ nums p ++ nums p)) = H8
    intro s8 hc8
    have s08 := (s06.trans s7).trans s8
    refine ⟨g, ordM M, c2, wn ++ p ++ p, rfl, hM.mono s08, hc8, lpp, by rw [List.length_append, List.length_append]; omega, ⟨nd, hl4⟩, O.wkO, fun v2 H9 s9 t2 => ?_⟩
    refine ⟨by show 2 ≤ sizeLine; decide, fun tt htt => ?_⟩
    refine ⟨tt, _, rfl, SqT.of upd_same, rfl, _, _, rfl, _, _, rfl, rfl, ?_⟩
    have s10 := sm_new (o := .tup [v1, v2]) htt
    revert s10
    generalize upd H9 tt (.tup [v1, v2]) = H10
    intro s10
    have s710 := (s8.trans s9).trans s10
    have s010 := (s06.trans s7).trans s710
    obtain ⟨p1, kv1, rfl, hp1, k1⟩ := t1
    obtain ⟨p2, kv2, rfl, hp2, k2⟩ := t2
    have hp1' := s710 _ _ hp1
    have hp2' := s10 _ _ hp2
    have hwl10 := s710 _ _ hwl7
    have hal10 := s710 _ _ hal7
    have hg1 := s010 _ _ g1
    have hd10 := s010 _ _ hd
    -- more
    refine ⟨_, rfl, a, _, 0, _, rfl, rfl, SqT.of (s010 _ _ g0), atI_nat (j := 0) rfl, li, rfl, ⟨_, SqL.of hg1⟩, fun D2 hD2 => ?_⟩
    refine lc_it (walk_list (K := K) (a := li) (xs := M.ins.map V.str)) (PSt H10 D2 M.ins fun z => ((cntRun (ordM M).rs z (wn ++ p ++ p) : Nat) : Int) - ((cntRun (ordM M).rs z wn : Nat) : Int)) (PSt.zero hD2) (fun i H' _ hp => SqL.of (hp.1 _ _ hg1)) ?_ ?_
    · rintro i x H2 H3 hi hp ⟨rfl, hx⟩
      obtain ⟨z, hz, rfl⟩ := map_at hx
      have hzm := List.mem_of_getElem? hz
      refine ⟨rfl, ?_⟩
      refine yesT ?_
      refine ⟨_, rfl, _, rfl, p2, rfl, .inl ⟨_, .inl (hp.1 _ _ hp2')⟩, _, rfl, by show 0 ≤ sizeLine; decide, fun e1 he1 => ?_⟩
      have q1 := sm_new (o := .lst []) he1
      refine ⟨_, DGet.k (k := Sum.inr z) (q1 _ _ (hp.1 _ _ hp2')), ?_⟩
      obtain ⟨a1, y1, w1, w2, w3⟩ := taken_len (K := K) (k2 z hzm) (s10.trans (hp.1.trans q1)) (upd_same : (upd H3 e1 (.lst [])) e1 = some (.lst []))
      refine ⟨a1, y1, by rw [w1], .inl w2, ?_⟩
      revert q1
      generalize upd H3 e1 (.lst []) = H3a
      intro q1
      refine ⟨_, rfl, p1, rfl, .inl ⟨_, .inl (q1 _ _ (hp.1 _ _ hp1'))⟩, _, rfl, by show 0 ≤ sizeLine; decide, fun e2 he2 => ?_⟩
      have q2 := sm_new (o := .lst []) he2
      refine ⟨_, DGet.k (k := Sum.inr z) (q2 _ _ (q1 _ _ (hp.1 _ _ hp1'))), ?_⟩
      obtain ⟨a2, y2, w4, w5, w6⟩ := taken_len (K := K) (k1 z hzm) (s710.trans (hp.1.trans (q1.trans q2))) (upd_same : (upd H3a e2 (.lst [])) e2 = some (.lst []))
      refine ⟨a2, y2, by rw [w4], .inl w5, _, _, rfl, rfl, by show 2 ≤ sizeLine; decide, fun u hu2 => ?_⟩
      have fin := hp.step hD2 (q1.trans q2) hu2 hz (by omega)
      rw [← w3, ← w6] at fin
      exact fin
    rintro H11 hp
    obtain ⟨sm11, ps, hps1, hps2⟩ := hp.end (List.length_map _)
    refine ⟨D2, ps, _, rfl, SqL.of hps1, paired_mono hps2 fun q kv h => SqT.of h, fun dm hdm => ?_⟩
    rw [merge_all nd]
    have s11 := sm11.trans (sm_new (o := .dK (kvsOf (allOf M.ins fun z => ((cntRun (ordM M).rs z (wn ++ p ++ p) : Nat) : Int) - ((cntRun (ordM M).rs z wn : Nat) : Int)))) hdm)
    have hdm11 : (upd H11 dm (.dK (kvsOf (allOf M.ins fun z => ((cntRun (ordM M).rs z (wn ++ p ++ p) : Nat) : Int) - ((cntRun (ordM M).rs z wn : Nat) : Int))))) dm = some (.dK (kvsOf (allOf M.ins fun z => ((cntRun (ordM M).rs z (wn ++ p ++ p) : Nat) : Int) - ((cntRun (ordM M).rs z wn : Nat) : Int)))) := upd_same
    have efg : (allOf M.ins fun z => ((cntRun (ordM M).rs z (wn ++ p ++ p) : Nat) : Int) - ((cntRun (ordM M).rs z wn : Nat) : Int)) = allOf M.ins fun z => 2 * (wsGet ws z).getD 0 := by
      unfold allOf
      refine List.map_congr_left fun z hz => ?_
      have e1 : cntRun (ordM M).rs z (wn ++ p ++ p) = cntRun M.rs z wn + cntRun M.rs z p + cntRun M.rs z p := by
        rw [show cntRun (ordM M).rs z (wn ++ p ++ p) = cntRun M.rs z (wn ++ p ++ p) from cnt_ord hz _, cntRun_append, cntRun_append]
      have e2 : cntRun (ordM M).rs z wn = cntRun M.rs z wn := cnt_ord hz _
      have e3 := l4 z hz
      refine Prod.ext rfl ?_
      show ((cntRun (ordM M).rs z (wn ++ p ++ p) : Nat) : Int) - ((cntRun (ordM M).rs z wn : Nat) : Int) = 2 * (wsGet ws z).getD 0
      rw [e1, e2]
      omega
    rw [efg] at hdm11 s11 ⊢
    clear hps1 hps2 hp efg
    revert s11 hdm11
    generalize upd H11 dm (.dK (kvsOf (allOf M.ins fun z => 2 * (wsGet ws z).getD 0))) = H12
    intro s11 hdm11
    have s012 := s010.trans s11
    have hd12 := s11 _ _ hd10
    -- twice
    refine ⟨_, rfl, a, _, 0, _, rfl, rfl, SqT.of (s012 _ _ g0), atI_nat (j := 0) rfl, li, rfl, ⟨_, SqL.of (s012 _ _ g1)⟩, fun D3 hD3 => ?_⟩
    refine lc_it (walk_list (K := K) (a := li) (xs := M.ins.map V.str)) (PSt H12 D3 M.ins fun z => 2 * (wsGet ws z).getD 0) (PSt.zero hD3) (fun i H' _ hp => SqL.of (hp.1 _ _ (s012 _ _ g1))) ?_ ?_
    · rintro i x H2 H3 hi hp ⟨rfl, hx⟩
      obtain ⟨z, hz, rfl⟩ := map_at hx
      refine ⟨rfl, ?_⟩
      refine yesT ?_
      have hd3 := hp.1 _ _ hd12
      have ev : (((wsGet ws z).map V.int).getD (V.int 0)) = V.int ((wsGet ws z).getD 0) := by cases wsGet ws z <;> rfl
      refine ⟨_, rfl, _, rfl, d, rfl, .inl ⟨_, .inl hd3⟩, _, rfl, _, dg_ws (z := z) (.inl hd3), _, _, rfl, ev, .inl ⟨by decide, by decide⟩, by show 2 ≤ sizeLine; decide, fun u hu2 => ?_⟩
      exact hp.step hD3 (Same.refl _) hu2 hz (by omega)
    rintro H13 hp
    obtain ⟨sm13, ps3, hps1, hps2⟩ := hp.end (List.length_map _)
    refine ⟨D3, ps3, _, rfl, SqL.of hps1, paired_mono hps2 fun q kv h => SqT.of h, fun dw hdw => ?_⟩
    rw [merge_all nd]
    have s13 := sm13.trans (sm_new (o := .dK (kvsOf (allOf M.ins fun z => 2 * (wsGet ws z).getD 0))) hdw)
    have hdw13 : (upd H13 dw (.dK (kvsOf (allOf M.ins fun z => 2 * (wsGet ws z).getD 0)))) dw = some (.dK (kvsOf (allOf M.ins fun z => 2 * (wsGet ws z).getD 0))) := upd_same
    clear hps1 hps2 hp
    revert s13 hdw13
    generalize upd H13 dw (.dK (kvsOf (allOf M.ins fun z => 2 * (wsGet ws z).getD 0))) = H14
    intro s13 hdw13
    have s014 := s012.trans s13
    have hdm14 := s13 _ _ hdm11
    have hwl14 := s13 _ _ (s11 _ _ hwl10)
    have hal14 := s13 _ _ (s11 _ _ hal10)
    -- the end
    refine ⟨_, rfl, _, rfl, _, rfl, wl, al, _, _, rfl, rfl, hwl14, hal14, ?_, fun c3 hc3 => ?_⟩
    · rw [nums_len, nums_len]
      exact Nat.le_trans (show wn.length + p.length ≤ 24 by omega) (by decide)
    have s15 := sm_new (o := .lst (nums wn ++ nums p)) hc3
    have hc15 : (upd H14 c3 (.lst (nums wn ++ nums p))) c3 = some (.lst (nums (wn ++ p))) := by rw [upd_same, nums_append]
    revert s15 hc15
    generalize upd H14 c3 (.lst (nums wn ++ nums p)) = H15
    intro s15 hc15
    refine ⟨g, ordM M, c3, wn ++ p, rfl, hM.mono (s014.trans s15), hc15, lp, fun H16 s16 => ?_⟩
    have elt : ledTo (ordM M).rs 0 (wn ++ p) = st := by
      rw [show ledTo (ordM M).rs 0 (wn ++ p) = ledTo M.rs 0 (wn ++ p) from ledTo_ord _ _, ledTo_append, wto, l2]
    refine ⟨_, rfl, rfl, true, by rw [elt, decide_eq_true rfl], ?_⟩
    refine iteT ?_
    exact ⟨_, rfl, _, rfl, dm, dw, _, _, rfl, rfl, s16 _ _ (s15 _ _ hdm14), s16 _ _ (s15 _ _ hdw13), rfl, all_flat nd, q _ ((s014.trans s15).trans s16)⟩
end
end LB
set_option Elab.async false
set_option linter.all false
set_option maxRecDepth 100000
namespace LB
open PySem PySem.Spec PyProof.Rows L2 ClX
theorem potOff {p b : Addr} {H : Hp} {o : HO} (hp : PotAt H p) (h : H b = some o) (n : ∀ l, o ≠ .lst l) : off [p] H b = some o := off_in h fun m => by
  obtain ⟨x, y, e1, _⟩ := hp
  rw [List.mem_singleton.mp m, e1] at h
  cases h
  exact n _ rfl
theorem machOff {C p : Addr} {H : Hp} {v : V} {M : Mx} (hp : PotAt H p) (h : MachAt C H v M) : MachAt C (off [p] H) v M := by
  obtain ⟨q, dx, t1, t2, t4, vs, ev, h0, h1, h2, h3, h4⟩ := h
  refine ⟨q, dx, t1, t2, t4, vs, ev, potOff hp h0 (by intro l z; cases z), potOff hp h1 (by intro l z; cases z), potOff hp h2 (by intro l z; cases z), potOff hp h3 (by intro l z; cases z), paired_mono h4 fun x r hr => ?_⟩
  obtain ⟨a, d1, d2, ev, e1, e2, e3⟩ := hr
  exact ⟨a, d1, d2, ev, potOff hp e1 (by intro l z; cases z), potOff hp e2 (by intro l z; cases z), potOff hp e3 (by intro l z; cases z)⟩
section
variable {P : Program} {w : World} {K : PySem.W.Frag} {mg : Str → Option Value} {base : Heap} {C fI : Addr}
/-! _law_right -/
def spRight : Sp := fun vs H Q _ => ∃ (p : Addr), vs = [.ref p] ∧ PotAt H p ∧ ∀ H', SamB p H H' → PotAt H' p → Q (.bl true) H'
theorem ok__law_right {fd : FuncData} (T : Tx K mg C fI) (D : DefAt K mg "_law_right" s_law_right) (fIo : FnOk P w K mg base CX0 6 fI fd ["self", "ins", "outs", "standings", "reactions"] (spInit C)) (bI : L2.Binds K fd ["self", "ins", "outs", "standings", "reactions"] [])
    (cSc : Cal P w K mg base 4 "_law_scene" ["_law_pot_here", "_law_most_size", "_law_most_deeds"] spScene) (cN : Cal P w K mg base 1 "_law_near" ["_law_scene_here"] spNear)
    (cWk : Cal P w K mg base 3 "_law_walked" ["_law_pot_here", "_law_scene_here", "_law_spot"] spWalked) (cDr : Cal P w K mg base 3 "_law_drawn" ["_law_pot_here", "_law_scene_here"] spDrawn)
    (cT : CalG P w K mg base 6 "_law_told_right" ["_law_gear", "_law_scene_here", "_law_spot", "_law_sums_now"] (spTold C)) (cW : CalK P w K mg base 4 "round_with" ["machine", "standing", "counts"] ["counts", "standing", "machine"] (spWith C)) :
    CalG P w K mg base 8 "_law_right" ["_law_pot_here"] spRight := by
  refine CalG.mk D sc_law_right (fun _ _ _ _ _ _ us hl => match us, hl with | [_], _ => rfl) (fun vs H Q E h => ?_) ?_
  · obtain ⟨p, rfl, _⟩ := h
    rfl
  · rintro X cdv A outer f s H vs Q E rfl hgd hr ⟨p, rfl, hp, q⟩
    have hu := hu_of hr
    have r1 := hr.mono (show 1 ≤ 7 by decide)
    have r3 := hr.mono (show 3 ≤ 7 by decide)
    have r4 := hr.mono (show 4 ≤ 7 by decide)
    have r6 := hr.mono (show 6 ≤ 7 by decide)
    refine ⟨_, pss_cons (ps_set (i := 1) sc_law_right.nd rfl (Or.inr rfl) (pe_cal cSc r4 (by rfl) (pa_cons (pv 0) (pa_cons pe_int (pa_cons pe_int pa_nil)))))
      (pss_cons (ps_set (i := 2) sc_law_right.nd rfl (Or.inr rfl) (pe_make T.make fIo hr (by rfl) T.gC bI .nil pass0 (pa_cons (pe_ix ix_tup (pv 1) pe_int (fun _ _ => rfl)) (pa_cons (pe_ix ix_tup (pv 1) pe_int (fun _ _ => rfl)) (pa_cons (pe_ix ix_tup (pv 1) pe_int (fun _ _ => rfl)) (pa_cons (pe_ix ix_tup (pv 1) pe_int (fun _ _ => rfl)) pa_nil))))))
      (pss_cons (ps_for PassesOwn.never rfl (pi_list (pe_cal cN r1 (by rfl) (pa_cons (pv 1) pa_nil))) (pg_name (i := 3) sc_law_right.nd rfl (Or.inr rfl))
        (pss_cons (ps_set (i := 4) sc_law_right.nd rfl (Or.inl rfl) (pe_lst (pa_cons pe_dnewK (pa_cons (pe_cal cWk r3 (by rfl) (pa_cons (pv 0) (pa_cons (pv 1) (pa_cons (pv 3) pa_nil)))) (pa_cons (pe_cal cWk r3 (by rfl) (pa_cons (pv 0) (pa_cons (pv 1) (pa_cons (pv 3) pa_nil))))
          (pa_cons (pe_cal cDr r3 (by rfl) (pa_cons (pv 0) (pa_cons (pv 1) pa_nil))) (pa_cons (pe_cal cDr r3 (by rfl) (pa_cons (pv 0) (pa_cons (pv 1) pa_nil))) pa_nil)))))))
        (pss_cons (ps_if (pt_not (pt_val (pe_callB (cr_all rfl) (by rfl) T.f_all b_all (pa_cons (pe_lc (own := [("_law_sums_now", 5)]) (g := gName 5) (tt := tYes) rfl sc_law_right.nd (pi_list (pv 4)) (blkOk_by (N := N_law_right) (sc := defScope s_law_right) (by decide +kernel))
            (fun _ _ _ _ _ => pg_name (i := 5) sc_law_right.nd rfl (Or.inl rfl)) (fun _ _ _ _ _ => pts_nil) (fun _ _ _ _ _ => pe_calG cT hgd r6 (by rfl) (pa_cons (pv 2) (pa_cons (pv 1) (pa_cons (pv 3) (pa_cons (pv 5) pa_nil)))))) pa_nil)))) (pss_one (ps_ret pe_bl)) pss_nil)
        (pss_one (ps_if (pt_cmpR (op_neNil hr.units0) (pe_cal cW.cal r4 (by rfl) (pa_cons (pv 2) (pa_cons (pv 3) (pa_cons (pe_callTy (call_dictP rfl) (by rfl) T.f_dict b_dict (pa_cons (pe_lc (own := [("_law_wire", 6)]) (g := gName 6) (tt := tYes) rfl sc_law_right.nd (pi_list (pe_ix ix_tup (pv 1) pe_int (fun _ _ => rfl))) (blkOk_by (N := N_law_right) (sc := defScope s_law_right) (by decide +kernel))
            (fun _ _ _ _ _ => pg_name (i := 6) sc_law_right.nd rfl (Or.inl rfl)) (fun _ _ _ _ _ => pts_nil) (fun _ _ _ _ _ => pe_tup (pa_cons (pv 6) (pa_cons pe_int pa_nil)))) pa_nil)) pa_nil)))) (pe_lst pa_nil) (nomark _)) (pss_one (ps_ret pe_bl)) pss_nil)))))
      (pss_one (ps_ret pe_bl)))), ?_⟩
    -- the scene
    refine ⟨_, rfl, p, rfl, hp, fun sv M H1 sb1 pt1 hS1 O => ?_⟩
    obtain ⟨a, li, lo, ld, rv, rfl, g0, g1, g2, g3, gr⟩ := id hS1
    have G0 := (off_at g0).1
    -- the machine
    refine ⟨_, rfl, a, _, 0, _, rfl, rfl, SqT.of G0, atI_nat (j := 0) rfl, _, rfl, a, _, 1, _, rfl, rfl, SqT.of G0, atI_nat (j := 1) rfl, _, rfl, a, _, 2, _, rfl, rfl, SqT.of G0, atI_nat (j := 2) rfl, _, rfl, a, _, 3, _, rfl, rfl, SqT.of G0, atI_nat (j := 3) rfl, ?_⟩
    refine fun x dx hx hdx hne => ?_
    have sm1 : Same H1 (upd (upd H1 dx (.own x)) x (.ins C dx [])) := (sm_new hdx).trans (sm_new (by rw [upd_ne (Ne.symm hne)]; exact hx))
    refine ⟨x, dx, li, lo, ld, M.ins, M.outs, M.n, rv, M.rs, rfl, upd_same, sm1 _ _ (off_at g1).1, sm1 _ _ (off_at g2).1, sm1 _ _ (off_at g3).1, (gr.mono off_le).mono sm1, made_of O.i O.o O.n O.ok O.ds O.le, fun H2 hb hm => ⟨rfl, ?_⟩⟩
    have s12 : Same H1 H2 := fun b o hb1 => hb b o (ne_of_none hb1 hx) (sm1 b o hb1)
    clear sm1 hb hx hdx hne
    have hm : MachAt C H2 (.ref x) (ordM M) := hm
    -- the near ones
    refine ⟨_, rfl, _, M, rfl, (hS1.mono off_le).mono s12, O.mok.sz, fun r hr => (O.mok.ok r hr).1, fun qL L H3 s23 hq0 hqL hL => ⟨qL, rfl, ⟨_, SqL.of hqL⟩, ?_⟩⟩
    have pt3 := potAt_mono s23 (potAt_mono s12 pt1)
    have sb3 : SamB p H H3 := sb1.trans ((samB_same s12).trans (samB_same s23))
    have hS3 : SceneAt (off [p] H3) (.ref a) M := (hS1.mono (samB_same s12)).mono (samB_same s23)
    have hM3 : MachAt C (off [p] H3) (.ref x) (ordM M) := machOff pt3 (hm.mono s23)
    have nq : qL ≠ p := potAt_ne (potAt_mono s12 pt1) hq0
    have hqL3 : off [p] H3 qL = some (.lst (L.map V.int)) := off_in hqL fun m => nq (List.mem_singleton.mp m)
    clear hqL hq0 s12 s23 hm sb1 pt1 G0 g0 g1 g2 g3 gr hS1
    refine for_it (walk_list (K := K) (a := qL) (xs := L.map V.int)) (fun i σ H' => (∃ (b c d e : Option V), σ = [some (.ref p), some (.ref a), some (.ref x), b, c, d, e]) ∧ SamB p H3 H' ∧ PotAt H' p) ⟨⟨_, _, _, _, rfl⟩, Same.refl _, pt3⟩ (fun i σ H' _ hp => SqL.of (off_at (hp.2.1 _ _ hqL3)).1) ?_ ?_
    rotate_left
    · rintro σ H4 ⟨⟨b, c, d, e, rfl⟩, sb4, pt4⟩
      exact q H4 (sb3.trans sb4) pt4
    rintro i v σ H0 HB hi ⟨⟨b, c, d, e, rfl⟩, sbB, ptB⟩ ⟨rfl, hv⟩
    obtain ⟨s, hs, rfl⟩ := map_at hv
    obtain ⟨hre, hst⟩ := hL s (List.mem_of_getElem? hs)
    have hSB := hS3.mono sbB
    have hMB := hM3.mono sbB
    -- some
    refine fun d0 hd0 => ?_
    have ptC := potAt_new (o := .dK []) ptB hd0
    have sbC := samB_new (p := p) (o := .dK []) hd0
    have c0 : CtAt M.ins (off [p] (upd HB d0 (.dK []))) (.ref d0) [] := ⟨⟨d0, rfl, off_here hd0 fun m => potAt_ne ptB hd0 (List.mem_singleton.mp m)⟩, ctNil _, by decide⟩
    revert ptC sbC c0
    generalize upd HB d0 (.dK []) = HC
    intro ptC sbC c0
    refine ⟨_, rfl, _, rfl, _, rfl, p, _, M, s, rfl, ptC, hSB.mono sbC, O, fun v1 w1 HD sbD ptD c1 => ?_⟩
    have sbBD := sbC.trans sbD
    refine ⟨_, rfl, _, rfl, _, rfl, p, _, M, s, rfl, ptD, hSB.mono sbBD, O, fun v2 w2 HE sbE ptE c2 => ?_⟩
    have sbBE := sbBD.trans sbE
    refine ⟨_, rfl, _, rfl, p, _, M, rfl, ptE, hSB.mono sbBE, O, fun v3 w3 HF sbF ptF c3 => ?_⟩
    have sbBF := sbBE.trans sbF
    refine ⟨_, rfl, _, rfl, p, _, M, rfl, ptF, hSB.mono sbBF, O, fun v4 w4 HG sbG ptG c4 => ⟨by show 5 ≤ sizeLine; decide, fun sl hsl => ?_⟩⟩
    have sbBG := sbBF.trans sbG
    have sbH := samB_new (p := p) (o := .lst [.ref d0, v1, v2, v3, v4]) hsl
    have ptH := potAt_new (o := .lst [.ref d0, v1, v2, v3, v4]) ptG hsl
    have hslH : (upd HG sl (.lst [.ref d0, v1, v2, v3, v4])) sl = some (.lst [.ref d0, v1, v2, v3, v4]) := upd_same
    have cs : Paired (CtAt M.ins (off [p] (upd HG sl (.lst [.ref d0, v1, v2, v3, v4])))) [.ref d0, v1, v2, v3, v4] [[], w1, w2, w3, w4] :=
      .cons (c0.mono (sbD.trans (sbE.trans (sbF.trans (sbG.trans sbH))))) (.cons (c1.mono (sbE.trans (sbF.trans (sbG.trans sbH)))) (.cons (c2.mono (sbF.trans (sbG.trans sbH))) (.cons (c3.mono (sbG.trans sbH)) (.cons (c4.mono sbH) .nil))))
    have sbBH := sbBG.trans sbH
    clear sbH sbBG sbBF sbBE sbBD sbC sbD sbE sbF sbG ptC ptD ptE ptF ptG c0 c1 c2 c3 c4 hsl
    revert ptH hslH cs sbBH
    generalize upd HG sl (.lst [.ref d0, v1, v2, v3, v4]) = HI
    intro ptH hslH cs sbBH
    have hSI := (hSB.mono sbBH).mono off_le
    have hMI := (hMB.mono sbBH).mono off_le
    -- all told right
    refine ⟨_, rfl, sl, rfl, ⟨_, SqL.of hslH⟩, fun D hD => ?_⟩
    refine lc_it (walk_list (K := K) (a := sl) (xs := [.ref d0, v1, v2, v3, v4])) (PAll HI D) (pall_0 hD) (fun i H' _ hp => SqL.of (hp.1 _ _ hslH)) ?_ ?_
    · rintro j v H4 H5 hj hp ⟨rfl, hv⟩
      obtain ⟨ws, _, ⟨dd, rfl, hdd⟩, ct, h12⟩ := paired_get cs hv
      refine ⟨rfl, ?_⟩
      refine yesT ?_
      refine ⟨_, rfl, _, rfl, _, rfl, _, rfl, _, _, M, s, dd, ws, rfl, hMI.mono hp.1, hSI.mono hp.1, O, hst, hre, hp.1 _ _ (off_at hdd).1, ct, h12, fun H6 s6 => ?_⟩
      exact pall_step hp hD s6 hj (by show 5 ≤ sizeLine; decide)
    rintro HJ hpJ
    refine ⟨D, List.replicate _ true, rfl, SqL.of hpJ.2, true, by rw [allT_all], ?_⟩
    refine iteF ?_
    have sIJ := hpJ.1
    clear hpJ hD cs hslH
    have hSJ := hSI.mono sIJ
    have hMJ := hMI.mono sIJ
    have ptJ := potAt_mono sIJ ptH
    have sbJ := sbBH.trans (samB_same sIJ)
    obtain ⟨a', li, lo, ld, rv, ea, g0, g1, g2, g3, gr⟩ := id hSJ
    cases ea
    have nd := O.mok.nd
    have hl4 := O.mok.i4.2
    -- counts of 0
    refine ⟨_, rfl, _, rfl, _, rfl, a, _, 0, _, rfl, rfl, SqT.of g0, atI_nat (j := 0) rfl, li, rfl, ⟨_, SqL.of g1⟩, fun D2 hD2 => ?_⟩
    refine lc_it (walk_list (K := K) (a := li) (xs := M.ins.map V.str)) (PSt HJ D2 M.ins fun _ => 0) (PSt.zero hD2) (fun i H' _ hp => SqL.of (hp.1 _ _ g1)) ?_ ?_
    · rintro j v H4 H5 hj hp ⟨rfl, hv⟩
      obtain ⟨z, hz, rfl⟩ := map_at hv
      refine ⟨rfl, ?_⟩
      refine yesT ?_
      exact ⟨_, rfl, by show 2 ≤ sizeLine; decide, fun u hu2 => hp.step hD2 (Same.refl _) hu2 hz (by omega)⟩
    rintro HK hp
    obtain ⟨smK, ps, hps1, hps2⟩ := hp.end (List.length_map _)
    refine ⟨D2, ps, _, rfl, SqL.of hps1, paired_mono hps2 fun q kv h => SqT.of h, fun dz hdz => ?_⟩
    rw [merge_all nd]
    have sL := smK.trans (sm_new (o := .dK (kvsOf (allOf M.ins fun _ => 0))) hdz)
    have hdz2 : (upd HK dz (.dK (kvsOf (allOf M.ins fun _ => 0)))) dz = some (.dK (kvsOf (allOf M.ins fun _ => 0))) := upd_same
    clear hps1 hps2 hp
    revert sL hdz2
    generalize upd HK dz (.dK (kvsOf (allOf M.ins fun _ => 0))) = HL
    intro sL hdz2
    have hz0 : ∀ q ∈ allOf M.ins (fun _ => 0), q.2 = 0 := fun q hq => by
      obtain ⟨z, _, rfl⟩ := List.mem_map.mp hq
      rfl
    have ctz : CtOk M.ins (allOf M.ins fun _ => 0) := ⟨fun q hq => by
      obtain ⟨z, hz, rfl⟩ := List.mem_map.mp hq
      exact ⟨hz, Int.le_refl 0⟩, by rw [all_keys]; exact nd, by rw [allOf_len]; omega⟩
    have lz : leftOf M.ins (allOf M.ins fun _ => 0) = zerosN M.ins.length := by
      unfold leftOf zerosN
      rw [← List.map_const']
      refine List.map_congr_left fun z hz => ?_
      rw [all_get nd hz]
      rfl
    have sz : ((allOf M.ins fun _ => (0 : Int)).map (·.2)).sum ≤ 12 := by
      rw [← leftOf_sum nd (fun q hq => (ctz.1 q hq).1) ctz.2.1, lz, zeros_sum]
      decide
    refine ⟨_, ordM M, s, dz, allOf M.ins (fun _ => 0), rfl, hMJ.mono sL, O.mokO, hst, reached_ord hre, hdz2, ctz, sz, fun tv HM res sM iM tM => ?_⟩
    obtain rfl : res = some [] := by
      refine round_same O hst ctz (round_ord (ins := M.ins) (outs := M.outs) iM) ⟨0, ?_⟩
      rw [lz]
      exact List.mem_singleton.mpr rfl
    obtain ⟨ta, rfl, _, hta⟩ := tM
    refine ⟨by show 0 ≤ sizeLine; decide, fun e he => ⟨ta, e, [], rfl, rfl, SqL.of (sm_new he _ _ hta), SqL.of upd_same, false, rfl, ?_⟩⟩
    refine iteF ?_
    exact ⟨⟨_, _, _, _, rfl⟩, sbB.trans (sbJ.trans ((samB_same sL).trans ((samB_same sM).trans (samB_new he)))), potAt_new (potAt_mono sM (potAt_mono sL ptJ)) he⟩
end
end LB
set_option Elab.async false
set_option linter.all false
set_option maxRecDepth 100000
namespace LB
open PySem PySem.Spec PyProof.Rows L2 ClX
section
variable {P : Program} {w : World} {K : PySem.W.Frag} {mg : Str → Option Value} {base : Heap} {C fI : Addr}
/-! law -/
theorem samB_base {p : Addr} {H H1 H2 : Hp} (e : Same H H1) (h : SamB p H1 H2) (hp : H p = none) : Same H H2 := fun b o hb => samB_at h (e b o hb) fun z => by
  rw [z, hp] at hb
  cases hb
def spLaw (K : PySem.W.Frag) : Sp := fun vs H Q _ => ∃ (a : Addr) (ns : List Int), vs = [.ref a] ∧ SqL K H a (ns.map V.int) ∧ ∀ H', Q (.bl true) H'
theorem ok_law {f : Addr} {fd : FuncData} (T : Tx K mg C fI) (F : FnP K "law" "law" slaw f fd) (cPot : Cal P w K mg base 1 "_law_pot" ["_law_script", "_law_k"] (spPot K)) (cRt : CalG P w K mg base 8 "_law_right" ["_law_pot_here"] spRight) :
    FnG P w K mg base 9 f fd ["_law_script"] (spLaw K) := by
  refine FnG.of F sclaw (fun vs H Q E h => ?_) (fun cdv A outer s H vs Q E hg hr h => ?_)
  · obtain ⟨a, ns, rfl, _⟩ := h
    rfl
  · obtain ⟨a, ns, rfl, hl, q⟩ := h
    generalize hX : (cxOf CX0 P w K mg base Nlaw "law" (defScope slaw) f cdv A outer s H E).nox = X
    have hgd : X.A.guards = some [] := by
      subst hX
      exact hg
    have hr : Room 8 X.A := by
      subst hX
      exact hr
    subst hX
    refine ⟨_, pss_one (ps_ret (pe_callB (cr_all rfl) (by rfl) T.f_all b_all (pa_cons (pe_lc (own := [("_law_k", 1)]) (g := gName 1) (tt := tYes) rfl sclaw.nd (pi_range1 (by rfl) T.f_range (pa_cons (pe_callB (call_max2 rfl) (by rfl) T.f_max b_max (pa_cons pe_int (pa_cons (pe_callB (call_min2 rfl) (by rfl) T.f_min b_min (pa_cons pe_int (pa_cons (pe_callB call_len_seq (by rfl) T.f_len b_len (pa_cons (pv 0) pa_nil)) pa_nil))) pa_nil))) pa_nil))
        (blkOk_by (N := Nlaw) (sc := defScope slaw) (by decide +kernel)) (fun _ _ _ _ _ => pg_name (i := 1) sclaw.nd rfl (Or.inl rfl)) (fun _ _ _ _ _ => pts_nil)
        (fun _ _ _ _ _ => pe_calG cRt hgd hr (by rfl) (pa_cons (pe_cal cPot (hr.mono (by decide)) (by rfl) (pa_cons (pv 0) (pa_cons (pv 1) pa_nil))) pa_nil))) pa_nil))), ?_⟩
    refine ⟨_, rfl, a, _, rfl, .inl hl, _, _, rfl, _, _, rfl, ?_⟩
    have hb : ∃ n : Int, (1 ≤ n ∧ n ≤ 4) ∧ (if (if ((ns.map V.int).length : Int) < 4 then ((ns.map V.int).length : Int) else 4) > 1 then (if ((ns.map V.int).length : Int) < 4 then ((ns.map V.int).length : Int) else 4) else 1) = n := by
      refine ⟨_, ?_, rfl⟩
      split <;> split <;> omega
    obtain ⟨n, ⟨n1, n4⟩, en⟩ := hb
    refine ⟨n, by rw [en], by omega, by omega, fun D hD => ?_⟩
    refine lc_it walk_range (PAll H D) (pall_0 hD) (fun _ _ _ _ => trivial) ?_ ?_
    · rintro i x H1 H2 hi hp ⟨rfl, hx⟩
      obtain rfl : x = V.int (i : Nat) := by
        rw [hx]
        show V.int (0 + (i : Int)) = _
        rw [Int.zero_add]
      refine ⟨rfl, ?_⟩
      refine yesT ?_
      refine ⟨_, rfl, _, rfl, a, ns, i, rfl, hp.1.seq hl, fun p H3 s3 hp0 pt3 => ?_⟩
      refine ⟨p, rfl, pt3, fun H4 sb4 pt4 => ?_⟩
      exact pall_step hp hD (samB_base s3 sb4 hp0) hi (Nat.le_trans (show n.toNat ≤ 4 by omega) (by decide))
    · intro H1 hp
      refine ⟨D, List.replicate _ true, rfl, SqL.of hp.2, ?_⟩
      rw [allT_all]
      exact q _
end
end LB
set_option Elab.async false
set_option linter.all false
set_option maxRecDepth 100000
set_option maxHeartbeats 0
/-! the promises put together (printed by wip/gen4.py) -/
namespace LB
open PySem PySem.Spec PyProof.Rows L2 ClX
section
variable {P : Program} {w : World} {K : PySem.W.Frag} {h : Heap} {mg : Str → Option Value}
abbrev CM (K : PySem.W.Frag) : Addr := He.ga K "Machine"
abbrev FI (K : PySem.W.Frag) : Addr := He.ma K (He.ga K "Machine") "__init__"
theorem tx_of (X : K.In h) (G : h.Ns mainGlobals mg) (c : He.SaysD fa fn K) (e : ex K = true) : Tx K mg (CM K) (FI K) where
  f_isinstance := He.free_ok X G (c.fact 44 (f := .free "isinstance") rfl)
  f_int := He.free_ok X G (c.fact 45 (f := .free "int") rfl)
  f_bool := He.free_ok X G (c.fact 46 (f := .free "bool") rfl)
  f_str := He.free_ok X G (c.fact 47 (f := .free "str") rfl)
  f_len := He.free_ok X G (c.fact 48 (f := .free "len") rfl)
  f_all := He.free_ok X G (c.fact 49 (f := .free "all") rfl)
  f_list := He.free_ok X G (c.fact 50 (f := .free "list") rfl)
  f_tuple := He.free_ok X G (c.fact 51 (f := .free "tuple") rfl)
  f_dict := He.free_ok X G (c.fact 52 (f := .free "dict") rfl)
  f_enumerate := He.free_ok X G (c.fact 53 (f := .free "enumerate") rfl)
  f_sorted := He.free_ok X G (c.fact 54 (f := .free "sorted") rfl)
  f_zip := He.free_ok X G (c.fact 55 (f := .free "zip") rfl)
  f_min := He.free_ok X G (c.fact 56 (f := .free "min") rfl)
  f_max := He.free_ok X G (c.fact 57 (f := .free "max") rfl)
  f_sum := He.free_ok X G (c.fact 58 (f := .free "sum") rfl)
  f_range := He.free_ok X G (c.fact 59 (f := .free "range") rfl)
  f_divmod := He.free_ok X G (c.fact 60 (f := .free "divmod") rfl)
  f_abs := He.free_ok X G (c.fact 61 (f := .free "abs") rfl)
  f_repr := He.free_ok X G (c.fact 62 (f := .free "repr") rfl)
  i_LONGEST_NAME := He.int_ok X G (c.fact 63 (f := .int "LONGEST_NAME" 8) rfl)
  i_MOST_INS := He.int_ok X G (c.fact 64 (f := .int "MOST_INS" 4) rfl)
  i_MOST_OUTS := He.int_ok X G (c.fact 65 (f := .int "MOST_OUTS" 3) rfl)
  i_NOTICE := He.int_ok X G (c.fact 66 (f := .int "NOTICE" 9) rfl)
  i_MOST_COUNTS := He.int_ok X G (c.fact 67 (f := .int "MOST_COUNTS" 12) rfl)
  letters := He.str_ok X G (c.fact 68 (f := .str "LETTERS" "abcdefghijklmnopqrstuvwxyz") rfl)
  gC := He.glo_ok X G (c.fact 43 (f := .glo "Machine") rfl)
  cls := He.cls_ok (c.fact 69 (f := .cls "Machine") rfl)
  n_own_ins := He.noat_ok (c.fact 71 (f := .noat "Machine" "own_ins") rfl)
  n_own_outs := He.noat_ok (c.fact 72 (f := .noat "Machine" "own_outs") rfl)
  n_own_standings := He.noat_ok (c.fact 73 (f := .noat "Machine" "own_standings") rfl)
  n_own_reactions := He.noat_ok (c.fact 74 (f := .noat "Machine" "own_reactions") rfl)
  make := He.mkr_ok (c.fact 70 (f := .mkr "Machine") rfl)
  con := ex_con e
  crd := (ex_cval e).1
  cvl := (ex_cval e).2
theorem at_is_integer (X : K.In h) (G : h.Ns mainGlobals mg) (c : He.SaysD fa fn K) : DefAt K mg "is_integer" sis_integer := by
  obtain ⟨fd, F⟩ := c.def_ 0 (d := dis_integer) rfl
  exact ⟨_, fd, F, He.glo_ok X G (c.fact 0 (f := .glo "is_integer") rfl)⟩
theorem at_is_count (X : K.In h) (G : h.Ns mainGlobals mg) (c : He.SaysD fa fn K) : DefAt K mg "is_count" sis_count := by
  obtain ⟨fd, F⟩ := c.def_ 1 (d := dis_count) rfl
  exact ⟨_, fd, F, He.glo_ok X G (c.fact 1 (f := .glo "is_count") rfl)⟩
theorem at_is_name (X : K.In h) (G : h.Ns mainGlobals mg) (c : He.SaysD fa fn K) : DefAt K mg "is_name" sis_name := by
  obtain ⟨fd, F⟩ := c.def_ 2 (d := dis_name) rfl
  exact ⟨_, fd, F, He.glo_ok X G (c.fact 2 (f := .glo "is_name") rfl)⟩
theorem at_is_list (X : K.In h) (G : h.Ns mainGlobals mg) (c : He.SaysD fa fn K) : DefAt K mg "is_list" sis_list := by
  obtain ⟨fd, F⟩ := c.def_ 3 (d := dis_list) rfl
  exact ⟨_, fd, F, He.glo_ok X G (c.fact 3 (f := .glo "is_list") rfl)⟩
theorem at_is_worth (X : K.In h) (G : h.Ns mainGlobals mg) (c : He.SaysD fa fn K) : DefAt K mg "is_worth" sis_worth := by
  obtain ⟨fd, F⟩ := c.def_ 4 (d := dis_worth) rfl
  exact ⟨_, fd, F, He.glo_ok X G (c.fact 4 (f := .glo "is_worth") rfl)⟩
theorem at_are_worths_on (X : K.In h) (G : h.Ns mainGlobals mg) (c : He.SaysD fa fn K) : DefAt K mg "are_worths_on" sare_worths_on := by
  obtain ⟨fd, F⟩ := c.def_ 5 (d := dare_worths_on) rfl
  exact ⟨_, fd, F, He.glo_ok X G (c.fact 5 (f := .glo "are_worths_on") rfl)⟩
theorem at_is_standing_of (X : K.In h) (G : h.Ns mainGlobals mg) (c : He.SaysD fa fn K) : DefAt K mg "is_standing_of" sis_standing_of := by
  obtain ⟨fd, F⟩ := c.def_ 6 (d := dis_standing_of) rfl
  exact ⟨_, fd, F, He.glo_ok X G (c.fact 6 (f := .glo "is_standing_of") rfl)⟩
theorem at_is_reaction (X : K.In h) (G : h.Ns mainGlobals mg) (c : He.SaysD fa fn K) : DefAt K mg "is_reaction" sis_reaction := by
  obtain ⟨fd, F⟩ := c.def_ 7 (d := dis_reaction) rfl
  exact ⟨_, fd, F, He.glo_ok X G (c.fact 7 (f := .glo "is_reaction") rfl)⟩
theorem at_want_ins (X : K.In h) (G : h.Ns mainGlobals mg) (c : He.SaysD fa fn K) : DefAt K mg "want_ins" swant_ins := by
  obtain ⟨fd, F⟩ := c.def_ 8 (d := dwant_ins) rfl
  exact ⟨_, fd, F, He.glo_ok X G (c.fact 8 (f := .glo "want_ins") rfl)⟩
theorem at_want_outs (X : K.In h) (G : h.Ns mainGlobals mg) (c : He.SaysD fa fn K) : DefAt K mg "want_outs" swant_outs := by
  obtain ⟨fd, F⟩ := c.def_ 9 (d := dwant_outs) rfl
  exact ⟨_, fd, F, He.glo_ok X G (c.fact 9 (f := .glo "want_outs") rfl)⟩
theorem at_want_reactions (X : K.In h) (G : h.Ns mainGlobals mg) (c : He.SaysD fa fn K) : DefAt K mg "want_reactions" swant_reactions := by
  obtain ⟨fd, F⟩ := c.def_ 10 (d := dwant_reactions) rfl
  exact ⟨_, fd, F, He.glo_ok X G (c.fact 10 (f := .glo "want_reactions") rfl)⟩
theorem at_ordered (X : K.In h) (G : h.Ns mainGlobals mg) (c : He.SaysD fa fn K) : DefAt K mg "ordered" sordered := by
  obtain ⟨fd, F⟩ := c.def_ 11 (d := dordered) rfl
  exact ⟨_, fd, F, He.glo_ok X G (c.fact 11 (f := .glo "ordered") rfl)⟩
theorem at_kept (X : K.In h) (G : h.Ns mainGlobals mg) (c : He.SaysD fa fn K) : DefAt K mg "kept" skept := by
  obtain ⟨fd, F⟩ := c.def_ 12 (d := dkept) rfl
  exact ⟨_, fd, F, He.glo_ok X G (c.fact 12 (f := .glo "kept") rfl)⟩
theorem at_is_number (X : K.In h) (G : h.Ns mainGlobals mg) (c : He.SaysD fa fn K) : DefAt K mg "is_number" sis_number := by
  obtain ⟨fd, F⟩ := c.def_ 13 (d := dis_number) rfl
  exact ⟨_, fd, F, He.glo_ok X G (c.fact 13 (f := .glo "is_number") rfl)⟩
theorem at_want_standing (X : K.In h) (G : h.Ns mainGlobals mg) (c : He.SaysD fa fn K) : DefAt K mg "want_standing" swant_standing := by
  obtain ⟨fd, F⟩ := c.def_ 14 (d := dwant_standing) rfl
  exact ⟨_, fd, F, He.glo_ok X G (c.fact 14 (f := .glo "want_standing") rfl)⟩
theorem at_numbers_at (X : K.In h) (G : h.Ns mainGlobals mg) (c : He.SaysD fa fn K) : DefAt K mg "numbers_at" snumbers_at := by
  obtain ⟨fd, F⟩ := c.def_ 15 (d := dnumbers_at) rfl
  exact ⟨_, fd, F, He.glo_ok X G (c.fact 15 (f := .glo "numbers_at") rfl)⟩
theorem at_reached_from (X : K.In h) (G : h.Ns mainGlobals mg) (c : He.SaysD fa fn K) : DefAt K mg "reached_from" sreached_from := by
  obtain ⟨fd, F⟩ := c.def_ 16 (d := dreached_from) rfl
  exact ⟨_, fd, F, He.glo_ok X G (c.fact 16 (f := .glo "reached_from") rfl)⟩
theorem at_want_at_most (X : K.In h) (G : h.Ns mainGlobals mg) (c : He.SaysD fa fn K) : DefAt K mg "want_at_most" swant_at_most := by
  obtain ⟨fd, F⟩ := c.def_ 17 (d := dwant_at_most) rfl
  exact ⟨_, fd, F, He.glo_ok X G (c.fact 17 (f := .glo "want_at_most") rfl)⟩
theorem at_is_number_at (X : K.In h) (G : h.Ns mainGlobals mg) (c : He.SaysD fa fn K) : DefAt K mg "is_number_at" sis_number_at := by
  obtain ⟨fd, F⟩ := c.def_ 18 (d := dis_number_at) rfl
  exact ⟨_, fd, F, He.glo_ok X G (c.fact 18 (f := .glo "is_number_at") rfl)⟩
theorem at_want_leading (X : K.In h) (G : h.Ns mainGlobals mg) (c : He.SaysD fa fn K) : DefAt K mg "want_leading" swant_leading := by
  obtain ⟨fd, F⟩ := c.def_ 19 (d := dwant_leading) rfl
  exact ⟨_, fd, F, He.glo_ok X G (c.fact 19 (f := .glo "want_leading") rfl)⟩
theorem at_led_to (X : K.In h) (G : h.Ns mainGlobals mg) (c : He.SaysD fa fn K) : DefAt K mg "led_to" sled_to := by
  obtain ⟨fd, F⟩ := c.def_ 20 (d := dled_to) rfl
  exact ⟨_, fd, F, He.glo_ok X G (c.fact 20 (f := .glo "led_to") rfl)⟩
theorem at_taken_by (X : K.In h) (G : h.Ns mainGlobals mg) (c : He.SaysD fa fn K) : DefAt K mg "taken_by" staken_by := by
  obtain ⟨fd, F⟩ := c.def_ 21 (d := dtaken_by) rfl
  exact ⟨_, fd, F, He.glo_ok X G (c.fact 21 (f := .glo "taken_by") rfl)⟩
theorem at_is_counts (X : K.In h) (G : h.Ns mainGlobals mg) (c : He.SaysD fa fn K) : DefAt K mg "is_counts" sis_counts := by
  obtain ⟨fd, F⟩ := c.def_ 22 (d := dis_counts) rfl
  exact ⟨_, fd, F, He.glo_ok X G (c.fact 22 (f := .glo "is_counts") rfl)⟩
theorem at_with_less (X : K.In h) (G : h.Ns mainGlobals mg) (c : He.SaysD fa fn K) : DefAt K mg "with_less" swith_less := by
  obtain ⟨fd, F⟩ := c.def_ 23 (d := dwith_less) rfl
  exact ⟨_, fd, F, He.glo_ok X G (c.fact 23 (f := .glo "with_less") rfl)⟩
theorem at_round_from (X : K.In h) (G : h.Ns mainGlobals mg) (c : He.SaysD fa fn K) : DefAt K mg "round_from" sround_from := by
  obtain ⟨fd, F⟩ := c.def_ 24 (d := dround_from) rfl
  exact ⟨_, fd, F, He.glo_ok X G (c.fact 24 (f := .glo "round_from") rfl)⟩
theorem at_round_with (X : K.In h) (G : h.Ns mainGlobals mg) (c : He.SaysD fa fn K) : DefAt K mg "round_with" sround_with := by
  obtain ⟨fd, F⟩ := c.def_ 25 (d := dround_with) rfl
  exact ⟨_, fd, F, He.glo_ok X G (c.fact 25 (f := .glo "round_with") rfl)⟩
theorem at_taken (X : K.In h) (G : h.Ns mainGlobals mg) (c : He.SaysD fa fn K) : DefAt K mg "taken" staken := by
  obtain ⟨fd, F⟩ := c.def_ 26 (d := dtaken) rfl
  exact ⟨_, fd, F, He.glo_ok X G (c.fact 26 (f := .glo "taken") rfl)⟩
theorem at_stands_at (X : K.In h) (G : h.Ns mainGlobals mg) (c : He.SaysD fa fn K) : DefAt K mg "stands_at" sstands_at := by
  obtain ⟨fd, F⟩ := c.def_ 27 (d := dstands_at) rfl
  exact ⟨_, fd, F, He.glo_ok X G (c.fact 27 (f := .glo "stands_at") rfl)⟩
theorem at__law_pot (X : K.In h) (G : h.Ns mainGlobals mg) (c : He.SaysD fa fn K) : DefAt K mg "_law_pot" s_law_pot := by
  obtain ⟨fd, F⟩ := c.def_ 28 (d := d_law_pot) rfl
  exact ⟨_, fd, F, He.glo_ok X G (c.fact 28 (f := .glo "_law_pot") rfl)⟩
theorem at__law_draw (X : K.In h) (G : h.Ns mainGlobals mg) (c : He.SaysD fa fn K) : DefAt K mg "_law_draw" s_law_draw := by
  obtain ⟨fd, F⟩ := c.def_ 29 (d := d_law_draw) rfl
  exact ⟨_, fd, F, He.glo_ok X G (c.fact 29 (f := .glo "_law_draw") rfl)⟩
theorem at__law_pick (X : K.In h) (G : h.Ns mainGlobals mg) (c : He.SaysD fa fn K) : DefAt K mg "_law_pick" s_law_pick := by
  obtain ⟨fd, F⟩ := c.def_ 30 (d := d_law_pick) rfl
  exact ⟨_, fd, F, He.glo_ok X G (c.fact 30 (f := .glo "_law_pick") rfl)⟩
theorem at__law_deeds (X : K.In h) (G : h.Ns mainGlobals mg) (c : He.SaysD fa fn K) : DefAt K mg "_law_deeds" s_law_deeds := by
  obtain ⟨fd, F⟩ := c.def_ 31 (d := d_law_deeds) rfl
  exact ⟨_, fd, F, He.glo_ok X G (c.fact 31 (f := .glo "_law_deeds") rfl)⟩
theorem at__law_scene (X : K.In h) (G : h.Ns mainGlobals mg) (c : He.SaysD fa fn K) : DefAt K mg "_law_scene" s_law_scene := by
  obtain ⟨fd, F⟩ := c.def_ 32 (d := d_law_scene) rfl
  exact ⟨_, fd, F, He.glo_ok X G (c.fact 32 (f := .glo "_law_scene") rfl)⟩
theorem at__law_near (X : K.In h) (G : h.Ns mainGlobals mg) (c : He.SaysD fa fn K) : DefAt K mg "_law_near" s_law_near := by
  obtain ⟨fd, F⟩ := c.def_ 33 (d := d_law_near) rfl
  exact ⟨_, fd, F, He.glo_ok X G (c.fact 33 (f := .glo "_law_near") rfl)⟩
theorem at__law_less (X : K.In h) (G : h.Ns mainGlobals mg) (c : He.SaysD fa fn K) : DefAt K mg "_law_less" s_law_less := by
  obtain ⟨fd, F⟩ := c.def_ 34 (d := d_law_less) rfl
  exact ⟨_, fd, F, He.glo_ok X G (c.fact 34 (f := .glo "_law_less") rfl)⟩
theorem at__law_round (X : K.In h) (G : h.Ns mainGlobals mg) (c : He.SaysD fa fn K) : DefAt K mg "_law_round" s_law_round := by
  obtain ⟨fd, F⟩ := c.def_ 35 (d := d_law_round) rfl
  exact ⟨_, fd, F, He.glo_ok X G (c.fact 35 (f := .glo "_law_round") rfl)⟩
theorem at__law_counts (X : K.In h) (G : h.Ns mainGlobals mg) (c : He.SaysD fa fn K) : DefAt K mg "_law_counts" s_law_counts := by
  obtain ⟨fd, F⟩ := c.def_ 36 (d := d_law_counts) rfl
  exact ⟨_, fd, F, He.glo_ok X G (c.fact 36 (f := .glo "_law_counts") rfl)⟩
theorem at__law_walked (X : K.In h) (G : h.Ns mainGlobals mg) (c : He.SaysD fa fn K) : DefAt K mg "_law_walked" s_law_walked := by
  obtain ⟨fd, F⟩ := c.def_ 37 (d := d_law_walked) rfl
  exact ⟨_, fd, F, He.glo_ok X G (c.fact 37 (f := .glo "_law_walked") rfl)⟩
theorem at__law_drawn (X : K.In h) (G : h.Ns mainGlobals mg) (c : He.SaysD fa fn K) : DefAt K mg "_law_drawn" s_law_drawn := by
  obtain ⟨fd, F⟩ := c.def_ 38 (d := d_law_drawn) rfl
  exact ⟨_, fd, F, He.glo_ok X G (c.fact 38 (f := .glo "_law_drawn") rfl)⟩
theorem at__law_way (X : K.In h) (G : h.Ns mainGlobals mg) (c : He.SaysD fa fn K) : DefAt K mg "_law_way" s_law_way := by
  obtain ⟨fd, F⟩ := c.def_ 39 (d := d_law_way) rfl
  exact ⟨_, fd, F, He.glo_ok X G (c.fact 39 (f := .glo "_law_way") rfl)⟩
theorem at__law_told_right (X : K.In h) (G : h.Ns mainGlobals mg) (c : He.SaysD fa fn K) : DefAt K mg "_law_told_right" s_law_told_right := by
  obtain ⟨fd, F⟩ := c.def_ 40 (d := d_law_told_right) rfl
  exact ⟨_, fd, F, He.glo_ok X G (c.fact 40 (f := .glo "_law_told_right") rfl)⟩
theorem at__law_right (X : K.In h) (G : h.Ns mainGlobals mg) (c : He.SaysD fa fn K) : DefAt K mg "_law_right" s_law_right := by
  obtain ⟨fd, F⟩ := c.def_ 41 (d := d_law_right) rfl
  exact ⟨_, fd, F, He.glo_ok X G (c.fact 41 (f := .glo "_law_right") rfl)⟩
theorem at_law (X : K.In h) (G : h.Ns mainGlobals mg) (c : He.SaysD fa fn K) : DefAt K mg "law" slaw := by
  obtain ⟨fd, F⟩ := c.def_ 42 (d := dlaw) rfl
  exact ⟨_, fd, F, He.glo_ok X G (c.fact 42 (f := .glo "law") rfl)⟩
theorem facts {f : Addr} (X : K.In h) (G : h.Ns mainGlobals mg) (hfa : mg ("law" : Str) = some (.ref f)) (c : He.SaysD fa fn K) (e : ex K = true) :
    ∃ fd : FuncData, (∀ (s : Shared) (v : Value), BindsTo s fd ⟨[v], []⟩ [("_law_script", v)]) ∧ ∀ base : Heap, K.In base → base.Ns mainGlobals mg → FnG P w K mg base 9 f fd ["_law_script"] (spLaw K) := by
  obtain ⟨fd, F⟩ := c.def_ 42 (d := dlaw) rfl
  have e2 := hfa.symm.trans (He.glo_ok X G (c.fact 42 (f := .glo "law") rfl))
  cases e2
  have b := FunD.bindsA (ps := ["_law_script"]) F fun _ _ _ _ _ _ us hl => match us, hl with | [_], _ => rfl
  refine ⟨fd, fun s v => b s [v] rfl, fun base _ _ => ?_⟩
  have T := tx_of X G c e
  obtain ⟨fdI, FI⟩ := c.def_ 43 (d := d__init__) rfl
  have cis_integer := ok_is_integer (P := P) (w := w) (base := base) T (at_is_integer X G c)
  have cis_count := ok_is_count (P := P) (w := w) (base := base) (at_is_count X G c) cis_integer
  have cis_list := ok_is_list (P := P) (w := w) (base := base) T (at_is_list X G c)
  have cis_worth := ok_is_worth (P := P) (w := w) (base := base) T (at_is_worth X G c) cis_integer
  have cis_standing_of := ok_is_standing_of (P := P) (w := w) (base := base) (at_is_standing_of X G c) cis_integer
  have cwant_at_most := ok_want_at_most (P := P) (w := w) (base := base) (at_want_at_most X G c)
  have cis_number := ok_is_number (P := P) (w := w) (base := base) T (at_is_number X G c) cis_integer
  have cwant_standing := ok_want_standing (P := P) (w := w) (base := base) T (at_want_standing X G c) cis_standing_of
  have cis_number_at := ok_is_number_at (P := P) (w := w) (base := base) T (at_is_number_at X G c) cis_number
  have cis_name := ok_is_name (P := P) (w := w) (base := base) T (at_is_name X G c)
  have care_worths_on := ok_are_worths_on (P := P) (w := w) (base := base) T (at_are_worths_on X G c) cis_worth
  have cis_reaction := ok_is_reaction (P := P) (w := w) (base := base) T (at_is_reaction X G c) cis_standing_of care_worths_on
  have cordered := ok_ordered (P := P) (w := w) (base := base) (at_ordered X G c)
  have ckept := ok_kept (P := P) (w := w) (base := base) (at_kept X G c) cordered
  have cwant_ins := ok_want_ins (P := P) (w := w) (base := base) T (at_want_ins X G c) cis_list cis_name
  have cwant_outs := ok_want_outs (P := P) (w := w) (base := base) T (at_want_outs X G c) cis_list cis_name
  have cwant_reactions := ok_want_reactions (P := P) (w := w) (base := base) T (at_want_reactions X G c) cis_list cis_reaction
  have cnumbers_at := ok_numbers_at (P := P) (w := w) (base := base) T (at_numbers_at X G c)
  have creached_from := ok_reached_from (P := P) (w := w) (base := base) T (at_reached_from X G c)
  have cwant_leading := ok_want_leading (P := P) (w := w) (base := base) T (at_want_leading X G c) cis_list cis_number_at
  have cled_to := ok_led_to (P := P) (w := w) (base := base) T (at_led_to X G c)
  have ctaken_by := ok_taken_by (P := P) (w := w) (base := base) T (at_taken_by X G c)
  have ctaken := ok_taken (P := P) (w := w) (base := base) T (at_taken X G c) cwant_leading ctaken_by
  have cstands_at := ok_stands_at (P := P) (w := w) (base := base) T (at_stands_at X G c) cwant_leading cled_to
  have cis_counts := ok_is_counts (P := P) (w := w) (base := base) T (at_is_counts X G c) cis_count
  have cwith_less := ok_with_less (P := P) (w := w) (base := base) T (at_with_less X G c)
  have cround_from := ok_round_from (P := P) (w := w) (base := base) T (at_round_from X G c) cnumbers_at cwith_less
  have cround_with := ok_round_with (P := P) (w := w) (base := base) T (at_round_with X G c) cwant_standing cis_counts cwant_at_most creached_from cround_from
  have c_law_less := ok__law_less (P := P) (w := w) (base := base) T (at__law_less X G c)
  have c_law_near := ok__law_near (P := P) (w := w) (base := base) T (at__law_near X G c)
  have c_law_counts := ok__law_counts (P := P) (w := w) (base := base) T (at__law_counts X G c)
  have c_law_round := ok__law_round (P := P) (w := w) (base := base) T (at__law_round X G c) c_law_less
  have c_law_way := ok__law_way (P := P) (w := w) (base := base) T (at__law_way X G c)
  have c_law_pot := ok__law_pot (P := P) (w := w) (base := base) T (at__law_pot X G c)
  have c_law_draw := ok__law_draw (P := P) (w := w) (base := base) T (at__law_draw X G c)
  have c_law_pick := ok__law_pick (P := P) (w := w) (base := base) T (at__law_pick X G c) c_law_draw
  have c_law_deeds := ok__law_deeds (P := P) (w := w) (base := base) T (at__law_deeds X G c) c_law_draw c_law_pick
  have c_law_scene := ok__law_scene (P := P) (w := w) (base := base) T (at__law_scene X G c) c_law_draw c_law_pick c_law_deeds
  have c_law_walked := ok__law_walked (P := P) (w := w) (base := base) T (at__law_walked X G c) c_law_pick c_law_counts
  have c_law_drawn := ok__law_drawn (P := P) (w := w) (base := base) T (at__law_drawn X G c) c_law_draw c_law_pick
  have c_law_told_right := ok__law_told_right (P := P) (w := w) (base := base) T (at__law_told_right X G c) c_law_round cround_with c_law_way ctaken cstands_at
  have bI : L2.Binds K fdI ["self", "ins", "outs", "standings", "reactions"] [] := FI.bindsN fun _ _ _ _ _ _ us hl => match us, hl with | [_, _, _, _, _], _ => rfl
  have fIo := ok_init (P := P) (w := w) (base := base) T FI cis_integer cwant_ins cwant_outs cwant_reactions ckept
  have c_law_right := ok__law_right T (at__law_right X G c) fIo bI c_law_scene c_law_near c_law_walked c_law_drawn c_law_told_right cround_with
  exact ok_law T F c_law_pot c_law_right
end
end LB
set_option Elab.async false
set_option linter.all false
set_option maxRecDepth 100000
set_option maxHeartbeats 0
open PySem PySem.W PySem.Calls PyProof.Rows
theorem PySem.Challenge.cw_loosebeats_k87_whole_rounds_by_counts_holds : PySem.Challenge.rw_loosebeats_k87_whole_rounds_by_counts.Holds := by
  w_on; o_law
  refine HandSHeadRun.head_any (r := OpenLaw.row PySem.Challenge.rw_loosebeats_k87_whole_rounds_by_counts) (q := view (OpenLaw.row PySem.Challenge.rw_loosebeats_k87_whole_rounds_by_counts).prog [73]) (H := LB.hk) (ob := LB.ob) (M := 6000) (loose := LB.loose) (d := HandSHeadRun.topDef (OpenLaw.row PySem.Challenge.rw_loosebeats_k87_whole_rounds_by_counts).prog 73) (kwd := []) LB.ob_eq
    (by kernel_rfl) (fun s => by kernel_rfl) LB.run (by kernel_rfl) (by kernel_rfl) (by kernel_rfl) (by rfl) (by first | assumption | decide +kernel) (by decide +kernel) ⟨rfl, rfl, rfl, rfl, rfl, by decide +kernel⟩ ?hw ?hc
  case hw => w_witness2
  case hc =>
    refine LB.walk_G (l := PySem.Challenge.rw_loosebeats_k87_whole_rounds_by_counts) (n := 63) (k := 9) (x := "_law_script") rfl (by decide) (by kernel_rfl) ⟨rfl, by decide, by decide⟩ ?F
    intro w mg fa h Y G hmg0
    obtain ⟨K, KX, c, e⟩ := Y
    have hmg : mg ("law" : PySem.Str) = some (.ref fa) := by
      have e : (HandSHeadRun.topDef (OpenLaw.row PySem.Challenge.rw_loosebeats_k87_whole_rounds_by_counts).prog 73).name = ("law" : PySem.Str) := by kernel_rfl
      rw [← e]
      exact hmg0
    obtain ⟨fd, hb, hF⟩ := LB.facts (P := (PySem.Challenge.rw_loosebeats_k87_whole_rounds_by_counts).prog) (w := w) KX G hmg c e
    exact ⟨K, fd, LB.spLaw K, KX, hb, fun H a ns hl _ hS => ⟨a, ns, rfl, hS, fun _ => rfl⟩, hF⟩
