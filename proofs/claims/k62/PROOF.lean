import PyProof.Rows.All
import Wide.All
import OpenK.AllK
import Wide.FinOn
import HandS.ForMost
import HandS.ForExc
import HandS.Lambda
import HandS.TryMany
import HandS.ExcInit
import HandS.CallSlots
import HandS.IsInst
import HandS.Wide
import HandS.Flow
import HandS.Star
import HandS.NoneIn
import HandS.Deep
import HandS.Conv
import HandS.Defaults
import HandS.Head0
import HandS.Head1
import HandS.Head2
import HandS.HeadEnd
import HandS.HeadHook1
import HandS.HeadHook2
import HandS.HeadHook3
import HandS.HeadHook4
import HandS.HeadWalk
import PySem.Challenge.RW_rowsintime_k62_rules_checked
import KE.GoesEnum
import HandS.Walk
import HandS.Zip
import HandS.TupAny
import HandS.More
import HandS.ExcField
import HandS.EndTab
import HandS.Set
import HandS.Strs
import PyProof.Rows.SortShellAny
import HandS.WordsDict
import HandS.DictComp
set_option Elab.async false
set_option linter.all false
set_option maxRecDepth 100000
set_option maxHeartbeats 0
namespace DL
open PySem PySem.Spec PyProof.Rows L2
def dfD (x : Str) (st : Stmt) : He.DefD := ⟨(x, none), x, x, defArgs st, defBody st, defScope st, [], []⟩
def mtD (C m q : Str) (st : Stmt) : He.DefD := ⟨(C, some m), m, q, defArgs st, defBody st, defScope st, [], []⟩
/-- a tuple of two texts by its name -/
def tup2B (K : PySem.W.Frag) (x a b : Str) : Bool := match K.lookup (He.ga K x) with
  | some ⟨.type c, _, .seq its _, _⟩ => decide (c = "tuple") && (match its.toList with
    | [.str p _, .str q _] => decide (p = a) && decide (q = b)
    | _ => false)
  | _ => false
/-- a dict of texts and ints by its name -/
def entB : List (Str × Int) → List DictEntry → Bool
  | [], [] => true
  | p :: ps, e :: es => (match e.key, e.val with
    | .str k _, .int i _ => decide (k = p.1) && decide (i = p.2)
    | _, _ => false) && entB ps es
  | _, _ => false
def dictKV (K : PySem.W.Frag) (x : Str) (kvs : List (Str × Int)) : Bool := match K.lookup (He.ga K x) with
  | some ⟨_, _, .dict es _, _⟩ => entB kvs es.toList
  | _ => false
/-- a class of errors -/
def oexB (K : PySem.W.Frag) (C : Addr) : Bool := match K.lookup C with
  | some ⟨.type t, _, .cls cd, sl⟩ => decide (t = "type") && (match cd.mro, sl.toList with
    | .ref C' :: bm, [_, _, _, _, some (.builtin n), _] => decide (C' = C) && (decide (n = "ValueError.__new__") && (cd.hasDict && (!cd.hasDel && PySem.HandSPX.refsVE bm)))
    | _, _ => false)
  | _ => false
def errB (K : PySem.W.Frag) (c f : Str) : Bool := oexB K (He.ga K c) && (He.eqO (PySem.W.findIn K (.ref (He.ga K c)) "__setattr__") (some (some (.builtin "object.__setattr__"))) && (He.eqO (PySem.W.findIn K (.ref (He.ga K c)) "__getattribute__") (some (some (.builtin "BaseException.__getattribute__"))) && (He.eqO (PySem.W.findIn K (.ref (He.ga K c)) "__getattr__") (some none) && (He.eqO (PySem.W.findIn K (.ref (He.ga K c)) f) (some none) &&
  (He.eqO (PySem.W.findIn K (.ref (He.ga K c)) "__init__") (some (some (.ref (He.ma K (He.ga K c) "__init__")))) && (decide (PySem.W.typeIn K (.ref (He.ma K (He.ga K c) "__init__")) = some (.type "function")) && (PySem.W.keepIn K (.ref (He.ga K c)) && (decide (PySem.W.subIn K (.ref (He.ga K c)) (.type "BaseException") = some true) && (decide (PySem.W.typeIn K (.ref (He.ga K c)) = some (.type "type")) && PySem.W.hasDictIn K (He.ga K c))))))))))
/-! ### a Hook that looks at chosen objects alone -/
def codeRef (g : Addr → Option Obj) (a : Addr) : List Addr := match g a with
  | some ⟨_, _, .func fd, _⟩ => He.refV fd.code
  | _ => []
def objRefs (g : Addr → Option Obj) (a : Addr) : List Addr := match g a with
  | some o => He.refsO o
  | none => []
/-- the globals ns, the classes cs with what they name, all codes -/
def selN (ns cs : List Str) (g : Addr → Option Obj) : List Addr := match g mainGlobals with
  | none => []
  | some o =>
    let fs := ns.map (He.ga [(mainGlobals, o)])
    let c0 := cs.map (He.ga [(mainGlobals, o)])
    let c1 := (c0.flatMap (objRefs g)).eraseDups
    let c2 := (c1.flatMap (objRefs g)).eraseDups
    mainGlobals :: (fs ++ (fs.flatMap (codeRef g) ++ (c0 ++ (c1 ++ (c2 ++ c2.flatMap (codeRef g))))))
def obsS (sel : (Addr → Option Obj) → List Addr) (fa : List He.Fa) (fn : List He.DefD) (ts : List He.Tab) (tf : List He.Defn) (ex : PySem.W.Frag → Bool) (g : Addr → Option Obj) : He.AlX := (He.obsT fa fn ts (He.frT g (sel g)), ex (He.frT g (sel g)) && He.tabsB g tf (He.frT g (sel g)))
theorem saysS_of {sel : (Addr → Option Obj) → List Addr} {fa : List He.Fa} {fn : List He.DefD} {ts : List He.Tab} {tf : List He.Defn} {ex : PySem.W.Frag → Bool} {w : World} {h : Heap} (e : obsS sel fa fn ts tf ex h.get? = He.valX fn ts w) : He.SaysX fa fn ts tf ex w h (He.frT h.get? (sel h.get?)) := by
  have p1 := congrArg Prod.fst e
  have p2 := congrArg Prod.snd e
  obtain ⟨m1, m2⟩ := Bool.and_eq_true_iff.mp (show (ex (He.frT h.get? (sel h.get?)) && He.tabsB h.get? tf (He.frT h.get? (sel h.get?))) = true from p2)
  have each : ∀ p ∈ tf, PySem.W.codeHdIn (He.frT h.get? (sel h.get?)) (He.cT (He.frT h.get? (sel h.get?)) p).1 (He.cT (He.frT h.get? (sel h.get?)) p).2 = true ∧ ∃ o, h.get? (He.cT (He.frT h.get? (sel h.get?)) p).2 = some o ∧ He.emptyTab o = true := fun p hp => by
    obtain ⟨m3, m4⟩ := Bool.and_eq_true_iff.mp (List.all_eq_true.mp m2 p hp)
    refine ⟨m3, ?_⟩
    generalize h.get? (He.cT (He.frT h.get? (sel h.get?)) p).2 = oo at m4
    match oo, m4 with
    | some o, m4 => exact ⟨o, rfl, m4⟩
  refine ⟨p1, m1, fun p hp => (each p hp).1, fun p hp => ?_, fun p hp => ?_⟩
  · obtain ⟨_, o, q, z⟩ := each p hp
    exact He.frT_none q z
  · obtain ⟨_, o, q, z⟩ := each p hp
    rw [q, He.emptyTab_eq z]
def hookS (sel : (Addr → Option Obj) → List Addr) (fa : List He.Fa) (fn : List He.DefD) (ts : List He.Tab) (tf : List He.Defn) (ex : PySem.W.Frag → Bool) : PySem.W.Hook where
  α := He.AlX
  obs s := obsS sel fa fn ts tf ex s.heap.get?
  val w := He.valX fn ts w
  says w h := ∃ K : PySem.W.Frag, K.In h ∧ He.SaysX fa fn ts tf ex w h K
  of _ _ e := ⟨_, He.frT_in, saysS_of e⟩
  keeps := by
    rintro _ _ _ ⟨K, hK, c⟩ k
    exact ⟨K, PySem.W.Frag.In.keeps hK k, ⟨c.t, c.more, c.hd, c.out, fun p hp => k _ _ (c.empty p hp)⟩⟩
theorem obsS_eq {sel : (Addr → Option Obj) → List Addr} {fa : List He.Fa} {fn : List He.DefD} {ts : List He.Tab} {tf : List He.Defn} {ex : PySem.W.Frag → Bool} {g : Addr → Option Obj} {s : Shared} (h : ∀ a, g a = s.heap.get? a) : obsS sel fa fn ts tf ex g = (hookS sel fa fn ts tf ex).obs s := by
  obtain rfl : g = s.heap.get? := funext h
  rfl
namespace Q
def top (i : Nat) : Stmt := PySem.Challenge.pw_rowsintime_k62_rules_checked.main.body.getD i (.Pass ⟨0, 0, 0, 0⟩)
abbrev s_broken_run : Stmt := top 125
abbrev s_is_cut : Stmt := top 52
abbrev s_kept_run : Stmt := top 124
abbrev s_verdict_on : Stmt := top 128
abbrev s_is_integer : Stmt := top 2
abbrev s_is_natural : Stmt := top 3
abbrev s_is_list : Stmt := top 4
abbrev s_is_name : Stmt := top 5
abbrev s_as_tuples : Stmt := top 7
abbrev s_first_bad_name : Stmt := top 8
abbrev s_is_of : Stmt := top 9
abbrev s_first_stranger : Stmt := top 50
abbrev s_is_limit : Stmt := top 51
abbrev s_is_arrow : Stmt := top 53
abbrev s_rule_at : Stmt := top 82
abbrev s_checked_rule : Stmt := top 83
abbrev s_signs_of : Stmt := top 84
abbrev s_signals_in : Stmt := top 85
abbrev s_keeps : Stmt := top 91
abbrev s_check_plain : Stmt := top 92
abbrev s_first_broken : Stmt := top 93
abbrev s_watcher_of : Stmt := top 98
abbrev s_check_seen : Stmt := top 120
abbrev s_keeping : Stmt := top 126
abbrev s_breaking : Stmt := top 127
abbrev s_judged : Stmt := top 129
abbrev s_tightest : Stmt := top 131
abbrev s_L_source : Stmt := top 133
abbrev s_L_draw : Stmt := top 134
abbrev s_L_pick : Stmt := top 135
abbrev s_L_order : Stmt := top 136
abbrev s_L_words : Stmt := top 137
abbrev s_L_plain : Stmt := top 138
abbrev s_L_rule : Stmt := top 139
abbrev s_L_shown_rule : Stmt := top 140
abbrev s_L_names_in : Stmt := top 141
abbrev s_L_spoil : Stmt := top 143
abbrev s_L_path : Stmt := top 142
def inCls : Stmt → Nat → Stmt
  | .ClassDef (body := b) .., i => b.getD i (.Pass ⟨0, 0, 0, 0⟩)
  | s, _ => s
abbrev s_init : Stmt := inCls (top 54) 0
abbrev s_arrows : Stmt := inCls (top 54) 3
abbrev s_law : Stmt := top 144
namespace H
def fa0 : List He.Fa := [.glo "is_cut", .glo "kept_run", .glo "verdict_on", .glo "broken_run", .glo "is_integer", .glo "is_natural", .glo "is_list", .glo "is_name", .glo "as_tuples", .glo "first_bad_name", .glo "is_of", .glo "first_stranger", .glo "is_limit", .glo "is_arrow", .glo "rule_at", .glo "checked_rule", .glo "signs_of", .glo "signals_in", .glo "keeps", .glo "check_plain", .glo "first_broken", .glo "watcher_of", .glo "check_seen", .glo "keeping", .glo "breaking"]
def fa1 : List He.Fa := [.glo "judged", .glo "tightest", .glo "_law_source", .glo "_law_draw", .glo "_law_pick", .glo "_law_order", .glo "_law_words", .glo "_law_plain", .glo "_law_rule", .glo "_law_shown_rule", .glo "_law_names_in", .glo "_law_spoil", .glo "_law_path", .glo "law", .free "all", .free "any", .free "bool", .free "dict", .free "enumerate", .free "int", .free "isinstance", .free "len", .free "list", .free "range", .free "set"]
def fa2 : List He.Fa := [.free "sorted", .free "str", .free "tuple", .glo "LOWERS", .glo "PLAIN", .str "SIGNS" "abcdefghijklmnopqrstuvwxyz", .glo "SIZES", .glo "UPPERS", .glo "BadRule", .glo "Unseen", .exm "BadRule" "BadRule" true, .glo "Watcher", .cls "Watcher", .mkr "Watcher", .meth "Watcher" "arrows", .noat "Watcher" "hands", .noat "Watcher" "held", .noat "Watcher" "tracks", .noat "Watcher" "last_ones"]
def fa : List He.Fa := fa0 ++ fa1 ++ fa2
def fn0 : List He.DefD := [dfD "is_cut" s_is_cut, dfD "kept_run" s_kept_run, dfD "verdict_on" s_verdict_on, dfD "broken_run" s_broken_run, dfD "is_integer" s_is_integer, dfD "is_natural" s_is_natural, dfD "is_list" s_is_list, dfD "is_name" s_is_name, dfD "as_tuples" s_as_tuples, dfD "first_bad_name" s_first_bad_name, dfD "is_of" s_is_of, dfD "first_stranger" s_first_stranger, dfD "is_limit" s_is_limit, dfD "is_arrow" s_is_arrow, dfD "rule_at" s_rule_at, dfD "checked_rule" s_checked_rule, dfD "signs_of" s_signs_of, dfD "signals_in" s_signals_in, dfD "keeps" s_keeps, dfD "check_plain" s_check_plain, dfD "first_broken" s_first_broken, dfD "watcher_of" s_watcher_of, dfD "check_seen" s_check_seen, dfD "keeping" s_keeping, dfD "breaking" s_breaking]
def fn1 : List He.DefD := [dfD "judged" s_judged, dfD "tightest" s_tightest, dfD "_law_source" s_L_source, dfD "_law_draw" s_L_draw, dfD "_law_pick" s_L_pick, dfD "_law_order" s_L_order, dfD "_law_words" s_L_words, dfD "_law_plain" s_L_plain, dfD "_law_rule" s_L_rule, dfD "_law_shown_rule" s_L_shown_rule, dfD "_law_names_in" s_L_names_in, dfD "_law_spoil" s_L_spoil, dfD "_law_path" s_L_path, dfD "law" s_law, mtD "BadRule" "__init__" "BadRule.__init__" (inCls (top 46) 0), mtD "Unseen" "__init__" "Unseen.__init__" (inCls (top 44) 0), mtD "Watcher" "arrows" "Watcher.arrows" s_arrows, mtD "Watcher" "__init__" "Watcher.__init__" s_init]
def fn : List He.DefD := fn0 ++ fn1
def ts : List He.Tab := [((fun K => He.ga K "SIZES"), [("since" : Str), ("soon" : Str), ("not" : Str), ("both" : Str), ("either" : Str)])]
def tf : List He.Defn := [("law", none)]
def ex (K : PySem.W.Frag) : Bool := tup2B K "LOWERS" "from" "above" && (tup2B K "PLAIN" "since" "soon" && (dictKV K "SIZES" [("since", 5), ("soon", 5), ("not", 2), ("both", 3), ("either", 3)] && (tup2B K "UPPERS" "below" "upto" && (errB K "BadRule" "path" && (errB K "Unseen" "index")))))
def lo0 : List Str := [("SIGNS" : Str), ("is_integer" : Str), ("is_natural" : Str), ("is_list" : Str), ("is_name" : Str), ("is_pair" : Str), ("as_tuples" : Str), ("first_bad_name" : Str), ("is_of" : Str), ("ZERO" : Str), ("greatest_divisor" : Str), ("lowest" : Str), ("whole" : Str), ("is_frac" : Str), ("is_time" : Str), ("frac_of" : Str), ("plus" : Str), ("minus" : Str), ("mean" : Str), ("is_less" : Str), ("is_upto" : Str), ("UPPERS" : Str), ("LOWERS" : Str), ("is_upper" : Str), ("sum_of_codes" : Str)]
def lo1 : List Str := [("is_tighter" : Str), ("tighter" : Str), ("is_barred" : Str), ("is_ahead" : Str), ("goes_further" : Str), ("some_between" : Str), ("ClockError" : Str), ("BadSignals" : Str), ("BadNumber" : Str), ("BadRow" : Str), ("BadClocks" : Str), ("BadPlace" : Str), ("BadArrow" : Str), ("BadEnd" : Str), ("NoPlace" : Str), ("Unseen" : Str), ("Lacks" : Str), ("BadRule" : Str), ("NotPlain" : Str), ("NoRow" : Str), ("first_stranger" : Str), ("is_limit" : Str), ("is_cut" : Str), ("is_arrow" : Str), ("Watcher" : Str)]
def lo2 : List Str := [("need_place" : Str), ("WIDE" : Str), ("Net" : Str), ("span_of" : Str), ("is_open" : Str), ("limit_cuts" : Str), ("is_held" : Str), ("net_of" : Str), ("are_apart" : Str), ("met_box" : Str), ("pieces_off" : Str), ("boxes_left" : Str), ("completed" : Str), ("legs_beside" : Str), ("put_beside" : Str), ("name_at" : Str), ("cuts_of" : Str), ("watcher_of_net" : Str), ("check_signals" : Str), ("turned_goals" : Str), ("SIZES" : Str), ("PLAIN" : Str), ("IDLE" : Str), ("ARMED" : Str), ("rule_at" : Str)]
def lo3 : List Str := [("checked_rule" : Str), ("signs_of" : Str), ("signals_in" : Str), ("checked_timed" : Str), ("is_so_long" : Str), ("has_other" : Str), ("broken_at" : Str), ("is_kept" : Str), ("keeps" : Str), ("check_plain" : Str), ("first_broken" : Str), ("bare_net" : Str), ("since_net" : Str), ("soon_net" : Str), ("rule_net" : Str), ("watcher_of" : Str), ("noughts" : Str), ("free_zone" : Str), ("cut_zone" : Str), ("later_zone" : Str), ("begun_zone" : Str), ("code_beyond" : Str), ("beyond_zone" : Str), ("closed_zone" : Str), ("is_inner" : Str)]
def lo4 : List Str := [("mosts_of" : Str), ("boxed_zone" : Str), ("zone_behind" : Str), ("first_zone" : Str), ("Trail" : Str), ("trails" : Str), ("shortest_legs" : Str), ("zone_of_times" : Str), ("some_times" : Str), ("check_seen" : Str), ("run_along" : Str), ("run_to" : Str), ("kept_run" : Str), ("broken_run" : Str), ("keeping" : Str), ("breaking" : Str), ("verdict_on" : Str), ("judged" : Str), ("from_the_tightest" : Str), ("tightest" : Str), ("_law_source" : Str), ("_law_draw" : Str), ("_law_pick" : Str), ("_law_order" : Str), ("_law_words" : Str)]
def lo5 : List Str := [("_law_plain" : Str), ("_law_rule" : Str), ("_law_shown_rule" : Str), ("_law_names_in" : Str), ("_law_path" : Str), ("_law_spoil" : Str)]
def loose : List Str := lo0 ++ lo1 ++ lo2 ++ lo3 ++ lo4 ++ lo5
abbrev R : PySem.W.OpenRow := PySem.W.OpenLaw.row PySem.Challenge.rw_rowsintime_k62_rules_checked
def gl0 : List Str := [("is_cut" : Str), ("kept_run" : Str), ("verdict_on" : Str), ("broken_run" : Str), ("is_integer" : Str), ("is_natural" : Str), ("is_list" : Str), ("is_name" : Str), ("as_tuples" : Str), ("first_bad_name" : Str), ("is_of" : Str), ("first_stranger" : Str), ("is_limit" : Str), ("is_arrow" : Str), ("rule_at" : Str), ("checked_rule" : Str), ("signs_of" : Str), ("signals_in" : Str), ("keeps" : Str), ("check_plain" : Str), ("first_broken" : Str), ("watcher_of" : Str), ("check_seen" : Str), ("keeping" : Str), ("breaking" : Str)]
def gl1 : List Str := [("judged" : Str), ("tightest" : Str), ("_law_source" : Str), ("_law_draw" : Str), ("_law_pick" : Str), ("_law_order" : Str), ("_law_words" : Str), ("_law_plain" : Str), ("_law_rule" : Str), ("_law_shown_rule" : Str), ("_law_names_in" : Str), ("_law_spoil" : Str), ("_law_path" : Str), ("law" : Str), ("LOWERS" : Str), ("PLAIN" : Str), ("SIZES" : Str), ("UPPERS" : Str)]
def gl : List Str := gl0 ++ gl1
def cs : List Str := [("BadRule" : Str), ("Unseen" : Str), ("Watcher" : Str)]
abbrev hk : PySem.W.Hook := hookS (selN gl cs) fa fn ts tf ex
def ob (s : PySem.W.SharedT) : He.AlX := obsS (selN gl cs) fa fn ts tf ex (HandSHeadRun.getT s)
theorem ob_eq (s : PySem.W.SharedT) : ob s = hk.obs s.abs := obsS_eq (HandSHeadRun.getT_eq s)
theorem run_false (w : World) : HandSHeadRun.RunEq R (PySem.W.view R.prog [144]) hk ob 9000 loose (w.withFollow "special-get-raises" false) := by
  intro os
  kernel_rfl
theorem run_true (w : World) : HandSHeadRun.RunEq R (PySem.W.view R.prog [144]) hk ob 9000 loose (w.withFollow "special-get-raises" true) := by
  intro os
  kernel_rfl
theorem run (w : World) : HandSHeadRun.RunEq R (PySem.W.view R.prog [144]) hk ob 9000 loose w := PySem.W.byRow2 "special-get-raises" (P := fun w => HandSHeadRun.RunEq R (PySem.W.view R.prog [144]) hk ob 9000 loose w) run_false run_true w
end H
end Q
end DL
set_option maxHeartbeats 2000000

set_option Elab.async false
set_option linter.all false
set_option maxRecDepth 100000
set_option maxHeartbeats 2000000
/-! The data layer: Python values as trees, mutable lists as cells of a store, each piece of syntax a plain function. -/
namespace DL
open PySem PySem.Spec PyProof.Rows L2

/-- where the cells stand, and which addresses may still change -/
structure Wo where
  adr : List Addr
  liv : Addr → Prop

/-- what goes on to hold: the cells stay where they are, what could not change stands -/
structure Ext0 (w : Wo) (H : Hp) (w' : Wo) (H' : Hp) : Prop where
  pre : ∀ (n : Nat) (a : Addr), w.adr[n]? = some a → w'.adr[n]? = some a
  keep : ∀ a o, H a = some o → ¬ w.liv a → (∀ ps, o ≠ .tbl ps) → H' a = some o ∧ ¬ w'.liv a
/-- the text of a lambda -/
structure LamT where
  q : Str
  params : Arguments
  body : Expr
  scope : Scope
/-- the object of a lambda -/
def FnO (f : Addr) (t : LamT) (cl : List (Str × Addr)) (pm : Value) (c1 : Addr) (ctv : Value) : HO := .ext fun h => h.get? f = some (PySem.W.kla_obj "<lambda>" t.q t.params t.body t.scope cl pm c1 ctv)
theorem fnO_ne {f : Addr} {t : LamT} {cl : List (Str × Addr)} {pm ctv : Value} {c1 : Addr} (ps : Array Value) : FnO f t cl pm c1 ctv ≠ .tbl ps := fun z => by
  unfold FnO at z
  cases z
/-- a value as data; cel n: the n-th cell of the store -/
inductive D where
  | non | bl (b : Bool) | int (i : Int) | str (x : Str) | lst (xs : List D) | tup (xs : List D) | cel (n : Nat) | scr (ns : List Int) | dic | fn (f c : Addr) (q : Str) (w : Wo) (H : Hp)
  | dct (ks : List L2.Key) (xs : List D) | ins (C : Addr) (fs : List Str) (xs : List D) | clo (i : Nat) (t : LamT) (cl : List (Str × Addr)) | adr (a : Addr) | any | dcl (ks : List L2.Key) (xs : List D)

/-- a cell: a list that may still change, or one that no longer does -/
inductive Cell where
  | fz (xs : List D) | lst (xs : List D)
def Cell.get : Cell → List D
  | .fz xs => xs
  | .lst xs => xs

abbrev Sto := List Cell
abbrev Env' := List (Option D)

def KT (K : PySem.W.Frag) (a : Addr) (xs : List V) : Prop :=
  ∃ (o : Obj) (its : Array Value) (n : Nat), K.lookup a = some o ∧ o.cls = .type "tuple" ∧ o.data = .seq its n ∧ its.size ≤ sizeLine ∧ Vals xs its.toList
/-- a list, the script, a tuple that will not change -/
def FzL (w : Wo) (H : Hp) (a : Addr) (xs : List V) : Prop := H a = some (.lst xs) ∧ ¬ w.liv a
def KL (K : PySem.W.Frag) (a : Addr) (xs : List V) : Prop :=
  ∃ (o : Obj) (its : Array Value) (n : Nat), K.lookup a = some o ∧ o.cls = .type "list" ∧ o.dict = none ∧ o.data = .seq its n ∧ its.size ≤ sizeLine ∧ Vals xs its.toList
def FzS (K : PySem.W.Frag) (w : Wo) (H : Hp) (a : Addr) (xs : List V) : Prop := (Rd H a (.lst xs) ∧ ¬ w.liv a) ∨ KL K a xs
def FzT (K : PySem.W.Frag) (w : Wo) (H : Hp) (a : Addr) (xs : List V) : Prop := (H a = some (.tup xs) ∧ ¬ w.liv a) ∨ KT K a xs
theorem FzL.sq {K : PySem.W.Frag} {w : Wo} {H : Hp} {a : Addr} {xs : List V} (h : FzL w H a xs) : SqL K H a xs := Or.inl (Or.inl h.1)
theorem FzS.sq {K : PySem.W.Frag} {w : Wo} {H : Hp} {a : Addr} {xs : List V} (h : FzS K w H a xs) : SqL K H a xs := by
  rcases h with ⟨h, _⟩ | h
  · exact Or.inl h
  · exact Or.inr h
theorem FzT.sq {K : PySem.W.Frag} {w : Wo} {H : Hp} {a : Addr} {xs : List V} (h : FzT K w H a xs) : SqT K H a xs := by
  rcases h with ⟨h, _⟩ | h
  · exact Or.inl (Or.inl h)
  · exact Or.inr h

mutual
inductive Rep (K : PySem.W.Frag) (w : Wo) (H : Hp) : V → D → Prop
  | non : Rep K w H .non .non
  | bl (b : Bool) : Rep K w H (.bl b) (.bl b)
  | int (i : Int) : Rep K w H (.int i) (.int i)
  | str (x : Str) : Rep K w H (.str x) (.str x)
  | lst {a : Addr} {xs : List V} {ds : List D} : FzL w H a xs → Reps K w H xs ds → Rep K w H (.ref a) (.lst ds)
  | tup {a : Addr} {xs : List V} {ds : List D} : FzT K w H a xs → Reps K w H xs ds → Rep K w H (.ref a) (.tup ds)
  | cel {a : Addr} {n : Nat} : w.adr[n]? = some a → Rep K w H (.ref a) (.cel n)
  | scr {a : Addr} {ns : List Int} : FzS K w H a (ns.map V.int) → Rep K w H (.ref a) (.scr ns)
  | dic {a : Addr} : H a = some (.dK []) → ¬ w.liv a → Rep K w H (.ref a) .dic
  | fn {f c : Addr} {q : Str} {w0 : Wo} {H0 : Hp} : H c = some (LamX.CodeO c q) → ¬ w.liv c → Ext0 w0 H0 w H → Rep K w H (.ref f) (.fn f c q w0 H0)
  | dct {a : Addr} {kvs : List (L2.Key × V)} {ks : List L2.Key} {ds : List D} : H a = some (.dK kvs) → ¬ w.liv a → kvs.map (·.1) = ks → Reps K w H (kvs.map (·.2)) ds → Rep K w H (.ref a) (.dct ks ds)
  | ins {a C dx : Addr} {fvs : List (Str × V)} {fs : List Str} {ds : List D} : H a = some (.ins C dx fvs) → ¬ w.liv a → fvs.map (·.1) = fs → Reps K w H (fvs.map (·.2)) ds → Rep K w H (.ref a) (.ins C fs ds)
  | clo {i : Nat} {f c1 : Addr} {t : LamT} {cl : List (Str × Addr)} {pm ctv : Value} : H f = some (FnO f t cl pm c1 ctv) → ¬ w.liv f → H c1 = some (LamX.CodeO c1 t.q) → ¬ w.liv c1 → Rep K w H (.ref f) (.clo i t cl)
  | adr (a : Addr) : Rep K w H (.ref a) (.adr a)
  | any (a : Addr) : Rep K w H (.ref a) .any
  | dcl {a : Addr} {o : Obj} {kvs : List (L2.Key × V)} {ks : List L2.Key} {ds : List D} : H a = some (.frz o (.dK kvs)) → ¬ w.liv a → kvs.map (·.1) = ks → Reps K w H (kvs.map (·.2)) ds → Rep K w H (.ref a) (.dcl ks ds)
inductive Reps (K : PySem.W.Frag) (w : Wo) (H : Hp) : List V → List D → Prop
  | nil : Reps K w H [] []
  | cons {v : V} {vs : List V} {d : D} {ds : List D} : Rep K w H v d → Reps K w H vs ds → Reps K w H (v :: vs) (d :: ds)
end

/-- .. and what may change, but is no cell of ours, stands too -/
structure Ext (w : Wo) (H : Hp) (w' : Wo) (H' : Hp) : Prop extends Ext0 w H w' H' where
  frn : ∀ a o, w.liv a → (∀ n : Nat, w.adr[n]? ≠ some a) → H a = some o → H' a = some o ∧ w'.liv a ∧ ∀ n : Nat, w'.adr[n]? ≠ some a
theorem Ext0.trans {w w1 w2 : Wo} {H H1 H2 : Hp} (a : Ext0 w H w1 H1) (b : Ext0 w1 H1 w2 H2) : Ext0 w H w2 H2 :=
  ⟨fun n x h => b.pre n x (a.pre n x h), fun x o h n t => let ⟨h1, n1⟩ := a.keep x o h n t; b.keep x o h1 n1 t⟩
theorem Ext.refl (w : Wo) (H : Hp) : Ext w H w H := ⟨⟨fun _ _ h => h, fun _ _ h n _ => ⟨h, n⟩⟩, fun _ _ l n h => ⟨h, l, n⟩⟩
theorem Ext.trans {w w1 w2 : Wo} {H H1 H2 : Hp} (a : Ext w H w1 H1) (b : Ext w1 H1 w2 H2) : Ext w H w2 H2 :=
  ⟨⟨fun n x h => b.pre n x (a.pre n x h), fun x o h n t => let ⟨h1, n1⟩ := a.keep x o h n t; b.keep x o h1 n1 t⟩, fun x o l n h => let ⟨h1, l1, n1⟩ := a.frn x o l n h; b.frn x o l1 n1 h1⟩
section
variable {K : PySem.W.Frag} {w w' : Wo} {H H' : Hp}
theorem FzL.ext0 {a : Addr} {xs : List V} (e : Ext0 w H w' H') (h : FzL w H a xs) : FzL w' H' a xs := e.keep a _ h.1 h.2 fun ps z => by cases z
theorem FzS.ext0 {a : Addr} {xs : List V} (e : Ext0 w H w' H') (h : FzS K w H a xs) : FzS K w' H' a xs := by
  rcases h with ⟨h | ⟨o, h⟩, n⟩ | h
  · obtain ⟨h1, n1⟩ := e.keep a _ h n (fun ps z => by cases z)
    exact .inl ⟨.inl h1, n1⟩
  · obtain ⟨h1, n1⟩ := e.keep a _ h n (fun ps z => by cases z)
    exact .inl ⟨.inr ⟨o, h1⟩, n1⟩
  · exact .inr h
theorem FzT.ext0 {a : Addr} {xs : List V} (e : Ext0 w H w' H') (h : FzT K w H a xs) : FzT K w' H' a xs := by
  rcases h with ⟨h, n⟩ | h
  · exact Or.inl (e.keep a _ h n fun ps z => by cases z)
  · exact Or.inr h
mutual
theorem Rep.ext0 (e : Ext0 w H w' H') : ∀ {v : V} {d : D}, Rep K w H v d → Rep K w' H' v d
  | _, _, .non => .non
  | _, _, .bl b => .bl b
  | _, _, .int i => .int i
  | _, _, .str x => .str x
  | _, _, .lst h r => .lst (h.ext0 e) (Reps.ext0 e r)
  | _, _, .tup h r => .tup (h.ext0 e) (Reps.ext0 e r)
  | _, _, .cel h => .cel (e.pre _ _ h)
  | _, _, .scr h => .scr (h.ext0 e)
  | _, _, .dic h n => .dic (e.keep _ _ h n fun ps z => by cases z).1 (e.keep _ _ h n fun ps z => by cases z).2
  | _, _, .fn h n e1 => .fn (e.keep _ _ h n fun ps z => LamX.codeO_ne ps z).1 (e.keep _ _ h n fun ps z => LamX.codeO_ne ps z).2 (e1.trans e)
  | _, _, .dct h n k r => .dct (e.keep _ _ h n fun ps z => by cases z).1 (e.keep _ _ h n fun ps z => by cases z).2 k (Reps.ext0 e r)
  | _, _, .ins h n k r => .ins (e.keep _ _ h n fun ps z => by cases z).1 (e.keep _ _ h n fun ps z => by cases z).2 k (Reps.ext0 e r)
  | _, _, .clo h n h2 n2 => .clo (e.keep _ _ h n fun ps z => fnO_ne ps z).1 (e.keep _ _ h n fun ps z => fnO_ne ps z).2 (e.keep _ _ h2 n2 fun ps z => LamX.codeO_ne ps z).1 (e.keep _ _ h2 n2 fun ps z => LamX.codeO_ne ps z).2
  | _, _, .adr a => .adr a
  | _, _, .any a => .any a
  | _, _, .dcl h n k r => .dcl (e.keep _ _ h n fun ps z => by cases z).1 (e.keep _ _ h n fun ps z => by cases z).2 k (Reps.ext0 e r)
theorem Reps.ext0 (e : Ext0 w H w' H') : ∀ {vs : List V} {ds : List D}, Reps K w H vs ds → Reps K w' H' vs ds
  | _, _, .nil => .nil
  | _, _, .cons h r => .cons (Rep.ext0 e h) (Reps.ext0 e r)
end
theorem FzL.ext {a : Addr} {xs : List V} (e : Ext w H w' H') (h : FzL w H a xs) : FzL w' H' a xs := h.ext0 e.toExt0
theorem FzS.ext {a : Addr} {xs : List V} (e : Ext w H w' H') (h : FzS K w H a xs) : FzS K w' H' a xs := h.ext0 e.toExt0
theorem FzT.ext {a : Addr} {xs : List V} (e : Ext w H w' H') (h : FzT K w H a xs) : FzT K w' H' a xs := h.ext0 e.toExt0
theorem Rep.ext (e : Ext w H w' H') {v : V} {d : D} (h : Rep K w H v d) : Rep K w' H' v d := h.ext0 e.toExt0
theorem Reps.ext (e : Ext w H w' H') {v : List V} {d : List D} (h : Reps K w H v d) : Reps K w' H' v d := h.ext0 e.toExt0
theorem Reps.length : ∀ {vs : List V} {ds : List D}, Reps K w H vs ds → vs.length = ds.length
  | _, _, .nil => rfl
  | _, _, .cons _ r => congrArg (· + 1) (Reps.length r)
theorem Reps.get : ∀ {vs : List V} {ds : List D} {i : Nat} {d : D}, Reps K w H vs ds → ds[i]? = some d → ∃ v, vs[i]? = some v ∧ Rep K w H v d
  | _, _, _, _, .nil, e => by simp at e
  | _, _, 0, _, .cons r _, e => by simp at e; subst e; exact ⟨_, rfl, r⟩
  | _, _, i + 1, d, .cons _ t, e => by
    obtain ⟨u, h1, h2⟩ := Reps.get (i := i) (d := d) t (by simpa using e)
    exact ⟨u, by simpa using h1, h2⟩
theorem Reps.get' : ∀ {vs : List V} {ds : List D} {i : Nat} {v : V}, Reps K w H vs ds → vs[i]? = some v → ∃ d, ds[i]? = some d ∧ Rep K w H v d
  | _, _, _, _, .nil, e => by simp at e
  | _, _, 0, _, .cons r _, e => by simp at e; subst e; exact ⟨_, rfl, r⟩
  | _, _, i + 1, d, .cons _ t, e => by
    obtain ⟨u, h1, h2⟩ := Reps.get' (i := i) (v := d) t (by simpa using e)
    exact ⟨u, by simpa using h1, h2⟩
theorem Reps.append : ∀ {vs us : List V} {ds es : List D}, Reps K w H vs ds → Reps K w H us es → Reps K w H (vs ++ us) (ds ++ es)
  | _, _, _, _, .nil, s => s
  | _, _, _, _, .cons r t, s => .cons r (Reps.append t s)
theorem Reps.take : ∀ {vs : List V} {ds : List D} (n : Nat), Reps K w H vs ds → Reps K w H (vs.take n) (ds.take n)
  | _, _, 0, _ => .nil
  | _, _, _ + 1, .nil => .nil
  | _, _, n + 1, .cons r t => .cons r (Reps.take n t)
theorem Reps.drop : ∀ {vs : List V} {ds : List D} (n : Nat), Reps K w H vs ds → Reps K w H (vs.drop n) (ds.drop n)
  | _, _, 0, r => r
  | _, _, _ + 1, .nil => .nil
  | _, _, n + 1, .cons _ t => Reps.drop n t
theorem Reps.set {v : V} {d : D} (r : Rep K w H v d) : ∀ {vs : List V} {ds : List D} (n : Nat), Reps K w H vs ds → Reps K w H (vs.set n v) (ds.set n d)
  | _, _, _, .nil => .nil
  | _, _, 0, .cons _ t => .cons r t
  | _, _, n + 1, .cons q t => .cons q (Reps.set r n t)
theorem Reps.eraseIdx : ∀ {vs : List V} {ds : List D} (n : Nat), Reps K w H vs ds → Reps K w H (vs.eraseIdx n) (ds.eraseIdx n)
  | _, _, _, .nil => by simpa using Reps.nil
  | _, _, 0, .cons _ t => t
  | _, _, n + 1, .cons q t => .cons q (Reps.eraseIdx n t)
theorem Reps.ints : ∀ {vs : List V} {ns : List Int}, Reps K w H vs (ns.map D.int) → vs = ns.map V.int
  | _, [], .nil => rfl
  | _, _ :: _, .cons r t => by
    cases r
    rw [Reps.ints t]
    rfl
theorem Reps.of_ints : ∀ (ns : List Int), Reps K w H (ns.map V.int) (ns.map D.int)
  | [] => .nil
  | n :: ns => .cons (.int n) (Reps.of_ints ns)
end

/-! ### the store and the heap -/
/-- what may change -/
def Mu : HO → Prop
  | .lst _ => True
  | .ins _ _ _ => True
  | .dK _ => True
  | _ => False
def CellOk (K : PySem.W.Frag) (w : Wo) (H : Hp) (a : Addr) (c : Cell) : Prop := ∃ xs, H a = some (.lst xs) ∧ Reps K w H xs c.get
/-- T: the tables of code objects -/
structure RSt (K : PySem.W.Frag) (T : List (Addr × Str)) (w : Wo) (st : Sto) (H : Hp) : Prop where
  len : w.adr.length = st.length
  nd : w.adr.Nodup
  livH : ∀ a, w.liv a → ∃ o, H a = some o ∧ Mu o
  livL : ∀ (n : Nat) (a : Addr) (ds : List D), w.adr[n]? = some a → st[n]? = some (.lst ds) → w.liv a
  livF : ∀ (n : Nat) (a : Addr) (ds : List D), w.adr[n]? = some a → st[n]? = some (.fz ds) → ¬ w.liv a
  cell : ∀ (n : Nat) (a : Addr) (c : Cell), w.adr[n]? = some a → st[n]? = some c → CellOk K w H a c
  tab : LamX.Tabs T H
def REnv (K : PySem.W.Frag) (w : Wo) (H : Hp) (env : Env') (σ : L2.St) : Prop :=
  env.length = σ.length ∧ ∀ (i : Nat) (d : D), env[i]? = some (some d) → ∃ v, σ[i]? = some (some v) ∧ Rep K w H v d
theorem REnv.ext {K : PySem.W.Frag} {w w' : Wo} {H H' : Hp} {env : Env'} {σ : L2.St} (e : Ext w H w' H') (r : REnv K w H env σ) : REnv K w' H' env σ :=
  ⟨r.1, fun i d h => let ⟨v, h1, h2⟩ := r.2 i d h; ⟨v, h1, h2.ext e⟩⟩
theorem REnv.set {K : PySem.W.Frag} {w : Wo} {H : Hp} {env : Env'} {σ : L2.St} {v : V} {d : D} (i : Nat) (r : REnv K w H env σ) (rv : Rep K w H v d) : REnv K w H (env.set i (some d)) (σ.set i (some v)) := by
  refine ⟨by simpa using r.1, fun j d' h => ?_⟩
  by_cases e : i = j
  · subst e
    by_cases hi : i < env.length
    · rw [List.getElem?_set_self hi] at h
      cases h
      exact ⟨v, List.getElem?_set_self (by rw [← r.1]; exact hi), rv⟩
    · rw [List.getElem?_eq_none (by simpa using Nat.le_of_not_lt hi)] at h
      cases h
  · rw [List.getElem?_set_ne e] at h
    obtain ⟨v', h1, h2⟩ := r.2 j d' h
    exact ⟨v', by rw [List.getElem?_set_ne e]; exact h1, h2⟩

/-! ### what comes out -/
inductive Out (α : Type) where
  | ok (a : α) (st : Sto)
  | err (c : Str) (fs : List (Str × D)) (st : Sto)
  | bad
/-- an error: its class by name, its fields -/
inductive RepF (K : PySem.W.Frag) (w : Wo) (H : Hp) : List (Str × V) → List (Str × D) → Prop
  | nil : RepF K w H [] []
  | cons {f : Str} {v : V} {d : D} {fs : List (Str × V)} {gs : List (Str × D)} : Rep K w H v d → RepF K w H fs gs → RepF K w H ((f, v) :: fs) ((f, d) :: gs)
def ExcOk (K : PySem.W.Frag) (mg : Str → Option Value) (w : Wo) (H : Hp) (c : Str) (fs : List (Str × D)) (cls : Value) (d : Option Addr) : Prop :=
  ∃ C : Addr, mg c = some (.ref C) ∧ cls = .ref C ∧ (match fs with
    | [] => d = none
    | _ => ∃ dx vs, d = some dx ∧ H dx = some (.xd vs) ∧ ¬ w.liv dx ∧ RepF K w H vs fs)

/-- the ground: the written part, the module's names, the tables, what is wished of an error -/
structure Gr where
  K : PySem.W.Frag
  mg : Str → Option Value
  T : List (Addr × Str)

/-- what is wanted of what comes out: of a value, of an error -/
def Fit {α β : Type} (G : Gr) (R : Wo → Hp → β → α → Prop) (w : Wo) (H : Hp) (Q : β → Hp → Prop) (E : XK) : Out α → Prop
  | .ok d st' => ∀ w' H' v, RSt G.K G.T w' st' H' → Ext w H w' H' → R w' H' v d → Q v H'
  | .err c fs st' => ∀ w' H' cls dx, RSt G.K G.T w' st' H' → Ext w H w' H' → ExcOk G.K G.mg w' H' c fs cls dx → E cls dx H'
  | .bad => False
abbrev FitD (G : Gr) := Fit G (fun w H => Rep G.K w H)
abbrev FitA (G : Gr) := Fit G (fun w H => Reps G.K w H)
abbrev FitB (G : Gr) := Fit G (fun _ _ (b c : Bool) => b = c)
abbrev EM (α : Type) := Env' → Sto → Out α
def bnd {α β : Type} (x : Out α) (f : α → Sto → Out β) : Out β := match x with
  | .ok a st => f a st
  | .err c fs st => .err c fs st
  | .bad => .bad
@[simp] theorem bnd_ok {α β : Type} (a : α) (st : Sto) (f : α → Sto → Out β) : bnd (.ok a st) f = f a st := rfl
@[simp] theorem bnd_err {α β : Type} (c : Str) (fs : List (Str × D)) (st : Sto) (f : α → Sto → Out β) : bnd (.err c fs st) f = .err c fs st := rfl
@[simp] theorem bnd_bad {α β : Type} (f : α → Sto → Out β) : bnd (.bad) f = .bad := rfl

/-- the readings: m computes it -/
def dE (G : Gr) (W : WX) (m : EM D) : TE := fun σ H Q => ∃ w env st, RSt G.K G.T w st H ∧ REnv G.K w H env σ ∧ FitD G w H Q (fun c d H' => W c d σ H') (m env st)
def dA (G : Gr) (W : WX) (m : EM (List D)) : TA := fun σ H Q => ∃ w env st, RSt G.K G.T w st H ∧ REnv G.K w H env σ ∧ FitA G w H Q (fun c d H' => W c d σ H') (m env st)
def dT (G : Gr) (W : WX) (m : EM Bool) : TT := fun σ H Q => ∃ w env st, RSt G.K G.T w st H ∧ REnv G.K w H env σ ∧ FitB G w H Q (fun c d H' => W c d σ H') (m env st)

theorem PE.imp {X : Cx} {e : Expr} {t t' : TE} (h : PE X e t) (i : ∀ σ H Q, t' σ H Q → t σ H Q) : PE X e t' := ⟨fun pins s σ H Q I q => h.run pins s σ H Q I (i σ H Q q)⟩
theorem PT.imp {X : Cx} {e : Expr} {t t' : TT} (h : PT X e t) (i : ∀ σ H Q, t' σ H Q → t σ H Q) : PT X e t' := ⟨fun pins s σ H Q I q => h.run pins s σ H Q I (i σ H Q q)⟩
theorem PW.imp {X : Cx} {e : Expr} {t t' : TT} (h : PW X e t) (i : ∀ σ H Q, t' σ H Q → t σ H Q) : PW X e t' := ⟨fun wh pins s σ H Q I q => h.run wh pins s σ H Q I (i σ H Q q)⟩
theorem PA.imp {X : Cx} {e : List Expr} {t t' : TA} (h : PA X e t) (i : ∀ σ H Q, t' σ H Q → t σ H Q) : PA X e t' := ⟨fun pos pins s σ H Q I q => h.run pos pins s σ H Q I (i σ H Q q)⟩
theorem PS.imp {X : Cx} {e : Stmt} {t t' : TS} (h : PS X e t) (i : ∀ D σ H, t' D σ H → t D σ H) : PS X e t' := ⟨fun pins s σ H D I q => h.run pins s σ H D I (i D σ H q)⟩
theorem PSs.imp {X : Cx} {e : List Stmt} {t t' : TS} (h : PSs X e t) (i : ∀ D σ H, t' D σ H → t D σ H) : PSs X e t' := ⟨fun pins s σ H D I q => h.run pins s σ H D I (i D σ H q)⟩

section
variable {G : Gr} {α β γ δ : Type}
/-- what comes out first, then what is made of it -/
theorem Fit.bind {R : Wo → Hp → β → α → Prop} {R' : Wo → Hp → δ → γ → Prop} {w : Wo} {H : Hp} {Q : δ → Hp → Prop} {Q1 : β → Hp → Prop} {E : XK} {x : Out α} {f : α → Sto → Out γ} (h : Fit G R' w H Q E (bnd x f))
    (k : ∀ d st' w' H' v, RSt G.K G.T w' st' H' → Ext w H w' H' → R w' H' v d → Fit G R' w' H' Q E (f d st') → Q1 v H') : Fit G R w H Q1 E x := by
  cases x with
  | ok d st' =>
    intro w' H' v rs e r
    refine k d st' w' H' v rs e r ?_
    have h' : Fit G R' w H Q E (f d st') := h
    cases q : f d st' with
    | ok g s2 =>
      rw [q] at h'
      intro w2 H2 v2 rs2 e2 r2
      exact h' w2 H2 v2 rs2 (e.trans e2) r2
    | err c fs s2 =>
      rw [q] at h'
      intro w2 H2 cls dx rs2 e2 x2
      exact h' w2 H2 cls dx rs2 (e.trans e2) x2
    | bad => rw [q] at h'; exact h'
  | err c fs st' => exact h
  | bad => exact h
theorem Fit.ext {R : Wo → Hp → β → α → Prop} {w w' : Wo} {H H' : Hp} {Q : β → Hp → Prop} {E : XK} {x : Out α} (h : Fit G R w H Q E x) (e : Ext w H w' H') : Fit G R w' H' Q E x := by
  cases x with
  | ok d st' => exact fun w2 H2 v rs e2 r => h w2 H2 v rs (e.trans e2) r
  | err c fs st' => exact fun w2 H2 cls dx rs e2 r => h w2 H2 cls dx rs (e.trans e2) r
  | bad => exact h
theorem Fit.imp {R : Wo → Hp → β → α → Prop} {w : Wo} {H : Hp} {Q Q' : β → Hp → Prop} {E E' : XK} {x : Out α} (h : Fit G R w H Q E x) (hq : ∀ v H', Q v H' → Q' v H') (he : ∀ c d H', E c d H' → E' c d H') : Fit G R w H Q' E' x := by
  cases x with
  | ok d st' => exact fun w2 H2 v rs e2 r => hq _ _ (h w2 H2 v rs e2 r)
  | err c fs st' => exact fun w2 H2 cls dx rs e2 r => he _ _ _ (h w2 H2 cls dx rs e2 r)
  | bad => exact h
/-- a value that stands already -/
theorem Fit.now {R : Wo → Hp → β → α → Prop} {w : Wo} {H : Hp} {Q : β → Hp → Prop} {E : XK} {d : α} {st : Sto} {v : β} (h : Fit G R w H Q E (.ok d st)) (rs : RSt G.K G.T w st H) (r : R w H v d) : Q v H := h w H v rs (Ext.refl w H) r
end

/-! ### expressions -/
section
variable {X : Cx} {G : Gr} {W : WX} {a b : Expr} {ma mb : EM D}
def eC (d : D) : EM D := fun _ st => .ok d st
def eV (i : Nat) : EM D := fun env st => match env[i]? with
  | some (some d) => .ok d st
  | _ => .bad
theorem de_int {i j pos} : PE X (.Constant (.int i) j pos) (dE G W (eC (.int i))) := PE.imp pe_int fun σ H Q ⟨w, env, st, rs, re, h⟩ => h.now rs (.int i)
theorem de_bl {b j pos} : PE X (.Constant (.bool b) j pos) (dE G W (eC (.bl b))) := PE.imp pe_bl fun σ H Q ⟨w, env, st, rs, re, h⟩ => h.now rs (.bl b)
theorem de_non {j pos} : PE X (.Constant .none j pos) (dE G W (eC .non)) := PE.imp pe_non fun σ H Q ⟨w, env, st, rs, re, h⟩ => h.now rs .non
theorem de_str {x j pos} : PE X (.Constant (.str x) j pos) (dE G W (eC (.str x))) := PE.imp pe_str fun σ H Q ⟨w, env, st, rs, re, h⟩ => h.now rs (.str x)
theorem de_v (i : Nat) {x : Str} {pos : Pos} (hN : X.N[i]? = some x := by rfl) (hv : Vis X.env.scope x := by first | exact Or.inl rfl | exact Or.inr (Or.inl rfl) | exact Or.inr (Or.inr rfl)) (hd : (x == ("__debug__" : Str)) = false := by decide)
    (hcd : (x == ("__classdict__" : Str)) = false := by decide) : PE X (.Name x pos) (dE G W (eV i)) := PE.imp (pe_var hN hv hd hcd) fun σ H Q ⟨w, env, st, rs, re, h⟩ => by
  unfold eV at h
  cases e : env[i]? with
  | none => rw [e] at h; exact h.elim
  | some o =>
    cases o with
    | none => rw [e] at h; exact h.elim
    | some d =>
      rw [e] at h
      obtain ⟨v, h1, h2⟩ := re.2 i d e
      exact ⟨v, h1, h.now rs h2⟩

/-- an operation on two values; f says what it makes of their data -/
def OpS (X : Cx) (G : Gr) (r : R2) (f : D → D → Sto → Out D) : Prop :=
  ∀ (w : Wo) (st : Sto) (H : Hp) (x y : V) (dx dy : D) (Q : VK), RSt G.K G.T w st H → Rep G.K w H x dx → Rep G.K w H y dy → FitD G w H Q E0 (f dx dy st) → r x y H Q
/-- f raises nothing of its own -/
def Calm (x : Out D) : Prop := match x with
  | .err _ _ _ => False
  | _ => True
def eOp (f : D → D → Sto → Out D) (ma mb : EM D) : EM D := fun env st => bnd (ma env st) fun x st => bnd (mb env st) fun y st => f x y st
theorem fit_calm {w : Wo} {H : Hp} {Q : VK} {E : XK} {x : Out D} (h : FitD G w H Q E x) (c : Calm x) : FitD G w H Q E0 x := by
  cases x with
  | ok d st => exact h
  | err _ _ _ => exact c.elim
  | bad => exact h
theorem dop {r : R2} {f : D → D → Sto → Out D} (hr : OpS X G r f) (hc : ∀ x y st, Calm (f x y st)) {σ : L2.St} {H : Hp} {Q : VK} (h : dE G W (eOp f ma mb) σ H Q) : tOp r (dE G W ma) (dE G W mb) σ H Q := by
  obtain ⟨w, env, st, rs, re, h⟩ := h
  refine ⟨w, env, st, rs, re, Fit.bind h fun dx st1 w1 H1 x rs1 e1 rx h1 => ?_⟩
  refine ⟨w1, env, st1, rs1, re.ext e1, Fit.bind h1 fun dy st2 w2 H2 y rs2 e2 ry h2 => ?_⟩
  exact hr w2 st2 H2 x y dx dy Q rs2 (rx.ext e2) ry (fit_calm h2 (hc _ _ _))
theorem de_op {op : Operator} {r : R2} {pos : Pos} {f : D → D → Sto → Out D} (ho : OpR X (binaryOp op) r) (hr : OpS X G r f) (hc : ∀ x y st, Calm (f x y st)) (ha : PE X a (dE G W ma)) (hb : PE X b (dE G W mb)) : PE X (.BinOp a op b pos) (dE G W (eOp f ma mb)) :=
  PE.imp (pe_op ho ha hb) fun _ _ _ h => dop hr hc h
theorem de_cmp {op : CmpOp} {r : R2} {pos : Pos} {f : D → D → Sto → Out D} (ho : OpR X (compareOp op) r) (hr : OpS X G r f) (hc : ∀ x y st, Calm (f x y st)) (ha : PE X a (dE G W ma)) (hb : PE X b (dE G W mb)) (hm : behindInMarks op b = false) :
    PE X (.Compare a [op] [b] pos) (dE G W (eOp f ma mb)) := PE.imp (pe_cmpR ho ha hb hm) fun _ _ _ h => dop hr hc h
end
end DL

set_option Elab.async false
set_option linter.all false
set_option maxRecDepth 100000
set_option maxHeartbeats 2000000
namespace DL
open PySem PySem.Spec PyProof.Rows L2

/-! ### the store -/
section
variable {K : PySem.W.Frag} {T : List (Addr × Str)} {w : Wo} {st : Sto} {H : Hp} {p a : Addr} {o : HO} {n : Nat} {c : Cell}
theorem RSt.at (rs : RSt K T w st H) {n : Nat} (h : w.adr[n]? = some a) : ∃ c, st[n]? = some c ∧ CellOk K w H a c := by
  have hl : n < w.adr.length := (List.getElem?_eq_some_iff.mp h).1
  have hl2 : n < st.length := by rw [← rs.len]; exact hl
  have e : st[n]? = some (st[n]'hl2) := List.getElem?_eq_getElem hl2
  exact ⟨_, e, rs.cell n a _ h e⟩
theorem RSt.notIn (rs : RSt K T w st H) (hp : H p = none) {n : Nat} : w.adr[n]? ≠ some p := fun h => by
  obtain ⟨c, _, xs, e, _⟩ := rs.at h
  rw [hp] at e
  cases e
theorem RSt.notLive (rs : RSt K T w st H) (hp : H p = none) : ¬ w.liv p := fun h => by
  obtain ⟨o, e, _⟩ := rs.livH p h
  rw [hp] at e
  cases e
theorem Ext.new (hn : H p = none) : Ext w H w (upd H p o) :=
  ⟨⟨fun _ _ h => h, fun a u h n _ => ⟨by rw [upd_ne (ne_of_none h hn)]; exact h, n⟩⟩, fun a u l n h => ⟨by rw [upd_ne (ne_of_none h hn)]; exact h, l, n⟩⟩
theorem RSt.new (rs : RSt K T w st H) (hp : H p = none) : RSt K T w st (upd H p o) where
  len := rs.len
  nd := rs.nd
  livH := fun a l => by
    obtain ⟨o, e, m⟩ := rs.livH a l
    exact ⟨o, by rw [upd_ne (ne_of_none e hp)]; exact e, m⟩
  livL := rs.livL
  livF := rs.livF
  cell := fun n a c h1 h2 => by
    obtain ⟨xs, e, r⟩ := rs.cell n a c h1 h2
    exact ⟨xs, by rw [upd_ne (ne_of_none e hp)]; exact e, r.ext (Ext.new hp)⟩
  tab := rs.tab.ext fun b u h => by rw [upd_ne (ne_of_none h hp)]; exact h
/-- a new list, a new tuple that will not change -/
theorem RSt.newL {xs : List V} {ds : List D} (rs : RSt K T w st H) (hp : H p = none) (r : Reps K w H xs ds) : RSt K T w st (upd H p (.lst xs)) ∧ Ext w H w (upd H p (.lst xs)) ∧ Rep K w (upd H p (.lst xs)) (.ref p) (.lst ds) :=
  ⟨rs.new hp, Ext.new hp, .lst ⟨upd_same, rs.notLive hp⟩ (r.ext (Ext.new hp))⟩
theorem RSt.newT {xs : List V} {ds : List D} (rs : RSt K T w st H) (hp : H p = none) (r : Reps K w H xs ds) : RSt K T w st (upd H p (.tup xs)) ∧ Ext w H w (upd H p (.tup xs)) ∧ Rep K w (upd H p (.tup xs)) (.ref p) (.tup ds) :=
  ⟨rs.new hp, Ext.new hp, .tup (.inl ⟨upd_same, rs.notLive hp⟩) (r.ext (Ext.new hp))⟩
def Wo.push (w : Wo) (p : Addr) : Wo := ⟨w.adr ++ [p], fun a => w.liv a ∨ a = p⟩
theorem Ext.newC (hn : H p = none) : Ext w H (w.push p) (upd H p o) := by
  refine ⟨⟨fun n a h => ?_, fun a u h nl _ => ⟨by rw [upd_ne (ne_of_none h hn)]; exact h, fun z => ?_⟩⟩, fun a u l nn h => ⟨by rw [upd_ne (ne_of_none h hn)]; exact h, .inl l, fun n z => ?_⟩⟩
  · show (w.adr ++ [p])[n]? = some a
    rw [List.getElem?_append_left (List.getElem?_eq_some_iff.mp h).1]
    exact h
  · rcases z with z | z
    · exact nl z
    · exact ne_of_none h hn z
  · have z' : (w.adr ++ [p])[n]? = some a := z
    rw [List.getElem?_append] at z'
    split at z'
    · exact nn n z'
    · have hm : a ∈ [p] := List.mem_of_getElem? z'
      exact ne_of_none h hn (by simpa using hm)
/-- a new cell -/
theorem RSt.newC {xs : List V} {ds : List D} (rs : RSt K T w st H) (hp : H p = none) (r : Reps K w H xs ds) : RSt K T (w.push p) (st ++ [.lst ds]) (upd H p (.lst xs)) ∧ Ext w H (w.push p) (upd H p (.lst xs)) ∧ Rep K (w.push p) (upd H p (.lst xs)) (.ref p) (.cel st.length) := by
  have ex : Ext w H (w.push p) (upd H p (.lst xs)) := Ext.newC hp
  have at1 : ∀ {n : Nat} {a : Addr} {c : Cell}, (w.push p).adr[n]? = some a → (st ++ [Cell.lst ds])[n]? = some c → (w.adr[n]? = some a ∧ st[n]? = some c) ∨ (n = st.length ∧ a = p ∧ c = .lst ds) := by
    intro n a c h1 h2
    have h1' : (w.adr ++ [p])[n]? = some a := h1
    by_cases hl : n < st.length
    · rw [List.getElem?_append_left (by rw [rs.len]; exact hl)] at h1'
      rw [List.getElem?_append_left hl] at h2
      exact .inl ⟨h1', h2⟩
    · rw [List.getElem?_append_right (by rw [rs.len]; omega)] at h1'
      rw [List.getElem?_append_right (by omega)] at h2
      have e : n - st.length = 0 := by
        cases q : n - st.length with
        | zero => rfl
        | succ k => rw [q] at h2; simp at h2
      rw [rs.len, e] at h1'
      rw [e] at h2
      simp at h1' h2
      exact .inr ⟨by omega, h1'.symm, h2.symm⟩
  refine ⟨⟨?_, ?_, fun a l => ?_, fun n a zs h1 h2 => ?_, fun n a zs h1 h2 l => ?_, fun n a c h1 h2 => ?_, ?_⟩, ex, ?_⟩
  · show (w.adr ++ [p]).length = (st ++ [Cell.lst ds]).length
    rw [List.length_append, List.length_append, rs.len]
    rfl
  · show (w.adr ++ [p]).Nodup
    rw [List.nodup_append]
    refine ⟨rs.nd, by simp, fun x hx y hy z => ?_⟩
    obtain ⟨n, hn⟩ := List.getElem?_of_mem hx
    have hy' : y = p := by simpa using hy
    rw [z, hy'] at hn
    exact rs.notIn hp hn
  · rcases l with l | l
    · obtain ⟨o, e, m⟩ := rs.livH a l
      exact ⟨o, by rw [upd_ne (ne_of_none e hp)]; exact e, m⟩
    · rw [l]
      exact ⟨_, upd_same, trivial⟩
  · rcases at1 h1 h2 with ⟨h1, h2⟩ | ⟨_, h1, _⟩
    · exact .inl (rs.livL n a zs h1 h2)
    · exact .inr h1
  · rcases at1 h1 h2 with ⟨h1, h2⟩ | ⟨_, _, h2⟩
    · rcases l with l | l
      · exact rs.livF n a zs h1 h2 l
      · rw [l] at h1
        exact rs.notIn hp h1
    · cases h2
  · rcases at1 h1 h2 with ⟨h1, h2⟩ | ⟨_, h1, h2⟩
    · obtain ⟨ys, e, q⟩ := rs.cell n a c h1 h2
      exact ⟨ys, by rw [upd_ne (ne_of_none e hp)]; exact e, q.ext ex⟩
    · subst h1 h2
      exact ⟨xs, upd_same, r.ext ex⟩
  · exact rs.tab.ext fun b u h => by rw [upd_ne (ne_of_none h hp)]; exact h
  · refine .cel ?_
    show (w.adr ++ [p])[st.length]? = some p
    rw [← rs.len]
    simp
theorem nodup_ixA {N : List Addr} (hN : N.Nodup) {i j : Nat} {x : Addr} (a : N[i]? = some x) (b : N[j]? = some x) : i = j := by
  obtain ⟨h1, e1⟩ := List.getElem?_eq_some_iff.mp a
  obtain ⟨h2, e2⟩ := List.getElem?_eq_some_iff.mp b
  exact (List.getElem_inj hN).mp (e1.trans e2.symm)
theorem tabs_put {xs ys : List V} (t : LamX.Tabs T H) (h : H a = some (.lst ys)) : LamX.Tabs T (upd H a (.lst xs)) := fun q hq => by
  obtain ⟨ps, h1, h2, h3⟩ := t q hq
  refine ⟨ps, ?_, h2, fun pos cv hc => ?_⟩
  · rw [upd_ne (ne_of h1 h (by intro z; cases z))]
    exact h1
  · obtain ⟨c, e, hc'⟩ := h3 pos cv hc
    refine ⟨c, e, ?_⟩
    have ne : c ≠ a := ne_of hc' h (by intro z; cases z)
    rw [upd_ne ne]
    exact hc'
/-- a cell is written -/
theorem RSt.put {xs : List V} {ds ds' : List D} (rs : RSt K T w st H) (h1 : w.adr[n]? = some a) (h2 : st[n]? = some (.lst ds)) (r : Reps K w H xs ds') : RSt K T w (st.set n (.lst ds')) (upd H a (.lst xs)) ∧ Ext w H w (upd H a (.lst xs)) := by
  have la : w.liv a := rs.livL n a ds h1 h2
  have ex : Ext w H w (upd H a (.lst xs)) := ⟨⟨fun _ _ h => h, fun b u h nl _ => ⟨by rw [upd_ne (fun z : b = a => nl (z ▸ la))]; exact h, nl⟩⟩,
    fun b u l nn h => ⟨by rw [upd_ne (fun z : b = a => nn n (z ▸ h1))]; exact h, l, nn⟩⟩
  obtain ⟨ys, ey, _⟩ := rs.cell n a _ h1 h2
  have hn : n < st.length := (List.getElem?_eq_some_iff.mp h2).1
  have same : ∀ {m : Nat}, w.adr[m]? = some a → m = n := fun {m} hm => nodup_ixA rs.nd hm h1
  refine ⟨⟨?_, rs.nd, fun b l => ?_, fun m b zs g1 g2 => ?_, fun m b zs g1 g2 => ?_, fun m b c g1 g2 => ?_, tabs_put rs.tab ey⟩, ex⟩
  · rw [List.length_set]; exact rs.len
  · by_cases e : b = a
    · rw [e]; exact ⟨_, upd_same, trivial⟩
    · obtain ⟨o, ez, m⟩ := rs.livH b l
      exact ⟨o, by rw [upd_ne e]; exact ez, m⟩
  · by_cases e : m = n
    · subst e
      rw [h1] at g1
      cases g1
      exact la
    · rw [List.getElem?_set_ne (Ne.symm e)] at g2
      exact rs.livL m b zs g1 g2
  · by_cases e : m = n
    · subst e
      rw [List.getElem?_set_self hn] at g2
      cases g2
    · rw [List.getElem?_set_ne (Ne.symm e)] at g2
      exact rs.livF m b zs g1 g2
  · by_cases e : m = n
    · subst e
      rw [h1] at g1
      cases g1
      rw [List.getElem?_set_self hn] at g2
      cases g2
      exact ⟨xs, upd_same, r.ext ex⟩
    · rw [List.getElem?_set_ne (Ne.symm e)] at g2
      obtain ⟨zs, ez, q⟩ := rs.cell m b c g1 g2
      refine ⟨zs, ?_, q.ext ex⟩
      rw [upd_ne (fun z : b = a => e (same (z ▸ g1)))]
      exact ez
def Wo.drop (w : Wo) (p : Addr) : Wo := ⟨w.adr, fun a => w.liv a ∧ a ≠ p⟩
/-- a cell is given up for changes: what stands in it is data from now on -/
theorem RSt.freeze {ds : List D} (rs : RSt K T w st H) (h1 : w.adr[n]? = some a) (h2 : st[n]? = some (.lst ds)) : RSt K T (w.drop a) (st.set n (.fz ds)) H ∧ Ext w H (w.drop a) H ∧ Rep K (w.drop a) H (.ref a) (.lst ds) := by
  have ex : Ext w H (w.drop a) H := ⟨⟨fun _ _ h => h, fun b u h nl _ => ⟨h, fun z => nl z.1⟩⟩, fun b u l nn h => ⟨h, ⟨l, fun z : b = a => nn n (z ▸ h1)⟩, nn⟩⟩
  have hn : n < st.length := (List.getElem?_eq_some_iff.mp h2).1
  obtain ⟨ys, ey, ry⟩ := rs.cell n a _ h1 h2
  refine ⟨⟨?_, rs.nd, fun b l => rs.livH b l.1, fun m b zs g1 g2 => ?_, fun m b zs g1 g2 l => ?_, fun m b c g1 g2 => ?_, rs.tab⟩, ex, .lst ⟨ey, fun z => z.2 rfl⟩ (ry.ext ex)⟩
  · rw [List.length_set]; exact rs.len
  · by_cases e : m = n
    · subst e
      rw [List.getElem?_set_self hn] at g2
      cases g2
    · rw [List.getElem?_set_ne (Ne.symm e)] at g2
      exact ⟨rs.livL m b zs g1 g2, fun z => e (nodup_ixA rs.nd (z ▸ g1) h1)⟩
  · by_cases e : m = n
    · subst e
      have g1' : w.adr[m]? = some b := g1
      rw [h1] at g1'
      cases g1'
      exact l.2 rfl
    · rw [List.getElem?_set_ne (Ne.symm e)] at g2
      exact rs.livF m b zs g1 g2 l.1
  · by_cases e : m = n
    · subst e
      rw [List.getElem?_set_self hn] at g2
      cases g2
      have g1' : w.adr[m]? = some b := g1
      rw [h1] at g1'
      cases g1'
      exact ⟨ys, ey, ry.ext ex⟩
    · rw [List.getElem?_set_ne (Ne.symm e)] at g2
      obtain ⟨zs, ez, q⟩ := rs.cell m b c g1 g2
      exact ⟨zs, ez, q.ext ex⟩
/-- a cell that no longer changes is data -/
theorem RSt.frozen {ds : List D} (rs : RSt K T w st H) (h1 : w.adr[n]? = some a) (h2 : st[n]? = some (.fz ds)) : Rep K w H (.ref a) (.lst ds) := by
  obtain ⟨ys, ey, ry⟩ := rs.cell n a _ h1 h2
  exact .lst ⟨ey, rs.livF n a ds h1 h2⟩ ry
end

/-! ### sequences -/
/-- the items of a list, a tuple, a cell, the script -/
def seqOf (st : Sto) : D → Option (List D)
  | .lst ds => some ds
  | .tup ds => some ds
  | .cel n => (st[n]?).map Cell.get
  | .scr ns => some (ns.map D.int)
  | _ => none
theorem Rep.seq {G : Gr} {w : Wo} {st : Sto} {H : Hp} {v : V} {d : D} {ds : List D} (r : Rep G.K w H v d) (rs : RSt G.K G.T w st H) (h : seqOf st d = some ds) : ∃ p ys, v = .ref p ∧ (SqL G.K H p ys ∨ SqT G.K H p ys) ∧ Reps G.K w H ys ds := by
  cases r with
  | non => cases h
  | bl b => cases h
  | int i => cases h
  | str x => cases h
  | lst f q => cases h; exact ⟨_, _, rfl, .inl f.sq, q⟩
  | tup f q => cases h; exact ⟨_, _, rfl, .inr f.sq, q⟩
  | cel f =>
    rename_i a n
    obtain ⟨c, hc, xs, ex, q⟩ := rs.at f
    have h' : (st[n]?).map Cell.get = some ds := h
    rw [hc] at h'
    cases h'
    exact ⟨a, xs, rfl, .inl (SqL.of ex), q⟩
  | scr f => cases h; exact ⟨_, _, rfl, .inl f.sq, Reps.of_ints _⟩
  | _ => cases h
/-- only lists that are changed by themselves -/
def lstOf (st : Sto) : D → Option (List D)
  | .lst ds => some ds
  | .cel n => (st[n]?).map Cell.get
  | _ => none
theorem Rep.lstAt {G : Gr} {w : Wo} {st : Sto} {H : Hp} {v : V} {d : D} {ds : List D} (r : Rep G.K w H v d) (rs : RSt G.K G.T w st H) (h : lstOf st d = some ds) : ∃ p ys, v = .ref p ∧ H p = some (.lst ys) ∧ Reps G.K w H ys ds := by
  cases r with
  | non => cases h
  | bl b => cases h
  | int i => cases h
  | str x => cases h
  | lst f q => cases h; exact ⟨_, _, rfl, f.1, q⟩
  | tup f q => cases h
  | cel f =>
    rename_i a n
    obtain ⟨c, hc, xs, ex, q⟩ := rs.at f
    have h' : (st[n]?).map Cell.get = some ds := h
    rw [hc] at h'
    cases h'
    exact ⟨a, xs, rfl, ex, q⟩
  | scr f => cases h
  | _ => cases h

/-! ### argument lists, displays -/
section
variable {X : Cx} {G : Gr} {W : WX} {a b e : Expr} {es : List Expr} {ma mb me : EM D} {mr : EM (List D)} {pos : Pos}
def aNil : EM (List D) := fun _ st => .ok [] st
def aCons (m : EM D) (mr : EM (List D)) : EM (List D) := fun env st => bnd (m env st) fun d st => bnd (mr env st) fun ds st => .ok (d :: ds) st
theorem da_nil : PA X [] (dA G W aNil) := PA.imp pa_nil fun σ H Q ⟨w, env, st, rs, re, h⟩ => h.now rs .nil
theorem da_cons (ha : PE X e (dE G W me)) (hr : PA X es (dA G W mr)) (hs : starEach (e :: es) X.env = (false, eval e X.env) :: starEach es X.env := by rfl) : PA X (e :: es) (dA G W (aCons me mr)) :=
  PA.imp (pa_cons ha hr hs) fun σ H Q ⟨w, env, st, rs, re, h⟩ => by
    refine ⟨w, env, st, rs, re, Fit.bind h fun d st1 w1 H1 v rs1 e1 rv h1 => ?_⟩
    refine ⟨w1, env, st1, rs1, re.ext e1, Fit.bind h1 fun ds st2 w2 H2 vs rs2 e2 rvs h2 => ?_⟩
    exact h2.now rs2 (.cons (rv.ext e2) rvs)
/-- a limit of every length here -/
def short (ds : List D) : Bool := decide (ds.length ≤ 100000)
theorem short_of {ds : List D} (h : short ds = true) : ds.length ≤ sizeLine := Nat.le_trans (of_decide_eq_true h) (by rw [sizeLine_eq]; omega)
def eTup (mr : EM (List D)) : EM D := fun env st => bnd (mr env st) fun ds st => if short ds then .ok (.tup ds) st else .bad
def eLst (mr : EM (List D)) : EM D := fun env st => bnd (mr env st) fun ds st => if short ds then .ok (.lst ds) st else .bad
/-- a list that will be changed -/
def eCel (mr : EM (List D)) : EM D := fun env st => bnd (mr env st) fun ds st => if short ds then .ok (.cel st.length) (st ++ [.lst ds]) else .bad
theorem de_tup {x1} (h : PA X es (dA G W mr)) : PE X (.Tuple es x1 pos) (dE G W (eTup mr)) := PE.imp (pe_tup h) fun σ H Q ⟨w, env, st, rs, re, h⟩ => by
  refine ⟨w, env, st, rs, re, Fit.bind h fun ds st1 w1 H1 vs rs1 e1 rv h1 => ?_⟩
  by_cases hs : short ds
  · rw [if_pos hs] at h1
    refine ⟨by rw [rv.length]; exact short_of hs, fun p hp => ?_⟩
    obtain ⟨q1, q2, q3⟩ := rs1.newT hp rv
    exact h1 _ _ _ q1 q2 q3
  · rw [if_neg hs] at h1
    exact h1.elim
theorem de_lst (h : PA X es (dA G W mr)) : PE X (.List es pos) (dE G W (eLst mr)) := PE.imp (pe_lst h) fun σ H Q ⟨w, env, st, rs, re, h⟩ => by
  refine ⟨w, env, st, rs, re, Fit.bind h fun ds st1 w1 H1 vs rs1 e1 rv h1 => ?_⟩
  by_cases hs : short ds
  · rw [if_pos hs] at h1
    refine ⟨by rw [rv.length]; exact short_of hs, fun p hp => ?_⟩
    obtain ⟨q1, q2, q3⟩ := rs1.newL hp rv
    exact h1 _ _ _ q1 q2 q3
  · rw [if_neg hs] at h1
    exact h1.elim
theorem de_cel (h : PA X es (dA G W mr)) : PE X (.List es pos) (dE G W (eCel mr)) := PE.imp (pe_lst h) fun σ H Q ⟨w, env, st, rs, re, h⟩ => by
  refine ⟨w, env, st, rs, re, Fit.bind h fun ds st1 w1 H1 vs rs1 e1 rv h1 => ?_⟩
  by_cases hs : short ds
  · rw [if_pos hs] at h1
    refine ⟨by rw [rv.length]; exact short_of hs, fun p hp => ?_⟩
    obtain ⟨q1, q2, q3⟩ := rs1.newC hp rv
    exact h1 _ _ _ q1 q2 q3
  · rw [if_neg hs] at h1
    exact h1.elim
/-- what is read is data from now on -/
def fzD (d : D) (st : Sto) : Out D := match d with
  | .cel n => (match st[n]? with
    | some (.lst ds) => .ok (.lst ds) (st.set n (.fz ds))
    | some (.fz ds) => .ok (.lst ds) st
    | none => .bad)
  | d => .ok d st
def eFz (m : EM D) : EM D := fun env st => bnd (m env st) fzD
theorem fit_fz {w : Wo} {H : Hp} {st : Sto} {d : D} {v : V} {Q : VK} {E : XK} (rs : RSt G.K G.T w st H) (r : Rep G.K w H v d) (h : FitD G w H Q E (fzD d st)) : Q v H := by
  have r0 := r
  cases r with
  | cel f =>
    rename_i x n
    obtain ⟨c, hc, _⟩ := rs.at f
    unfold fzD at h
    dsimp only at h
    rw [hc] at h
    cases c with
    | lst ds =>
      obtain ⟨q1, q2, q3⟩ := rs.freeze f hc
      exact h _ _ _ q1 q2 q3
    | fz ds => exact h _ _ _ rs (Ext.refl w H) (rs.frozen f hc)
  | _ => exact h _ _ _ rs (Ext.refl w H) r0
theorem de_fz (h : PE X e (dE G W me)) : PE X e (dE G W (eFz me)) := PE.imp h fun σ H Q ⟨w, env, st, rs, re, h⟩ =>
  ⟨w, env, st, rs, re, Fit.bind h fun d st1 w1 H1 v rs1 e1 rv h1 => fit_fz rs1 rv h1⟩

/-! ### tests -/
def toB (d : D) (st : Sto) : Out Bool := match d with
  | .bl b => .ok b st
  | _ => .bad
def tOf (m : EM D) : EM Bool := fun env st => bnd (m env st) toB
theorem fit_tOf {w : Wo} {H : Hp} {st : Sto} {d : D} {v : V} {Q : Bool → Hp → Prop} {E : XK} (rs : RSt G.K G.T w st H) (r : Rep G.K w H v d) (h : FitB G w H Q E (toB d st)) : ∃ c, v = .bl c ∧ Q c H := by
  cases r with
  | bl b => exact ⟨b, rfl, h _ _ _ rs (Ext.refl w H) rfl⟩
  | _ => exact h.elim
theorem dt_val (h : PE X e (dE G W me)) (he : ∀ whole, isTrue e X.env whole = (do let v ← whole; standAt e.pos; holding [v] (truthy v)) := by intro _; rfl) : PT X e (dT G W (tOf me)) := PT.imp (pt_val h he) fun σ H Q ⟨w, env, st, rs, re, h⟩ =>
  ⟨w, env, st, rs, re, Fit.bind h fun d st1 w1 H1 v rs1 e1 rv h1 => fit_tOf rs1 rv h1⟩
theorem dt_cmp {op : CmpOp} {r : R2} {f : D → D → Sto → Out D} (ho : OpR X (compareOp op) r) (hr : OpS X G r f) (hc : ∀ x y st, Calm (f x y st)) (ha : PE X a (dE G W ma)) (hb : PE X b (dE G W mb)) (hm : behindInMarks op b = false) :
    PT X (.Compare a [op] [b] pos) (dT G W (tOf (eOp f ma mb))) := PT.imp (pt_cmpR ho ha hb hm) fun σ H Q ⟨w, env, st, rs, re, h⟩ => by
  refine dop hr hc ⟨w, env, st, rs, re, Fit.bind h fun d st1 w1 H1 v rs1 e1 rv h1 => ?_⟩
  exact fit_tOf rs1 rv h1
def bAnd (mt mu : EM Bool) : EM Bool := fun env st => bnd (mt env st) fun c st => if c then mu env st else .ok false st
def bOr (mt mu : EM Bool) : EM Bool := fun env st => bnd (mt env st) fun c st => if c then .ok true st else mu env st
def bNot (mt : EM Bool) : EM Bool := fun env st => bnd (mt env st) fun c st => .ok (!c) st
variable {mt mu : EM Bool}
theorem dand {σ : L2.St} {H : Hp} {Q : Bool → Hp → Prop} (h : dT G W (bAnd mt mu) σ H Q) : tAnd (dT G W mt) (dT G W mu) σ H Q := by
  obtain ⟨w, env, st, rs, re, h⟩ := h
  refine ⟨w, env, st, rs, re, Fit.bind h fun c st1 w1 H1 v rs1 e1 rv h1 => ?_⟩
  subst rv
  cases v with
  | true => exact ⟨w1, env, st1, rs1, re.ext e1, h1⟩
  | false => exact h1 _ _ _ rs1 (Ext.refl _ _) rfl
theorem dor {σ : L2.St} {H : Hp} {Q : Bool → Hp → Prop} (h : dT G W (bOr mt mu) σ H Q) : tOr (dT G W mt) (dT G W mu) σ H Q := by
  obtain ⟨w, env, st, rs, re, h⟩ := h
  refine ⟨w, env, st, rs, re, Fit.bind h fun c st1 w1 H1 v rs1 e1 rv h1 => ?_⟩
  subst rv
  cases v with
  | true => exact h1 _ _ _ rs1 (Ext.refl _ _) rfl
  | false => exact ⟨w1, env, st1, rs1, re.ext e1, h1⟩
theorem dnot {σ : L2.St} {H : Hp} {Q : Bool → Hp → Prop} (h : dT G W (bNot mt) σ H Q) : tNot (dT G W mt) σ H Q := by
  obtain ⟨w, env, st, rs, re, h⟩ := h
  refine ⟨w, env, st, rs, re, Fit.bind h fun c st1 w1 H1 v rs1 e1 rv h1 => ?_⟩
  subst rv
  exact h1 _ _ _ rs1 (Ext.refl _ _) rfl
def eIf (mt : EM Bool) (ma mb : EM D) : EM D := fun env st => bnd (mt env st) fun c st => if c then ma env st else mb env st
theorem dif {σ : L2.St} {H : Hp} {Q : VK} (h : dE G W (eIf mt ma mb) σ H Q) : tIf (dT G W mt) (dE G W ma) (dE G W mb) σ H Q := by
  obtain ⟨w, env, st, rs, re, h⟩ := h
  refine ⟨w, env, st, rs, re, Fit.bind h fun c st1 w1 H1 v rs1 e1 rv h1 => ?_⟩
  subst rv
  cases v with
  | true => exact ⟨w1, env, st1, rs1, re.ext e1, h1⟩
  | false => exact ⟨w1, env, st1, rs1, re.ext e1, h1⟩
def eAnd (ma mb : EM D) : EM D := fun env st => bnd (ma env st) fun d st => match d with
  | .bl c => if c then mb env st else .ok (.bl false) st
  | _ => .bad
def eOr (ma mb : EM D) : EM D := fun env st => bnd (ma env st) fun d st => match d with
  | .bl c => if c then .ok (.bl true) st else mb env st
  | _ => .bad
def eNot (ma : EM D) : EM D := fun env st => bnd (ma env st) fun d st => match d with
  | .bl c => .ok (.bl (!c)) st
  | _ => .bad
theorem dandV {σ : L2.St} {H : Hp} {Q : VK} (h : dE G W (eAnd ma mb) σ H Q) : tAndV (dE G W ma) (dE G W mb) σ H Q := by
  obtain ⟨w, env, st, rs, re, h⟩ := h
  refine ⟨w, env, st, rs, re, Fit.bind h fun d st1 w1 H1 v rs1 e1 rv h1 => ?_⟩
  cases rv with
  | bl c =>
    refine ⟨c, rfl, ?_⟩
    cases c with
    | true => exact ⟨w1, env, st1, rs1, re.ext e1, h1⟩
    | false => exact h1 _ _ _ rs1 (Ext.refl _ _) (.bl false)
  | _ => exact h1.elim
theorem dorV {σ : L2.St} {H : Hp} {Q : VK} (h : dE G W (eOr ma mb) σ H Q) : tOrV (dE G W ma) (dE G W mb) σ H Q := by
  obtain ⟨w, env, st, rs, re, h⟩ := h
  refine ⟨w, env, st, rs, re, Fit.bind h fun d st1 w1 H1 v rs1 e1 rv h1 => ?_⟩
  cases rv with
  | bl c =>
    refine ⟨c, rfl, ?_⟩
    cases c with
    | true => exact h1 _ _ _ rs1 (Ext.refl _ _) (.bl true)
    | false => exact ⟨w1, env, st1, rs1, re.ext e1, h1⟩
  | _ => exact h1.elim
theorem dnotV {σ : L2.St} {H : Hp} {Q : VK} (h : dE G W (eNot ma) σ H Q) : tNotV (dE G W ma) σ H Q := by
  obtain ⟨w, env, st, rs, re, h⟩ := h
  refine ⟨w, env, st, rs, re, Fit.bind h fun d st1 w1 H1 v rs1 e1 rv h1 => ?_⟩
  cases rv with
  | bl c => exact ⟨c, rfl, h1 _ _ _ rs1 (Ext.refl _ _) (.bl _)⟩
  | _ => exact h1.elim
end
end DL

set_option Elab.async false
set_option linter.all false
set_option maxRecDepth 100000
set_option maxHeartbeats 2000000
namespace DL
open PySem PySem.Spec PyProof.Rows L2

section
variable {X : Cx} {G : Gr} {W : WX} {a b c e : Expr} {es rest : List Expr} {ma mb me : EM D} {mt mu : EM Bool} {mr : EM (List D)} {pos : Pos}
theorem dw_and1 (h : PT X a (dT G W mt)) : PW X (.BoolOp .And [a] pos) (dT G W mt) := pw_and1 h
theorem dw_or1 (h : PT X a (dT G W mt)) : PW X (.BoolOp .Or [a] pos) (dT G W mt) := pw_or1 h
theorem dw_and (h : PT X a (dT G W mt)) (hb : PW X (.BoolOp .And (b :: rest) pos) (dT G W mu)) : PW X (.BoolOp .And (a :: b :: rest) pos) (dT G W (bAnd mt mu)) := PW.imp (pw_and h hb) fun _ _ _ q => dand q
theorem dw_or (h : PT X a (dT G W mt)) (hb : PW X (.BoolOp .Or (b :: rest) pos) (dT G W mu)) : PW X (.BoolOp .Or (a :: b :: rest) pos) (dT G W (bOr mt mu)) := PW.imp (pw_or h hb) fun _ _ _ q => dor q
theorem dt_w (h : PW X a (dT G W mt)) : PT X a (dT G W mt) := h.pt
theorem dt_not (h : PT X a (dT G W mt)) : PT X (.UnaryOp .Not a pos) (dT G W (bNot mt)) := PT.imp (pt_not h) fun _ _ _ q => dnot q
theorem de_one {op} (h : PE X a (dE G W ma)) : PE X (.BoolOp op [a] pos) (dE G W ma) := pe_one h
theorem de_and (h : PE X a (dE G W ma)) (hb : PE X (.BoolOp .And (b :: rest) pos) (dE G W mb)) : PE X (.BoolOp .And (a :: b :: rest) pos) (dE G W (eAnd ma mb)) := PE.imp (pe_and h hb) fun _ _ _ q => dandV q
theorem de_or (h : PE X a (dE G W ma)) (hb : PE X (.BoolOp .Or (b :: rest) pos) (dE G W mb)) : PE X (.BoolOp .Or (a :: b :: rest) pos) (dE G W (eOr ma mb)) := PE.imp (pe_or h hb) fun _ _ _ q => dorV q
theorem de_not (h : PE X a (dE G W ma)) : PE X (.UnaryOp .Not a pos) (dE G W (eNot ma)) := PE.imp (pe_not h) fun _ _ _ q => dnotV q
theorem de_if (hc : PT X c (dT G W mt)) (ha : PE X a (dE G W ma)) (hb : PE X b (dE G W mb)) : PE X (.IfExp c a b pos) (dE G W (eIf mt ma mb)) := PE.imp (pe_ifExp hc ha hb) fun _ _ _ q => dif q

/-! ### calls by values -/
/-- a built-in's call: what it makes of the data -/
def CallS (G : Gr) (r : List V → Hp → VK → Prop) (f : List D → Sto → Out D) : Prop :=
  ∀ (w : Wo) (st : Sto) (H : Hp) (xs : List V) (ds : List D) (Q : VK), RSt G.K G.T w st H → Reps G.K w H xs ds → FitD G w H Q E0 (f ds st) → r xs H Q
def eCB (f : List D → Sto → Out D) (mr : EM (List D)) : EM D := fun env st => bnd (mr env st) f
theorem dcb {r : List V → Hp → VK → Prop} {f : List D → Sto → Out D} (hr : CallS G r f) (hc : ∀ x st, Calm (f x st)) {σ : L2.St} {H : Hp} {Q : VK} (h : dE G W (eCB f mr) σ H Q) : tCB r (dA G W mr) σ H Q := by
  obtain ⟨w, env, st, rs, re, h⟩ := h
  refine ⟨w, env, st, rs, re, Fit.bind h fun ds st1 w1 H1 vs rs1 e1 rv h1 => ?_⟩
  exact hr w1 st1 H1 vs ds Q rs1 rv (fit_calm h1 (hc _ _))
theorem de_callB {x : Str} {p : Pos} {id : String} {r : List V → Hp → VK → Prop} {f : List D → Sto → Out D} (hc : CallR X (.builtin id) r) (hr : CallS G r f) (hk : ∀ x st, Calm (f x st)) (hg : Gl X x) (hm : X.mg x = none) (hv : bootBuiltins x = some (.builtin id)) (ha : PA X (e :: es) (dA G W mr)) (hn : x ≠ "__name__" := by decide) (hdb : (x == ("__debug__" : Str)) = false := by decide)
    (he : starEach (e :: es) X.env = (false, eval e X.env) :: starEach es X.env := by rfl) (hpl : (backTo pos (starEach es X.env)).any (·.1) = false := by rfl) : PE X (.Call (.Name x p) (e :: es) [] pos) (dE G W (eCB f mr)) :=
  PE.imp (pe_callB hc hg hm hv ha hn hdb he hpl) fun _ _ _ q => dcb hr hk q
theorem de_callTy {x : Str} {p : Pos} {T : String} {r : List V → Hp → VK → Prop} {f : List D → Sto → Out D} (hc : CallR X (.type T) r) (hr : CallS G r f) (hk : ∀ x st, Calm (f x st)) (hg : Gl X x) (hm : X.mg x = none) (hv : bootBuiltins x = some (.type T)) (ha : PA X (e :: es) (dA G W mr)) (hn : x ≠ "__name__" := by decide) (hdb : (x == ("__debug__" : Str)) = false := by decide)
    (he : starEach (e :: es) X.env = (false, eval e X.env) :: starEach es X.env := by rfl) (hpl : (backTo pos (starEach es X.env)).any (·.1) = false := by rfl) : PE X (.Call (.Name x p) (e :: es) [] pos) (dE G W (eCB f mr)) :=
  PE.imp (pe_callTy hc hg hm hv ha hn hdb he hpl) fun _ _ _ q => dcb hr hk q
/-- a subscript -/
theorem de_ix {r : R2} {f : D → D → Sto → Out D} (hr : IxR X r) (hs : OpS X G r f) (hc : ∀ x y st, Calm (f x y st)) (ha : PE X a (dE G W ma)) (hb : PE X b (dE G W mb)) (hp : PlainIx b := by exact fun _ _ => rfl) : PE X (.Subscript a b pos) (dE G W (eOp f ma mb)) :=
  PE.imp (pe_ix hr ha hb hp) fun _ _ _ q => dop hs hc q
/-- a method of a built-in type -/
def MetS (G : Gr) (T : String) (r : V → List V → Hp → VK → Prop) (f : D → List D → Sto → Out D) : Prop :=
  ∀ (w : Wo) (st : Sto) (H : Hp) (x : V) (dx : D) (xs : List V) (ds : List D) (Q : VK), RSt G.K G.T w st H → Rep G.K w H x dx → Reps G.K w H xs ds → FitD G w H Q E0 (f dx ds st) → r x xs H Q
/-- the receiver is of the type -/
def TyS (G : Gr) (T : String) (g : D → Sto → Bool) : Prop := ∀ (w : Wo) (st : Sto) (H : Hp) (x : V) (dx : D), RSt G.K G.T w st H → Rep G.K w H x dx → g dx st = true → tyV G.K T x H
def eBM (g : D → Sto → Bool) (f : D → List D → Sto → Out D) (mo : EM D) (mr : EM (List D)) : EM D := fun env st => bnd (mo env st) fun d st => if g d st then bnd (mr env st) fun ds st => f d ds st else .bad
theorem dbm {T : String} {r : V → List V → Hp → VK → Prop} {g : D → Sto → Bool} {f : D → List D → Sto → Out D} (hg : TyS G T g) (hr : MetS G T r f) (hc : ∀ x ds st, Calm (f x ds st)) {σ : L2.St} {H : Hp} {Q : VK} (h : dE G W (eBM g f ma mr) σ H Q) : tBM G.K T r (dE G W ma) (dA G W mr) σ H Q := by
  obtain ⟨w, env, st, rs, re, h⟩ := h
  refine ⟨w, env, st, rs, re, Fit.bind h fun d st1 w1 H1 x rs1 e1 rx h1 => ?_⟩
  by_cases hd : g d st1 = true
  · rw [if_pos hd] at h1
    refine ⟨hg w1 st1 H1 x d rs1 rx hd, w1, env, st1, rs1, re.ext e1, Fit.bind h1 fun ds st2 w2 H2 vs rs2 e2 rv h2 => ?_⟩
    exact hr w2 st2 H2 x d vs ds Q rs2 (rx.ext e2) rv (fit_calm h2 (hc _ _ _))
  · rw [if_neg hd] at h1
    exact h1.elim
theorem de_bm {o : Expr} {name : Str} {apos cpos : Pos} {T id : String} {r : V → List V → Hp → VK → Prop} {g : D → Sto → Bool} {f : D → List D → Sto → Out D} (hK : G.K = X.K) (pa : PlainAttrs T) (slot : Slot T name id) (hty : typeOf (.builtin id) = pure (.type "method_descriptor")) (hm : MtR X id r) (hg : TyS G T g) (hr : MetS G T r f) (hc : ∀ x ds st, Calm (f x ds st))
    (ho : PE X o (dE G W ma)) (ha : PA X (e :: es) (dA G W mr))
    (hbase : attributeBase o name X.env (eval o X.env) = eval o X.env := by rfl)
    (hfew : ((backTo cpos (starEach (e :: es) X.env)).all (fun x => !x.1) && (backToKw cpos (keywordEach [] X.env)).all (fun x => x.1.isSome)
      && decide ((e :: es).length + ([] : List Keyword).length + (if ([] : List Keyword).isEmpty then 0 else 1) < 30)) = true := by rfl)
    (hline : (apos.endLine == cpos.line) = true := by rfl) (hs : starEach (e :: es) X.env = (false, eval e X.env) :: starEach es X.env := by rfl) (hplain : (backTo cpos (starEach es X.env)).any (·.1) = false := by rfl) :
    PE X (.Call (.Attribute o name apos) (e :: es) [] cpos) (dE G W (eBM g f ma mr)) := by
  refine PE.imp (pe_bm pa slot hty hm ho ha hbase hfew hline hs hplain) fun _ _ _ q => ?_
  rw [← hK]
  exact dbm hg hr hc q

/-! ### a def of the program -/
def spM (G : Gr) (n : Nat) (m : List D → Sto → Out D) : Sp := fun vs H Q E => vs.length = n ∧ ∃ w ds st, RSt G.K G.T w st H ∧ Reps G.K w H vs ds ∧ FitD G w H Q E (m ds st)
def eCall (n : Nat) (m : List D → Sto → Out D) (mr : EM (List D)) : EM D := fun env st => bnd (mr env st) fun ds st => if ds.length = n then m ds st else .bad
theorem dcall {n : Nat} {m : List D → Sto → Out D} {σ : L2.St} {H : Hp} {Q : VK} (h : dE G W (eCall n m mr) σ H Q) : tCallS (spM G n m) (WE W) (dA G W mr) σ H Q := by
  obtain ⟨w, env, st, rs, re, h⟩ := h
  refine ⟨w, env, st, rs, re, Fit.bind h fun ds st1 w1 H1 vs rs1 e1 rv h1 => ?_⟩
  by_cases hl : ds.length = n
  · rw [if_pos hl] at h1
    exact ⟨by rw [rv.length]; exact hl, w1, ds, st1, rs1, rv, h1⟩
  · rw [if_neg hl] at h1
    exact h1.elim
theorem de_call {n k : Nat} {m : List D → Sto → Out D} {f : Addr} {fd : FuncData} {ps : List Str} {x : Str} {p : Pos} (F : FnOk X.prog X.w X.K X.mg X.base (L2.CX X.prog X.w) k f fd ps (spM G n m)) (hr : Room k X.A) (hg : Gl X x) (hm : X.mg x = some (.ref f)) (hk : PySem.W.keepIn X.K (.ref f) = true) (hb : Binds X.K fd ps [])
    (tk : Takes X W) (ha : PA X (e :: es) (dA G W mr)) (hdb : (x == ("__debug__" : Str)) = false := by decide) (he : starEach (e :: es) X.env = (false, eval e X.env) :: starEach es X.env := by rfl) (hpl : (backTo pos (starEach es X.env)).any (·.1) = false := by rfl) :
    PE X (.Call (.Name x p) (e :: es) [] pos) (dE G W (eCall n m mr)) := PE.imp (pe_callS F hr hg hm hk hb (fun σ => passAt tk σ) ha hdb he hpl) fun _ _ _ q => dcall q
end

/-! ### statements -/
inductive OutS where
  | nx (env : Env') (st : Sto) | rt (d : D) (st : Sto) | bk (env : Env') (st : Sto) | ct (env : Env') (st : Sto) | err (c : Str) (fs : List (Str × D)) (env : Env') (st : Sto) | bad
abbrev SM := Env' → Sto → OutS
def FitS (G : Gr) (w : Wo) (H : Hp) (D : Ends) (W : WX) : OutS → Prop
  | .nx env' st' => ∀ w' H' σ', RSt G.K G.T w' st' H' → Ext w H w' H' → REnv G.K w' H' env' σ' → D.nx σ' H'
  | .bk env' st' => ∀ w' H' σ', RSt G.K G.T w' st' H' → Ext w H w' H' → REnv G.K w' H' env' σ' → D.bk σ' H'
  | .ct env' st' => ∀ w' H' σ', RSt G.K G.T w' st' H' → Ext w H w' H' → REnv G.K w' H' env' σ' → D.ct σ' H'
  | .rt d st' => ∀ w' H' v, RSt G.K G.T w' st' H' → Ext w H w' H' → Rep G.K w' H' v d → D.rt v H'
  | .err c fs env' st' => ∀ w' H' σ' cls dx, RSt G.K G.T w' st' H' → Ext w H w' H' → REnv G.K w' H' env' σ' → ExcOk G.K G.mg w' H' c fs cls dx → W cls dx σ' H'
  | .bad => False
theorem FitS.ext {G : Gr} {w w' : Wo} {H H' : Hp} {D : Ends} {W : WX} {x : OutS} (h : FitS G w H D W x) (e : Ext w H w' H') : FitS G w' H' D W x := by
  cases x with
  | nx env st => exact fun w2 H2 σ rs e2 r => h w2 H2 σ rs (e.trans e2) r
  | bk env st => exact fun w2 H2 σ rs e2 r => h w2 H2 σ rs (e.trans e2) r
  | ct env st => exact fun w2 H2 σ rs e2 r => h w2 H2 σ rs (e.trans e2) r
  | rt d st => exact fun w2 H2 v rs e2 r => h w2 H2 v rs (e.trans e2) r
  | err c fs env st => exact fun w2 H2 σ cls dx rs e2 r x => h w2 H2 σ cls dx rs (e.trans e2) r x
  | bad => exact h
def dS (G : Gr) (W : WX) (m : SM) : TS := fun D σ H => ∃ w env st, RSt G.K G.T w st H ∧ REnv G.K w H env σ ∧ FitS G w H D W (m env st)
/-- an expression's outcome, then a statement's -/
def bndS {α : Type} (env : Env') (x : Out α) (f : α → Sto → OutS) : OutS := match x with
  | .ok a st => f a st
  | .err c fs st => .err c fs env st
  | .bad => .bad
@[simp] theorem bndS_ok {α : Type} (env : Env') (a : α) (st : Sto) (f : α → Sto → OutS) : bndS env (.ok a st) f = f a st := rfl
@[simp] theorem bndS_err {α : Type} (env : Env') (c : Str) (fs : List (Str × D)) (st : Sto) (f : α → Sto → OutS) : bndS env (.err c fs st) f = .err c fs env st := rfl
@[simp] theorem bndS_bad {α : Type} (env : Env') (f : α → Sto → OutS) : bndS env (.bad) f = .bad := rfl
theorem FitS.bind {α β : Type} {G : Gr} {R : Wo → Hp → β → α → Prop} {w : Wo} {H : Hp} {Dn : Ends} {W : WX} {Q1 : β → Hp → Prop} {env : Env'} {σ : L2.St} {x : Out α} {f : α → Sto → OutS} (re : REnv G.K w H env σ) (h : FitS G w H Dn W (bndS env x f))
    (k : ∀ d st' w' H' v, RSt G.K G.T w' st' H' → Ext w H w' H' → R w' H' v d → FitS G w' H' Dn W (f d st') → Q1 v H') : Fit G R w H Q1 (fun c d H' => W c d σ H') x := by
  cases x with
  | ok d st' =>
    intro w' H' v rs e r
    exact k d st' w' H' v rs e r (FitS.ext (x := f d st') h e)
  | err c fs st' => exact fun w' H' cls dx rs e q => h w' H' σ cls dx rs e (re.ext e) q
  | bad => exact h

section
variable {X : Cx} {G : Gr} {W : WX} {a b c e : Expr} {es rest : List Expr} {ma mb me : EM D} {mt mu : EM Bool} {mr : EM (List D)} {pos : Pos} {s1 : Stmt} {ss : List Stmt} {m1 m2 : SM}
def sSeq (m1 m2 : SM) : SM := fun env st => match m1 env st with
  | .nx env' st' => m2 env' st'
  | o => o
def sNx : SM := fun env st => .nx env st
theorem dss_nil : PSs X [] (dS G W sNx) := PSs.imp pss_nil fun Dn σ H ⟨w, env, st, rs, re, h⟩ => h w H σ rs (Ext.refl _ _) re
theorem dss_one (h : PS X s1 (dS G W m1)) : PSs X [s1] (dS G W m1) := pss_one h
theorem dss_cons (h : PS X s1 (dS G W m1)) (h2 : PSs X ss (dS G W m2)) : PSs X (s1 :: ss) (dS G W (sSeq m1 m2)) := PSs.imp (pss_cons h h2) fun Dn σ H ⟨w, env, st, rs, re, h⟩ => by
  refine ⟨w, env, st, rs, re, ?_⟩
  unfold sSeq at h
  cases q : m1 env st with
  | nx env1 st1 =>
    rw [q] at h
    exact fun w1 H1 σ1 rs1 e1 re1 => ⟨w1, env1, st1, rs1, re1, FitS.ext (x := m2 env1 st1) h e1⟩
  | bk env1 st1 => rw [q] at h; exact h
  | ct env1 st1 => rw [q] at h; exact h
  | rt d st1 => rw [q] at h; exact h
  | err c fs env1 st1 => rw [q] at h; exact h
  | bad => rw [q] at h; exact h
def sIf (mt : EM Bool) (m1 m2 : SM) : SM := fun env st => bndS env (mt env st) fun c st => if c then m1 env st else m2 env st
theorem ds_if {as bs : List Stmt} (hc : PT X c (dT G W mt)) (ha : PSs X as (dS G W m1)) (hb : PSs X bs (dS G W m2)) : PS X (.If c as bs pos) (dS G W (sIf mt m1 m2)) := PS.imp (ps_if hc ha hb) fun Dn σ H ⟨w, env, st, rs, re, h⟩ => by
  refine ⟨w, env, st, rs, re, FitS.bind re h fun d st1 w1 H1 v rs1 e1 rv h1 => ?_⟩
  subst rv
  cases v with
  | true => exact ⟨w1, env, st1, rs1, re.ext e1, h1⟩
  | false => exact ⟨w1, env, st1, rs1, re.ext e1, h1⟩
def sRet (me : EM D) : SM := fun env st => bndS env (me env st) fun d st => .rt d st
theorem ds_ret (h : PE X e (dE G W me)) : PS X (.Return (some e) pos) (dS G W (sRet me)) := PS.imp (ps_ret h) fun Dn σ H ⟨w, env, st, rs, re, h⟩ =>
  ⟨w, env, st, rs, re, FitS.bind re h fun d st1 w1 H1 v rs1 e1 rv h1 => h1 w1 H1 v rs1 (Ext.refl _ _) rv⟩
def sExp (me : EM D) : SM := fun env st => bndS env (me env st) fun _ st => .nx env st
theorem ds_exp (h : PE X e (dE G W me)) (hs : swapsWith e none pos.line X.env = pure false := by rfl) : PS X (.Expr e pos) (dS G W (sExp me)) := PS.imp (ps_expr h hs) fun Dn σ H ⟨w, env, st, rs, re, h⟩ =>
  ⟨w, env, st, rs, re, FitS.bind re h fun d st1 w1 H1 v rs1 e1 rv h1 => h1 w1 H1 σ rs1 (Ext.refl _ _) (re.ext e1)⟩
theorem ds_pass : PS X (.Pass pos) (dS G W sNx) := PS.imp ps_pass fun Dn σ H ⟨w, env, st, rs, re, h⟩ => h w H σ rs (Ext.refl _ _) re
def sBk : SM := fun env st => .bk env st
def sCt : SM := fun env st => .ct env st
theorem ds_break : PS X (.Break pos) (dS G W sBk) := PS.imp ps_break fun Dn σ H ⟨w, env, st, rs, re, h⟩ => h w H σ rs (Ext.refl _ _) re
theorem ds_continue : PS X (.Continue pos) (dS G W sCt) := PS.imp ps_continue fun Dn σ H ⟨w, env, st, rs, re, h⟩ => h w H σ rs (Ext.refl _ _) re

/-! targets -/
abbrev GM := D → Env' → Sto → Option (Env' × Sto)
def dG (G : Gr) (f : GM) : TG := fun v σ H Q => ∃ w env st d, RSt G.K G.T w st H ∧ REnv G.K w H env σ ∧ Rep G.K w H v d ∧ match f d env st with
  | some (env', st') => ∀ w' H' σ', RSt G.K G.T w' st' H' → Ext w H w' H' → REnv G.K w' H' env' σ' → Q σ' H'
  | none => False
theorem PG.imp {tg : Expr} {t t' : TG} (h : PG X tg t) (i : ∀ v σ H Q, t' v σ H Q → t v σ H Q) : PG X tg t' := ⟨fun pins s σ H v u Q I r q => h.run pins s σ H v u Q I r (i v σ H Q q)⟩
/-- .. that touches the slots vs alone -/
def Fr (vs : List Nat) (σ σ' : L2.St) : Prop := σ'.length = σ.length ∧ ∀ i : Nat, i ∉ vs → σ'[i]? = σ[i]?
theorem Fr.refl {vs : List Nat} {σ : L2.St} : Fr vs σ σ := ⟨rfl, fun _ _ => rfl⟩
theorem Fr.trans {vs us : List Nat} {σ σ1 σ2 : L2.St} (a : Fr vs σ σ1) (b : Fr us σ1 σ2) : Fr (vs ++ us) σ σ2 :=
  ⟨b.1.trans a.1, fun i h => (b.2 i fun z => h (List.mem_append_right _ z)).trans (a.2 i fun z => h (List.mem_append_left _ z))⟩
def dGv (G : Gr) (f : GM) (vs : List Nat) : TG := fun v σ H Q => ∃ w env st d, RSt G.K G.T w st H ∧ REnv G.K w H env σ ∧ Rep G.K w H v d ∧ match f d env st with
  | some (env', st') => ∀ w' H' σ', RSt G.K G.T w' st' H' → Ext w H w' H' → REnv G.K w' H' env' σ' → Fr vs σ σ' → Q σ' H'
  | none => False
theorem dg_of {tg : Expr} {f : GM} {vs : List Nat} (h : PG X tg (dGv G f vs)) : PG X tg (dG G f) := PG.imp h fun v σ H Q ⟨w, env, st, d, rs, re, rv, h⟩ => by
  refine ⟨w, env, st, d, rs, re, rv, ?_⟩
  cases q : f d env st with
  | none => rw [q] at h; exact h
  | some p => rw [q] at h; exact fun w' H' σ' a b c _ => h w' H' σ' a b c
def gN (i : Nat) : GM := fun d env st => some (env.set i (some d), st)
theorem dgv_name {i : Nat} {x : Str} (hN : X.N.Nodup) (hi : X.N[i]? = some x) (hx : Loc X.env.scope x) (hf : X.fn x = true ∨ X.env.scope.names.lookup x = some .local := by first | exact .inl rfl | exact .inr rfl | assumption) : PG X (.Name x pos) (dGv G (gN i) [i]) :=
  PG.imp (pg_name hN hi hx hf) fun v σ H Q ⟨w, env, st, d, rs, re, rv, h⟩ => h w H _ rs (Ext.refl _ _) (re.set i rv) ⟨List.length_set, fun j hj => List.getElem?_set_ne (fun z => hj (by simp [z]))⟩
theorem dg_name {i : Nat} {x : Str} (hN : X.N.Nodup) (hi : X.N[i]? = some x) (hx : Loc X.env.scope x) (hf : X.fn x = true ∨ X.env.scope.names.lookup x = some .local := by first | exact .inl rfl | exact .inr rfl | assumption) : PG X (.Name x pos) (dG G (gN i)) := dg_of (dgv_name hN hi hx hf)
def sAsg (me : EM D) (g : GM) : SM := fun env st => bndS env (me env st) fun d st => match g d env st with
  | some (env', st') => .nx env' st'
  | none => .bad
theorem ds_asg {tg : Expr} {g : GM} (he : PE X e (dE G W me)) (hg : PG X tg (dG G g)) (hs : swapsWithSole [tg] e pos.line X.env = pure false := by rfl) (hw : swappedStores [tg] e X.env = pure none := by rfl) (ha : (assignEach [tg] X.env).map (·.2) = [assign tg X.env] := by rfl) :
    PS X (.Assign [tg] e pos) (dS G W (sAsg me g)) := PS.imp (ps_asg he hg hs hw ha) fun Dn σ H ⟨w, env, st, rs, re, h⟩ => by
  refine ⟨w, env, st, rs, re, FitS.bind re h fun d st1 w1 H1 v rs1 e1 rv h1 => ?_⟩
  refine ⟨w1, env, st1, d, rs1, re.ext e1, rv, ?_⟩
  cases q : g d env st1 with
  | none => rw [q] at h1; exact h1
  | some p => rw [q] at h1; exact h1
end
end DL

set_option Elab.async false
set_option linter.all false
set_option maxRecDepth 100000
set_option maxHeartbeats 2000000
namespace DL
open PySem PySem.Spec PyProof.Rows L2
section
variable {X : Cx} {G : Gr} {W : WX} {a b c e o i : Expr} {es rest : List Expr} {ma mb me mo mi : EM D} {mt mu : EM Bool} {mr : EM (List D)} {pos : Pos} {s1 : Stmt} {ss : List Stmt} {m1 m2 mbd : SM}
/-! ### targets of several names -/
abbrev GsM := List D → Env' → Sto → Option (Env' × Sto)
def dGs (G : Gr) (f : GsM) (us : List Nat) : TGs := fun vs σ H Q => ∃ w env st ds, RSt G.K G.T w st H ∧ REnv G.K w H env σ ∧ Reps G.K w H vs ds ∧ match f ds env st with
  | some (env', st') => ∀ w' H' σ', RSt G.K G.T w' st' H' → Ext w H w' H' → REnv G.K w' H' env' σ' → Fr us σ σ' → Q σ' H'
  | none => False
theorem PGs.imp {tg : List Expr} {t t' : TGs} (h : PGs X tg t) (i : ∀ v σ H Q, t' v σ H Q → t v σ H Q) : PGs X tg t' := ⟨fun pins s σ H v u Q I r q => h.run pins s σ H v u Q I r (i v σ H Q q)⟩
def gsNil : GsM := fun ds env st => match ds with
  | [] => some (env, st)
  | _ => none
def gsCons (g : GM) (gs : GsM) : GsM := fun ds env st => match ds with
  | d :: ds => (match g d env st with
    | some (env', st') => gs ds env' st'
    | none => none)
  | [] => none
theorem dgs_nil : PGs X [] (dGs G gsNil []) := PGs.imp pgs_nil fun vs σ H Q ⟨w, env, st, ds, rs, re, rv, h⟩ => by
  cases rv with
  | nil => exact ⟨rfl, h w H σ rs (Ext.refl _ _) re Fr.refl⟩
  | cons _ _ => exact h.elim
theorem dgs_cons {g : GM} {gs : GsM} {u1 u2 : List Nat} (h1 : PG X e (dGv G g u1)) (h2 : PGs X es (dGs G gs u2)) (hs : (assignEach (e :: es) X.env).map (·.2) = assign e X.env :: (assignEach es X.env).map (·.2) := by rfl) : PGs X (e :: es) (dGs G (gsCons g gs) (u1 ++ u2)) :=
  PGs.imp (pgs_cons h1 h2 hs) fun vs σ H Q ⟨w, env, st, ds, rs, re, rv, h⟩ => by
    cases rv with
    | nil => exact h.elim
    | @cons v vs' d ds' r rr =>
      refine ⟨v, vs', rfl, w, env, st, d, rs, re, r, ?_⟩
      unfold gsCons at h
      dsimp only at h
      cases q : g d env st with
      | none => rw [q] at h; exact h
      | some p =>
        obtain ⟨env1, st1⟩ := p
        rw [q] at h
        dsimp only at h ⊢
        intro w1 H1 σ1 rs1 e1 re1 f1
        refine ⟨w1, env1, st1, ds', rs1, re1, rr.ext e1, ?_⟩
        cases q2 : gs ds' env1 st1 with
        | none => rw [q2] at h; exact h
        | some p2 =>
          rw [q2] at h
          exact fun w2 H2 σ2 rs2 e2 re2 f2 => h w2 H2 σ2 rs2 (e1.trans e2) re2 (f1.trans f2)
def gT (n : Nat) (gs : GsM) : GM := fun d env st => match d with
  | .tup ds => if ds.length = n then gs ds env st else none
  | _ => none
theorem dgv_tup {k n : Nat} {gs : GsM} {us : List Nat} (hK : G.K = X.K) (hc : X.calm = true) (h : PGs X es (dGs G gs us)) (hn : (assignEach es X.env).length = n := by rfl) (hst : (assignEach es X.env).findIdx? (·.1) = none := by rfl) : PG X (.Tuple es k pos) (dGv G (gT n gs) us) :=
  PG.imp (pg_tup hc h hn hst) fun v σ H Q ⟨w, env, st, d, rs, re, rv, h⟩ => by
    cases rv with
    | @tup p xs ds f r =>
      unfold gT at h
      dsimp only at h
      by_cases hl : ds.length = n
      · rw [if_pos hl] at h
        exact ⟨p, xs, rfl, by rw [← hK]; exact f.sq, by rw [r.length]; exact hl, w, env, st, ds, rs, re, r, h⟩
      · rw [if_neg hl] at h
        exact h.elim
    | _ => exact h.elim
theorem dg_tup {k n : Nat} {gs : GsM} {us : List Nat} (hK : G.K = X.K) (hc : X.calm = true) (h : PGs X es (dGs G gs us)) (hn : (assignEach es X.env).length = n := by rfl) (hst : (assignEach es X.env).findIdx? (·.1) = none := by rfl) : PG X (.Tuple es k pos) (dG G (gT n gs)) := dg_of (dgv_tup hK hc h hn hst)
/-- o[i] = ..: a list that may change -/
def putAt (o i v : D) (st : Sto) : Option Sto := match o, i with
  | .cel n, .int k => (match st[n]? with
    | some (.lst ds) => (match ixN ds.length k with
      | some j => some (st.set n (.lst (ds.set j v)))
      | none => none)
    | _ => none)
  | _, _ => none
def gS (mo mi : EM D) : GM := fun d env st => match mo env st with
  | .ok o st => (match mi env st with
    | .ok i st => (match putAt o i d st with
      | some st => some (env, st)
      | none => none)
    | _ => none)
  | _ => none
theorem dg_sub {W : WX} (ho : PE X o (dE G W mo)) (hi : PE X i (dE G W mi)) (ha : ∀ v, assign (.Subscript o i pos) X.env v = (do
      let ov ← holding [v] (eval o X.env)
      let iv ← holding [v, ov] (eval i X.env)
      standAt pos
      holding [v, ov, iv] (setItem ov iv v)
      release [v, ov, iv] []) := by intro _; rfl) : PG X (.Subscript o i pos) (dG G (gS mo mi)) :=
  PG.imp (pg_sub ho hi set_list ha) fun v σ H Q ⟨w, env, st, d, rs, re, rv, h⟩ => by
    unfold gS at h
    refine ⟨w, env, st, rs, re, ?_⟩
    cases q1 : mo env st with
    | ok od st1 =>
      rw [q1] at h
      dsimp only at h
      intro w1 H1 ov rs1 e1 ro
      refine ⟨w1, env, st1, rs1, re.ext e1, ?_⟩
      cases q2 : mi env st1 with
      | ok id st2 =>
        rw [q2] at h
        dsimp only at h
        intro w2 H2 iv rs2 e2 ri
        have ro2 := ro.ext e2
        cases ro2 with
        | cel hn =>
          rename_i p n
          cases ri with
          | int k =>
            unfold putAt at h
            dsimp only at h
            cases q3 : st2[n]? with
            | none => rw [q3] at h; exact h.elim
            | some cl =>
              cases cl with
              | fz ds => rw [q3] at h; exact h.elim
              | lst ds =>
                rw [q3] at h
                dsimp only at h
                cases q4 : ixN ds.length k with
                | none => rw [q4] at h; exact h.elim
                | some j =>
                  rw [q4] at h
                  dsimp only at h
                  obtain ⟨xs, ex, rx⟩ := rs2.cell n p _ hn q3
                  obtain ⟨z1, z2⟩ := rs2.put hn q3 (rx.set (rv.ext (e1.trans e2)) j)
                  have hx : xs.length = ds.length := rx.length
                  exact ⟨p, xs, k, j, rfl, rfl, ex, by rw [hx]; exact q4, h _ _ _ z1 ((e1.trans e2).trans z2) ((re.ext (e1.trans e2)).ext z2)⟩
          | _ => exact h.elim
        | _ => exact h.elim
      | err _ _ _ => rw [q2] at h; exact h.elim
      | bad => rw [q2] at h; exact h.elim
    | err _ _ _ => rw [q1] at h; exact h.elim
    | bad => rw [q1] at h; exact h.elim
/-- a, b = x, y -/
def sPar (k j : Nat) (mr : EM (List D)) : SM := fun env st => bndS env (mr env st) fun ds st => match ds with
  | [x, y] => .nx ((env.set k (some x)).set j (some y)) st
  | _ => .bad
theorem ds_par {k j : Nat} {x y : Str} {px py pt : Pos} {kt k2 pt2} (hc : X.calm = true) (hN : X.N.Nodup) (hi : X.N[k]? = some x) (hj : X.N[j]? = some y) (hij : k ≠ j) (hx : X.env.scope.names.lookup x = some .local) (hy : X.env.scope.names.lookup y = some .local)
    (ha : PA X [a, b] (dA G W mr)) (hw : swappedStores [.Tuple [.Name x px, .Name y py] kt pt] (.Tuple [a, b] k2 pt2) X.env = pure (some [x, y])) (hs : swapsWithSole [.Tuple [.Name x px, .Name y py] kt pt] (.Tuple [a, b] k2 pt2) pos.line X.env = pure false := by rfl) :
    PS X (.Assign [.Tuple [.Name x px, .Name y py] kt pt] (.Tuple [a, b] k2 pt2) pos) (dS G W (sPar k j mr)) := PS.imp (ps_par hc hN hi hj hij hx hy ha hw hs) fun Dn σ H ⟨w, env, st, rs, re, h⟩ => by
  refine ⟨w, env, st, rs, re, FitS.bind re h fun ds st1 w1 H1 vs rs1 e1 rv h1 => ?_⟩
  cases rv with
  | nil => exact h1.elim
  | cons r1 rr =>
    cases rr with
    | nil => exact h1.elim
    | cons r2 r3 =>
      cases r3 with
      | nil => exact ⟨_, _, rfl, h1 _ _ _ rs1 (Ext.refl _ _) (((re.ext e1).set k r1).set j r2)⟩
      | cons _ _ => exact h1.elim

/-! ### loops -/
/-- J hands out the things of ds, one after another -/
def DWalk (G : Gr) (w0 : Wo) (H0 : Hp) (J : It) (ds : List D) : Prop := ∀ (i : Nat) (w : Wo) (H : Hp), Ext w0 H0 w H →
  (∀ d, ds[i]? = some d → J.go i H ∧ ∀ x H', J.yld i H x H' → ∀ st, RSt G.K G.T w st H → RSt G.K G.T w st H' ∧ Ext w H w H' ∧ Rep G.K w H' x d) ∧ (i = ds.length → J.stop i H)
def dI (G : Gr) (W : WX) (m : EM (List D)) : TI := fun σ H R => ∃ w env st, RSt G.K G.T w st H ∧ REnv G.K w H env σ ∧ Fit G (DWalk G) w H R (fun c d H' => W c d σ H') (m env st)
theorem PI.imp {tg iter : Expr} {t t' : TI} (h : PI X tg iter t) (i : ∀ σ H R, t' σ H R → t σ H R) : PI X tg iter t' := ⟨fun pins s σ H R I q => h.run pins s σ H R I (i σ H R q)⟩
def forM (g : GM) (mb : SM) : List D → SM
  | [], env, st => .nx env st
  | d :: ds, env, st => match g d env st with
    | none => .bad
    | some (env', st') => (match mb env' st' with
      | .nx env2 st2 => forM g mb ds env2 st2
      | .ct env2 st2 => forM g mb ds env2 st2
      | .bk env2 st2 => .nx env2 st2
      | o => o)
def sFor (mi : EM (List D)) (g : GM) (mb : SM) : SM := fun env st => bndS env (mi env st) fun ds st => forM g mb ds env st
theorem ds_for {tg iter : Expr} {body : List Stmt} {mi : EM (List D)} {g : GM} (hp : PassesOwn (model X.prog X.w) X.A X.env X.xe) (hc : X.calm = true) (hi : PI X tg iter (dI G W mi)) (hg : PG X tg (dG G g)) (hb : PSs X body (dS G W mbd))
    (hs : ∀ x, foldedSetIterable iter X.env x = pure x := by intro _; rfl) : PS X (.For tg iter body [] pos) (dS G W (sFor mi g mbd)) := PS.imp (ps_for hp hc hi hg hb hs) fun Dn σ H ⟨w, env, st, rs, re, h⟩ => by
  refine ⟨w, env, st, rs, re, FitS.bind re h fun ds st1 w1 H1 J rs1 e1 wk h1 => ?_⟩
  refine ⟨fun i m σ' H' => m = ds.length - i ∧ i ≤ ds.length ∧ ∃ w' env' st', RSt G.K G.T w' st' H' ∧ Ext w1 H1 w' H' ∧ REnv G.K w' H' env' σ' ∧ FitS G w' H' Dn W (forM g mbd (ds.drop i) env' st'),
    ⟨ds.length, by simp, Nat.zero_le _, w1, env, st1, rs1, Ext.refl _ _, re.ext e1, h1⟩, ?_⟩
  rintro i m σ' H' ⟨rfl, hle, w', env', st', rs', e', re', h'⟩
  by_cases hlt : i < ds.length
  · have hd : ds[i]? = some ds[i] := List.getElem?_eq_getElem hlt
    obtain ⟨go, yl⟩ := (wk i w' H' e').1 _ hd
    refine .inr ⟨go, fun σ2 H2 => ∃ w2 env2 st2, RSt G.K G.T w2 st2 H2 ∧ Ext w1 H1 w2 H2 ∧ REnv G.K w2 H2 env2 σ2 ∧ FitS G w2 H2 Dn W (forM g mbd (ds.drop (i + 1)) env2 st2), fun σ2 H2 q => ⟨ds.length - (i + 1), by omega, rfl, hlt, q⟩, fun x H2 y => ?_⟩
    obtain ⟨k1, k2, k3⟩ := yl x H2 y st' rs'
    rw [List.drop_eq_getElem_cons hlt] at h'
    refine ⟨w', env', st', ds[i], k1, re'.ext k2, k3, ?_⟩
    unfold forM at h'
    cases q : g ds[i] env' st' with
    | none => rw [q] at h'; exact h'
    | some p =>
      obtain ⟨env2, st2⟩ := p
      rw [q] at h'
      dsimp only at h' ⊢
      intro w2 H3 σ2 rs2 e2 re2
      refine ⟨w2, env2, st2, rs2, re2, ?_⟩
      have ee := (e'.trans k2).trans e2
      cases q2 : mbd env2 st2 with
      | nx env3 st3 =>
        rw [q2] at h'
        exact fun w3 H4 σ3 rs3 e3 re3 => ⟨w3, env3, st3, rs3, ee.trans e3, re3, FitS.ext (x := forM g mbd (ds.drop (i + 1)) env3 st3) h' ((k2.trans e2).trans e3)⟩
      | ct env3 st3 =>
        rw [q2] at h'
        exact fun w3 H4 σ3 rs3 e3 re3 => ⟨w3, env3, st3, rs3, ee.trans e3, re3, FitS.ext (x := forM g mbd (ds.drop (i + 1)) env3 st3) h' ((k2.trans e2).trans e3)⟩
      | bk env3 st3 =>
        rw [q2] at h'
        exact fun w3 H4 σ3 rs3 e3 re3 => h' w3 H4 σ3 rs3 ((k2.trans e2).trans e3) re3
      | rt d st3 =>
        rw [q2] at h'
        exact fun w3 H4 v rs3 e3 r3 => h' w3 H4 v rs3 ((k2.trans e2).trans e3) r3
      | err c fs env3 st3 =>
        rw [q2] at h'
        exact fun w3 H4 σ3 cls dx rs3 e3 re3 x3 => h' w3 H4 σ3 cls dx rs3 ((k2.trans e2).trans e3) re3 x3
      | bad => rw [q2] at h'; exact h'
  · have ei : i = ds.length := by omega
    refine .inl ⟨(wk i w' H' e').2 ei, ?_⟩
    rw [ei, List.drop_length] at h'
    exact h' w' H' σ' rs' (Ext.refl _ _) re'
def whileM (mt : EM Bool) (mb : SM) : Nat → SM
  | 0, _, _ => .bad
  | n + 1, env, st => bndS env (mt env st) fun c st => if c then (match mb env st with
      | .nx env2 st2 => whileM mt mb n env2 st2
      | .ct env2 st2 => whileM mt mb n env2 st2
      | .bk env2 st2 => .nx env2 st2
      | o => o) else .nx env st
def sWhile (fuel : Env' → Nat) (mt : EM Bool) (mb : SM) : SM := fun env st => whileM mt mb (fuel env) env st
theorem ds_while {body : List Stmt} (fuel : Env' → Nat) (hp : PassesOwn (model X.prog X.w) X.A X.env X.xe) (hc : PT X c (dT G W mt)) (hb : PSs X body (dS G W mbd)) : PS X (.While c body [] pos) (dS G W (sWhile fuel mt mbd)) := PS.imp (ps_while hp hc hb) fun Dn σ H ⟨w, env, st, rs, re, h⟩ => by
  refine ⟨fun m σ' H' => ∃ w' env' st', RSt G.K G.T w' st' H' ∧ Ext w H w' H' ∧ REnv G.K w' H' env' σ' ∧ FitS G w' H' Dn W (whileM mt mbd m env' st'), ⟨fuel env, w, env, st, rs, Ext.refl _ _, re, h⟩, ?_⟩
  rintro m σ' H' ⟨w', env', st', rs', e', re', h'⟩
  cases m with
  | zero => exact h'.elim
  | succ n =>
    unfold whileM at h'
    refine ⟨w', env', st', rs', re', FitS.bind re' h' fun cc st1 w1 H1 v rs1 e1 rv h1 => ?_⟩
    subst rv
    cases v with
    | false => exact h1 w1 H1 σ' rs1 (Ext.refl _ _) (re'.ext e1)
    | true =>
      rw [if_pos rfl] at h1
      refine ⟨fun σ2 H2 => ∃ w2 env2 st2, RSt G.K G.T w2 st2 H2 ∧ Ext w H w2 H2 ∧ REnv G.K w2 H2 env2 σ2 ∧ FitS G w2 H2 Dn W (whileM mt mbd n env2 st2), fun σ2 H2 q => ⟨n, Nat.lt_succ_self n, q⟩, w1, env', st1, rs1, re'.ext e1, ?_⟩
      have ee := e'.trans e1
      cases q2 : mbd env' st1 with
      | nx env3 st3 =>
        rw [q2] at h1
        exact fun w3 H4 σ3 rs3 e3 re3 => ⟨w3, env3, st3, rs3, ee.trans e3, re3, FitS.ext (x := whileM mt mbd n env3 st3) h1 e3⟩
      | ct env3 st3 =>
        rw [q2] at h1
        exact fun w3 H4 σ3 rs3 e3 re3 => ⟨w3, env3, st3, rs3, ee.trans e3, re3, FitS.ext (x := whileM mt mbd n env3 st3) h1 e3⟩
      | bk env3 st3 => rw [q2] at h1; exact h1
      | rt d st3 => rw [q2] at h1; exact h1
      | err c fs env3 st3 => rw [q2] at h1; exact h1
      | bad => rw [q2] at h1; exact h1
end
/-! ### a def -/
def startE (n : Nat) (ds : List D) : Env' := ds.map some ++ List.replicate (n - ds.length) none
def outOf : OutS → Out D
  | .rt d st => .ok d st
  | .nx _ st => .ok .non st
  | .err c fs _ st => .err c fs st
  | _ => .bad
def runM (n : Nat) (m : SM) : List D → Sto → Out D := fun ds st => outOf (m (startE n ds) st)
theorem renv_start {K : PySem.W.Frag} {w : Wo} {H : Hp} {vs : List V} {ds : List D} {N : List Str} (r : Reps K w H vs ds) : REnv K w H (startE N.length ds) (L2.start N vs) := by
  have hl := r.length
  refine ⟨?_, fun i d h => ?_⟩
  · unfold startE L2.start
    simp only [List.length_append, List.length_map, List.length_replicate, hl]
  · unfold startE at h
    unfold L2.start
    by_cases hi : i < ds.length
    · rw [List.getElem?_append_left (by simpa using hi), List.getElem?_map] at h
      cases e : ds[i]? with
      | none => rw [e] at h; cases h
      | some d' =>
        rw [e] at h
        cases h
        obtain ⟨v, hv, rv⟩ := r.get e
        exact ⟨v, by rw [List.getElem?_append_left (by rw [List.length_map, hl]; exact hi), List.getElem?_map, hv]; rfl, rv⟩
    · rw [List.getElem?_append_right (by simpa using Nat.le_of_not_lt hi), List.getElem?_replicate] at h
      split at h <;> cases h
theorem fit_run {G : Gr} {w : Wo} {H : Hp} {Q : VK} {E : XK} {m : SM} {env : Env'} {st : Sto} (h : FitD G w H Q E (outOf (m env st))) : FitS G w H { nx := fun _ H' => Q .non H', rt := Q } (fun c d _ H' => E c d H') (m env st) := by
  cases q : m env st with
  | nx env' st' =>
    rw [q] at h
    exact fun w' H' σ' rs e re => h w' H' .non rs e .non
  | rt d st' => rw [q] at h; exact h
  | err c fs env' st' =>
    rw [q] at h
    exact fun w' H' σ' cls dx rs e re x => h w' H' cls dx rs e x
  | bk env' st' => rw [q] at h; exact h.elim
  | ct env' st' => rw [q] at h; exact h.elim
  | bad => rw [q] at h; exact h
/-- a def keeps what its body computes -/
theorem fn_ok {P : Program} {w : World} {K : PySem.W.Frag} {mg : Str → Option Value} {base : Heap} {G : Gr} {x qual : Str} {s1 : Stmt} {f : Addr} {fd : FuncData} {N ps : List Str} {k : Nat} {m : SM} (F : Fun K x qual s1 f fd) (S : FnScope N ps (defScope s1))
    (hb : ∀ (cdv : Value) (A : Around) (outer : List Env) (s : Shared) (H : Hp) (E : XK), Room k (A.deeper (envOfC qual (defScope s1) s.heap.objs.size f cdv)) → PSs (cxOf (L2.CX P w) P w K mg base N qual (defScope s1) f cdv A outer s H E) (defBody s1) (dS G (fun c d _ H' => E c d H') m)) :
    FnOk P w K mg base (L2.CX P w) (k + 1) f fd ps (spM G ps.length (runM N.length m)) := by
  refine F.okX S (fun vs H Q E h => h.1) fun cdv A outer s H vs Q E hr h => ⟨_, hb cdv A outer s H E hr, ?_⟩
  obtain ⟨_, w1, ds, st, rs, rv, h⟩ := h
  exact ⟨w1, _, st, rs, renv_start rv, fit_run h⟩
end DL

set_option Elab.async false
set_option linter.all false
set_option maxRecDepth 100000
set_option maxHeartbeats 2000000
namespace DL
open PySem PySem.Spec PyProof.Rows L2
/-! ### enumerate of a tuple -/
section
open Sem (wp)
set_option maxHeartbeats 4000000 in
theorem enumNew {v : Value} {o : Obj} {Hs : Heap → Prop} (B : Begins v o Hs) :
    Meets (Builtin.«enumerate.__new__» ⟨[.type "enumerate", v], []⟩) (fun _ R s => Hs s.heap ∧
      R (.ok (.ret (.ref (s.heap.push o).objs.size))) { s with heap := (s.heap.push o).push { cls := .type "enumerate", data := .fields #[.none, .bool false, .ref s.heap.objs.size, rawInt 0, .none, .none] } }) :=
  .of_wp fun prog w A R s hh => by
    obtain ⟨hp, g, d, tk, os⟩ := s
    obtain ⟨h1, h2⟩ := hh
    have hsub := sub_enumerate
    have begun : ∀ {A1 : Around} {E1 : Value → Shared → Prop} {Q1 : Value → Shared → Prop}, Q1 (.ref hp.objs.size) ⟨hp.push o, g, d, tk, os⟩ →
        wpAny (model prog w) A1 (pyIter v) Q1 E1 ⟨hp, g, d, tk, os⟩ := fun q => B.iter prog w _ _ ⟨hp, g, d, tk, os⟩ _ h1 q
    wp_walk using begun
    refine wpAny_stack_any fun fr => wpAny_pure ?_
    split
    · rename_i c _ _ _ _ _
      cases hcc : (c == Value.type "enumerate") <;>
      · wp_walk using begun
        exact ⟨_, rfl, h2⟩
    · wp_walk using begun
      exact ⟨_, rfl, h2⟩
end
/-- the tuple at a, each item in a new pair behind its number -/
def ItT (K : PySem.W.Frag) (a : Addr) : It where
  go := fun i H => ∃ (xs : List V) (x : V), SqT K H a xs ∧ xs[i]? = some x
  yld := fun i H v H' => ∃ T x, v = .ref T ∧ H T = none ∧ H' = upd H T (.tup [.int (i : Nat), x]) ∧ ∀ xs, SqT K H a xs → xs[i]? = some x
  stop := fun i H => ∃ xs : List V, SqT K H a xs ∧ xs.length = i
theorem turnT {P : Program} {w : World} {K : PySem.W.Frag} {elts : List Expr} {kk : Nat} {tpos : Pos} (a e it : Addr) :
    Turn P w K (.Tuple elts kk tpos) (ItT K a) [e, it] e (fun i h => (∃ old, IsEnum h e it ((i : Nat) : Int) old) ∧ h.IsTupleIter it a i ∧ e ≠ it ∧ a ≠ it ∧ a ≠ e) where
  mem := by simp
  obj := fun i h hst b hb => by
    obtain ⟨⟨old, he⟩, ⟨o, ho, hc, hd⟩, _⟩ := hst
    have hbb : b = e ∨ b = it := by simpa using hb
    cases hbb with
    | inl z => subst z; exact ⟨_, he, fun v q => nomatch q⟩
    | inr z => subst z; exact ⟨o, ho, fun v q => by rw [hd] at q; cases q⟩
  keep := fun i h h' hst k => by
    obtain ⟨⟨old, he⟩, hi, hne⟩ := hst
    exact ⟨⟨old, k e (by simp) _ he⟩, hi.at fun o q => k it (by simp) o q, hne⟩
  item := by
    intro X hP hw hK hc i pins s σ H E I hf hst hg
    subst hP; subst hw; subst hK
    obtain ⟨⟨old, he⟩, hit, hne, hai, hae⟩ := hst
    obtain ⟨xs, x, hq, hx⟩ := hg
    obtain ⟨its, rv, hp, hz⟩ := I.tuple hq
    obtain ⟨u, hu, ru⟩ := rv.get hx
    have el : e < s.heap.objs.size := Heap.lt_size he
    have il : it < s.heap.objs.size := by
      obtain ⟨_, q, _⟩ := hit
      exact Heap.lt_size q
    have hIT : s.heap.IsTuple a its.toArray := hp
    have Dw := Draws.tuple (prog := X.prog) (w := X.w) (A := X.A.in1) (show X.A.in1.handled = none from I.ok.hd hc) it a hai its.toArray
    have hlt : i < its.toArray.size := by
      have := (List.getElem?_eq_some_iff.mp hu).1
      simpa using this
    refine wpAny_pyNext_enum_itemD Dw he ⟨hit, hIT⟩ hlt hne (by simp [hne, Ne.symm hae]) fun y h1 tk hy ho hs1 hT hsz hk => ?_
    have eyu : y = u := by
      have h3 : its[i]? = some y := by simpa using hy
      rw [hu] at h3
      exact (Option.some.inj h3).symm
    subst eyu
    refine ⟨_, rfl, wpAny_letOwnedTupleGo_enum (s := { s with heap := h1, toks := tk + 1 }) ho fun h2 he2 sb => ?_⟩
    have hT2 : h2.get? s.heap.objs.size = some { cls := .type "tuple", data := .seq #[.int i tk, y] } := (sb.2 _ (Nat.ne_of_gt el)).trans hT
    have fresh : ObjOk X.prog X.w (upd H s.heap.objs.size (.tup [.int (i : Nat), x])) h2 s.heap.objs.size (.tup [.int (i : Nat), x]) :=
      ⟨by show 2 ≤ sizeLine; decide, [.int i tk, y], .cons ⟨_, rfl⟩ (.cons ru .nil), ⟨_, hT2, rfl, _, rfl⟩⟩
    have I1 : Inv X pins σ (upd H s.heap.objs.size (.tup [.int (i : Nat), x])) { s with heap := h2, toks := tk + 1 } := by
      refine I.turnedNew (ch := [e, it]) (fun b ob hb q => ?_) hf (Nat.le_refl _) fresh
      have b1 : b ≠ e := fun z => hb (by simp [z])
      have b2 : b ≠ it := fun z => hb (by simp [z])
      exact (sb.2 b b1).trans (hk b ob b1 b2 q)
    refine ⟨.ref s.heap.objs.size, _, I1, rfl, ⟨_, x, rfl, I.hok.fresh (Nat.le_refl _), rfl, fun ys hy => by rw [I.tuple_inj hy hq]; exact hx⟩, ⟨⟨y, ?_⟩, hs1.1.at fun o q => (sb.2 it (Ne.symm hne)).trans q, hne, hai, hae⟩, fun b hb => ?_⟩
    · have e1 : ((i + 1 : Nat) : Int) = (i : Int) + 1 := by omega
      rw [e1]
      exact he2
    · have hb' : b < s.heap.objs.size := by
        have hbb : b = e ∨ b = it := by simpa using hb
        cases hbb with
        | inl z => subst z; exact el
        | inr z => subst z; exact il
      rw [upd_ne (Nat.ne_of_lt hb')]
      exact (hf b hb).1
  done := by
    intro X hP hw hK hc i pins s σ H E I hf hst hg
    subst hP; subst hw; subst hK
    obtain ⟨⟨old, he⟩, hit, hne, hai, hae⟩ := hst
    obtain ⟨xs, hq, hx⟩ := hg
    obtain ⟨its, rv, hp, hz⟩ := I.tuple hq
    obtain ⟨f0, f1, f2, f3, f4, f5⟩ := hf it (by simp)
    have hl := rv.length
    have hIT : s.heap.IsTuple a its.toArray := hp
    have Dw := Draws.tuple (prog := X.prog) (w := X.w) (A := X.A.in1) (show X.A.in1.handled = none from I.ok.hd hc) it a hai its.toArray
    have ei : i = its.toArray.size := by
      rw [List.size_toArray]
      omega
    refine wpAny_pyNext_enum_endD Dw he ⟨by rw [← ei]; exact hit, hIT⟩ fun h1 eb => ⟨rfl, ?_⟩
    exact I.turned (t' := s.toks) (fun b o hb q => eb b o hb q) f0 f1 f3 f4 f5
  self := fun A i s Q E hst h => by
    obtain ⟨⟨_, he⟩, _⟩ := hst
    exact wpAny_pyIter_enum he h

/-! ### what a loop walks -/
section
variable {X : Cx} {tg e : Expr} {te : TE} {ta : TA} {p pos tpos : Pos} {elts : List Expr} {kk : Nat}
def iSeq (K : PySem.W.Frag) (te : TE) : TI := fun σ H R => te σ H fun x H1 => (∃ a, x = .ref a ∧ (∃ xs, SqL K H1 a xs) ∧ R (Itl K a) H1) ∨ (∃ a, x = .ref a ∧ (∃ xs, SqT K H1 a xs) ∧ R (Itt K a) H1) ∨ ∃ z, x = .str z ∧ R (Its z) H1
theorem pi_seq (he : PE X e te) : PI X tg e (iSeq X.K te) := by
  refine ⟨fun pins s σ H R I h => thn (he.run pins s σ H _ I h) fun v s1 hv => ?_⟩
  obtain ⟨x, H1, I1, r1, q1⟩ := hv
  rcases q1 with ⟨a, ex, ⟨xs, hq⟩, q⟩ | ⟨a, ex, ⟨xs, hq⟩, q⟩ | ⟨z, ex, q⟩
  · subst ex
    cases r1
    obtain ⟨its, rv, pl, hz⟩ := I1.list hq
    exact wpAny_pyIter_list pl.isList (pi_one (tk := s1.toks) I1 _ (turn_list a _) ⟨_, Heap.get?_push_size _ rfl, rfl, rfl⟩ q)
  · subst ex
    cases r1
    obtain ⟨its, rv, pl, hz⟩ := I1.tuple hq
    have hT : s1.heap.IsTuple a its.toArray := pl
    exact wpAny_pyIter_tuple hT (pi_one (tk := s1.toks) I1 _ (turn_tuple a _) ⟨_, Heap.get?_push_size _ rfl, rfl, rfl⟩ q)
  · subst ex
    obtain ⟨t, rfl⟩ := r1
    cases hall : z.cps.all (· < 128)
    · exact wpAny_pyIter_wide hall (pi_one (tk := s1.toks) I1 _ (turn_str _ z t _ (.inr rfl)) ⟨_, Heap.get?_push_size _ rfl, rfl, rfl⟩ q)
    · exact wpAny_pyIter_ascii hall (pi_one (tk := s1.toks) I1 _ (turn_str _ z t _ (.inl rfl)) ⟨_, Heap.get?_push_size _ rfl, rfl, rfl⟩ q)
def iEn (K : PySem.W.Frag) (ta : TA) : TI := fun σ H R => ta σ H fun vs H1 => ∃ a xs, vs = [.ref a] ∧ ((SqL K H1 a xs ∧ R (Ite K a) H1) ∨ (SqT K H1 a xs ∧ R (ItT K a) H1))
theorem pi_en (hg : Gl X "enumerate") (hm : X.mg "enumerate" = none) (ha : PA X [e] ta) (hs : starEach [e] X.env = [(false, eval e X.env)] := by rfl) : PI X (.Tuple elts kk tpos) (.Call (.Name "enumerate" p) [e] [] pos) (iEn X.K ta) := by
  refine ⟨fun pins s σ H R I h => ?_⟩
  refine Call_ (ld_blt I hg hm boot_enumerate (PyProof.Rows.callWith_type1 (thn (ha.run pos pins s σ H _ I h) fun us s1 hv => ?_) hs rfl))
  obtain ⟨vs, H1, I1, r1, a, xs, ex, q1⟩ := hv
  subst ex
  obtain ⟨u, rfl, ru⟩ := vals1 r1
  cases ru
  have mine : ∀ {b : Addr}, b ∈ [s1.heap.objs.size + 1, s1.heap.objs.size] → s1.heap.objs.size ≤ b := fun {b} hb => by
    have hbb : b = s1.heap.objs.size + 1 ∨ b = s1.heap.objs.size := by simpa using hb
    rcases hbb with z | z <;> rw [z]
    · exact Nat.le_add_right _ _
    · exact Nat.le_refl _
  rcases q1 with ⟨hq, q⟩ | ⟨hq, q⟩
  · obtain ⟨its, rv, pl, hz⟩ := I1.list hq
    refine call_enumerate_list pl.isList fun h1 he hit hsz hk => wpAny_pyIter_enum he ?_
    exact ⟨s1.heap.objs.size + 1, _, _, _, H1, rfl, I1.kept (t' := s1.toks) hk, turn_enum a (s1.heap.objs.size + 1) s1.heap.objs.size, ⟨⟨.none, he⟩, hit, Nat.succ_ne_self _⟩, fun b hb => I1.fpOk (mine hb) (I1.hok.fresh (mine hb)), q⟩
  · obtain ⟨its, rv, pl, hz⟩ := I1.tuple hq
    have hT : s1.heap.IsTuple a its.toArray := pl
    have al : a < s1.heap.objs.size := by
      obtain ⟨o, ho, _⟩ := hT
      exact Heap.lt_size ho
    refine callType_new F.called_enumerate (by decide) (F.typeCall_enumerate_1 _) (F.newCall_enumerate_1 _) (fun obj => F.args_object_init_2 obj _) F.entry_enumerate_new (enumNew (begins_tuple a its.toArray)) ⟨hT, ?_⟩
    have hz1 : (s1.heap.push { cls := .type "tuple_iterator", data := .fields #[.ref a, .int 0 0] }).objs.size = s1.heap.objs.size + 1 := Heap.size_push ..
    show _ ∧ _
    rw [hz1]
    have he : IsEnum ((s1.heap.push { cls := .type "tuple_iterator", data := .fields #[.ref a, .int 0 0] }).push
        { cls := .type "enumerate", data := .fields #[.none, .bool false, .ref s1.heap.objs.size, rawInt 0, .none, .none] }) (s1.heap.objs.size + 1) s1.heap.objs.size 0 .none := by
      have hg2 := Heap.get?_push_size (s1.heap.push { cls := .type "tuple_iterator", data := .fields #[.ref a, .int 0 0] })
        (o := { cls := .type "enumerate", data := .fields #[.none, .bool false, .ref s1.heap.objs.size, rawInt 0, .none, .none] }) rfl
      rw [hz1] at hg2
      exact hg2
    refine ⟨⟨_, he, rfl⟩, wpAny_pyIter_enum he ?_⟩
    refine ⟨s1.heap.objs.size + 1, _, _, _, H1, rfl, I1.kept (t' := s1.toks) fun b o x => Heap.get?_push_of_some _ (Heap.get?_push_of_some _ x), turnT a (s1.heap.objs.size + 1) s1.heap.objs.size, ⟨⟨.none, he⟩, ?_, Nat.succ_ne_self _, Nat.ne_of_lt al, Nat.ne_of_lt (Nat.lt_succ_of_lt al)⟩, fun b hb => I1.fpOk (mine hb) (I1.hok.fresh (mine hb)), q⟩
    exact ⟨_, Heap.get?_push_of_some _ (Heap.get?_push_size _ rfl), rfl, rfl⟩
end
end DL

set_option Elab.async false
set_option linter.all false
set_option maxRecDepth 100000
set_option maxHeartbeats 2000000
namespace DL
open PySem PySem.Spec PyProof.Rows L2
def itemsOf : D → Option (List D)
  | .lst ds => some ds
  | .tup ds => some ds
  | .scr ns => some (ns.map D.int)
  | .str z => some (z.cps.toList.map fun c => .str ⟨#[c]⟩)
  | _ => none
section
variable {X : Cx} {G : Gr} {W : WX} {a b c e o i : Expr} {es rest : List Expr} {ma mb me mo mi : EM D} {mt mu : EM Bool} {mr : EM (List D)} {pos p tpos : Pos} {s1 : Stmt} {ss : List Stmt} {m1 m2 mbd : SM} {tg : Expr} {elts : List Expr} {kk : Nat}
theorem dwalk_at {w0 : Wo} {H0 : Hp} {J : It} {xs : List V} {ds : List D} (r : Reps G.K w0 H0 xs ds) (hg : ∀ (i : Nat) (w : Wo) (H : Hp) (x : V), Ext w0 H0 w H → xs[i]? = some x → J.go i H) (hy : ∀ (i : Nat) (w : Wo) (H : Hp) (x : V) (H' : Hp), Ext w0 H0 w H → J.yld i H x H' → H' = H ∧ xs[i]? = some x)
    (hs : ∀ (w : Wo) (H : Hp), Ext w0 H0 w H → J.stop xs.length H) : DWalk G w0 H0 J ds := fun i w H e => by
  have r' := r.ext e
  refine ⟨fun d hd => ?_, fun hi => by rw [hi, ← r.length]; exact hs w H e⟩
  obtain ⟨v, hv, rv⟩ := r'.get hd
  refine ⟨hg i w H v e hv, fun x H' y => ?_⟩
  obtain ⟨eh, hx⟩ := hy i w H x H' e y
  subst eh
  rw [hv] at hx
  cases hx
  exact fun _ q => ⟨q, Ext.refl _ _, rv⟩
theorem dwalk_pair {w0 : Wo} {H0 : Hp} {J : It} {xs : List V} {ds : List D} (r : Reps G.K w0 H0 xs ds) (hg : ∀ (i : Nat) (w : Wo) (H : Hp) (x : V), Ext w0 H0 w H → xs[i]? = some x → J.go i H) (hy : ∀ (i : Nat) (w : Wo) (H : Hp) (v : V) (H' : Hp), Ext w0 H0 w H → J.yld i H v H' → ∃ T x, v = .ref T ∧ H T = none ∧ H' = upd H T (.tup [.int (i : Nat), x]) ∧ xs[i]? = some x)
    (hs : ∀ (w : Wo) (H : Hp), Ext w0 H0 w H → J.stop xs.length H) : DWalk G w0 H0 J (ds.zipIdx.map fun q => .tup [.int (q.2 : Nat), q.1]) := fun i w H e => by
  have r' := r.ext e
  refine ⟨fun d hd => ?_, fun hi => ?_⟩
  · rw [List.getElem?_map, List.getElem?_zipIdx] at hd
    cases hdi : ds[i]? with
    | none => rw [hdi] at hd; cases hd
    | some d0 =>
      rw [hdi] at hd
      simp only [Option.map_some, Option.some.injEq, Nat.zero_add] at hd
      subst hd
      obtain ⟨v, hv, rv⟩ := r'.get hdi
      refine ⟨hg i w H v e hv, fun x H' y => ?_⟩
      obtain ⟨T, x0, ex, hT, eH, hx⟩ := hy i w H x H' e y
      subst ex eH
      rw [hv] at hx
      cases hx
      exact fun st rs => rs.newT hT (.cons (.int _) (.cons rv .nil))
  · rw [hi, List.length_map, List.length_zipIdx, ← r.length]
    exact hs w H e
def enumD (d : D) (st : Sto) : Out (List D) := match d with
  | .lst ds => .ok (ds.zipIdx.map fun q => .tup [.int (q.2 : Nat), q.1]) st
  | .tup ds => .ok (ds.zipIdx.map fun q => .tup [.int (q.2 : Nat), q.1]) st
  | _ => .bad
def itemsO (d : D) (st : Sto) : Out (List D) := match itemsOf d with
  | some ds => .ok ds st
  | none => .bad
def iSq (me : EM D) : EM (List D) := fun env st => bnd (me env st) itemsO
def iEm (me : EM D) : EM (List D) := fun env st => bnd (me env st) enumD
theorem di_seq (hK : G.K = X.K) (he : PE X e (dE G W me)) : PI X tg e (dI G W (iSq me)) := PI.imp (pi_seq he) fun σ H R ⟨w, env, st, rs, re, h⟩ => by
  refine ⟨w, env, st, rs, re, Fit.bind h fun d st1 w1 H1 v rs1 e1 rv h1 => ?_⟩
  rw [← hK]
  cases rv with
  | @lst p xs ds f q =>
    refine .inl ⟨p, rfl, ⟨xs, f.sq⟩, h1 w1 H1 _ rs1 (Ext.refl _ _) (dwalk_at q (fun i w H x ee hx => ⟨xs, x, (f.ext ee).sq, hx⟩) (fun i w H x H' ee y => ⟨y.1, y.2 xs (f.ext ee).sq⟩) fun w H ee => ⟨xs, (f.ext ee).sq, Nat.le_refl _⟩)⟩
  | @tup p xs ds f q =>
    refine .inr (.inl ⟨p, rfl, ⟨xs, f.sq⟩, h1 w1 H1 _ rs1 (Ext.refl _ _) (dwalk_at q (fun i w H x ee hx => ⟨xs, x, (f.ext ee).sq, hx⟩) (fun i w H x H' ee y => ⟨y.1, y.2 xs (f.ext ee).sq⟩) fun w H ee => ⟨xs, (f.ext ee).sq, Nat.le_refl _⟩)⟩)
  | @scr p ns f =>
    refine .inl ⟨p, rfl, ⟨_, f.sq⟩, h1 w1 H1 _ rs1 (Ext.refl _ _) (dwalk_at (Reps.of_ints ns) (fun i w H x ee hx => ⟨_, x, (f.ext ee).sq, hx⟩) (fun i w H x H' ee y => ⟨y.1, y.2 _ (f.ext ee).sq⟩) fun w H ee => ⟨_, (f.ext ee).sq, Nat.le_refl _⟩)⟩
  | str z =>
    refine .inr (.inr ⟨z, rfl, h1 w1 H1 _ rs1 (Ext.refl _ _) fun i w H ee => ⟨fun d hd => ?_, fun hi => ?_⟩⟩)
    · rw [List.getElem?_map] at hd
      cases hc : z.cps.toList[i]? with
      | none => rw [hc] at hd; cases hd
      | some c =>
        rw [hc] at hd
        cases hd
        have hc' : z.cps[i]? = some c := by rw [← Array.getElem?_toList]; exact hc
        refine ⟨(Array.getElem?_eq_some_iff.mp hc').1, fun x H' y st rs => ?_⟩
        obtain ⟨eH, c2, h2, ex⟩ := y
        subst eH ex
        rw [hc'] at h2
        cases h2
        exact ⟨rs, Ext.refl _ _, .str _⟩
    · have : i = z.cps.size := by simpa using hi
      show z.cps.size ≤ i
      omega
  | _ => exact h1.elim
theorem di_enum (hK : G.K = X.K) (hg : Gl X "enumerate") (hm : X.mg "enumerate" = none) (ha : PE X e (dE G W me)) (hs : starEach [e] X.env = [(false, eval e X.env)] := by rfl) (hs2 : starEach (e :: []) X.env = (false, eval e X.env) :: starEach [] X.env := by rfl) :
    PI X (.Tuple elts kk tpos) (.Call (.Name "enumerate" p) [e] [] pos) (dI G W (iEm me)) := PI.imp (pi_en hg hm (da_cons ha da_nil hs2) hs) fun σ H R ⟨w, env, st, rs, re, h⟩ => by
  refine ⟨w, env, st, rs, re, ?_⟩
  unfold aCons
  have h2 : Fit G (DWalk G) w H R (fun c d H' => W c d σ H') (bnd (bnd (me env st) fun d st => bnd (aNil env st) fun ds st => Out.ok (d :: ds) st) fun ds st => match ds with | [d] => enumD d st | _ => .bad) := by
    unfold iEm at h
    cases q : me env st with
    | ok d st1 => rw [q] at h; exact h
    | err c fs st1 => rw [q] at h; exact h
    | bad => rw [q] at h; exact h
  refine Fit.bind h2 fun ds st1 w1 H1 vs rs1 e1 rvs h1 => ?_
  rw [← hK]
  cases rvs with
  | nil => exact h1.elim
  | cons rv rr =>
    cases rr with
    | cons _ _ => exact h1.elim
    | nil =>
      cases rv with
      | @lst p xs ds f q =>
        refine ⟨p, xs, rfl, .inl ⟨f.sq, h1 w1 H1 _ rs1 (Ext.refl _ _) (dwalk_pair q (fun i w H x ee hx => ⟨xs, x, (f.ext ee).sq, hx⟩) (fun i w H v H' ee y => ?_) fun w H ee => ⟨xs, (f.ext ee).sq, Nat.le_refl _⟩)⟩⟩
        obtain ⟨T, x, z1, z2, z3, z4⟩ := y
        exact ⟨T, x, z1, z2, z3, z4 xs (f.ext ee).sq⟩
      | @tup p xs ds f q =>
        refine ⟨p, xs, rfl, .inr ⟨f.sq, h1 w1 H1 _ rs1 (Ext.refl _ _) (dwalk_pair q (fun i w H x ee hx => ⟨xs, x, (f.ext ee).sq, hx⟩) (fun i w H v H' ee y => ?_) fun w H ee => ⟨xs, (f.ext ee).sq, rfl⟩)⟩⟩
        obtain ⟨T, x, z1, z2, z3, z4⟩ := y
        exact ⟨T, x, z1, z2, z3, z4 xs (f.ext ee).sq⟩
      | _ => exact h1.elim
/-- range(j), range(i, j) -/
def rangeD1 (ds : List D) (st : Sto) : Out (List D) := match ds with
  | [.int j] => if -(2 ^ 62) ≤ j ∧ j < 2 ^ 62 then .ok ((List.range j.toNat).map fun (k : Nat) => .int (0 + (k : Int))) st else .bad
  | _ => .bad
def rangeD2 (ds : List D) (st : Sto) : Out (List D) := match ds with
  | [.int i, .int j] => if -(2 ^ 62) ≤ i ∧ i < 2 ^ 62 ∧ -(2 ^ 62) ≤ j ∧ j < 2 ^ 62 then .ok ((List.range (j - i).toNat).map fun (k : Nat) => .int (i + (k : Int))) st else .bad
  | _ => .bad
def iR1 (mr : EM (List D)) : EM (List D) := fun env st => bnd (mr env st) rangeD1
def iR2 (mr : EM (List D)) : EM (List D) := fun env st => bnd (mr env st) rangeD2
theorem dwalk_range {w : Wo} {H : Hp} (lo : Int) (n : Nat) : DWalk G w H (Itr lo n) ((List.range n).map fun (k : Nat) => .int (lo + (k : Int))) := fun i w' H' e => by
  refine ⟨fun d hd => ?_, fun hi => ?_⟩
  · rw [List.getElem?_map] at hd
    by_cases hl : i < n
    · rw [List.getElem?_range hl] at hd
      cases hd
      refine ⟨hl, fun x H2 y st rs => ?_⟩
      obtain ⟨eH, ex⟩ := y
      subst eH ex
      exact ⟨rs, Ext.refl _ _, .int _⟩
    · rw [List.getElem?_eq_none (by simpa using Nat.le_of_not_lt hl)] at hd
      cases hd
  · show n ≤ i
    rw [hi]
    simp
theorem di_range1 (hg : Gl X "range") (hm : X.mg "range" = none) (ha : PA X [a] (dA G W mr)) (hs : starEach [a] X.env = [(false, eval a X.env)] := by rfl) : PI X tg (.Call (.Name "range" p) [a] [] pos) (dI G W (iR1 mr)) := PI.imp (pi_range1 hg hm ha hs) fun σ H R ⟨w, env, st, rs, re, h⟩ => by
  refine ⟨w, env, st, rs, re, Fit.bind h fun ds st1 w1 H1 vs rs1 e1 rvs h1 => ?_⟩
  unfold rangeD1 at h1
  split at h1
  · rename_i j
    split at h1
    · rename_i hc
      cases rvs with
      | cons r1 rr =>
        cases r1
        cases rr
        exact ⟨j, rfl, hc.1, hc.2, h1 _ _ _ rs1 (Ext.refl _ _) (dwalk_range 0 _)⟩
    · exact h1.elim
  · exact h1.elim
theorem di_range2 (hg : Gl X "range") (hm : X.mg "range" = none) (ha : PA X [a, b] (dA G W mr)) (hs : starEach [a, b] X.env = [(false, eval a X.env), (false, eval b X.env)] := by rfl) (hs2 : starEach [b] X.env = [(false, eval b X.env)] := by rfl) : PI X tg (.Call (.Name "range" p) [a, b] [] pos) (dI G W (iR2 mr)) := PI.imp (pi_range2 hg hm ha hs hs2) fun σ H R ⟨w, env, st, rs, re, h⟩ => by
  refine ⟨w, env, st, rs, re, Fit.bind h fun ds st1 w1 H1 vs rs1 e1 rvs h1 => ?_⟩
  unfold rangeD2 at h1
  split at h1
  · rename_i i j
    split at h1
    · rename_i hc
      cases rvs with
      | cons r1 rr =>
        cases r1
        cases rr with
        | cons r2 r3 =>
          cases r2
          cases r3
          exact ⟨i, j, rfl, hc, h1 _ _ _ rs1 (Ext.refl _ _) (dwalk_range i _)⟩
    · exact h1.elim
  · exact h1.elim
end
end DL

set_option Elab.async false
set_option linter.all false
set_option maxRecDepth 100000
set_option maxHeartbeats 2000000
namespace DL
open PySem PySem.Spec PyProof.Rows L2
theorem OpR.or {X : Cx} {f : Value → Value → Sem Value} {r r' : R2} (h : OpR X f r) (h' : OpR X f r') : OpR X f (fun x y H Q => r x y H Q ∨ r' x y H Q) := by
  intro pins s σ H x y v u Q I rx ry q
  rcases q with q | q
  · exact h pins s σ H x y v u Q I rx ry q
  · exact h' pins s σ H x y v u Q I rx ry q
theorem OpS.inl {X : Cx} {G : Gr} {r r' : R2} {f : D → D → Sto → Out D} (h : OpS X G r f) : OpS X G (fun x y H Q => r x y H Q ∨ r' x y H Q) f := fun w st H x y dx dy Q rs rx ry q => .inl (h w st H x y dx dy Q rs rx ry q)

/-! ### whole numbers -/
def iiO (C : Int → Int → Bool) (g : Int → Int → D) : D → D → Sto → Out D := fun x y st => match x, y with
  | .int i, .int j => if C i j then .ok (g i j) st else .bad
  | _, _ => .bad
theorem calm_ii {C : Int → Int → Bool} {g : Int → Int → D} (x y : D) (st : Sto) : Calm (iiO C g x y st) := by
  unfold iiO
  split
  · split <;> trivial
  · trivial
theorem ops_ii {X : Cx} {G : Gr} {C : Int → Int → Bool} {Cp : Int → Int → Prop} {gv : Int → Int → V} {g : Int → Int → D} (hc : ∀ i j, C i j = true → Cp i j) (hr : ∀ w H i j, Rep G.K w H (gv i j) (g i j)) : OpS X G (rI Cp gv) (iiO C g) := by
  intro w st H x y dx dy Q rs rx ry h
  unfold iiO at h
  split at h
  · rename_i i j
    cases rx
    cases ry
    split at h
    · rename_i hcc
      exact ⟨i, j, rfl, rfl, hc i j hcc, h.now rs (hr w H i j)⟩
    · exact h.elim
  · exact h.elim
theorem ops_i0 {X : Cx} {G : Gr} {gv : Int → Int → V} {g : Int → Int → D} (hr : ∀ w H i j, Rep G.K w H (gv i j) (g i j)) : OpS X G (rI0 gv) (iiO (fun _ _ => true) g) := by
  intro w st H x y dx dy Q rs rx ry h
  unfold iiO at h
  split at h
  · rename_i i j
    cases rx
    cases ry
    exact ⟨i, j, rfl, rfl, h.now rs (hr w H i j)⟩
  · exact h.elim
abbrev T0 : Int → Int → Bool := fun _ _ => true
def oSub := iiO T0 fun i j => .int (i - j)
def oLt := iiO T0 fun i j => .bl (decide (i < j))
def oLe := iiO T0 fun i j => .bl (decide (i ≤ j))
def oGt := iiO T0 fun i j => .bl (decide (j < i))
def oGe := iiO T0 fun i j => .bl (decide (j ≤ i))
def cMul (i j : Int) : Bool := decide (-(2 ^ 64) < i ∧ i < 2 ^ 64) || decide (-(2 ^ 64) < j ∧ j < 2 ^ 64) || decide (i.natAbs.log2 + j.natAbs.log2 < 1000000)
def oMul := iiO cMul fun i j => .int (i * j)
def cDiv (_ j : Int) : Bool := decide (0 < j ∧ j.natAbs.log2 < 9000)
def oDiv := iiO cDiv fun i j => .int (i / j)
def cMod (_ j : Int) : Bool := decide (0 < j)
def oMod := iiO cMod fun i j => .int (i % j)
def cPow (i j : Int) : Bool := decide (0 ≤ j ∧ j ≤ 1000000 ∧ i.natAbs < 2 ^ 64)
def oPow := iiO cPow fun i j => .int (i ^ j.toNat)
section
variable {X : Cx} {G : Gr} {W : WX} {a b e o : Expr} {es : List Expr} {ma mb me mo : EM D} {mr : EM (List D)} {pos p : Pos}
theorem de_sub (ha : PE X a (dE G W ma)) (hb : PE X b (dE G W mb)) : PE X (.BinOp a .Sub b pos) (dE G W (eOp oSub ma mb)) := de_op op_sub (ops_i0 fun _ _ _ _ => .int _) calm_ii ha hb
theorem ops_mul {X : Cx} {G : Gr} : OpS X G (fun x y H Q => (rI CMul fun i j => .int (i * j)) x y H Q ∨ (rI CMulW fun i j => .int (i * j)) x y H Q) oMul := by
  intro w st H x y dx dy Q rs rx ry h
  unfold oMul iiO at h
  split at h
  · rename_i i j
    cases rx
    cases ry
    split at h
    · rename_i hcc
      unfold cMul at hcc
      rw [Bool.or_eq_true, Bool.or_eq_true] at hcc
      rcases hcc with (hcc | hcc) | hcc
      · exact .inl ⟨i, j, rfl, rfl, .inl (of_decide_eq_true hcc), h.now rs (.int _)⟩
      · exact .inl ⟨i, j, rfl, rfl, .inr (of_decide_eq_true hcc), h.now rs (.int _)⟩
      · have q := of_decide_eq_true hcc
        exact .inr ⟨i, j, rfl, rfl, q, h.now rs (.int _)⟩
    · exact h.elim
  · exact h.elim
theorem cDiv_ok (i j : Int) (h : cDiv i j = true) : CDivW i j := by unfold cDiv at h; have q := of_decide_eq_true h; exact q
theorem cPow_ok (i j : Int) (h : cPow i j = true) : CPow i j := by unfold cPow at h; have q := of_decide_eq_true h; exact q
theorem de_mul (ha : PE X a (dE G W ma)) (hb : PE X b (dE G W mb)) : PE X (.BinOp a .Mult b pos) (dE G W (eOp oMul ma mb)) := de_op (OpR.or op_mul op_mulW) ops_mul calm_ii ha hb
theorem de_div (ha : PE X a (dE G W ma)) (hb : PE X b (dE G W mb)) : PE X (.BinOp a .FloorDiv b pos) (dE G W (eOp oDiv ma mb)) := de_op op_fdivW (ops_ii cDiv_ok fun _ _ _ _ => .int _) calm_ii ha hb
theorem de_mod (ha : PE X a (dE G W ma)) (hb : PE X b (dE G W mb)) : PE X (.BinOp a .Mod b pos) (dE G W (eOp oMod ma mb)) := de_op op_mod (ops_ii (fun i j h => of_decide_eq_true h) fun _ _ _ _ => .int _) calm_ii ha hb
theorem de_pow (ha : PE X a (dE G W ma)) (hb : PE X b (dE G W mb)) : PE X (.BinOp a .Pow b pos) (dE G W (eOp oPow ma mb)) := de_op op_pow (ops_ii cPow_ok fun _ _ _ _ => .int _) calm_ii ha hb
theorem de_lt (ha : PE X a (dE G W ma)) (hb : PE X b (dE G W mb)) : PE X (.Compare a [.Lt] [b] pos) (dE G W (eOp oLt ma mb)) := de_cmp op_lt (ops_i0 fun _ _ _ _ => .bl _) calm_ii ha hb (nomark _)
theorem de_le (ha : PE X a (dE G W ma)) (hb : PE X b (dE G W mb)) : PE X (.Compare a [.LtE] [b] pos) (dE G W (eOp oLe ma mb)) := de_cmp op_le (ops_i0 fun _ _ _ _ => .bl _) calm_ii ha hb (nomark _)
theorem de_gt (ha : PE X a (dE G W ma)) (hb : PE X b (dE G W mb)) : PE X (.Compare a [.Gt] [b] pos) (dE G W (eOp oGt ma mb)) := de_cmp op_gt (ops_i0 fun _ _ _ _ => .bl _) calm_ii ha hb (nomark _)
theorem de_ge (ha : PE X a (dE G W ma)) (hb : PE X b (dE G W mb)) : PE X (.Compare a [.GtE] [b] pos) (dE G W (eOp oGe ma mb)) := de_cmp op_ge (ops_i0 fun _ _ _ _ => .bl _) calm_ii ha hb (nomark _)
theorem dt_lt (ha : PE X a (dE G W ma)) (hb : PE X b (dE G W mb)) : PT X (.Compare a [.Lt] [b] pos) (dT G W (tOf (eOp oLt ma mb))) := dt_cmp op_lt (ops_i0 fun _ _ _ _ => .bl _) calm_ii ha hb (nomark _)
theorem dt_le (ha : PE X a (dE G W ma)) (hb : PE X b (dE G W mb)) : PT X (.Compare a [.LtE] [b] pos) (dT G W (tOf (eOp oLe ma mb))) := dt_cmp op_le (ops_i0 fun _ _ _ _ => .bl _) calm_ii ha hb (nomark _)
theorem dt_gt (ha : PE X a (dE G W ma)) (hb : PE X b (dE G W mb)) : PT X (.Compare a [.Gt] [b] pos) (dT G W (tOf (eOp oGt ma mb))) := dt_cmp op_gt (ops_i0 fun _ _ _ _ => .bl _) calm_ii ha hb (nomark _)
theorem dt_ge (ha : PE X a (dE G W ma)) (hb : PE X b (dE G W mb)) : PT X (.Compare a [.GtE] [b] pos) (dT G W (tOf (eOp oGe ma mb))) := dt_cmp op_ge (ops_i0 fun _ _ _ _ => .bl _) calm_ii ha hb (nomark _)

/-! ### a + b: whole numbers, texts, lists, tuples -/
def oAdd (x y : D) (st : Sto) : Out D := match x, y with
  | .int i, .int j => .ok (.int (i + j)) st
  | .str i, .str j => if i.length + j.length ≤ 100000 then .ok (.str (i ++ j)) st else .bad
  | .tup ds, .tup es => if (ds ++ es).length ≤ 100000 then .ok (.tup (ds ++ es)) st else .bad
  | x, y => (match lstOf st x, lstOf st y with
    | some ds, some es => if (ds ++ es).length ≤ 100000 then .ok (.lst (ds ++ es)) st else .bad
    | _, _ => .bad)
theorem calm_add (x y : D) (st : Sto) : Calm (oAdd x y st) := by
  unfold oAdd
  split
  · trivial
  · split <;> trivial
  · split <;> trivial
  · split
    · split <;> trivial
    · trivial
theorem le_line {n : Nat} (h : n ≤ 100000) : n ≤ sizeLine := Nat.le_trans h (by rw [sizeLine_eq]; omega)
theorem ops_add (hK : G.K = X.K) : OpS X G (fun x y H Q => (rI0 fun i j => .int (i + j)) x y H Q ∨ (∃ i j, x = .str i ∧ y = .str j ∧ i.length + j.length ≤ sizeLine ∧ Q (.str (i ++ j)) H) ∨ rCatA X.K x y H Q ∨ rCat x y H Q) oAdd := by
  intro w st H x y dx dy Q rs rx ry h
  unfold oAdd at h
  split at h
  · rename_i i j
    cases rx; cases ry
    exact .inl ⟨i, j, rfl, rfl, h.now rs (.int _)⟩
  · rename_i i j
    cases rx; cases ry
    split at h
    · rename_i hl
      exact .inr (.inl ⟨i, j, rfl, rfl, le_line hl, h.now rs (.str _)⟩)
    · exact h.elim
  · rename_i ds es
    cases rx with
    | @tup pa xs _ fa qa =>
    cases ry with
    | @tup pb ys _ fb qb =>
    split at h
    · rename_i hl
      have hz : xs.length + ys.length ≤ sizeLine := by
        rw [qa.length, qb.length, ← List.length_append]
        exact le_line hl
      refine .inr (.inr (.inl ⟨pa, pb, xs, ys, rfl, rfl, by rw [← hK]; exact fa.sq, by rw [← hK]; exact fb.sq, hz, fun ex => ?_, fun nx ey => ?_, fun nx ny p hp => ?_⟩))
      · subst ex
        cases qa
        exact h.now rs (.tup fb qb)
      · subst ey
        cases qb
        rw [List.append_nil] at h
        exact h.now rs (.tup fa qa)
      · obtain ⟨k1, k2, k3⟩ := rs.newT hp (qa.append qb)
        exact h _ _ _ k1 k2 k3
    · exact h.elim
  · split at h
    · rename_i ds es h1 h2
      split at h
      · rename_i hl
        obtain ⟨pa, xs, rfl, ea, qa⟩ := rx.lstAt rs h1
        obtain ⟨pb, ys, rfl, eb, qb⟩ := ry.lstAt rs h2
        refine .inr (.inr (.inr ⟨pa, pb, xs, ys, rfl, rfl, ea, eb, by rw [qa.length, qb.length, ← List.length_append]; exact le_line hl, fun p hp => ?_⟩))
        obtain ⟨k1, k2, k3⟩ := rs.newL hp (qa.append qb)
        exact h _ _ _ k1 k2 k3
      · exact h.elim
    · exact h.elim
theorem de_add (hK : G.K = X.K) (ha : PE X a (dE G W ma)) (hb : PE X b (dE G W mb)) : PE X (.BinOp a .Add b pos) (dE G W (eOp oAdd ma mb)) := de_op (OpR.or op_add (OpR.or op_add_str (OpR.or op_catA op_cat))) (ops_add hK) calm_add ha hb

/-! ### ==, != of data -/
mutual
def pyD : D → PyData
  | .non => .none
  | .bl b => .bool b
  | .int i => .int i
  | .str x => .str x
  | .lst ds => .list (pyDs ds)
  | .tup ds => .tuple (pyDs ds)
  | .cel _ => .none
  | .dic => .none
  | .fn _ _ _ _ _ => .none
  | .dct _ _ => .none
  | .ins _ _ _ => .none
  | .clo _ _ _ => .none
  | .adr _ => .none
  | .any => .none
  | .dcl _ _ => .none
  | .scr ns => .list (ns.map .int)
def pyDs : List D → List PyData
  | [] => []
  | d :: ds => pyD d :: pyDs ds
end
mutual
/-- no cells in it -/
def plainD : D → Bool
  | .cel _ => false
  | .dic => false
  | .fn _ _ _ _ _ => false
  | .dct _ _ => false
  | .ins _ _ _ => false
  | .clo _ _ _ => false
  | .adr _ => false
  | .any => false
  | .dcl _ _ => false
  | .lst ds => plainDs ds
  | .tup ds => plainDs ds
  | _ => true
def plainDs : List D → Bool
  | [] => true
  | d :: ds => plainD d && plainDs ds
end
theorem dpAll_ints {K : PySem.W.Frag} {H : Hp} : ∀ (ns : List Int), DpAll K H (ns.map V.int) (ns.map PyData.int)
  | [] => .nil
  | n :: ns => .cons (.int n) (dpAll_ints ns)
mutual
theorem Rep.dp {K : PySem.W.Frag} {w : Wo} {H : Hp} : ∀ {v : V} {d : D}, Rep K w H v d → plainD d = true → Dp K H v (pyD d)
  | _, _, .non, _ => .non
  | _, _, .bl b, _ => .bl b
  | _, _, .int i, _ => .int i
  | _, _, .str x, _ => .str x
  | _, _, .lst f r, h => .lst f.sq (Reps.dp r (by simpa [plainD] using h))
  | _, _, .tup f r, h => .tup f.sq (Reps.dp r (by simpa [plainD] using h))
  | _, _, .cel _, h => by simp [plainD] at h
  | _, _, .dic _ _, h => by simp [plainD] at h
  | _, _, .fn _ _ _, h => by simp [plainD] at h
  | _, _, .dct _ _ _ _, h => by simp [plainD] at h
  | _, _, .ins _ _ _ _, h => by simp [plainD] at h
  | _, _, .clo _ _ _ _, h => by simp [plainD] at h
  | _, _, .adr _, h => by simp [plainD] at h
  | _, _, .any _, h => by simp [plainD] at h
  | _, _, .dcl _ _ _ _, h => by simp [plainD] at h
  | _, _, .scr f, _ => .lst f.sq (dpAll_ints _)
theorem Reps.dp {K : PySem.W.Frag} {w : Wo} {H : Hp} : ∀ {vs : List V} {ds : List D}, Reps K w H vs ds → plainDs ds = true → DpAll K H vs (pyDs ds)
  | _, _, .nil, _ => .nil
  | _, d :: ds, .cons r t, h => by
    have h' : plainD d = true ∧ plainDs ds = true := by simpa [plainDs] using h
    exact .cons (Rep.dp r h'.1) (Reps.dp t h'.2)
end
def fineD (d : D) : Bool := plainD d && SeqAt.shaped (pyD d)
def oEq (x y : D) (st : Sto) : Out D := if fineD x && fineD y then .ok (.bl (PyData.eqv (pyD x) (pyD y))) st else .bad
def oNe (x y : D) (st : Sto) : Out D := if fineD x && fineD y then .ok (.bl (!PyData.eqv (pyD x) (pyD y))) st else .bad
theorem calm_eq (x y : D) (st : Sto) : Calm (oEq x y st) := by unfold oEq; split <;> trivial
theorem calm_ne (x y : D) (st : Sto) : Calm (oNe x y st) := by unfold oNe; split <;> trivial
theorem fine_split {x y : D} (h : (fineD x && fineD y) = true) : (plainD x = true ∧ SeqAt.shaped (pyD x) = true) ∧ plainD y = true ∧ SeqAt.shaped (pyD y) = true := by
  simpa [fineD, Bool.and_eq_true] using h
theorem ops_eq (hK : G.K = X.K) : OpS X G (rEqD X.K) oEq := by
  intro w st H x y dx dy Q rs rx ry h
  unfold oEq at h
  split at h
  · rename_i hf
    obtain ⟨⟨p1, s1⟩, p2, s2⟩ := fine_split hf
    rw [← hK]
    exact ⟨_, _, rx.dp p1, ry.dp p2, s1, s2, h.now rs (.bl _)⟩
  · exact h.elim
theorem ops_ne (hK : G.K = X.K) : OpS X G (rNeD X.K) oNe := by
  intro w st H x y dx dy Q rs rx ry h
  unfold oNe at h
  split at h
  · rename_i hf
    obtain ⟨⟨p1, s1⟩, p2, s2⟩ := fine_split hf
    rw [← hK]
    exact ⟨_, _, rx.dp p1, ry.dp p2, s1, s2, h.now rs (.bl _)⟩
  · exact h.elim
theorem de_eq (hK : G.K = X.K) (hu : X.A.units + 64 < cLine) (ha : PE X a (dE G W ma)) (hb : PE X b (dE G W mb)) : PE X (.Compare a [.Eq] [b] pos) (dE G W (eOp oEq ma mb)) := de_cmp (op_eqD hu) (ops_eq hK) calm_eq ha hb (nomark _)
theorem de_ne (hK : G.K = X.K) (hu : X.A.units + 64 < cLine) (ha : PE X a (dE G W ma)) (hb : PE X b (dE G W mb)) : PE X (.Compare a [.NotEq] [b] pos) (dE G W (eOp oNe ma mb)) := de_cmp (op_neD hu) (ops_ne hK) calm_ne ha hb (nomark _)
theorem dt_eq (hK : G.K = X.K) (hu : X.A.units + 64 < cLine) (ha : PE X a (dE G W ma)) (hb : PE X b (dE G W mb)) : PT X (.Compare a [.Eq] [b] pos) (dT G W (tOf (eOp oEq ma mb))) := dt_cmp (op_eqD hu) (ops_eq hK) calm_eq ha hb (nomark _)
theorem dt_ne (hK : G.K = X.K) (hu : X.A.units + 64 < cLine) (ha : PE X a (dE G W ma)) (hb : PE X b (dE G W mb)) : PT X (.Compare a [.NotEq] [b] pos) (dT G W (tOf (eOp oNe ma mb))) := dt_cmp (op_neD hu) (ops_ne hK) calm_ne ha hb (nomark _)

/-! ### is None -/
def oIsN (x y : D) (st : Sto) : Out D := match y with
  | .non => .ok (.bl (match x with | .non => true | _ => false)) st
  | _ => .bad
def oNotN (x y : D) (st : Sto) : Out D := match y with
  | .non => .ok (.bl (match x with | .non => false | _ => true)) st
  | _ => .bad
theorem calm_isN (x y : D) (st : Sto) : Calm (oIsN x y st) := by unfold oIsN; split <;> trivial
theorem calm_notN (x y : D) (st : Sto) : Calm (oNotN x y st) := by unfold oNotN; split <;> trivial
theorem ops_isN : OpS X G (fun x y H Q => y = .non ∧ Q (.bl (decide (x = .non))) H) oIsN := by
  intro w st H x y dx dy Q rs rx ry h
  unfold oIsN at h
  split at h
  · cases ry
    refine ⟨rfl, ?_⟩
    cases rx <;> exact h.now rs (.bl _)
  · exact h.elim
theorem ops_notN : OpS X G (fun x y H Q => y = .non ∧ Q (.bl (!decide (x = .non))) H) oNotN := by
  intro w st H x y dx dy Q rs rx ry h
  unfold oNotN at h
  split at h
  · cases ry
    refine ⟨rfl, ?_⟩
    cases rx <;> exact h.now rs (.bl _)
  · exact h.elim
theorem de_isN (ha : PE X a (dE G W ma)) (hb : PE X b (dE G W mb)) : PE X (.Compare a [.Is] [b] pos) (dE G W (eOp oIsN ma mb)) := de_cmp op_isN ops_isN calm_isN ha hb (nomark _)
theorem de_notN (ha : PE X a (dE G W ma)) (hb : PE X b (dE G W mb)) : PE X (.Compare a [.IsNot] [b] pos) (dE G W (eOp oNotN ma mb)) := de_cmp op_notN ops_notN calm_notN ha hb (nomark _)
theorem dt_isN (ha : PE X a (dE G W ma)) (hb : PE X b (dE G W mb)) : PT X (.Compare a [.Is] [b] pos) (dT G W (tOf (eOp oIsN ma mb))) := dt_cmp op_isN ops_isN calm_isN ha hb (nomark _)
theorem dt_notN (ha : PE X a (dE G W ma)) (hb : PE X b (dE G W mb)) : PT X (.Compare a [.IsNot] [b] pos) (dT G W (tOf (eOp oNotN ma mb))) := dt_cmp op_notN ops_notN calm_notN ha hb (nomark _)
end
end DL

set_option Elab.async false
set_option linter.all false
set_option maxRecDepth 100000
set_option maxHeartbeats 2000000
namespace DL
open PySem PySem.Spec PyProof.Rows L2
/-! ### names of the module -/
def KRep (G : Gr) (u : Value) (d : D) : Prop := ∃ v, RelV v u ∧ ∀ w H, Rep G.K w H v d
section
variable {X : Cx} {G : Gr} {W : WX} {a b e o : Expr} {es : List Expr} {ma mb me mo : EM D} {mr : EM (List D)} {pos p : Pos}
theorem de_glob {x : Str} {u : Value} {d : D} (hg : Gl X x) (hm : X.mg x = some u) (r : KRep G u d) (hd : (x == ("__debug__" : Str)) = false := by decide) : PE X (.Name x pos) (dE G W (eC d)) := by
  obtain ⟨v, rv, rep⟩ := r
  exact PE.imp (pe_glob hg hm rv hd) fun σ H Q ⟨w, env, st, rs, re, h⟩ => h.now rs (rep w H)
theorem krep_str {x : Str} {t : Tok} : KRep G (.str x t) (.str x) := ⟨.str x, ⟨t, rfl⟩, fun _ _ => .str x⟩
theorem krep_int {i : Int} {t : Tok} : KRep G (.int i t) (.int i) := ⟨.int i, ⟨t, rfl⟩, fun _ _ => .int i⟩
theorem krep_tup {q : Addr} {o : Obj} {its : List Value} {n : Nat} {xs : List V} {ds : List D} (hl : G.K.lookup q = some o) (hc : o.cls = .type "tuple") (hd : o.data = .seq its.toArray n) (hz : its.length ≤ sizeLine) (hv : Vals xs its) (hr : ∀ w H, Reps G.K w H xs ds) : KRep G (.ref q) (.tup ds) :=
  ⟨.ref q, rfl, fun w H => .tup (.inr ⟨o, its.toArray, n, hl, hc, hd, by simpa using hz, by simpa using hv⟩) (hr w H)⟩

/-! ### flat values -/
def fv : D → Option V
  | .non => some .non
  | .bl b => some (.bl b)
  | .int i => some (.int i)
  | .str x => some (.str x)
  | _ => none
def fvs : List D → Option (List V)
  | [] => some []
  | d :: ds => (match fv d, fvs ds with
    | some v, some vs => some (v :: vs)
    | _, _ => none)
theorem Rep.fv {w : Wo} {H : Hp} {v u : V} {d : D} (r : Rep G.K w H v d) (h : fv d = some u) : v = u ∧ flatV v = true := by
  cases r with
  | non => cases h; exact ⟨rfl, rfl⟩
  | bl b => cases h; exact ⟨rfl, rfl⟩
  | int i => cases h; exact ⟨rfl, rfl⟩
  | str x => cases h; exact ⟨rfl, rfl⟩
  | _ => cases h
theorem Reps.fvs {w : Wo} {H : Hp} : ∀ {vs us : List V} {ds : List D}, Reps G.K w H vs ds → fvs ds = some us → vs = us ∧ vs.all flatV = true
  | _, _, _, .nil, h => by cases h; exact ⟨rfl, rfl⟩
  | _, us, d :: ds, .cons r t, h => by
    unfold DL.fvs at h
    split at h
    · rename_i v vs h1 h2
      cases h
      obtain ⟨e1, f1⟩ := Rep.fv r h1
      obtain ⟨e2, f2⟩ := Reps.fvs t h2
      subst e1 e2
      exact ⟨rfl, by rw [List.all_cons, f1, f2]; rfl⟩
    · cases h
/-- x in y: flat things in a list, a tuple; a sign in a text -/
def inO (neg : Bool) (x y : D) (st : Sto) : Out D := match y with
  | .str z => (match x with
    | .str s => (match s.cps.toList with
      | [c] => .ok (.bl (if neg then !decide (c ∈ z.cps.toList) else decide (c ∈ z.cps.toList))) st
      | _ => .bad)
    | _ => .bad)
  | y => (match seqOf st y with
    | some ds => (match fv x, fvs ds with
      | some u, some us => .ok (.bl (if neg then !inV u us else inV u us)) st
      | _, _ => .bad)
    | none => .bad)
theorem calm_in {neg : Bool} (x y : D) (st : Sto) : Calm (inO neg x y st) := by
  unfold inO
  split
  · split
    · split <;> trivial
    · trivial
  · split
    · split <;> trivial
    · trivial
theorem str_one {s : Str} {c : Nat} (h : s.cps.toList = [c]) : s = ⟨#[c]⟩ := by
  obtain ⟨x⟩ := s
  have h' : x.toList = [c] := h
  have : x = #[c] := by
    apply Array.toList_inj.mp
    exact h'
  rw [this]
def rSign (neg : Bool) : R2 := fun x y H Q => ∃ (c : Nat) (z : Str), x = .str ⟨#[c]⟩ ∧ y = .str z ∧ Q (.bl (if neg then !decide (c ∈ z.cps.toList) else decide (c ∈ z.cps.toList))) H
theorem ops_in (hK : G.K = X.K) (neg : Bool) : OpS X G (fun x y H Q => rIn X.K neg x y H Q ∨ rSign neg x y H Q) (inO neg) := by
  intro w st H x y dx dy Q rs rx ry h
  unfold inO at h
  split at h
  · rename_i z
    split at h
    · rename_i s
      split at h
      · rename_i c hc
        cases ry
        cases rx
        exact .inr ⟨c, z, by rw [str_one hc], rfl, h.now rs (.bl _)⟩
      · exact h.elim
    · exact h.elim
  · split at h
    · rename_i ds hs
      split at h
      · rename_i u us h1 h2
        obtain ⟨q, ys, rfl, hsq, r⟩ := ry.seq rs hs
        obtain ⟨e1, f1⟩ := rx.fv h1
        obtain ⟨e2, f2⟩ := r.fvs h2
        subst e1 e2
        rw [← hK]
        exact .inl ⟨q, ys, rfl, hsq, f1, f2, h.now rs (.bl _)⟩
      · exact h.elim
    · exact h.elim
theorem op_inS : OpR X (compareOp .In) (rSign false) := op_in_sign
theorem op_niS : OpR X (compareOp .NotIn) (rSign true) := by
  intro pins s σ H x y v u Q I rx ry h
  obtain ⟨c, z, e1, e2, q⟩ := h
  exact op_notIn_sign pins s σ H x y v u Q I rx ry ⟨c, z, e1, e2, q⟩
theorem de_in (hK : G.K = X.K) (ha : PE X a (dE G W ma)) (hb : PE X b (dE G W mb)) (hm : behindInMarks .In b = false := by rfl) : PE X (.Compare a [.In] [b] pos) (dE G W (eOp (inO false) ma mb)) := de_cmp (OpR.or op_in_seq op_inS) (ops_in hK false) calm_in ha hb hm
theorem de_nin (hK : G.K = X.K) (ha : PE X a (dE G W ma)) (hb : PE X b (dE G W mb)) (hm : behindInMarks .NotIn b = false := by rfl) : PE X (.Compare a [.NotIn] [b] pos) (dE G W (eOp (inO true) ma mb)) := de_cmp (OpR.or op_notIn_seq op_niS) (ops_in hK true) calm_in ha hb hm
theorem dt_in (hK : G.K = X.K) (ha : PE X a (dE G W ma)) (hb : PE X b (dE G W mb)) (hm : behindInMarks .In b = false := by rfl) : PT X (.Compare a [.In] [b] pos) (dT G W (tOf (eOp (inO false) ma mb))) := dt_cmp (OpR.or op_in_seq op_inS) (ops_in hK false) calm_in ha hb hm
theorem dt_nin (hK : G.K = X.K) (ha : PE X a (dE G W ma)) (hb : PE X b (dE G W mb)) (hm : behindInMarks .NotIn b = false := by rfl) : PT X (.Compare a [.NotIn] [b] pos) (dT G W (tOf (eOp (inO true) ma mb))) := dt_cmp (OpR.or op_notIn_seq op_niS) (ops_in hK true) calm_in ha hb hm

/-! ### items, slices -/
def ixO (x y : D) (st : Sto) : Out D := match y with
  | .int i => (match x with
    | .str z => if z.length ≤ 100000 then (match atI z.cps.toList i with
      | some c => .ok (.str ⟨#[c]⟩) st
      | none => .bad) else .bad
    | x => (match seqOf st x with
      | some ds => (match atI ds i with
        | some d => .ok d st
        | none => .bad)
      | none => .bad))
  | _ => .bad
theorem calm_ix (x y : D) (st : Sto) : Calm (ixO x y st) := by
  unfold ixO
  split
  · split
    · split
      · split <;> trivial
      · trivial
    · split
      · split <;> trivial
      · trivial
  · trivial
theorem Reps.atI {w : Wo} {H : Hp} {vs : List V} {ds : List D} {i : Int} {d : D} (r : Reps G.K w H vs ds) (h : L2.atI ds i = some d) : ∃ v, L2.atI vs i = some v ∧ Rep G.K w H v d := by
  unfold L2.atI at h ⊢
  rw [r.length]
  cases e : ixN ds.length i with
  | none => rw [e] at h; cases h
  | some j =>
    rw [e] at h
    exact r.get h
theorem ops_ix (hK : G.K = X.K) : OpS X G (rIx X.K) ixO := by
  intro w st H x y dx dy Q rs rx ry h
  unfold ixO at h
  split at h
  · rename_i i
    cases ry
    split at h
    · rename_i z
      cases rx
      split at h
      · rename_i hl
        split at h
        · rename_i c hc
          exact .inr (.inr ⟨z, i, c, rfl, rfl, le_line hl, hc, h.now rs (.str _)⟩)
        · exact h.elim
      · exact h.elim
    · split at h
      · rename_i ds hs
        split at h
        · rename_i d hd
          obtain ⟨q, ys, rfl, hsq, r⟩ := rx.seq rs hs
          obtain ⟨v, hv, rv⟩ := r.atI hd
          rw [← hK]
          rcases hsq with hsq | hsq
          · exact .inl ⟨q, ys, i, v, rfl, rfl, hsq, hv, h.now rs rv⟩
          · exact .inr (.inl ⟨q, ys, i, v, rfl, rfl, hsq, hv, h.now rs rv⟩)
        · exact h.elim
      · exact h.elim
  · exact h.elim
theorem de_item (hK : G.K = X.K) (ha : PE X a (dE G W ma)) (hb : PE X b (dE G W mb)) (hp : PlainIx b := by exact fun _ _ => rfl) : PE X (.Subscript a b pos) (dE G W (eOp ixO ma mb)) := de_ix ix_seq (ops_ix hK) calm_ix ha hb hp
def cutD (xs : List D) (lo hi : Option Int) : List D := (xs.drop (HT.sIx xs.length 0 lo)).take (HT.sIx xs.length xs.length hi - HT.sIx xs.length 0 lo)
theorem Reps.cut {w : Wo} {H : Hp} {vs : List V} {ds : List D} (r : Reps G.K w H vs ds) (lo hi : Option Int) : Reps G.K w H (cutV vs lo hi) (cutD ds lo hi) := by
  unfold cutV cutD
  rw [r.length]
  exact (r.drop _).take _
def slO (x : D) (lo hi : Option Int) (st : Sto) : Out D := match x with
  | .str z => if z.length ≤ 100000 then .ok (.str (cutS z lo hi)) st else .bad
  | .tup ds => .ok (.tup (cutD ds lo hi)) st
  | x => (match seqOf st x with
    | some ds => .ok (.lst (cutD ds lo hi)) st
    | none => .bad)
end
end DL

set_option Elab.async false
set_option linter.all false
set_option maxRecDepth 100000
set_option maxHeartbeats 2000000
namespace DL
open PySem PySem.Spec PyProof.Rows L2
section
variable {X : Cx} {G : Gr} {W : WX} {a b e o : Expr} {es : List Expr} {ma mb me mo : EM D} {mr : EM (List D)} {pos p p2 : Pos} {lo hi : Option Expr}
/-! ### slices -/
theorem PO.imp {e : Option Expr} {t t' : TO} (h : PO X e t) (i : ∀ σ H Q, t' σ H Q → t σ H Q) : PO X e t' := ⟨fun pins s σ H Q I q => h.run pins s σ H Q I (i σ H Q q)⟩
abbrev FitO (G : Gr) := Fit G (fun _ _ (b c : Option Int) => b = c)
def dO (G : Gr) (W : WX) (m : EM (Option Int)) : TO := fun σ H Q => ∃ w env st, RSt G.K G.T w st H ∧ REnv G.K w H env σ ∧ FitO G w H Q (fun c d H' => W c d σ H') (m env st)
def pN : EM (Option Int) := fun _ st => .ok none st
def toI (d : D) (st : Sto) : Out (Option Int) := match d with
  | .int i => .ok (some i) st
  | _ => .bad
def pI (m : EM D) : EM (Option Int) := fun env st => bnd (m env st) toI
theorem do_none : PO X none (dO G W pN) := PO.imp po_none fun σ H Q ⟨w, env, st, rs, re, h⟩ => h w H none rs (Ext.refl _ _) rfl
theorem do_some (h : PE X e (dE G W me)) : PO X (some e) (dO G W (pI me)) := PO.imp (po_some h) fun σ H Q ⟨w, env, st, rs, re, h⟩ => by
  refine ⟨w, env, st, rs, re, Fit.bind h fun d st1 w1 H1 v rs1 e1 rv h1 => ?_⟩
  cases rv with
  | int i => exact ⟨i, rfl, h1 w1 H1 _ rs1 (Ext.refl _ _) rfl⟩
  | _ => exact h1.elim
def eSl (me : EM D) (ml mh : EM (Option Int)) : EM D := fun env st => bnd (me env st) fun d st => bnd (ml env st) fun l st => bnd (mh env st) fun u st => slO d l u st
theorem calm_sl (x : D) (l h : Option Int) (st : Sto) : Calm (slO x l h st) := by
  unfold slO
  split
  · split <;> trivial
  · trivial
  · split <;> trivial
theorem sls {w : Wo} {st : Sto} {H : Hp} {x : V} {dx : D} {l h : Option Int} {Q : VK} (hK : G.K = X.K) (rs : RSt G.K G.T w st H) (rx : Rep G.K w H x dx) (hf : FitD G w H Q E0 (slO dx l h st)) : rSlL X.K x l h H Q ∨ rSlA X.K x l h H Q ∨ rSlS x l h H Q := by
  unfold slO at hf
  split at hf
  · rename_i z
    cases rx
    split at hf
    · rename_i hl
      exact .inr (.inr ⟨z, rfl, le_line hl, hf.now rs (.str _)⟩)
    · exact hf.elim
  · rename_i ds
    cases rx with
    | @tup q xs _ f r =>
    refine .inr (.inl ⟨q, xs, rfl, by rw [← hK]; exact f.sq, fun hw => ?_, fun hw p hp => ?_⟩)
    · have ed : cutD ds l h = ds := by
        unfold cutD
        rw [← r.length, hw.1, hw.2, List.drop_zero, r.length, Nat.sub_zero, List.take_length]
      rw [ed] at hf
      exact hf.now rs (.tup f r)
    · obtain ⟨k1, k2, k3⟩ := rs.newT hp (r.cut l h)
      exact hf _ _ _ k1 k2 k3
  · rename_i hns hnt
    split at hf
    · rename_i ds hs
      obtain ⟨q, ys, rfl, hsq, r⟩ := rx.seq rs hs
      rcases hsq with hsq | hsq
      · refine .inl ⟨q, ys, rfl, by rw [← hK]; exact hsq, fun p hp => ?_⟩
        obtain ⟨k1, k2, k3⟩ := rs.newL hp (r.cut l h)
        exact hf _ _ _ k1 k2 k3
      · cases rx with
        | tup f r2 => exact (hnt _ rfl).elim
        | dic _ _ => cases hs
        | fn _ _ _ => cases hs
        | dct _ _ _ _ => cases hs
        | ins _ _ _ _ => cases hs
        | clo _ _ _ _ => cases hs
        | adr _ => cases hs
        | any _ => cases hs
        | dcl _ _ _ _ => cases hs
        | lst f r2 =>
          refine .inl ⟨q, _, rfl, by rw [← hK]; exact f.sq, fun p hp => ?_⟩
          cases hs
          obtain ⟨k1, k2, k3⟩ := rs.newL hp (r2.cut l h)
          exact hf _ _ _ k1 k2 k3
        | cel f =>
          rename_i n
          obtain ⟨c, hc, xs, ex, r2⟩ := rs.at f
          have hs' : (st[n]?).map Cell.get = some ds := hs
          rw [hc] at hs'
          cases hs'
          refine .inl ⟨q, xs, rfl, by rw [← hK]; exact SqL.of ex, fun p hp => ?_⟩
          obtain ⟨k1, k2, k3⟩ := rs.newL hp (r2.cut l h)
          exact hf _ _ _ k1 k2 k3
        | scr f =>
          cases hs
          refine .inl ⟨q, _, rfl, by rw [← hK]; exact f.sq, fun p hp => ?_⟩
          obtain ⟨k1, k2, k3⟩ := rs.newL hp ((Reps.of_ints _).cut l h)
          exact hf _ _ _ k1 k2 k3
    · exact hf.elim
theorem de_slice {ml mh : EM (Option Int)} (hK : G.K = X.K) (he : PE X e (dE G W me)) (hl : PO X lo (dO G W ml)) (hh : PO X hi (dO G W mh)) : PE X (.Subscript e (.Slice lo hi none p2) pos) (dE G W (eSl me ml mh)) :=
  PE.imp (pe_slice (SlR.or sl_list (SlR.or sl_tupA sl_str)) he hl hh) fun σ H Q ⟨w, env, st, rs, re, h⟩ => by
    refine ⟨w, env, st, rs, re, Fit.bind h fun d st1 w1 H1 v rs1 e1 rv h1 => ?_⟩
    refine ⟨w1, env, st1, rs1, re.ext e1, Fit.bind h1 fun l st2 w2 H2 l' rs2 e2 el h2 => ?_⟩
    subst el
    refine ⟨w2, env, st2, rs2, (re.ext e1).ext e2, Fit.bind h2 fun u st3 w3 H3 u' rs3 e3 eu h3 => ?_⟩
    subst eu
    exact sls hK rs3 ((rv.ext e2).ext e3) (fit_calm h3 (calm_sl _ _ _ _))

/-! ### built-ins -/
def lenO (ds : List D) (st : Sto) : Out D := match ds with
  | [.str z] => if z.length ≤ 100000 then .ok (.int z.length) st else .bad
  | [d] => (match seqOf st d with
    | some xs => .ok (.int xs.length) st
    | none => .bad)
  | _ => .bad
theorem calm_len (ds : List D) (st : Sto) : Calm (lenO ds st) := by
  unfold lenO
  split
  · split <;> trivial
  · split <;> trivial
  · trivial
theorem Reps.one {w : Wo} {H : Hp} {xs : List V} {d : D} (r : Reps G.K w H xs [d]) : ∃ v, xs = [v] ∧ Rep G.K w H v d := by
  cases r with
  | cons r t => cases t; exact ⟨_, rfl, r⟩
theorem Reps.two {w : Wo} {H : Hp} {xs : List V} {d d' : D} (r : Reps G.K w H xs [d, d']) : ∃ v v', xs = [v, v'] ∧ Rep G.K w H v d ∧ Rep G.K w H v' d' := by
  cases r with
  | cons r t =>
    obtain ⟨v', rfl, r'⟩ := Reps.one t
    exact ⟨_, _, rfl, r, r'⟩
theorem calls_len (hK : G.K = X.K) : CallS G (fun xs H Q => (∃ p ys, xs = [.ref p] ∧ (SqL X.K H p ys ∨ SqT X.K H p ys) ∧ Q (.int ys.length) H) ∨ (∃ z, xs = [.str z] ∧ z.length ≤ sizeLine ∧ Q (.int z.length) H)) lenO := by
  intro w st H xs ds Q rs r h
  unfold lenO at h
  split at h
  · rename_i z
    obtain ⟨v, rfl, rv⟩ := r.one
    cases rv
    split at h
    · rename_i hl
      exact .inr ⟨z, rfl, le_line hl, h.now rs (.int _)⟩
    · exact h.elim
  · rename_i d hd
    obtain ⟨v, rfl, rv⟩ := r.one
    split at h
    · rename_i zs hs
      obtain ⟨q, ys, rfl, hsq, rr⟩ := rv.seq rs hs
      rw [← rr.length] at h
      exact .inl ⟨q, ys, rfl, by rw [← hK]; exact hsq, h.now rs (.int _)⟩
    · exact h.elim
  · exact h.elim
theorem de_len (hK : G.K = X.K) (hg : Gl X "len") (hm : X.mg "len" = none) (ha : PA X (e :: es) (dA G W mr)) (he : starEach (e :: es) X.env = (false, eval e X.env) :: starEach es X.env := by rfl) (hpl : (backTo pos (starEach es X.env)).any (·.1) = false := by rfl) : PE X (.Call (.Name "len" p) (e :: es) [] pos) (dE G W (eCB lenO mr)) :=
  de_callB (call_len_seq.or call_len_str) (calls_len hK) calm_len hg hm PySem.boot_len ha (he := he) (hpl := hpl)
/-- list(x): data, or a list that will be changed -/
def listO (ds : List D) (st : Sto) : Out D := match ds with
  | [d] => (match seqOf st d with
    | some xs => .ok (.lst xs) st
    | none => .bad)
  | _ => .bad
def listC (ds : List D) (st : Sto) : Out D := match ds with
  | [d] => (match seqOf st d with
    | some xs => .ok (.cel st.length) (st ++ [.lst xs])
    | none => .bad)
  | _ => .bad
def tupleO (ds : List D) (st : Sto) : Out D := match ds with
  | [d] => (match seqOf st d with
    | some xs => .ok (.tup xs) st
    | none => .bad)
  | _ => .bad
theorem calm_list (ds : List D) (st : Sto) : Calm (listO ds st) := by
  unfold listO
  split
  · split <;> trivial
  · trivial
theorem calm_listC (ds : List D) (st : Sto) : Calm (listC ds st) := by
  unfold listC
  split
  · split <;> trivial
  · trivial
theorem calm_tuple (ds : List D) (st : Sto) : Calm (tupleO ds st) := by
  unfold tupleO
  split
  · split <;> trivial
  · trivial
theorem calls_list (hK : G.K = X.K) : CallS G (fun xs H Q => ∃ p ys, xs = [.ref p] ∧ (SqL X.K H p ys ∨ SqT X.K H p ys) ∧ ∀ l, H l = none → Q (.ref l) (upd H l (.lst ys))) listO := by
  intro w st H xs ds Q rs r h
  unfold listO at h
  split at h
  · obtain ⟨v, rfl, rv⟩ := r.one
    split at h
    · rename_i zs hs
      obtain ⟨q, ys, rfl, hsq, rr⟩ := rv.seq rs hs
      refine ⟨q, ys, rfl, by rw [← hK]; exact hsq, fun l hl => ?_⟩
      obtain ⟨k1, k2, k3⟩ := rs.newL hl rr
      exact h _ _ _ k1 k2 k3
    · exact h.elim
  · exact h.elim
theorem calls_listC (hK : G.K = X.K) : CallS G (fun xs H Q => ∃ p ys, xs = [.ref p] ∧ (SqL X.K H p ys ∨ SqT X.K H p ys) ∧ ∀ l, H l = none → Q (.ref l) (upd H l (.lst ys))) listC := by
  intro w st H xs ds Q rs r h
  unfold listC at h
  split at h
  · obtain ⟨v, rfl, rv⟩ := r.one
    split at h
    · rename_i zs hs
      obtain ⟨q, ys, rfl, hsq, rr⟩ := rv.seq rs hs
      refine ⟨q, ys, rfl, by rw [← hK]; exact hsq, fun l hl => ?_⟩
      obtain ⟨k1, k2, k3⟩ := rs.newC hl rr
      exact h _ _ _ k1 k2 k3
    · exact h.elim
  · exact h.elim
theorem calls_tuple (hK : G.K = X.K) : CallS G (fun xs H Q => ∃ p ys, xs = [.ref p] ∧ ((SqL X.K H p ys ∧ ∀ l, H l = none → Q (.ref l) (upd H l (.tup ys))) ∨ (SqT X.K H p ys ∧ Q (.ref p) H))) tupleO := by
  intro w st H xs ds Q rs r h
  unfold tupleO at h
  split at h
  · rename_i d
    obtain ⟨v, rfl, rv⟩ := r.one
    split at h
    · rename_i zs hs
      rw [← hK]
      cases rv with
      | @tup q ys _ f rr =>
        cases hs
        exact ⟨q, ys, rfl, .inr ⟨f.sq, h.now rs (.tup f rr)⟩⟩
      | @lst q ys _ f rr =>
        cases hs
        refine ⟨q, ys, rfl, .inl ⟨f.sq, fun l hl => ?_⟩⟩
        obtain ⟨k1, k2, k3⟩ := rs.newT hl rr
        exact h _ _ _ k1 k2 k3
      | @cel q n f =>
        obtain ⟨c, hc, ys, ex, rr⟩ := rs.at f
        have hs' : (st[n]?).map Cell.get = some zs := hs
        rw [hc] at hs'
        cases hs'
        refine ⟨q, ys, rfl, .inl ⟨SqL.of ex, fun l hl => ?_⟩⟩
        obtain ⟨k1, k2, k3⟩ := rs.newT hl rr
        exact h _ _ _ k1 k2 k3
      | @scr q ns f =>
        cases hs
        refine ⟨q, _, rfl, .inl ⟨f.sq, fun l hl => ?_⟩⟩
        obtain ⟨k1, k2, k3⟩ := rs.newT hl (Reps.of_ints ns)
        exact h _ _ _ k1 k2 k3
      | _ => cases hs
    · exact h.elim
  · exact h.elim
theorem de_list (hK : G.K = X.K) (hg : Gl X "list") (hm : X.mg "list" = none) (ha : PA X (e :: es) (dA G W mr)) (he : starEach (e :: es) X.env = (false, eval e X.env) :: starEach es X.env := by rfl) (hpl : (backTo pos (starEach es X.env)).any (·.1) = false := by rfl) : PE X (.Call (.Name "list" p) (e :: es) [] pos) (dE G W (eCB listO mr)) :=
  de_callTy call_list_of (calls_list hK) calm_list hg hm (by decide +kernel) ha (he := he) (hpl := hpl)
theorem de_listC (hK : G.K = X.K) (hg : Gl X "list") (hm : X.mg "list" = none) (ha : PA X (e :: es) (dA G W mr)) (he : starEach (e :: es) X.env = (false, eval e X.env) :: starEach es X.env := by rfl) (hpl : (backTo pos (starEach es X.env)).any (·.1) = false := by rfl) : PE X (.Call (.Name "list" p) (e :: es) [] pos) (dE G W (eCB listC mr)) :=
  de_callTy call_list_of (calls_listC hK) calm_listC hg hm (by decide +kernel) ha (he := he) (hpl := hpl)
theorem de_tuple (hK : G.K = X.K) (hg : Gl X "tuple") (hm : X.mg "tuple" = none) (ha : PA X (e :: es) (dA G W mr)) (he : starEach (e :: es) X.env = (false, eval e X.env) :: starEach es X.env := by rfl) (hpl : (backTo pos (starEach es X.env)).any (·.1) = false := by rfl) : PE X (.Call (.Name "tuple" p) (e :: es) [] pos) (dE G W (eCB tupleO mr)) :=
  de_callTy call_tuple_of (calls_tuple hK) calm_tuple hg hm (by decide +kernel) ha (he := he) (hpl := hpl)
def absO (ds : List D) (st : Sto) : Out D := match ds with
  | [.int i] => .ok (.int (if i < 0 then -i else i)) st
  | _ => .bad
theorem de_abs (hg : Gl X "abs") (hm : X.mg "abs" = none) (ha : PA X (e :: es) (dA G W mr)) (he : starEach (e :: es) X.env = (false, eval e X.env) :: starEach es X.env := by rfl) (hpl : (backTo pos (starEach es X.env)).any (·.1) = false := by rfl) : PE X (.Call (.Name "abs" p) (e :: es) [] pos) (dE G W (eCB absO mr)) :=
  de_callB call_abs (fun w st H xs ds Q rs r h => by
    unfold absO at h
    split at h
    · rename_i i
      obtain ⟨v, rfl, rv⟩ := r.one
      cases rv
      exact ⟨i, rfl, h.now rs (.int _)⟩
    · exact h.elim) (fun ds st => by unfold absO; split <;> trivial) hg hm (by decide +kernel) ha (he := he) (hpl := hpl)
def intO (ds : List D) (st : Sto) : Out D := match ds with
  | [.int i] => .ok (.int i) st
  | [.bl k] => .ok (.int (if k then 1 else 0)) st
  | _ => .bad
theorem de_int1 (hg : Gl X "int") (hm : X.mg "int" = none) (ha : PA X (e :: es) (dA G W mr)) (he : starEach (e :: es) X.env = (false, eval e X.env) :: starEach es X.env := by rfl) (hpl : (backTo pos (starEach es X.env)).any (·.1) = false := by rfl) : PE X (.Call (.Name "int" p) (e :: es) [] pos) (dE G W (eCB intO mr)) :=
  de_callTy call_int1 (fun w st H xs ds Q rs r h => by
    unfold intO at h
    split at h
    · rename_i i
      obtain ⟨v, rfl, rv⟩ := r.one
      cases rv
      exact .inl ⟨i, rfl, h.now rs (.int _)⟩
    · rename_i k
      obtain ⟨v, rfl, rv⟩ := r.one
      cases rv
      exact .inr ⟨k, rfl, h.now rs (.int _)⟩
    · exact h.elim) (fun ds st => by unfold intO; split <;> trivial) hg hm (by decide +kernel) ha (he := he) (hpl := hpl)
/-- truths -/
def bls : List D → Option (List Bool)
  | [] => some []
  | .bl b :: ds => (bls ds).map (b :: ·)
  | _ :: _ => none
theorem Reps.bls {w : Wo} {H : Hp} : ∀ {vs : List V} {ds : List D} {bs : List Bool}, Reps G.K w H vs ds → bls ds = some bs → vs = bs.map V.bl
  | _, _, _, .nil, h => by cases h; rfl
  | _, d :: ds, bs, .cons r t, h => by
    cases r with
    | bl b =>
      unfold DL.bls at h
      cases q : DL.bls ds with
      | none => rw [q] at h; cases h
      | some cs =>
        rw [q] at h
        cases h
        rw [Reps.bls t q]
        rfl
    | _ => cases h
def allO (k : Bool) (ds : List D) (st : Sto) : Out D := match ds with
  | [d] => (match lstOf st d with
    | some xs => (match bls xs with
      | some bs => .ok (.bl (if k then bs.all id else bs.any id)) st
      | none => .bad)
    | none => .bad)
  | _ => .bad
theorem calm_all {k : Bool} (ds : List D) (st : Sto) : Calm (allO k ds st) := by
  unfold allO
  split
  · split
    · split <;> trivial
    · trivial
  · trivial
theorem calls_all (hK : G.K = X.K) (k : Bool) : CallS G (fun vs H Q => ∃ (a : Addr) (bs : List Bool), vs = [V.ref a] ∧ SqL X.K H a (bs.map V.bl) ∧ Q (.bl (if k then bs.all id else bs.any id)) H) (allO k) := by
  intro w st H xs ds Q rs r h
  unfold allO at h
  split at h
  · obtain ⟨v, rfl, rv⟩ := r.one
    split at h
    · rename_i zs hs
      split at h
      · rename_i bs hb
        obtain ⟨q, ys, rfl, hq, rr⟩ := rv.lstAt rs hs
        have e := rr.bls hb
        subst e
        exact ⟨q, bs, rfl, SqL.of hq, h.now rs (.bl _)⟩
      · exact h.elim
    · exact h.elim
  · exact h.elim
theorem de_all (hK : G.K = X.K) (hc : X.calm = true) (hg : Gl X "all") (hm : X.mg "all" = none) (ha : PA X (e :: es) (dA G W mr)) (he : starEach (e :: es) X.env = (false, eval e X.env) :: starEach es X.env := by rfl) (hpl : (backTo pos (starEach es X.env)).any (·.1) = false := by rfl) : PE X (.Call (.Name "all" p) (e :: es) [] pos) (dE G W (eCB (allO true) mr)) :=
  de_callB (cr_all hc) (calls_all hK true) calm_all hg hm (by decide +kernel) ha (he := he) (hpl := hpl)
theorem de_any (hK : G.K = X.K) (hc : X.calm = true) (hg : Gl X "any") (hm : X.mg "any" = none) (ha : PA X (e :: es) (dA G W mr)) (he : starEach (e :: es) X.env = (false, eval e X.env) :: starEach es X.env := by rfl) (hpl : (backTo pos (starEach es X.env)).any (·.1) = false := by rfl) : PE X (.Call (.Name "any" p) (e :: es) [] pos) (dE G W (eCB (allO false) mr)) :=
  de_callB (cr_any hc) (calls_all hK false) calm_all hg hm (by decide +kernel) ha (he := he) (hpl := hpl)

/-! ### stars in displays -/
def aStar (m : EM D) (mr : EM (List D)) : EM (List D) := fun env st => bnd (m env st) fun d st => match seqOf st d with
  | some xs => bnd (mr env st) fun ds st => .ok (xs ++ ds) st
  | none => .bad
theorem da_star (hK : G.K = X.K) (he : PE X e (dE G W me)) (hr : PA X es (dA G W mr)) (hs : starEach (.Starred e p :: es) X.env = (true, eval e X.env) :: starEach es X.env := by rfl) : PA X (.Starred e p :: es) (dA G W (aStar me mr)) :=
  PA.imp (StX.pa_star he hr hs) fun σ H Q ⟨w, env, st, rs, re, h⟩ => by
    refine ⟨w, env, st, rs, re, Fit.bind h fun d st1 w1 H1 v rs1 e1 rv h1 => ?_⟩
    split at h1
    · rename_i zs hz
      obtain ⟨q, ys, rfl, hsq, rr⟩ := rv.seq rs1 hz
      rw [← hK]
      refine ⟨q, ys, rfl, hsq.symm, w1, env, st1, rs1, re.ext e1, Fit.bind h1 fun ds st2 w2 H2 vs rs2 e2 rvs h2 => ?_⟩
      exact h2.now rs2 ((rr.ext e2).append rvs)
    · exact h1.elim

/-! ### methods of lists -/
def isCel (d : D) (st : Sto) : Bool := match d with
  | .cel n => (match st[n]? with
    | some _ => true
    | none => false)
  | _ => false
theorem tys_cel : TyS G "list" isCel := by
  intro w st H x dx rs rx h
  cases rx with
  | @cel q n f =>
    obtain ⟨c, hc, ys, ex, rr⟩ := rs.at f
    exact .inl ⟨rfl, ys, SqL.of ex⟩
  | _ => cases h
/-- the cell of a list that may change -/
def celAt (d : D) (st : Sto) : Option (Nat × List D) := match d with
  | .cel n => (match st[n]? with
    | some (.lst ds) => some (n, ds)
    | _ => none)
  | _ => none
theorem Rep.cell {w : Wo} {st : Sto} {H : Hp} {v : V} {d : D} {n : Nat} {ds : List D} (r : Rep G.K w H v d) (rs : RSt G.K G.T w st H) (h : celAt d st = some (n, ds)) : ∃ q xs, v = .ref q ∧ w.adr[n]? = some q ∧ st[n]? = some (.lst ds) ∧ H q = some (.lst xs) ∧ Reps G.K w H xs ds := by
  cases r with
  | @cel q m f =>
    unfold celAt at h
    dsimp only at h
    split at h
    · rename_i ds' hc
      obtain ⟨e1, e2⟩ := Prod.mk.inj (Option.some.inj h)
      subst e1 e2
      obtain ⟨xs, ex, rr⟩ := rs.cell _ q _ f hc
      exact ⟨q, xs, rfl, f, hc, ex, rr⟩
    · cases h
  | _ => cases h
def appO (x : D) (ds : List D) (st : Sto) : Out D := match ds with
  | [d] => (match celAt x st with
    | some (n, xs) => if xs.length < 100000 then .ok .non (st.set n (.lst (xs ++ [d]))) else .bad
    | none => .bad)
  | _ => .bad
theorem calm_app (x : D) (ds : List D) (st : Sto) : Calm (appO x ds st) := by
  unfold appO
  split
  · split
    · split <;> trivial
    · trivial
  · trivial
theorem lt_line {n : Nat} (h : n < 100000) : n < sizeLine := Nat.lt_of_lt_of_le h (by rw [sizeLine_eq]; omega)
theorem mets_app : MetS G "list" rAppend appO := by
  intro w st H x dx xs ds Q rs rx r h
  unfold appO at h
  split at h
  · rename_i d
    obtain ⟨v, rfl, rv⟩ := r.one
    split at h
    · rename_i n zs hc
      split at h
      · rename_i hl
        obtain ⟨q, ys, rfl, f, hst, hq, rr⟩ := rx.cell rs hc
        obtain ⟨k1, k2⟩ := rs.put f hst (rr.append (.cons rv .nil))
        exact ⟨q, ys, v, rfl, rfl, hq, lt_line (by rw [rr.length]; exact hl), h _ _ _ k1 k2 .non⟩
      · exact h.elim
    · exact h.elim
  · exact h.elim
theorem de_append {apos cpos : Pos} (hK : G.K = X.K) (ho : PE X o (dE G W mo)) (ha : PA X (e :: es) (dA G W mr)) (hbase : attributeBase o "append" X.env (eval o X.env) = eval o X.env := by rfl)
    (hfew : ((backTo cpos (starEach (e :: es) X.env)).all (fun x => !x.1) && (backToKw cpos (keywordEach [] X.env)).all (fun x => x.1.isSome) && decide ((e :: es).length + ([] : List Keyword).length + (if ([] : List Keyword).isEmpty then 0 else 1) < 30)) = true := by rfl)
    (hline : (apos.endLine == cpos.line) = true := by rfl) (hs : starEach (e :: es) X.env = (false, eval e X.env) :: starEach es X.env := by rfl) (hplain : (backTo cpos (starEach es X.env)).any (·.1) = false := by rfl) :
    PE X (.Call (.Attribute o "append" apos) (e :: es) [] cpos) (dE G W (eBM isCel appO mo mr)) :=
  de_bm hK PySem.F.plainAttrs_list PySem.F.slot_list_append PySem.F.type_list_append mt_append tys_cel mets_app calm_app ho ha hbase hfew hline hs hplain
def popO (x : D) (ds : List D) (st : Sto) : Out D := match ds with
  | [.int i] => (match celAt x st with
    | some (n, xs) => if -(2 ^ 63) ≤ i ∧ i < 2 ^ 63 then (match seqIndex? i xs.length with
      | some k => (match xs[k]? with
        | some y => .ok y (st.set n (.lst (xs.eraseIdx k)))
        | none => .bad)
      | none => .bad) else .bad
    | none => .bad)
  | _ => .bad
theorem calm_pop (x : D) (ds : List D) (st : Sto) : Calm (popO x ds st) := by
  unfold popO
  split
  · split
    · split
      · split
        · split <;> trivial
        · trivial
      · trivial
    · trivial
  · trivial
theorem mets_pop : MetS G "list" rPopAt popO := by
  intro w st H x dx xs ds Q rs rx r h
  unfold popO at h
  split at h
  · rename_i i
    obtain ⟨v, rfl, rv⟩ := r.one
    cases rv
    split at h
    · rename_i n zs hc
      split at h
      · rename_i hb
        split at h
        · rename_i k hk
          split at h
          · rename_i y hy
            obtain ⟨q, ys, rfl, f, hst, hq, rr⟩ := rx.cell rs hc
            obtain ⟨u, hu, ru⟩ := rr.get hy
            obtain ⟨k1, k2⟩ := rs.put f hst (rr.eraseIdx k)
            exact ⟨q, ys, i, k, u, rfl, rfl, hq, hb.1, hb.2, by rw [rr.length]; exact hk, hu, h _ _ _ k1 k2 (ru.ext k2)⟩
          · exact h.elim
        · exact h.elim
      · exact h.elim
    · exact h.elim
  · exact h.elim
theorem de_pop {apos cpos : Pos} (hK : G.K = X.K) (ho : PE X o (dE G W mo)) (ha : PA X (e :: es) (dA G W mr)) (hbase : attributeBase o "pop" X.env (eval o X.env) = eval o X.env := by rfl)
    (hfew : ((backTo cpos (starEach (e :: es) X.env)).all (fun x => !x.1) && (backToKw cpos (keywordEach [] X.env)).all (fun x => x.1.isSome) && decide ((e :: es).length + ([] : List Keyword).length + (if ([] : List Keyword).isEmpty then 0 else 1) < 30)) = true := by rfl)
    (hline : (apos.endLine == cpos.line) = true := by rfl) (hs : starEach (e :: es) X.env = (false, eval e X.env) :: starEach es X.env := by rfl) (hplain : (backTo cpos (starEach es X.env)).any (·.1) = false := by rfl) :
    PE X (.Call (.Attribute o "pop" apos) (e :: es) [] cpos) (dE G W (eBM isCel popO mo mr)) :=
  de_bm hK PySem.F.plainAttrs_list PySem.F.slot_list_pop PySem.F.type_list_pop mt_popAt tys_cel mets_pop calm_pop ho ha hbase hfew hline hs hplain
end
end DL

set_option Elab.async false
set_option linter.all false
set_option maxRecDepth 100000
set_option maxHeartbeats 2000000
namespace DL
open PySem PySem.Spec PyProof.Rows L2
/-! ### comprehensions -/
def wipeE (env : Env') : List Nat → Env'
  | [] => env
  | v :: vs => (wipeE env vs).set v none
theorem REnv.setNone {K : PySem.W.Frag} {w : Wo} {H : Hp} {env : Env'} {σ : L2.St} (i : Nat) (r : REnv K w H env σ) : REnv K w H (env.set i none) (σ.set i none) := by
  refine ⟨by simpa using r.1, fun j d h => ?_⟩
  by_cases e : i = j
  · subst e
    by_cases hi : i < env.length
    · rw [List.getElem?_set_self hi] at h
      cases h
    · rw [List.getElem?_eq_none (by simpa using Nat.le_of_not_lt hi)] at h
      cases h
  · rw [List.getElem?_set_ne e] at h
    obtain ⟨v', h1, h2⟩ := r.2 j d h
    exact ⟨v', by rw [List.getElem?_set_ne e]; exact h1, h2⟩
theorem REnv.wipe {K : PySem.W.Frag} {w : Wo} {H : Hp} {env : Env'} {σ : L2.St} (r : REnv K w H env σ) : ∀ vs : List Nat, REnv K w H (wipeE env vs) (L2.wipe σ vs)
  | [] => r
  | v :: vs => (REnv.wipe r vs).setNone v
theorem wipe_get (σ : L2.St) : ∀ (vs : List Nat) (i : Nat), (L2.wipe σ vs)[i]? = if i ∈ vs then (if i < σ.length then some none else none) else σ[i]?
  | [], i => by simp [L2.wipe]
  | v :: vs, i => by
    unfold L2.wipe
    by_cases e : v = i
    · subst e
      rw [if_pos (List.mem_cons_self ..)]
      by_cases hl : v < (L2.wipe σ vs).length
      · rw [List.getElem?_set_self hl, if_pos (by rw [← L2.wipe_length σ vs]; exact hl)]
      · rw [List.getElem?_eq_none (by simpa using Nat.le_of_not_lt hl), if_neg (by rw [← L2.wipe_length σ vs]; exact hl)]
    · rw [List.getElem?_set_ne e, wipe_get σ vs i]
      have : (i ∈ v :: vs) ↔ i ∈ vs := by
        rw [List.mem_cons]
        exact ⟨fun h => h.elim (fun z => (e z.symm).elim) id, .inr⟩
      by_cases hm : i ∈ vs
      · rw [if_pos hm, if_pos (this.mpr hm)]
      · rw [if_neg hm, if_neg fun z => hm (this.mp z)]
theorem wipe_fr {vs us : List Nat} {σ σ' : L2.St} (f : Fr us σ σ') (h : ∀ i ∈ us, i ∈ vs) : L2.wipe σ' vs = L2.wipe σ vs := by
  apply List.ext_getElem?
  intro i
  rw [wipe_get, wipe_get, f.1]
  by_cases hm : i ∈ vs
  · rw [if_pos hm, if_pos hm]
  · rw [if_neg hm, if_neg hm]
    exact f.2 i fun z => hm (h i z)
theorem wipe_wipe (vs : List Nat) (σ : L2.St) : L2.wipe (L2.wipe σ vs) vs = L2.wipe σ vs := by
  apply List.ext_getElem?
  intro i
  rw [wipe_get, wipe_get, L2.wipe_length]
  by_cases hm : i ∈ vs
  · rw [if_pos hm, if_pos hm]
  · rw [if_neg hm]
def lcM (g : GM) (mt : EM Bool) (me : EM D) (env0 : Env') : List D → List D → Sto → Out D
  | [], acc, st => .ok (.lst acc) st
  | d :: ds, acc, st => match g d env0 st with
    | none => .bad
    | some (env2, st2) => (match mt env2 st2 with
      | .ok b st3 => if b then (match me env2 st3 with
          | .ok y st4 => if acc.length < 100000 then lcM g mt me env0 ds (acc ++ [y]) st4 else .bad
          | _ => .bad) else lcM g mt me env0 ds acc st3
      | _ => .bad)
def eLc (mi : EM (List D)) (g : GM) (mt : EM Bool) (me : EM D) (vs : List Nat) : EM D := fun env st => bnd (mi env st) fun ds st => lcM g mt me (wipeE env vs) ds [] st
def tT : EM Bool := fun _ st => .ok true st
/-- a list that is being made: it may change, and is no cell -/
def Wo.plus (w : Wo) (p : Addr) : Wo := ⟨w.adr, fun a => w.liv a ∨ a = p⟩
section
variable {G : Gr}
abbrev WF : WX := fun _ _ _ _ => False
theorem dlc {W : WX} {mi : EM (List D)} {g : GM} {mt : EM Bool} {me : EM D} {vs us : List Nat} (hu : ∀ i ∈ us, i ∈ vs) {σ : L2.St} {H : Hp} {Q : VK} (h : dE G W (eLc mi g mt me vs) σ H Q) : tLc (dI G W mi) (dGv G g us) (dT G WF mt) (dE G WF me) vs σ H Q := by
  obtain ⟨w, env, st, rs, re, h⟩ := h
  refine ⟨w, env, st, rs, re, Fit.bind h fun ds st1 w1 H1 J rs1 e1 wk h1 => fun P hP => ?_⟩
  have re1 := re.ext e1
  refine ⟨fun i m H' => m = ds.length - i ∧ i ≤ ds.length ∧ ∃ w' st' xs acc, RSt G.K G.T w' st' H' ∧ Ext w1 H1 w' H' ∧ w'.liv P ∧ (∀ n : Nat, w'.adr[n]? ≠ some P) ∧ H' P = some (.lst xs) ∧ Reps G.K w' H' xs acc ∧
      FitD G w1 H1 Q (fun c d H' => W c d σ H') (lcM g mt me (wipeE env vs) (ds.drop i) acc st'),
    ⟨ds.length, by simp, Nat.zero_le _, w1.plus P, st1, [], [], ?_, ?_, .inr rfl, fun n => rs1.notIn hP, upd_same, .nil, h1⟩, ?_⟩
  · refine ⟨rs1.len, rs1.nd, fun a l => ?_, fun n a zs g1 g2 => .inl (rs1.livL n a zs g1 g2), fun n a zs g1 g2 l => ?_, fun n a c g1 g2 => ?_, rs1.tab.ext fun b u hb => by rw [upd_ne (ne_of_none hb hP)]; exact hb⟩
    · rcases l with l | l
      · obtain ⟨o, ez, m⟩ := rs1.livH a l
        exact ⟨o, by rw [upd_ne (ne_of_none ez hP)]; exact ez, m⟩
      · rw [l]
        exact ⟨_, upd_same, trivial⟩
    · rcases l with l | l
      · exact rs1.livF n a zs g1 g2 l
      · rw [l] at g1
        exact rs1.notIn hP g1
    · obtain ⟨zs, ez, q⟩ := rs1.cell n a c g1 g2
      have e00 : Ext0 w1 H1 (w1.plus P) (upd H1 P (.lst [])) := by
        refine ⟨fun _ _ z => z, fun b u hb nl _ => ⟨by rw [upd_ne (ne_of_none hb hP)]; exact hb, fun z => ?_⟩⟩
        rcases z with z | z
        · exact nl z
        · exact ne_of_none hb hP z
      exact ⟨zs, by rw [upd_ne (ne_of_none ez hP)]; exact ez, q.ext0 e00⟩
  · refine ⟨⟨fun _ _ z => z, fun b u hb nl _ => ⟨by rw [upd_ne (ne_of_none hb hP)]; exact hb, fun z => ?_⟩⟩, fun b u l nn hb => ⟨by rw [upd_ne (ne_of_none hb hP)]; exact hb, .inl l, nn⟩⟩
    rcases z with z | z
    · exact nl z
    · exact ne_of_none hb hP z
  · rintro i m H' ⟨rfl, hle, w', st', xs, acc, rs', e', lP, nP, hxs, racc, h'⟩
    by_cases hlt : i < ds.length
    · have hd : ds[i]? = some ds[i] := List.getElem?_eq_getElem hlt
      obtain ⟨go, yl⟩ := (wk i w' H' e').1 _ hd
      refine .inr ⟨go, fun H2 => ∃ w2 st2 xs2 acc2, RSt G.K G.T w2 st2 H2 ∧ Ext w1 H1 w2 H2 ∧ w2.liv P ∧ (∀ n : Nat, w2.adr[n]? ≠ some P) ∧ H2 P = some (.lst xs2) ∧ Reps G.K w2 H2 xs2 acc2 ∧
        FitD G w1 H1 Q (fun c d H' => W c d σ H') (lcM g mt me (wipeE env vs) (ds.drop (i + 1)) acc2 st2), fun H2 q => ⟨ds.length - (i + 1), by omega, rfl, hlt, q⟩, fun x H2 y => ?_⟩
      obtain ⟨k1, k2, k3⟩ := yl x H2 y st' rs'
      obtain ⟨p1, p2, p3⟩ := k2.frn P _ lP nP hxs
      rw [List.drop_eq_getElem_cons hlt] at h'
      refine ⟨w', wipeE env vs, st', ds[i], k1, ((re1.ext e').ext k2).wipe vs, k3, ?_⟩
      unfold lcM at h'
      cases q : g ds[i] (wipeE env vs) st' with
      | none => rw [q] at h'; exact h'
      | some pr =>
        obtain ⟨env2, st2⟩ := pr
        rw [q] at h'
        dsimp only at h' ⊢
        intro w2 H3 σ2 rs2 e2 re2 f2
        refine ⟨by rw [wipe_fr f2 hu, wipe_wipe], w2, env2, st2, rs2, re2, ?_⟩
        cases q2 : mt env2 st2 with
        | err _ _ _ => rw [q2] at h'; exact h'.elim
        | bad => rw [q2] at h'; exact h'
        | ok b st3 =>
          rw [q2] at h'
          dsimp only at h'
          intro w3 H4 b' rs3 e3 eb
          subst eb
          have ee := ((e'.trans k2).trans e2).trans e3
          obtain ⟨r1, r2, r3⟩ := (e2.trans e3).frn P _ p2 p3 p1
          cases b' with
          | false =>
            exact ⟨w3, st3, xs, acc, rs3, ee, r2, r3, r1, ((racc.ext k2).ext e2).ext e3, h'⟩
          | true =>
            rw [if_pos rfl]
            rw [if_pos rfl] at h'
            refine ⟨w3, env2, st3, rs3, re2.ext e3, ?_⟩
            cases q3 : me env2 st3 with
            | err _ _ _ => rw [q3] at h'; exact h'.elim
            | bad => rw [q3] at h'; exact h'
            | ok yd st4 =>
              rw [q3] at h'
              dsimp only at h'
              intro w4 H5 yv rs4 e4 ry
              obtain ⟨t1, t2, t3⟩ := e4.frn P _ r2 r3 r1
              have racc4 := (((racc.ext k2).ext e2).ext e3).ext e4
              by_cases hl : acc.length < 100000
              · rw [if_pos hl] at h'
                have e0 : Ext0 w4 H5 w4 (upd H5 P (.lst (xs ++ [yv]))) := ⟨fun _ _ z => z, fun b u hb nl _ => ⟨by rw [upd_ne (fun z : b = P => nl (z ▸ t2))]; exact hb, nl⟩⟩
                refine ⟨xs, t1, lt_line (by rw [racc.length]; exact hl), w4, st4, xs ++ [yv], acc ++ [yd], ?_, ?_, t2, t3, upd_same, (racc4.ext0 e0).append (.cons (ry.ext0 e0) .nil), h'⟩
                · refine ⟨rs4.len, rs4.nd, fun a l => ?_, rs4.livL, rs4.livF, fun n a c g1 g2 => ?_, tabs_put rs4.tab t1⟩
                  · by_cases ea : a = P
                    · rw [ea]; exact ⟨_, upd_same, trivial⟩
                    · obtain ⟨o, ez, m⟩ := rs4.livH a l
                      exact ⟨o, by rw [upd_ne ea]; exact ez, m⟩
                  · obtain ⟨zs, ez, qz⟩ := rs4.cell n a c g1 g2
                    exact ⟨zs, by rw [upd_ne (fun z : a = P => t3 n (z ▸ g1))]; exact ez, qz.ext0 e0⟩
                · have e5 := ee.trans e4
                  exact ⟨⟨e5.pre, fun b u hb nl nt => let ⟨z1, z2⟩ := e5.keep b u hb nl nt; ⟨by rw [upd_ne (ne_of_none hb hP)]; exact z1, z2⟩⟩, fun b u l nn hb => let ⟨z1, z2, z3⟩ := e5.frn b u l nn hb; ⟨by rw [upd_ne (ne_of_none hb hP)]; exact z1, z2, z3⟩⟩
              · rw [if_neg hl] at h'
                exact h'.elim
    · have ei : i = ds.length := by omega
      refine .inl ⟨(wk i w' H' e').2 ei, ?_⟩
      rw [ei, List.drop_length] at h'
      have e0 : Ext0 w' H' (w'.drop P) H' := ⟨fun _ _ z => z, fun b u hb nl _ => ⟨hb, fun z => nl z.1⟩⟩
      refine h' (w'.drop P) H' (.ref P) ⟨rs'.len, rs'.nd, fun a l => rs'.livH a l.1, fun n a zs g1 g2 => ⟨rs'.livL n a zs g1 g2, fun z => nP n (z ▸ g1)⟩, fun n a zs g1 g2 l => rs'.livF n a zs g1 g2 l.1, fun n a c g1 g2 => ?_, rs'.tab⟩ ?_ (.lst ⟨hxs, fun z => z.2 rfl⟩ (racc.ext0 e0))
      · obtain ⟨zs, ez, qz⟩ := rs'.cell n a c g1 g2
        exact ⟨zs, ez, qz.ext0 e0⟩
      · exact ⟨⟨e'.pre, fun b u hb nl nt => let ⟨z1, z2⟩ := e'.keep b u hb nl nt; ⟨z1, fun z => z2 z.1⟩⟩, fun b u l nn hb => let ⟨z1, z2, z3⟩ := e'.frn b u l nn hb; ⟨z1, ⟨z2, ne_of_none hb hP⟩, z3⟩⟩
end
section
variable {X : Cx} {G : Gr} {W : WX} {elt tg iter : Expr} {ifs : List Expr} {scope : Scope} {own : List (Str × Nat)} {pos : Pos} {mi : EM (List D)} {g : GM} {mt : EM Bool} {me : EM D} {us : List Nat}
theorem dts_nil : PTs X [] (dT G W tT) := ⟨fun pins s σ H Q I h => (pts_nil (X := X)).run pins s σ H Q I (by
  obtain ⟨w, env, st, rs, re, h⟩ := h
  exact h w H true rs (Ext.refl _ _) rfl)⟩
theorem dts_one {c : Expr} (h : PT X c (dT G W mt)) : PTs X [c] (dT G W mt) := pts_one h
theorem PEx.imp {e : Expr} {t t' : TE} (h : PE X e t) (i : ∀ σ H Q, t' σ H Q → t σ H Q) : PE X e t' := PE.imp h i
theorem de_lc (own : List (Str × Nat)) (hc : X.calm = true) (hN : X.N.Nodup) (hi : PI X tg iter (dI G W mi)) (ok : BlkOk X.N X.env.scope scope own) (hu : ∀ i ∈ us, i ∈ own.map (·.2))
    (hg : ∀ (s : Shared) (H : Hp) (C : Addr) (cl : List (Str × Addr)) (fp : List Addr), PG (X.blk s H scope (compEnvC scope cl C X.env) fp) tg (dGv G g us))
    (ht : ∀ (s : Shared) (H : Hp) (C : Addr) (cl : List (Str × Addr)) (fp : List Addr), PTs (X.blk s H scope (compEnvC scope cl C X.env) fp) ifs (dT G WF mt))
    (he : ∀ (s : Shared) (H : Hp) (C : Addr) (cl : List (Str × Addr)) (fp : List Addr), PE (X.blk s H scope (compEnvC scope cl C X.env) fp) elt (dE G WF me)) (hs : ∀ x, foldedSetIterable iter X.env x = pure x := by intro _; rfl) :
    PE X (.ListComp elt [⟨tg, iter, ifs, 0⟩] scope pos) (dE G W (eLc mi g mt me (own.map (·.2)))) := PE.imp (pe_lc hc hN hi ok hg ht he hs) fun _ _ _ q => dlc hu q
theorem ds_setLc {i : Nat} {y : Str} {py spos : Pos} (own : List (Str × Nat)) (hc : X.calm = true) (hN : X.N.Nodup) (hy : X.N[i]? = some y) (hyl : X.env.scope.names.lookup y = some .local)
    (hsw : swapsWith (.ListComp elt [⟨tg, iter, ifs, 0⟩] scope pos) (some (.Name y py)) spos.line X.env = pure true) (hi : PI X tg iter (dI G W mi)) (ok : BlkOk X.N X.env.scope scope own) (hu : ∀ i ∈ us, i ∈ own.map (·.2))
    (hg : ∀ (s : Shared) (H : Hp) (C : Addr) (cl : List (Str × Addr)) (fp : List Addr), PG (X.blk s H scope (compEnvC scope cl C X.env) fp) tg (dGv G g us))
    (ht : ∀ (s : Shared) (H : Hp) (C : Addr) (cl : List (Str × Addr)) (fp : List Addr), PTs (X.blk s H scope (compEnvC scope cl C X.env) fp) ifs (dT G WF mt))
    (he : ∀ (s : Shared) (H : Hp) (C : Addr) (cl : List (Str × Addr)) (fp : List Addr), PE (X.blk s H scope (compEnvC scope cl C X.env) fp) elt (dE G WF me)) (hs : ∀ x, foldedSetIterable iter X.env x = pure x := by intro _; rfl) :
    PS X (.Assign [.Name y py] (.ListComp elt [⟨tg, iter, ifs, 0⟩] scope pos) spos) (dS G W (sAsg (eLc mi g mt me (own.map (·.2))) (gN i))) := PS.imp (ps_setLc hc hN hy hyl hsw hi ok hg ht he hs) fun Dn σ H ⟨w, env, st, rs, re, h⟩ => by
  refine dlc hu ⟨w, env, st, rs, re, FitS.bind re h fun d st1 w1 H1 v rs1 e1 rv h1 => ?_⟩
  exact h1 w1 H1 _ rs1 (Ext.refl _ _) ((re.ext e1).set i rv)
end

/-! ### isinstance of built-in classes -/
def tyN : D → String
  | .non => "NoneType"
  | .bl _ => "bool"
  | .int _ => "int"
  | .str _ => "str"
  | .lst _ => "list"
  | .cel _ => "list"
  | .scr _ => "list"
  | .tup _ => "tuple"
  | .dic => "dict"
  | .dct _ _ => "dict"
  | _ => ""
def isFn : D → Bool
  | .fn _ _ _ _ _ => true
  | .ins _ _ _ => true
  | .clo _ _ _ => true
  | .adr _ => true
  | .any => true
  | .dcl _ _ => true
  | _ => false
theorem Rep.ty {G : Gr} {w : Wo} {st : Sto} {H : Hp} {v : V} {d : D} (rs : RSt G.K G.T w st H) (r : Rep G.K w H v d) (hf : isFn d = false) : TyX G.K H v (.type (tyN d)) := by
  cases r with
  | fn _ _ _ => cases hf
  | ins _ _ _ _ => cases hf
  | clo _ _ _ _ => cases hf
  | adr _ => cases hf
  | any _ => cases hf
  | dcl _ _ _ _ => cases hf
  | dct f _ _ _ => exact .base (.dK f)
  | dic f _ => exact .base (.dK f)
  | non => exact .base .non
  | bl b => exact .base (.bl b)
  | int i => exact .base (.int i)
  | str x => exact .base (.str x)
  | lst f q => exact .base (.lst f.1)
  | tup f q =>
    rcases f with ⟨f, _⟩ | ⟨o, its, n, h1, h2, _⟩
    · exact .base (.tup f)
    · exact .kTuple h1 h2
  | cel f =>
    obtain ⟨c, hc, xs, ex, q⟩ := rs.at f
    exact .base (.lst ex)
  | scr f =>
    rcases f with ⟨f | ⟨o, f⟩, _⟩ | ⟨o, its, n, h1, h2, _⟩
    · exact .base (.lst f)
    · exact .base (.frz f)
    · exact .kList h1 h2
def isaB (t : String) (T : String) : Bool := decide (t = T) || (decide (t = "bool") && decide (T = "int"))
/-- the classes that are asked for here -/
def tyKnown (T : String) : Bool := ["int", "bool", "str", "list", "tuple", "dict"].contains T
theorem isa_kit {K : PySem.W.Frag} (d : D) {T : String} (h : tyKnown T = true) (hf : isFn d = false) : PySem.W.kitOne K (.type (tyN d)) (.type T) = some (isaB (tyN d) T) := by
  have h' : T = "int" ∨ T = "bool" ∨ T = "str" ∨ T = "list" ∨ T = "tuple" ∨ T = "dict" := by simpa [tyKnown] using h
  have key : ∀ t ∈ ["NoneType", "bool", "int", "str", "list", "tuple", "dict"], ∀ T ∈ ["int", "bool", "str", "list", "tuple", "dict"], kitB t T = some (isaB t T) := by decide +kernel
  refine kit_ty (key _ ?_ _ ?_)
  · cases d <;> first | (cases hf; done) | simp [tyN]
  · rcases h' with h | h | h | h | h | h <;> simp [h]
def isaO (T : String) (d : D) (st : Sto) : Out D := if isFn d then .bad else .ok (.bl (isaB (tyN d) T)) st
def isaT (Ts : List String) (d : D) (st : Sto) : Out D := if isFn d then .bad else .ok (.bl (Ts.any (isaB (tyN d)))) st
section
variable {X : Cx} {G : Gr} {W : WX} {e : Expr} {me : EM D} {pos p q q2 q3 : Pos}
def eIsa (T : String) (me : EM D) : EM D := fun env st => bnd (me env st) (isaO T)
def eIsaT (Ts : List String) (me : EM D) : EM D := fun env st => bnd (me env st) (isaT Ts)
theorem de_isa {x : Str} {T : String} (hK : G.K = X.K) (hT : tyKnown T = true) (hg : Gl X "isinstance") (hm : X.mg "isinstance" = none) (hgT : Gl X x) (hmT : X.mg x = none) (hv : bootBuiltins x = some (.type T)) (ha : PE X e (dE G W me)) (hn : x ≠ "__name__" := by decide) (hdb : (x == ("__debug__" : Str)) = false := by decide)
    (he : starEach [e, .Name x q] X.env = (false, eval e X.env) :: starEach [.Name x q] X.env := by rfl) (hpl : (backTo pos (starEach [.Name x q] X.env)).any (·.1) = false := by rfl) (hs2 : starEach [.Name x q] X.env = (false, eval (.Name x q) X.env) :: starEach [] X.env := by rfl) :
    PE X (.Call (.Name "isinstance" p) [e, .Name x q] [] pos) (dE G W (eIsa T me)) :=
  PE.imp (pe_callB call_isi hg hm (by decide +kernel) (pa_cons ha (pa_cons (pe_bltn (v := .ty T) hgT hmT hv rfl hn hdb) pa_nil hs2) he) (he := he) (hpl := hpl)) fun σ H Q ⟨w, env, st, rs, re, h⟩ => by
    refine ⟨w, env, st, rs, re, Fit.bind h fun d st1 w1 H1 v rs1 e1 rv h1 => ?_⟩
    unfold isaO at h1
    split at h1
    · exact h1.elim
    · rename_i hf
      have hf' : isFn d = false := by simpa using hf
      exact ⟨v, .ty T, .type (tyN d), .type T, isaB (tyN d) T, rfl, .ty T, by rw [← hK]; exact rv.ty rs1 hf', isa_kit d hT hf', h1.now rs1 (.bl _)⟩
theorem de_isa2 {x y : Str} {T U : String} {k : Nat} (hK : G.K = X.K) (hT : tyKnown T = true) (hU : tyKnown U = true) (hg : Gl X "isinstance") (hm : X.mg "isinstance" = none) (hgT : Gl X x) (hmT : X.mg x = none) (hv : bootBuiltins x = some (.type T)) (hgU : Gl X y) (hmU : X.mg y = none) (hvU : bootBuiltins y = some (.type U)) (ha : PE X e (dE G W me))
    (hn : x ≠ "__name__" := by decide) (hdb : (x == ("__debug__" : Str)) = false := by decide) (hn2 : y ≠ "__name__" := by decide) (hdb2 : (y == ("__debug__" : Str)) = false := by decide)
    (he : starEach [e, .Tuple [.Name x q, .Name y q2] k q3] X.env = (false, eval e X.env) :: starEach [.Tuple [.Name x q, .Name y q2] k q3] X.env := by rfl) (hpl : (backTo pos (starEach [.Tuple [.Name x q, .Name y q2] k q3] X.env)).any (·.1) = false := by rfl)
    (hs2 : starEach [.Tuple [.Name x q, .Name y q2] k q3] X.env = (false, eval (.Tuple [.Name x q, .Name y q2] k q3) X.env) :: starEach [] X.env := by rfl) (hs3 : starEach [.Name x q, .Name y q2] X.env = (false, eval (.Name x q) X.env) :: starEach [.Name y q2] X.env := by rfl) (hs4 : starEach [.Name y q2] X.env = (false, eval (.Name y q2) X.env) :: starEach [] X.env := by rfl) :
    PE X (.Call (.Name "isinstance" p) [e, .Tuple [.Name x q, .Name y q2] k q3] [] pos) (dE G W (eIsaT [T, U] me)) :=
  PE.imp (pe_callB call_isiT hg hm (by decide +kernel) (pa_cons ha (pa_cons (pe_tup (pa_cons (pe_bltn (v := .ty T) hgT hmT hv rfl hn hdb) (pa_cons (pe_bltn (v := .ty U) hgU hmU hvU rfl hn2 hdb2) pa_nil hs4) hs3)) pa_nil hs2) he) (he := he) (hpl := hpl)) fun σ H Q ⟨w, env, st, rs, re, h⟩ => by
    refine ⟨w, env, st, rs, re, Fit.bind h fun d st1 w1 H1 v rs1 e1 rv h1 => ?_⟩
    unfold isaT at h1
    split at h1
    · exact h1.elim
    rename_i hf
    have hf' : isFn d = false := by simpa using hf
    refine ⟨by show 2 ≤ sizeLine; rw [sizeLine_eq]; omega, fun P hP => ?_⟩
    have rs2 := rs1.new (o := .tup [.ty T, .ty U]) hP
    have ex : Ext w1 H1 w1 (upd H1 P (.tup [.ty T, .ty U])) := Ext.new hP
    refine ⟨v, P, [.ty T, .ty U], .type (tyN d), [.type T, .type U], [T, U].any (isaB (tyN d)), rfl, upd_same, .cons (.ty T) (.cons (.ty U) .nil), by rw [← hK]; exact (rv.ext ex).ty rs2 hf', ?_, h1 _ _ _ rs2 ex (.bl _)⟩
    refine kitAny_cons (isa_kit d hT hf') (fun hf => kitAny_cons (b := isaB (tyN d) U) (isa_kit d hU hf') (fun hf2 => ?_) fun ht => ?_) fun ht => ?_
    · rw [kitAny_nil]; simp [hf, hf2]
    · simp [ht]
    · simp [ht]
end
end DL

set_option Elab.async false
set_option linter.all false
set_option maxRecDepth 100000
set_option maxHeartbeats 2000000
namespace DL
open PySem PySem.Spec PyProof.Rows L2
/-! ### an error class with one field, kept by its __init__ -/
def spI (C : Addr) (f : Str) : Sp := fun vs H Q _ => ∃ (a : Addr) (v : V), vs = [.ref a, v] ∧ H a = some (exo a C none) ∧ ∀ dx, H dx = none → dx ≠ a → Q .non (upd (upd H dx (exd dx [(f, v)])) a (exo a C (some dx)))
theorem init_ok {P : Program} {w : World} {K : PySem.W.Frag} {mg : Str → Option Value} {base : Heap} {qual f : Str} {s1 : Stmt} {fI C : Addr} {fd : FuncData} {q1 q2 q3 q4 : Pos} (F : Fun K "__init__" qual s1 fI fd) (S : FnScope ["self", f] ["self", f] (defScope s1))
    (hb : defBody s1 = [.Assign [.Attribute (.Name "self" q1) f q2] (.Name f q3) q4]) (T : OexC K C) (hno : PySem.W.findIn K (.ref C) f = some none) (hl : (defScope s1).names.lookup ("self" : Str) = some .local) (hl2 : (defScope s1).names.lookup f = some .local)
    (hd : (f == ("__debug__" : Str)) = false := by decide) (hcd : (f == ("__classdict__" : Str)) = false := by decide) : FnOk P w K mg base CX0 1 fI fd ["self", f] (spI C f) := by
  refine F.ok S (fun vs H Q E h => ?_) fun cdv A outer s H vs Q E hr h => ?_
  · obtain ⟨a, v, rfl, _⟩ := h
    rfl
  · obtain ⟨a, v, rfl, ha, h⟩ := h
    refine ⟨_, by rw [hb]; exact pss_one (ps_ost (pe_var (i := 0) rfl (.inl hl)) (pe_var (i := 1) rfl (.inl hl2) hd hcd)), ?_⟩
    exact ⟨v, rfl, .ref a, rfl, a, C, rfl, T, hno, .inl ⟨ha, fun dx hdx hne => h dx hdx hne⟩⟩
structure ErrC (P : Program) (w : World) (K : PySem.W.Frag) (mg : Str → Option Value) (base : Heap) (c f : Str) (C fI : Addr) (fd : FuncData) : Prop where
  T : OexC K C
  X : XfC K C
  g : mg c = some (.ref C)
  i : PySem.W.findIn K (.ref C) "__init__" = some (some (.ref fI))
  t : PySem.W.typeIn K (.ref fI) = some (.type "function")
  no : PySem.W.findIn K (.ref C) f = some none
  ok : FnOk P w K mg base CX0 1 fI fd ["self", f] (spI C f)
  b : Binds K fd ["self", f] []
section
variable {X : Cx} {G : Gr} {W : WX} {e : Expr} {me : EM D} {pos p pos2 : Pos}
def sRaise (c f : Str) (me : EM D) : SM := fun env st => bndS env (me env st) fun d st => .err c [(f, d)] env st
theorem ds_raise {c f : Str} {C fI : Addr} {fd : FuncData} (E : ErrC X.prog X.w X.K X.mg X.base c f C fI fd) (hM : G.mg = X.mg) (hc : X.calm = true) (tk : Takes X W) (hr : Room 2 X.A) (hg : Gl X c) (he : PE X e (dE G W me)) (hdb : (c == ("__debug__" : Str)) = false := by decide)
    (hs : starEach (e :: []) X.env = (false, eval e X.env) :: starEach [] X.env := by rfl) (hpl : (backTo pos (starEach [] X.env)).any (·.1) = false := by rfl) :
    PS X (.Raise (some (.Call (.Name c p) [e] [] pos)) none pos2) (dS G W (sRaise c f me)) :=
  PS.imp (ps_raise hc tk (pmk_oex E.T E.i E.t E.ok hr E.b .nil pass0 hg E.g (pa_cons he pa_nil hs) hdb hs hpl)) fun Dn σ H ⟨w, env, st, rs, re, h⟩ => by
    refine ⟨w, env, st, rs, re, FitS.bind re h fun d st1 w1 H1 v rs1 e1 rv h1 => ?_⟩
    refine ⟨by show 1 ≤ 1000; omega, fun a ha => ⟨a, v, rfl, upd_same, fun dx hdx hne => ⟨rfl, dx, [(f, v)], upd_same, ?_, ?_, ?_⟩⟩⟩
    · rw [upd_ne hne, upd_same]
    · rw [upd_ne hne] at hdx
      exact hdx
    · have h1dx : H1 dx = none := by
        rw [upd_ne hne] at hdx
        exact hdx
      have eH : upd (del (upd (upd (upd H1 a (exo a C none)) dx (exd dx [(f, v)])) a (exo a C (some dx))) a) dx (.xd [(f, v)]) = upd H1 dx (.xd [(f, v)]) := by
        funext b
        by_cases hb : b = dx
        · rw [hb, upd_same, upd_same]
        · rw [upd_ne hb, upd_ne hb]
          by_cases hba : b = a
          · rw [hba, del_same, ha]
          · rw [del_ne hba, upd_ne hba, upd_ne hb, upd_ne hba]
      rw [eH]
      refine h1 w1 _ σ (.ref C) (some dx) (rs1.new h1dx) (Ext.new h1dx) ((re.ext e1).ext (Ext.new h1dx)) ⟨C, by rw [hM]; exact E.g, rfl, dx, [(f, v)], rfl, upd_same, rs1.notLive h1dx, .cons (rv.ext (Ext.new h1dx)) .nil⟩
end

/-! ### try with several clauses, each with a name -/
abbrev Clause := Value × Nat × (Addr → Value → Option Addr → TS)
/-- the ends of a clause: its name goes -/
def gone (i : Nat) (D : Ends) : Ends := { nx := fun σ' H' => D.nx (σ'.set i none) H', rt := D.rt, bk := fun σ' H' => D.bk (σ'.set i none) H', ct := fun σ' H' => D.ct (σ'.set i none) H' }
def wClauses (K : PySem.W.Frag) (Wout : WX) (D : Ends) : List Clause → WX
  | [] => Wout
  | (c, i, ts) :: r => fun cls d σ H => ∃ b, PySem.W.exmOne K cls c = some b ∧ (b = true → ∀ a, H a = none → ts a cls d (gone i D) (σ.set i (some (.ref a))) H) ∧ (b = false → wClauses K Wout D r cls d σ H)
inductive ClOk (X : Cx) : List ExceptHandler → List Clause → Prop
  | nil : ClOk X [] []
  | cons {x n : Str} {c : Value} {i : Nat} {ts : Addr → Value → Option Addr → TS} {b0 : Stmt} {suite : List Stmt} {np hpos : Pos} {hds : List ExceptHandler} {l : List Clause} (hc : Names X x c) (hi : X.N[i]? = some n) (hln : X.env.kindOf n = some .local)
      (hsu : ∀ (a : Addr) (oe : Obj) (cls : Value) (d : Option Addr) (pn : List (Addr × Obj)), Zc cls d oe → (∃ vs, oe.data = .fields vs) → PSs (X.suite a ((a, oe) :: pn)) (b0 :: suite) (ts a cls d)) (r : ClOk X hds l) :
      ClOk X (.ExceptHandler (some (.Name x np)) (some n) (b0 :: suite) hpos :: hds) ((c, i, ts) :: l)
theorem SP.ofTry {X : Cx} {pins pn : List (Addr × Obj)} {xe : Value → Shared → Prop} {D : Ends} {f : Flow} {s : Shared} (ok : X.Ok) (h : SP (X.tr (X.pn ++ pins) xe) [] D f s) : SP X pins D f s := by
  cases f with
  | next => obtain ⟨σ', H', J', q⟩ := h; exact ⟨σ', H', J'.ofTry ok, q⟩
  | brk => obtain ⟨σ', H', J', q⟩ := h; exact ⟨σ', H', J'.ofTry ok, q⟩
  | cont => obtain ⟨σ', H', J', q⟩ := h; exact ⟨σ', H', J'.ofTry ok, q⟩
  | ret u => obtain ⟨v, σ', H', J', r, q⟩ := h; exact ⟨v, σ', H', J'.ofTry ok, r, q⟩
theorem ps_tryC {X : Cx} {body : List Stmt} {h0 : ExceptHandler} {hds : List ExceptHandler} {l : List Clause} {pos : Pos} {tb : WX → TS} {Wout : WX} (hs : X.stack = X.env :: X.outer) (hf : X.env.frame = some X.env.locals) (hN : X.N.Nodup) (tk : Takes X Wout)
    (hb : ∀ (W : WX) (pn : List (Addr × Obj)) (xe : Value → Shared → Prop), Takes (X.tr pn xe) W → PassesOwn (model X.prog X.w) X.A X.env xe → PSs (X.tr pn xe) body (tb W)) (hh : ClOk X (h0 :: hds) l) :
    PS X (.Try body (h0 :: hds) [] [] pos) (fun D σ H => tb (wClauses X.K Wout D l) D σ H) := by
  refine ⟨fun pins s σ H D I h => ?_⟩
  have ok := I.ok
  have hfr : X.A.frames = some (X.env :: X.outer) := by rw [ok.frames, hs]
  refine wpAny_Try_except (wpAny_mono ((hb (wClauses X.K Wout D l) (X.pn ++ pins) _ (fun u s1 xx => ?_) PassesOwn.looking).run [] s σ H D (I.toTry _) h) (fun fl s1 hsp => ?_) (fun er s1 her => her))
  · obtain ⟨a, B, sI, pins1, σ1, H1, cls, d, rfl, J1, nb, up, sky, na, os, ag, wsh⟩ := xx
    have J : Inv X pins σ1 H1 sI := J1.ofTry ok
    have skyX : Sky B (X.env :: X.outer) a (Zc cls d) X.env.locals s1.heap := by rw [← hs]; exact sky
    show wpAny (model X.prog X.w) X.A (noteFrame (.ref a) X.env) _ _ _
    refine Sky.land Zc.steady hfr hf skyX fun h3 fl3 up3 => ?_
    have J3 : Inv X pins σ1 H1 { s1 with heap := h3 } := J.landed nb fl3.1 (up.trans up3) os ag
    obtain ⟨oe3, vs3, he3, hz3, hd3⟩ := fl3.there
    have nfr : a ∉ frs (X.env :: X.outer) := fun hm => by
      obtain ⟨_, o1, ho1, hnf⟩ := fl3.2.2.1.mem hm
      rw [he3] at ho1
      cases ho1
      exact hnf _ hd3
    have nL : a ≠ X.env.locals := fun z => nfr (List.mem_filterMap.mpr ⟨X.env, List.mem_cons_self, by rw [hf, z]⟩)
    have nF : a ∉ X.fs := fun hm => by
      obtain ⟨ev, hev, q⟩ := List.mem_filterMap.mp hm
      exact nfr (List.mem_filterMap.mpr ⟨ev, List.mem_cons_of_mem _ hev, q⟩)
    have S3 := J3.suite he3 hd3 na nL nF
    suffices go : ∀ {hs2 : List ExceptHandler} {l2 : List Clause}, ClOk X hs2 l2 → wClauses X.K Wout D l2 cls d σ1 H1 → wpAny (model X.prog X.w) X.A (handleBy (.ref a) X.env hs2) (SP X pins D) X.xe { s1 with heap := h3 } from go hh wsh
    intro hs2 l2 hk
    induction hk with
    | nil =>
      intro wv
      refine wpAny_handleBy_nil ?_
      obtain ⟨k1, k2, k3, oe, vs, T, oT, ts1, heo, hzo, hdo, hv1, hrest⟩ := id fl3
      unfold PySem.passOn
      refine wpAny_bind (wpAny_field heo hdo hv1 ?_)
      rw [if_neg (by simp)]
      have out : wpAny (model X.prog X.w) X.A (setFlight (.ref a) X.env.frame) (fun _ s4 => wpAny (model X.prog X.w) X.A (throw (.ref a) : Sem Flow) (SP X pins D) X.xe s4) X.xe { s1 with heap := h3 } := by
        rw [hf]
        refine HandSPX.setFlight_upZ fl3 fun h4 hh4 up4 => wpAny_throw (tk _ _ ⟨a, B, sI, pins, σ1, H1, cls, d, rfl, J, nb, (up.trans up3).trans up4, .inr (.inr ?_), na, os, ag, wv⟩)
        rw [hs]
        exact hh4
      first
        | exact wpAny_bind (wpAny_pure (wpAny_bind out))
        | exact wpAny_bind out
    | @cons x n c i ts b0 suite np hpos hd2 l3 hc hi hln hsu r ih =>
      intro wv
      obtain ⟨b, hb1, hyes, hno⟩ := wv
      refine wpAny_handleBy_cons (codeAny_handlers_test ?_) (by intro q; cases q)
      have LT : PySem.W.Looks (model X.prog X.w) h3 (typeOf (.ref a)) cls := fun A1 Q1 E1 s5 k q => wpAny_typeOf_ref (k _ _ he3) (by rw [hz3.1]; exact q)
      have LM := PySem.W.exm_one (M := model X.prog X.w) (J3.kIn) LT hb1
      have named : ∀ {Q1 : Value → Shared → Prop} {E1 : Value → Shared → Prop}, Q1 c { s1 with heap := h3 } → wpAny (model X.prog X.w) (X.A.mark (some (.ref a))) (eval (.Name x np) X.env) Q1 E1 { s1 with heap := h3 } := fun {Q1 E1} q => by
        obtain ⟨hg1, hdb1, hm1⟩ := hc
        rcases hm1 with hm1 | ⟨hm1, hv1, hn1⟩
        · exact ld_glob (X := X.suite a ((a, oe3) :: (X.pn ++ pins))) S3 hg1 hm1 q hdb1
        · exact ld_blt (X := X.suite a ((a, oe3) :: (X.pn ++ pins))) S3 hg1 hm1 hv1 q hn1 hdb1
      refine named (LM.here ?_)
      cases b with
      | false =>
        show wpAny _ X.A (handleBy (.ref a) X.env hd2) _ _ _
        exact ih (hno rfl)
      | true =>
        refine codeAny_handlers_suite_as (HandSPX.lands_againZ fl3 fun h4 fl4 up4 => ?_)
        have J4 : Inv X pins σ1 H1 { s1 with heap := h4 } := J.landed nb fl4.1 ((up.trans up3).trans up4) os ag
        obtain ⟨oe4, vs4, he4, hz4, hd4⟩ := fl4.there
        have S4 := J4.suite he4 hd4 na nL nF
        refine store_ok (X := X.suite a ((a, oe4) :: (X.pn ++ pins))) (v := .ref a) S4 hN hi (.inl hln) rfl (fun s5 S5 => ?_) (.inr hln)
        refine wpAny_mono ((hsu a oe4 cls d (X.pn ++ pins) hz4 ⟨_, hd4⟩).run [] s5 _ H1 _ S5 (hyes rfl a na)) (fun fl s6 hsp => ?_) (fun _ _ z => False.elim z)
        have fin : ∀ {σ6 : L2.St} {H6 : Hp} {Q6 : Shared → Prop}, Inv (X.suite a ((a, oe4) :: (X.pn ++ pins))) [] σ6 H6 s6 → (∀ s7, Inv X pins (σ6.set i none) H6 s7 → Q6 s7) →
            wpAny (model X.prog X.w) X.A (do bindName X.env n .none; unbindBehindTheSuite X.env n hpos) (fun _ s7 => Q6 s7) X.xe s6 := fun {σ6 H6 Q6} S6 hq => gone_ok (S6.unsuite ok) hN hi hln hq
        cases fl with
        | next => obtain ⟨σ6, H6, S6, q6⟩ := hsp; exact fin S6 fun s7 J7 => ⟨_, _, J7, q6⟩
        | brk => obtain ⟨σ6, H6, S6, q6⟩ := hsp; exact fin S6 fun s7 J7 => ⟨_, _, J7, q6⟩
        | cont => obtain ⟨σ6, H6, S6, q6⟩ := hsp; exact fin S6 fun s7 J7 => ⟨_, _, J7, q6⟩
        | ret u => obtain ⟨v6, σ6, H6, S6, r6, q6⟩ := hsp; exact fin S6 fun s7 J7 => ⟨_, _, _, J7, r6, q6⟩
  · have hsp2 := SP.ofTry (pn := []) ok hsp
    cases fl with
    | next => obtain ⟨σ', H', J', q⟩ := hsp2; exact wpAny_execs_nil ⟨σ', H', J', q⟩
    | brk => exact hsp2
    | cont => exact hsp2
    | ret u => exact hsp2
end DL

set_option Elab.async false
set_option linter.all false
set_option maxRecDepth 100000
set_option maxHeartbeats 2000000
namespace DL
open PySem PySem.Spec PyProof.Rows L2
/-! ### try: body / except C as e: return (k, e.f), or y = (k, e.f) -/
inductive Hk where
  | ret (k f : Str) | asg (y : Nat) (k f : Str) | val (f : Str)
abbrev Hd := Str × Nat × Hk
def runH : List Hd → Str → List (Str × D) → Env' → Sto → OutS
  | [], c, fs, env, st => .err c fs env st
  | (c', i, .ret k f) :: r, c, fs, env, st => if c = c' then (match fs.lookup f with
    | some d => .rt (.tup [.str k, d]) st
    | none => .bad) else runH r c fs env st
  | (c', i, .val f) :: r, c, fs, env, st => if c = c' then (match fs.lookup f with
    | some d => .rt d st
    | none => .bad) else runH r c fs env st
  | (c', i, .asg y k f) :: r, c, fs, env, st => if c = c' then (match fs.lookup f with
    | some d => .nx (((env.set i none).set y (some (.tup [.str k, d]))).set i none) st
    | none => .bad) else runH r c fs env st
def sTry (known : List Str) (hs : List Hd) (mb : SM) : SM := fun env st => match mb env st with
  | .err c fs env' st' => if known.contains c then runH hs c fs env' st' else .bad
  | o => o
/-- which class is which -/
def ExmK (K : PySem.W.Frag) (mg : Str → Option Value) (known : List Str) : Prop := ∀ c ∈ known, ∀ c' ∈ known, ∀ C C' : Addr, mg c = some (.ref C) → mg c' = some (.ref C') → PySem.W.exmOne K (.ref C) (.ref C') = some (decide (c = c'))
theorem REnv.setX {K : PySem.W.Frag} {w : Wo} {H : Hp} {env : Env'} {σ : L2.St} (i : Nat) (x : Option V) (r : REnv K w H env σ) : REnv K w H (env.set i none) (σ.set i x) := by
  refine ⟨by simpa using r.1, fun j d h => ?_⟩
  by_cases e : i = j
  · subst e
    by_cases hi : i < env.length
    · rw [List.getElem?_set_self hi] at h
      cases h
    · rw [List.getElem?_eq_none (by simpa using Nat.le_of_not_lt hi)] at h
      cases h
  · rw [List.getElem?_set_ne e] at h
    obtain ⟨v', h1, h2⟩ := r.2 j d h
    exact ⟨v', by rw [List.getElem?_set_ne e]; exact h1, h2⟩
theorem RepF.get {K : PySem.W.Frag} {w : Wo} {H : Hp} {f : Str} {d : D} : ∀ {vs : List (Str × V)} {fs : List (Str × D)}, RepF K w H vs fs → fs.lookup f = some d → ∃ v, vs.lookup f = some v ∧ Rep K w H v d
  | _, _, .nil, h => by cases h
  | _, _, .cons (f := g) (v := v) (d := d') r t, h => by
    rw [List.lookup_cons] at h ⊢
    cases q : (f == g) with
    | true =>
      rw [q] at h
      dsimp only at h ⊢
      cases h
      exact ⟨v, rfl, r⟩
    | false =>
      rw [q] at h
      dsimp only at h ⊢
      exact RepF.get t h
section
variable {X : Cx} {G : Gr} {W : WX}
/-- a clause's reading -/
def tClause (K : PySem.W.Frag) (C : Addr) (i : Nat) : Hk → Addr → Value → Option Addr → TS
  | .ret k f => fun a cls d => tRet (tTup (tCons (tC (.str k)) (tCons (tXf a cls d C f (tVar i)) tNil)))
  | .val f => fun a cls d => tRet (tXf a cls d C f (tVar i))
  | .asg y k f => fun a cls d => tAsg (tTup (tCons (tC (.str k)) (tCons (tXf a cls d C f (tVar i)) tNil))) (gName y)
inductive HdOk (X : Cx) (known : List Str) : List ExceptHandler → List Hd → List Clause → Prop
  | nil : HdOk X known [] [] []
  | cons {c n : Str} {C : Addr} {i : Nat} {h : Hk} {b0 : Stmt} {np hpos : Pos} {hds : List ExceptHandler} {hs : List Hd} {l : List Clause} (hk : c ∈ known) (hg : X.mg c = some (.ref C))
      (cl : ClOk X (.ExceptHandler (some (.Name c np)) (some n) [b0] hpos :: hds) ((.ref C, i, tClause X.K C i h) :: l)) (hi : i < X.N.length) (hy : ∀ y k f, h = .asg y k f → y ≠ i) (r : HdOk X known hds hs l) :
      HdOk X known (.ExceptHandler (some (.Name c np)) (some n) [b0] hpos :: hds) ((c, i, h) :: hs) ((.ref C, i, tClause X.K C i h) :: l)
theorem HdOk.cl {known : List Str} {hds : List ExceptHandler} {hs : List Hd} {l : List Clause} (h : HdOk X known hds hs l) : ClOk X hds l := by
  cases h with
  | nil => exact .nil
  | cons _ _ cl _ _ _ => exact cl
theorem fit_clauses {known : List Str} (hK : G.K = X.K) (hM : G.mg = X.mg) (ex : ExmK X.K X.mg known) {Dn : Ends} {w : Wo} {H : Hp} {σ : L2.St} {env : Env'} {st : Sto} {c : Str} {fs : List (Str × D)} {cls : Value} {d : Option Addr} (hc : c ∈ known) (rs : RSt G.K G.T w st H) (re : REnv G.K w H env σ) (xk : ExcOk G.K G.mg w H c fs cls d)
    (hlen : σ.length = X.N.length) : ∀ {hds : List ExceptHandler} {hs : List Hd} {l : List Clause}, HdOk X known hds hs l → FitS G w H Dn W (runH hs c fs env st) → wClauses X.K W Dn l cls d σ H
  | _, _, _, .nil, h => h w H σ cls d rs (Ext.refl _ _) re xk
  | _, _, _, .cons (c := c') (C := C') (i := i) (h := hk) hkn hg cl hi hy r, h => by
    obtain ⟨C, gC, ecls, hf⟩ := id xk
    rw [hM] at gC
    refine ⟨decide (c = c'), by rw [ecls]; exact ex c hc c' hkn C C' gC hg, fun hb a ha => ?_, fun hb => ?_⟩
    · have ec := of_decide_eq_true hb
      subst ec
      rw [gC] at hg
      have eC : C = C' := by injection (Option.some.inj hg)
      subst eC
      have ilt : i < σ.length := by rw [hlen]; exact hi
      have hσ : (σ.set i (some (.ref a)))[i]? = some (some (.ref a)) := List.getElem?_set_self ilt
      cases hk with
      | ret k f =>
        unfold runH at h
        rw [if_pos rfl] at h
        cases q : fs.lookup f with
        | none => rw [q] at h; exact h.elim
        | some dv =>
          rw [q] at h
          cases fs with
          | nil => cases q
          | cons p0 fs0 =>
            obtain ⟨dx, vs, ed, hdx, ndx, rf⟩ := hf
            obtain ⟨v, hv, rv⟩ := rf.get q
            refine ⟨.ref a, hσ, rfl, ecls, dx, vs, v, ed, hdx, hv, by show 2 ≤ sizeLine; rw [sizeLine_eq]; omega, fun P hP => ?_⟩
            obtain ⟨k1, k2, k3⟩ := rs.newT hP (.cons (.str k) (.cons rv .nil))
            exact h _ _ _ k1 k2 k3
      | val f =>
        unfold runH at h
        rw [if_pos rfl] at h
        cases q : fs.lookup f with
        | none => rw [q] at h; exact h.elim
        | some dv =>
          rw [q] at h
          cases fs with
          | nil => cases q
          | cons p0 fs0 =>
            obtain ⟨dx, vs, ed, hdx, ndx, rf⟩ := hf
            obtain ⟨v, hv, rv⟩ := rf.get q
            exact ⟨.ref a, hσ, rfl, ecls, dx, vs, v, ed, hdx, hv, h _ _ _ rs (Ext.refl _ _) rv⟩
      | asg y k f =>
        unfold runH at h
        rw [if_pos rfl] at h
        cases q : fs.lookup f with
        | none => rw [q] at h; exact h.elim
        | some dv =>
          rw [q] at h
          cases fs with
          | nil => cases q
          | cons p0 fs0 =>
            obtain ⟨dx, vs, ed, hdx, ndx, rf⟩ := hf
            obtain ⟨v, hv, rv⟩ := rf.get q
            refine ⟨.ref a, hσ, rfl, ecls, dx, vs, v, ed, hdx, hv, by show 2 ≤ sizeLine; rw [sizeLine_eq]; omega, fun P hP => ?_⟩
            obtain ⟨k1, k2, k3⟩ := rs.newT hP (.cons (.str k) (.cons rv .nil))
            exact h _ _ _ k1 k2 ((((re.ext k2).setX i _).set y k3).setX i none)
    · have nc := of_decide_eq_false hb
      refine fit_clauses hK hM ex hc rs re xk hlen r ?_
      cases hk with
      | ret k f =>
        unfold runH at h
        rw [if_neg nc] at h
        exact h
      | val f =>
        unfold runH at h
        rw [if_neg nc] at h
        exact h
      | asg y k f =>
        unfold runH at h
        rw [if_neg nc] at h
        exact h
/-- the slots are as many as the names -/
theorem ds_try {known : List Str} {body : List Stmt} {h0 : ExceptHandler} {hds : List ExceptHandler} {hs : List Hd} {l : List Clause} {pos : Pos} {mb : SM} (hK : G.K = X.K) (hM : G.mg = X.mg) (ex : ExmK X.K X.mg known) (hst : X.stack = X.env :: X.outer) (hf : X.env.frame = some X.env.locals) (hN : X.N.Nodup) (tk : Takes X W)
    (hb : ∀ (W' : WX) (pn : List (Addr × Obj)) (xe : Value → Shared → Prop), Takes (X.tr pn xe) W' → PassesOwn (model X.prog X.w) X.A X.env xe → PSs (X.tr pn xe) body (dS G W' mb)) (hh : HdOk X known (h0 :: hds) hs l)
    (hlen : ∀ env st c fs env' st', mb env st = .err c fs env' st' → env.length = X.N.length → env'.length = X.N.length) : PS X (.Try body (h0 :: hds) [] [] pos) (dS G W (sTry known hs mb)) := by
  refine ⟨fun pins s σ H D I h => ?_⟩
  refine (ps_tryC hst hf hN tk hb hh.cl).run pins s σ H D I ?_
  obtain ⟨w, env, st, rs, re, h⟩ := h
  refine ⟨w, env, st, rs, re, ?_⟩
  unfold sTry at h
  cases q : mb env st with
  | nx env' st' => rw [q] at h; exact h
  | bk env' st' => rw [q] at h; exact h
  | ct env' st' => rw [q] at h; exact h
  | rt d st' => rw [q] at h; exact h
  | bad => rw [q] at h; exact h
  | err c fs env' st' =>
    rw [q] at h
    dsimp only at h
    split at h
    · rename_i hc
      intro w' H' σ' cls dx rs' e' re' xk
      have hl : σ'.length = X.N.length := by
        rw [← re'.1]
        exact hlen env st c fs env' st' q (by rw [re.1]; exact I.len)
      exact fit_clauses hK hM ex (by simpa using hc) rs' re' xk hl hh (h.ext e')
    · exact h.elim
/-- the two forms of a clause -/
theorem cl_ret {c n k f : Str} {C : Addr} {i j : Nat} {np hpos p1 p2 p3 p4 p5 : Pos} {kk : Nat} {hds : List ExceptHandler} {l : List Clause} (hg : Gl X c) (hm : X.mg c = some (.ref C)) (xf : XfC X.K C) (no : PySem.W.findIn X.K (.ref C) f = some none) (hi : X.N[i]? = some n) (hln : X.env.kindOf n = some .local) (r : ClOk X hds l)
    (hd : (c == ("__debug__" : Str)) = false := by decide) (hd2 : (n == ("__debug__" : Str)) = false := by decide) (hcd : (n == ("__classdict__" : Str)) = false := by decide)
    (hs : starEach [.Constant (.str k) j p1, .Attribute (.Name n p2) f p3] X.env = (false, eval (.Constant (.str k) j p1) X.env) :: starEach [.Attribute (.Name n p2) f p3] X.env := by rfl) (hs2 : starEach [.Attribute (.Name n p2) f p3] X.env = (false, eval (.Attribute (.Name n p2) f p3) X.env) :: starEach [] X.env := by rfl) (hb : attributeBase (.Name n p2) f X.env (eval (.Name n p2) X.env) = eval (.Name n p2) X.env := by rfl) :
    ClOk X (.ExceptHandler (some (.Name c np)) (some n) [.Return (some (.Tuple [.Constant (.str k) j p1, .Attribute (.Name n p2) f p3] kk p4)) p5] hpos :: hds) ((.ref C, i, tClause X.K C i (.ret k f)) :: l) :=
  .cons ⟨hg, hd, .inl hm⟩ hi hln (fun a oe cls d pn hz hfl => pss_one (ps_ret (pe_tup (pa_cons pe_str (pa_cons (pe_xf xf no hz hfl (pe_var hi (.inl hln) hd2 hcd) hb) pa_nil hs2) hs)))) r
theorem cl_val {c n f : Str} {C : Addr} {i : Nat} {np hpos p2 p3 p5 : Pos} {hds : List ExceptHandler} {l : List Clause} (hg : Gl X c) (hm : X.mg c = some (.ref C)) (xf : XfC X.K C) (no : PySem.W.findIn X.K (.ref C) f = some none) (hi : X.N[i]? = some n) (hln : X.env.kindOf n = some .local) (r : ClOk X hds l)
    (hd : (c == ("__debug__" : Str)) = false := by decide) (hd2 : (n == ("__debug__" : Str)) = false := by decide) (hcd : (n == ("__classdict__" : Str)) = false := by decide) (hb : attributeBase (.Name n p2) f X.env (eval (.Name n p2) X.env) = eval (.Name n p2) X.env := by rfl) :
    ClOk X (.ExceptHandler (some (.Name c np)) (some n) [.Return (some (.Attribute (.Name n p2) f p3)) p5] hpos :: hds) ((.ref C, i, tClause X.K C i (.val f)) :: l) :=
  .cons ⟨hg, hd, .inl hm⟩ hi hln (fun a oe cls d pn hz hfl => pss_one (ps_ret (pe_xf xf no hz hfl (pe_var hi (.inl hln) hd2 hcd) hb))) r
theorem cl_asg {c n k f z : Str} {C : Addr} {i j y : Nat} {np hpos p1 p2 p3 p4 p5 p6 : Pos} {kk : Nat} {hds : List ExceptHandler} {l : List Clause} (hN : X.N.Nodup) (hg : Gl X c) (hm : X.mg c = some (.ref C)) (xf : XfC X.K C) (no : PySem.W.findIn X.K (.ref C) f = some none) (hi : X.N[i]? = some n) (hln : X.env.kindOf n = some .local)
    (hy : X.N[y]? = some z) (hlz : X.env.kindOf z = some .local) (r : ClOk X hds l) (hd : (c == ("__debug__" : Str)) = false := by decide) (hd2 : (n == ("__debug__" : Str)) = false := by decide) (hcd : (n == ("__classdict__" : Str)) = false := by decide)
    (hs : starEach [.Constant (.str k) j p1, .Attribute (.Name n p2) f p3] X.env = (false, eval (.Constant (.str k) j p1) X.env) :: starEach [.Attribute (.Name n p2) f p3] X.env := by rfl) (hs2 : starEach [.Attribute (.Name n p2) f p3] X.env = (false, eval (.Attribute (.Name n p2) f p3) X.env) :: starEach [] X.env := by rfl) (hb : attributeBase (.Name n p2) f X.env (eval (.Name n p2) X.env) = eval (.Name n p2) X.env := by rfl)
    (hsw : swapsWith (.Tuple [.Constant (.str k) j p1, .Attribute (.Name n p2) f p3] kk p4) (some (.Name z p6)) p5.line X.env = pure false := by rfl) :
    ClOk X (.ExceptHandler (some (.Name c np)) (some n) [.Assign [.Name z p6] (.Tuple [.Constant (.str k) j p1, .Attribute (.Name n p2) f p3] kk p4) p5] hpos :: hds) ((.ref C, i, tClause X.K C i (.asg y k f)) :: l) :=
  .cons ⟨hg, hd, .inl hm⟩ hi hln (fun a oe cls d pn hz hfl => pss_one (ps_set (i := y) (X := X.suite a ((a, oe) :: pn)) hN hy (.inl hlz) (pe_tup (pa_cons pe_str (pa_cons (pe_xf xf no hz hfl (pe_var hi (.inl hln) hd2 hcd) hb) pa_nil hs2) hs)) hsw (.inr hlz))) r
end
end DL

set_option Elab.async false
set_option linter.all false
set_option maxRecDepth 100000
set_option maxHeartbeats 2000000
namespace DL
open PySem PySem.Spec PyProof.Rows L2
open LamX (LamS lamCx lamEnv CodeO TabB Tabs ExtN lam_make2 lam_start2 run_ofS codeO_ne)
/-! ### a lambda handed to a def that calls it -/
section
variable {X : Cx} {pins : List (Addr × Obj)} {σ : L2.St} {H : Hp} {s : Shared}
theorem pe_actS {CXg : CXT} {Eg : XK} {Ng : List Str} {qg : Str} {sg : Scope} {g f c1 : Addr} {cdg pm ctv : Value} {params : Arguments} {body : Expr} {scope : Scope} {k i : Nat} {a : Str} {pn : List (Addr × Obj)} {xe : Value → Shared → Prop} {W : WX} {tb : XK → TE} {p1 p2 : Pos}
    (I : Inv X pins σ H s) (L : LamS X.env.scope scope) (hf : s.heap.get? f = some (PySem.W.kla_obj "<lambda>" (X.env.qual ++ "<lambda>") params body scope (cloFrom X.env.cells scope.names []) pm c1 ctv)) (hfn : H f = none) (hfr : f ∉ frs X.stack)
    (hbind : bindArgs (PySem.W.kla_fn "<lambda>" (X.env.qual ++ "<lambda>") params body scope (cloFrom X.env.cells scope.names []) pm (.ref c1) ctv) ⟨[], []⟩ = pure [])
    (tk : Takes ((cxOf CXg X.prog X.w X.K X.mg X.base Ng qg sg g cdg X.A X.stack s H Eg).tr pn xe) W) (hr : Room (k + 1) (X.A.deeper (envOfC qg sg s.heap.objs.size g cdg)))
    (hbody : ∀ (A : Around) (outer : List Env) (s : Shared) (H : Hp) (E : XK), Room k (A.deeper (lamEnv X scope s.heap.objs.size f c1)) → PE (lamCx X A outer s H E scope f c1) body (tb E))
    (hN : Ng[i]? = some a) (hv : Vis sg a) (hd : (a == ("__debug__" : Str)) = false := by decide) (hcd : (a == ("__classdict__" : Str)) = false := by decide) :
    PE ((cxOf CXg X.prog X.w X.K X.mg X.base Ng qg sg g cdg X.A X.stack s H Eg).tr pn xe) (.Call (.Name a p1) [] [] p2)
      (fun σZ HZ Q => σZ[i]? = some (some (.ref f)) ∧ HZ c1 = some (CodeO c1 (X.env.qual ++ "<lambda>")) ∧ tb (fun c d H' => W c d σZ H') σ HZ Q) := by
  refine ⟨fun pinsZ sZ σZ HZ Q IZ hh => ?_⟩
  obtain ⟨hsl, hcode, hread⟩ := hh
  have ld := (pe_var (pos := p1) (i := i) hN hv hd hcd).run pinsZ sZ σZ HZ (fun v H1 => v = .ref f ∧ H1 = HZ) IZ ⟨.ref f, hsl, rfl, rfl⟩
  refine wpAny_Call_Name_kw (thn ld fun u s1 hu => ?_)
  obtain ⟨v, H1, I1, r1, ev, eH⟩ := hu
  subst ev
  rw [eH] at I1
  obtain rfl : u = Value.ref f := r1
  have of1 := I1.base.keep f _ hf hfn hfr (fun z => nomatch (show f ∈ ([] : List Addr) from z))
  refine PySem.W.callWith_F0 ⟨_, _, _, _, of1⟩ ?_
  have un : Un (frs X.stack) [] H HZ s.heap s1.heap := I1.base
  obtain ⟨⟨oc, vs, t, hoc, hdc, hvc⟩, _, _⟩ := I1.hok c1 _ hcode
  have ran : codeAny (model X.prog X.w) (X.A.deeper (envOfC qg sg s.heap.objs.size g cdg)) (.call (.ref f) ⟨[], []⟩) (CR (L2.CX X.prog X.w) (envOfC qg sg s.heap.objs.size g cdg :: X.stack) X.prog X.w HZ s1 Q (fun c d H' => W c d σZ H')) s1 := by
    refine PySem.W.kla_callFunE hr.depth of1 rfl L.co L.gen rfl ⟨c1, oc, vs, t, rfl, hoc, hdc, hvc⟩ ?_
    rw [hbind]
    refine wpAny_pure (wpAny_newFunctionEnv (fun y hy => (L.own y hy).2) (fun y hy => absurd hy (by simp)) (fun h1 hns hsb => ⟨I1.nolimit.fresh _ hsb, ?_⟩) L.kind)
    show codeAny _ _ (.expr body (lamEnv X scope s1.heap.objs.size f c1)) _ _
    have kp : ∀ b o, s1.heap.get? b = some o → h1.get? b = some o := fun b o e => hsb.extBut b o (Nat.ne_of_lt (Heap.lt_size e)) (Heap.get?_push_of_some _ e)
    have J := lam_start2 (E := fun c d H' => W c d σZ H') (f := f) (c' := c1) (tk := s1.toks + ([] : List (Str × Value)).length) I L I1.env0 hr.hd un hns kp
    refine PySem.W.kla_codeExpr (wpAny_mono ((hbody _ _ s1 HZ _ (hr.deeper _)).run [] _ _ HZ Q J hread) (fun v s2 hq => ?_) fun e s2 hq => hq)
    obtain ⟨w2, H2, J2, rv, q⟩ := hq
    exact ⟨w2, H2, J2.os, J2.bare, J2.base, J2.hok, rv, q⟩
  refine wpAny_call (codeAny_mono ran fun r s2 hq => ?_)
  cases r with
  | error e => exact passAt tk σZ pinsZ HZ s1 e s2 I1 hq
  | ok fl =>
    cases fl with
    | ret u => exact I1.after hq
    | next => exact False.elim hq
    | brk => exact False.elim hq
    | cont => exact False.elim hq
end
open Classical in
/-- the call of what was handed over: job is what it does -/
noncomputable def eJob (d : D) (job : Sto → Out D) : EM D := fun env st => match env[0]? with
  | some (some d') => if d' = d then job st else .bad
  | _ => .bad
def eLam (mo : (Sto → Out D) → Sto → Out D) (ml : EM D) : EM D := fun env st => mo (ml env) st
section
variable {X : Cx} {G : Gr} {W : WX}
theorem RSt.extN {K : PySem.W.Frag} {T : List (Addr × Str)} {w : Wo} {st : Sto} {H H1 : Hp} (rs : RSt K T w st H) (e : ExtN H H1) (t : Tabs T H1) : RSt K T w st H1 ∧ Ext w H w H1 := by
  have kl : ∀ {b : Addr} {xs : List V}, H b = some (.lst xs) → H1 b = some (.lst xs) := fun {b xs} h => e b _ h fun ps z => by cases z
  have ex : Ext w H w H1 := by
    refine ⟨⟨fun _ _ h => h, fun a o h n nt => ⟨e a o h nt, n⟩⟩, fun a o l nn h => ?_⟩
    obtain ⟨u, hx, m⟩ := rs.livH a l
    rw [h] at hx
    cases hx
    exact ⟨e a o h (fun ps z => by rw [z] at m; exact m), l, nn⟩
  refine ⟨⟨rs.len, rs.nd, fun a l => ?_, rs.livL, rs.livF, fun n a c h1 h2 => ?_, t⟩, ex⟩
  · obtain ⟨u, hx, m⟩ := rs.livH a l
    exact ⟨u, e a u hx (fun ps z => by rw [z] at m; exact m), m⟩
  · obtain ⟨xs, hx, r⟩ := rs.cell n a c h1 h2
    exact ⟨xs, kl hx, r.ext ex⟩
/-- what the def g makes of a job -/
def GivesD (X : Cx) (G : Gr) (k : Nat) (Ng : List Str) (x : Str) (sg : Scope) (g : Addr) (cdg : Value) (bg : List Stmt) (a : Str) (mg : D → (Sto → Out D) → SM) : Prop :=
  ∀ (s : Shared) (H : Hp) (d : D) (job : Sto → Out D), Room (k + 1) (X.A.deeper (envOfC x sg s.heap.objs.size g cdg)) →
    (∀ (W : WX) (pn : List (Addr × Obj)) (xe : Value → Shared → Prop) (p1 p2 : Pos), Takes ((cxOf CX0 X.prog X.w X.K X.mg X.base Ng x sg g cdg X.A X.stack s H E0).tr pn xe) W →
      PE ((cxOf CX0 X.prog X.w X.K X.mg X.base Ng x sg g cdg X.A X.stack s H E0).tr pn xe) (.Call (.Name a p1) [] [] p2) (dE G W (eJob d job))) →
    PSs (cxOf CX0 X.prog X.w X.K X.mg X.base Ng x sg g cdg X.A X.stack s H E0).nox bg (dS G WF (mg d job))
theorem de_lam {x a : Str} {g c P : Addr} {k : Nat} {pg : Arguments} {bg : List Stmt} {sg : Scope} {dV kV doc pm cdv ct oc : Value} {an od : Option Addr} {osl : Array (Option Value)} {Ng : List Str} {params : Arguments} {body : Expr} {scope : Scope} {p lpos pos : Pos} {mg : D → (Sto → Out D) → SM} {mo : (Sto → Out D) → Sto → Out D} {ml : EM D}
    (hg : Gl X x) (hm : X.mg x = some (.ref g)) (hk : PySem.W.keepIn X.K (.ref g) = true) (lk : X.K.lookup g = some ⟨oc, od, .func (PySem.W.fnOf x x pg bg sg dV kV doc pm an cdv ct), osl⟩) (hcg : PySem.W.codeIn X.K cdv x = true)
    (hb : Binds X.K (PySem.W.fnOf x x pg bg sg dV kV doc pm an cdv ct) [a] []) (Sg : FnScope Ng [a] sg) (hNg : Ng[0]? = some a) (hva : Vis sg a) (hG : GivesD X G k Ng x sg g cdv bg a mg) (hsem : ∀ d job st, outOf (mg d job (startE Ng.length [d]) st) = mo job st) (hcalm : ∀ job st, Calm (mo job st))
    (TB : TabB X.base X.mg c P) (hcode : X.env.code = .ref c) (hmT : (P, X.env.qual ++ "<lambda>") ∈ G.T) (hu : ∀ p ∈ G.T, p.1 = P → p.2 = X.env.qual ++ "<lambda>") (hr : Room (k + 2) X.A) (L : LamS X.env.scope scope) (hdef : defaultsOf params X.env = ([], []))
    (hbind : ∀ (q : Str) (cl : List (Str × Addr)) (pm cv ctv : Value), bindArgs (PySem.W.kla_fn "<lambda>" q params body scope cl pm cv ctv) ⟨[], []⟩ = pure [])
    (hbody : ∀ (A : Around) (outer : List Env) (s : Shared) (H : Hp) (E : XK) (f c1 : Addr), Room k (A.deeper (lamEnv X scope s.heap.objs.size f c1)) → PE (lamCx X A outer s H E scope f c1) body (dE G (fun c d _ H' => E c d H') ml))
    (hdb : (x == ("__debug__" : Str)) = false := by decide) (hd : (a == ("__debug__" : Str)) = false := by decide) (hcd : (a == ("__classdict__" : Str)) = false := by decide) :
    PE X (.Call (.Name x p) [.Lambda params body scope lpos] [] pos) (dE G W (eLam mo ml)) := by
  refine ⟨fun pins s σ H Q I h => ?_⟩
  obtain ⟨w, env, st, rs, re, h⟩ := h
  have h0 : FitD G w H Q E0 (mo (ml env) st) := fit_calm h (hcalm _ _)
  refine wpAny_Call_Name_kw (ld_glob I hg hm ?_ hdb)
  refine PySem.W.callWith_K (h₀ := X.base) I.ok.mod.kin hk ?_ (by rfl) (by rfl)
  show wpAny _ _ (spliced ((false, eval (.Lambda params body scope lpos) X.env) :: backTo pos (starEach [] X.env))) _ _ s
  refine Calls.spliced_cons (lam_make2 I TB hcode hmT hu rs.tab hdef (L.has I.ok) fun f c1 pm1 ctv H1 s1 I1 eN T1 hf hfn hfr hco => ?_)
  refine Calls.spliced_nil ⟨I1.kIn, ?_⟩
  obtain ⟨rs1, e1⟩ := rs.extN eN T1
  have ncl : ¬ w.liv c1 := fun z => by
    obtain ⟨u, hx, m⟩ := rs1.livH c1 z
    rw [hco] at hx
    cases hx
    exact m
  have re1 := re.ext e1
  have rd : Rep G.K w H1 (.ref f) (.fn f c1 (X.env.qual ++ "<lambda>") w H1) := .fn hco ncl (Ext.refl w H1).toExt0
  have ran : codeAny (model X.prog X.w) X.A (.call (.ref g) ⟨[.ref f], []⟩) (CR CX0 X.stack X.prog X.w H1 s1 Q E0) s1 := by
    refine run_ofS (N := Ng) (ps := [a]) (us := [.ref f]) (vs := [.ref f]) lk hcg Sg hr I1.env0 (hb s1 [.ref f] I1.kIn rfl) (.cons rfl .nil) rfl fun hr1 => ?_
    refine ⟨_, (hG s1 H1 (.fn f c1 (X.env.qual ++ "<lambda>") w H1) (ml env) hr1 fun W1 pn xe p1 p2 tk => ?_).nox, ?_⟩
    · refine PE.imp (pe_actS (i := 0) I1 L hf hfn hfr (hbind _ _ _ _ _) tk hr1 (fun A outer s H E hr2 => hbody A outer s H E f c1 hr2) hNg hva hd hcd) fun σZ HZ Q1 hz => ?_
      obtain ⟨wZ, envZ, stZ, rsZ, reZ, hZ⟩ := hz
      unfold eJob at hZ
      cases q : envZ[0]? with
      | none => rw [q] at hZ; exact hZ.elim
      | some od =>
        cases od with
        | none => rw [q] at hZ; exact hZ.elim
        | some d1 =>
          rw [q] at hZ
          dsimp only at hZ
          split at hZ
          · rename_i ed
            subst ed
            obtain ⟨v0, hv0, rv0⟩ := reZ.2 0 _ q
            cases rv0 with
            | fn hc2 nl2 ex2 => exact ⟨hv0, hc2, wZ, env, stZ, rsZ, ⟨re1.1, fun i d hi => let ⟨v, h1, h2⟩ := re1.2 i d hi; ⟨v, h1, h2.ext0 ex2⟩⟩, hZ⟩
          · exact hZ.elim
    · exact ⟨w, _, st, rs1, renv_start (.cons rd .nil), fit_run (E := E0) (by rw [hsem]; exact Fit.ext h0 e1)⟩
  refine wpAny_call (codeAny_mono ran fun r s2 hq => ?_)
  cases r with
  | error e => exact (show False from hq).elim
  | ok fl =>
    cases fl with
    | ret u => exact I1.after hq
    | next => exact False.elim hq
    | brk => exact False.elim hq
    | cont => exact False.elim hq
end
end DL

set_option Elab.async false
set_option linter.all false
set_option maxRecDepth 100000
set_option maxHeartbeats 2000000
namespace DL
open PySem PySem.Spec PyProof.Rows L2
/-! ### a dict of the module, its keys texts -/
structure KD (G : Gr) (w : World) (x : Str) (kvs : List (Str × D)) : Prop where
  ex : ∃ (d : Addr) (es : Array DictEntry) (n : Nat), G.mg x = some (.ref d) ∧ KDict G.K w d es n ∧ Paired (fun (p : Str × D) (e : DictEntry) => (∃ t, e.key = .str p.1 t) ∧ KRep G e.val p.2) kvs es.toList
theorem kd_find {G : Gr} {z : Str} : ∀ {kvs : List (Str × D)} {l : List DictEntry}, Paired (fun (p : Str × D) (e : DictEntry) => (∃ t, e.key = .str p.1 t) ∧ KRep G e.val p.2) kvs l →
    (match kvs.lookup z with
      | some d => ∃ e, l.find? (·.key.isStr z) = some e ∧ KRep G e.val d
      | none => l.find? (·.key.isStr z) = none) ∧ l.any (·.refKey) = false
  | _, _, .nil => ⟨rfl, rfl⟩
  | (k, d) :: kvs, e :: l, .cons ⟨⟨t, hk⟩, hr⟩ r => by
    obtain ⟨h1, h2⟩ := kd_find (z := z) r
    have hi : e.key.isStr z = (z == k) := by
      rw [hk]
      show (Value.str k t).isStr z = (z == k)
      rw [PySem.W.isStr_of]
      show (k == z) = (z == k)
      by_cases q : k = z
      · rw [q]
      · have q1 : (k == z) = false := beq_eq_false_iff_ne.mpr q
        have q2 : (z == k) = false := beq_eq_false_iff_ne.mpr fun e => q e.symm
        rw [q1, q2]
    have hrk : e.refKey = false := by
      unfold DictEntry.refKey
      rw [hk]
    refine ⟨?_, by rw [List.any_cons, hrk, h2]; rfl⟩
    rw [List.lookup_cons, List.find?_cons]
    cases q : (z == k) with
    | true =>
      rw [hi, q]
      exact ⟨e, rfl, hr⟩
    | false =>
      rw [hi, q]
      exact h1
theorem kd_ns {G : Gr} {w : World} {d : Addr} {es : Array DictEntry} {n : Nat} {kvs : List (Str × D)} {z : Str} (D1 : KDict G.K w d es n) (hp : Paired (fun (p : Str × D) (e : DictEntry) => (∃ t, e.key = .str p.1 t) ∧ KRep G e.val p.2) kvs es.toList) :
    match kvs.lookup z with
      | some dd => ∃ u, PySem.W.nsIn G.K d z = some (some u) ∧ KRep G u dd
      | none => PySem.W.nsIn G.K d z = some none := by
  obtain ⟨h1, h2⟩ := kd_find (z := z) hp
  cases q : kvs.lookup z with
  | none =>
    rw [q] at h1
    dsimp only at h1 ⊢
    unfold PySem.W.nsIn
    rw [D1.at_]
    dsimp only
    rw [h1]
    dsimp only
    rw [if_neg (by rw [h2]; decide)]
  | some dd =>
    rw [q] at h1
    dsimp only at h1 ⊢
    obtain ⟨e, he, hr⟩ := h1
    refine ⟨e.val, ?_, hr⟩
    unfold PySem.W.nsIn
    rw [D1.at_]
    dsimp only
    rw [he]
def kdIn (neg : Bool) (kvs : List (Str × D)) (x : D) (st : Sto) : Out D := match x with
  | .str z => .ok (.bl (if neg then !(kvs.lookup z).isSome else (kvs.lookup z).isSome)) st
  | _ => .bad
def kdAt (kvs : List (Str × D)) (x : D) (st : Sto) : Out D := match x with
  | .str z => (match kvs.lookup z with
    | some d => .ok d st
    | none => .bad)
  | _ => .bad
def eUn (f : D → Sto → Out D) (m : EM D) : EM D := fun env st => bnd (m env st) f
section
variable {X : Cx} {G : Gr} {W : WX} {a : Expr} {ma : EM D} {pos p : Pos} {x : Str} {kvs : List (Str × D)}
theorem tkd {neg : Bool} (hK : G.K = X.K) (D1 : KD G X.w x kvs) {σ : L2.St} {H : Hp} {Q : VK} {d : Addr} (hd : G.mg x = some (.ref d)) (h : dE G W (eUn (kdIn neg kvs) ma) σ H Q) :
    tOp (fun x y H Q => ∃ (z : Str) (r : Option Value), x = .str z ∧ y = .ref d ∧ PySem.W.nsIn X.K d z = some r ∧ Q (.bl (if neg then !r.isSome else r.isSome)) H) (dE G W ma) (tC (.ref d)) σ H Q := by
  obtain ⟨d1, es, n, hd1, K1, hp⟩ := D1.ex
  rw [hd] at hd1
  have e : d = d1 := by injection (Option.some.inj hd1)
  subst e
  obtain ⟨w, env, st, rs, re, h⟩ := h
  refine ⟨w, env, st, rs, re, Fit.bind h fun dx st1 w1 H1 v rs1 e1 rv h1 => ?_⟩
  cases rv with
  | str z =>
    have q := kd_ns (z := z) K1 hp
    unfold kdIn at h1
    dsimp only at h1
    cases l : kvs.lookup z with
    | none =>
      rw [l] at q h1
      exact ⟨z, none, rfl, rfl, by rw [← hK]; exact q, h1.now rs1 (.bl _)⟩
    | some dd =>
      rw [l] at q h1
      obtain ⟨u, hu, _⟩ := q
      exact ⟨z, some u, rfl, rfl, by rw [← hK]; exact hu, h1.now rs1 (.bl _)⟩
  | _ => exact h1.elim
theorem de_kin (hK : G.K = X.K) (hM : G.mg = X.mg) (D1 : KD G X.w x kvs) (hg : Gl X x) (ha : PE X a (dE G W ma)) (hm : behindInMarks .In (.Name x p) = false := by rfl) (hdb : (x == ("__debug__" : Str)) = false := by decide) : PE X (.Compare a [.In] [.Name x p] pos) (dE G W (eUn (kdIn false kvs) ma)) := by
  obtain ⟨d, es, n, hd, K1, hp⟩ := id D1.ex
  exact PE.imp (pe_cmpR (op_in_kd (by rw [← hK]; exact K1)) ha (pe_glob (v := .ref d) hg (by rw [← hM]; exact hd) rfl hdb) hm) fun _ _ _ h => tkd (neg := false) hK D1 hd h
theorem de_knin (hK : G.K = X.K) (hM : G.mg = X.mg) (D1 : KD G X.w x kvs) (hg : Gl X x) (ha : PE X a (dE G W ma)) (hm : behindInMarks .NotIn (.Name x p) = false := by rfl) (hdb : (x == ("__debug__" : Str)) = false := by decide) : PE X (.Compare a [.NotIn] [.Name x p] pos) (dE G W (eUn (kdIn true kvs) ma)) := by
  obtain ⟨d, es, n, hd, K1, hp⟩ := id D1.ex
  exact PE.imp (pe_cmpR (op_notIn_kd (by rw [← hK]; exact K1)) ha (pe_glob (v := .ref d) hg (by rw [← hM]; exact hd) rfl hdb) hm) fun _ _ _ h => tkd (neg := true) hK D1 hd h
theorem de_kat (hK : G.K = X.K) (hM : G.mg = X.mg) (D1 : KD G X.w x kvs) (hg : Gl X x) (ha : PE X a (dE G W ma)) (hp0 : PlainIx a := by exact fun _ _ => rfl) (hdb : (x == ("__debug__" : Str)) = false := by decide) : PE X (.Subscript (.Name x p) a pos) (dE G W (eUn (kdAt kvs) ma)) := by
  obtain ⟨d, es, n, hd, K1, hp⟩ := id D1.ex
  refine PE.imp (pe_ix ix_kdict (pe_glob (v := .ref d) hg (by rw [← hM]; exact hd) rfl hdb) ha hp0) fun σ H Q h => ?_
  obtain ⟨w, env, st, rs, re, h⟩ := h
  refine ⟨w, env, st, rs, re, Fit.bind h fun dx st1 w1 H1 v rs1 e1 rv h1 => ?_⟩
  cases rv with
  | str z =>
    have q := kd_ns (z := z) K1 hp
    unfold kdAt at h1
    dsimp only at h1
    cases l : kvs.lookup z with
    | none => rw [l] at h1; exact h1.elim
    | some dd =>
      rw [l] at q h1
      obtain ⟨u, hu, v0, rv0, rep⟩ := q
      exact ⟨d, z, v0, rfl, rfl, ⟨es, n, u, by rw [← hK]; exact K1.at_, K1.lit, by rw [← hK]; exact hu, rv0⟩, h1.now rs1 (rep _ _)⟩
  | _ => exact h1.elim
end

/-! ### a def of the program as a fact; the end of a law -/
/-- the def x computes m -/
def Has (P : Program) (w : World) (base : Heap) (G : Gr) (x : Str) (ps : List Str) (k : Nat) (m : List D → Sto → Out D) : Prop :=
  ∃ (f : Addr) (fd : FuncData), G.mg x = some (.ref f) ∧ PySem.W.keepIn G.K (.ref f) = true ∧ Binds G.K fd ps [] ∧ FnOk P w G.K G.mg base (L2.CX P w) k f fd ps (spM G ps.length m)
section
variable {X : Cx} {G : Gr} {W : WX} {e : Expr} {es : List Expr} {mr : EM (List D)} {pos p : Pos}
theorem de_has {x : Str} {ps : List Str} {n k : Nat} {m : List D → Sto → Out D} (F : Has X.prog X.w X.base G x ps k m) (hn : ps.length = n) (hK : G.K = X.K) (hM : G.mg = X.mg) (hr : Room k X.A) (hg : Gl X x) (tk : Takes X W) (ha : PA X (e :: es) (dA G W mr)) (hdb : (x == ("__debug__" : Str)) = false := by decide)
    (he : starEach (e :: es) X.env = (false, eval e X.env) :: starEach es X.env := by rfl) (hpl : (backTo pos (starEach es X.env)).any (·.1) = false := by rfl) : PE X (.Call (.Name x p) (e :: es) [] pos) (dE G W (eCall n m mr)) := by
  obtain ⟨f, fd, h1, h2, h3, h4⟩ := F
  subst hn
  rw [hK, hM] at h4
  rw [hM] at h1
  rw [hK] at h2 h3
  exact de_call h4 hr hg h1 h2 h3 tk ha hdb he hpl
end
theorem law_at {l : PySem.W.OpenLaw} {w : World} {K : PySem.W.Frag} {k : Nat} {x : Str} {mg : Str → Option Value} {fa : Addr} {h : Heap} {cs : List (Addr × Addr)} {T : List (Addr × Str)} {m : List D → Sto → Out D} {fd : FuncData}
    (hT : ∀ p ∈ cs, h.get? p.2 = some { cls := .none, data := .fields #[] }) (nT : ∀ p ∈ cs, K.lookup p.2 = none) (C : ∀ p ∈ cs, PySem.W.CodeHd h p.1 p.2) (hb : ∀ (s : Shared) (u : Value), BindsTo s fd ⟨[u], []⟩ [(x, u)]) (hTc : ∀ p ∈ T, p.1 ∈ cs.map (·.2))
    (hm : ∀ ns : List Int, ns.length ≤ 63 → (∀ z ∈ ns, Builtin.Int.intBits z ≤ 1048576) → ∃ st, m [.scr ns] [] = .ok (.bl true) st)
    (F : ∀ base : Heap, K.In base → base.Ns mainGlobals mg → (∀ p ∈ cs, LamX.TabB base mg p.1 p.2) → FnOk l.prog w K mg base (L2.CX l.prog w) k fa fd [x] (spM ⟨K, mg, T⟩ 1 m)) :
    LamX.LawAtS l w K (L2.CX l.prog w) k 63 x mg fa h := by
  refine ⟨fd, cs, _, hT, nT, C, hb, fun H a ns hl hbits hH hS => ?_, F⟩
  refine ⟨rfl, ⟨[], fun _ => False⟩, [.scr ns], [], ⟨rfl, by simp, fun a z => z.elim, fun n a ds h => by simp at h, fun n a ds h => by simp at h, fun n a c h => by simp at h, fun p hp => ?_⟩, .cons (.scr ?_) .nil, ?_⟩
  · obtain ⟨q, hq, e⟩ := List.mem_map.mp (hTc p hp)
    exact LamX.TabS.nil (by rw [← e]; exact hH q hq)
  · rcases hS with hS | hS
    · exact .inl ⟨hS, fun z => z⟩
    · exact .inr hS
  · obtain ⟨st, e⟩ := hm ns hl hbits
    rw [e]
    intro w' H' v rs ex r
    cases r
    rfl
end DL

set_option Elab.async false
set_option linter.all false
set_option maxRecDepth 100000
set_option maxHeartbeats 2000000
namespace DL
open PySem PySem.Spec PyProof.Rows L2

section
variable {X : Cx} {G : Gr} {W : WX} {a b c : Expr} {ma mb mc : EM D} {pos : Pos}
/-- two lists put together, as a cell -/
def oAddC (x y : D) (st : Sto) : Out D := match lstOf st x, lstOf st y with
  | some ds, some es => if (ds ++ es).length ≤ 100000 then .ok (.cel st.length) (st ++ [.lst (ds ++ es)]) else .bad
  | _, _ => .bad
theorem calm_addC (x y : D) (st : Sto) : Calm (oAddC x y st) := by
  unfold oAddC
  split
  · split <;> trivial
  · trivial
theorem ops_addC : OpS X G rCat oAddC := by
  intro w st H x y dx dy Q rs rx ry h
  unfold oAddC at h
  split at h
  · rename_i ds es h1 h2
    split at h
    · rename_i hl
      obtain ⟨pa, xs, rfl, ea, qa⟩ := rx.lstAt rs h1
      obtain ⟨pb, ys, rfl, eb, qb⟩ := ry.lstAt rs h2
      refine ⟨pa, pb, xs, ys, rfl, rfl, ea, eb, by rw [qa.length, qb.length, ← List.length_append]; exact le_line hl, fun p hp => ?_⟩
      obtain ⟨k1, k2, k3⟩ := rs.newC hp (qa.append qb)
      exact h _ _ _ k1 k2 k3
    · exact h.elim
  · exact h.elim
theorem de_addC (ha : PE X a (dE G W ma)) (hb : PE X b (dE G W mb)) : PE X (.BinOp a .Add b pos) (dE G W (eOp oAddC ma mb)) := de_op op_cat ops_addC calm_addC ha hb
/-- {} -/
theorem de_dic : PE X (.Dict [] [] pos) (dE G W (eC .dic)) := PE.imp pe_dnewK fun σ H Q ⟨w, env, st, rs, re, h⟩ p hp =>
  h _ _ _ (rs.new hp) (Ext.new hp) (.dic upd_same (rs.notLive hp))
/-- - a -/
def negO (x : D) (st : Sto) : Out D := match x with
  | .int i => .ok (.int (-i)) st
  | _ => .bad
theorem de_neg (ha : PE X a (dE G W ma)) : PE X (.UnaryOp .USub a pos) (dE G W (eUn negO ma)) := PE.imp (pe_un un_neg ha) fun σ H Q ⟨w, env, st, rs, re, h⟩ => by
  refine ⟨w, env, st, rs, re, Fit.bind h fun d st1 w1 H1 v rs1 e1 rv h1 => ?_⟩
  unfold negO at h1
  cases rv with
  | int i => exact ⟨i, rfl, h1.now rs1 (.int _)⟩
  | _ => exact h1.elim
/-- a op b op' c -/
def eChain (f f' : D → D → Sto → Out D) (ma mb mc : EM D) : EM D := fun env st => bnd (ma env st) fun x st => bnd (mb env st) fun y st => bnd (f x y st) fun z st => match z with
  | .bl true => bnd (mc env st) fun u st => f' y u st
  | .bl false => .ok (.bl false) st
  | _ => .bad
theorem dchain {r r' : R2} {f f' : D → D → Sto → Out D} (hr : OpS X G r f) (hr' : OpS X G r' f') (hc : ∀ x y st, Calm (f x y st)) (hc' : ∀ x y st, Calm (f' x y st)) {σ : L2.St} {H : Hp} {Q : VK} (h : dE G W (eChain f f' ma mb mc) σ H Q) : tChain r r' (dE G W ma) (dE G W mb) (dE G W mc) σ H Q := by
  obtain ⟨w, env, st, rs, re, h⟩ := h
  refine ⟨w, env, st, rs, re, Fit.bind h fun dx st1 w1 H1 x rs1 e1 rx h1 => ?_⟩
  refine ⟨w1, env, st1, rs1, re.ext e1, Fit.bind h1 fun dy st2 w2 H2 y rs2 e2 ry h2 => ?_⟩
  refine hr w2 st2 H2 x y dx dy _ rs2 (rx.ext e2) ry (fit_calm (E := fun c d H' => W c d σ H') (Fit.bind h2 fun dz st3 w3 H3 z rs3 e3 rz h3 => ?_) (hc _ _ _))
  cases rz with
  | bl k =>
    refine ⟨k, rfl, ?_⟩
    cases k with
    | false => exact ite_ff (h3.now rs3 (.bl false))
    | true =>
      refine ite_tt ⟨w3, env, st3, rs3, (re.ext e1).ext (e2.trans e3), Fit.bind h3 fun du st4 w4 H4 u rs4 e4 ru h4 => ?_⟩
      exact hr' w4 st4 H4 y u dy du Q rs4 (ry.ext (e3.trans e4)) ru (fit_calm h4 (hc' _ _ _))
  | _ => exact h3.elim
theorem de_lele (ha : PE X a (dE G W ma)) (hb : PE X b (dE G W mb)) (hc : PE X c (dE G W mc)) (hm : lastMarks [.LtE, .LtE] [b, c] = false := by with_unfolding_all rfl) : PE X (.Compare a [.LtE, .LtE] [b, c] pos) (dE G W (eChain oLe oLe ma mb mc)) :=
  PE.imp (pe_chain op_le op_le ha hb hc hm) fun _ _ _ h => dchain (X := X) (ops_i0 fun _ _ _ _ => .bl _) (ops_i0 fun _ _ _ _ => .bl _) calm_ii calm_ii h
end
section
variable {X : Cx} {G : Gr} {W : WX} {a : Expr} {ma : EM D} {pos p : Pos} {x : Str} {kvs : List (Str × D)}
theorem dT.test {m : EM D} {σ : L2.St} {H : Hp} {Q : Bool → Hp → Prop} (h : dT G W (tOf m) σ H Q) : dE G W m σ H (fun x H' => ∃ k, x = .bl k ∧ Q k H') := by
  obtain ⟨w, env, st, rs, re, h⟩ := h
  exact ⟨w, env, st, rs, re, Fit.bind h fun d st1 w1 H1 v rs1 e1 rv h1 => fit_tOf rs1 rv h1⟩
theorem dt_kin (hK : G.K = X.K) (hM : G.mg = X.mg) (D1 : KD G X.w x kvs) (hg : Gl X x) (ha : PE X a (dE G W ma)) (hm : behindInMarks .In (.Name x p) = false := by rfl) (hdb : (x == ("__debug__" : Str)) = false := by decide) : PT X (.Compare a [.In] [.Name x p] pos) (dT G W (tOf (eUn (kdIn false kvs) ma))) := by
  obtain ⟨d, es, n, hd, K1, hp⟩ := id D1.ex
  exact PT.imp (pt_cmpR (op_in_kd (by rw [← hK]; exact K1)) ha (pe_glob (v := .ref d) hg (by rw [← hM]; exact hd) rfl hdb) hm) fun _ _ _ h => tkd (neg := false) hK D1 hd h.test
theorem dt_knin (hK : G.K = X.K) (hM : G.mg = X.mg) (D1 : KD G X.w x kvs) (hg : Gl X x) (ha : PE X a (dE G W ma)) (hm : behindInMarks .NotIn (.Name x p) = false := by rfl) (hdb : (x == ("__debug__" : Str)) = false := by decide) : PT X (.Compare a [.NotIn] [.Name x p] pos) (dT G W (tOf (eUn (kdIn true kvs) ma))) := by
  obtain ⟨d, es, n, hd, K1, hp⟩ := id D1.ex
  exact PT.imp (pt_cmpR (op_notIn_kd (by rw [← hK]; exact K1)) ha (pe_glob (v := .ref d) hg (by rw [← hM]; exact hd) rfl hdb) hm) fun _ _ _ h => tkd (neg := true) hK D1 hd h.test
end
/-- as many turns as the number in the slot says -/
def fuelAt (i : Nat) (env : Env') : Nat := match env[i]? with
  | some (some (.int z)) => z.natAbs + 1
  | _ => 0
theorem Has.none {P : Program} {w : World} {base : Heap} {G : Gr} {x : Str} {ps : List Str} {k : Nat} {f : Addr} {fd : FuncData} (hf : G.mg x = some (.ref f)) (hk : PySem.W.keepIn G.K (.ref f) = true) (hb : Binds G.K fd ps []) : Has P w base G x ps k (fun _ _ => .bad) :=
  ⟨f, fd, hf, hk, hb, ⟨fun vs H Q E h => h.1, fun A outer s H args us vs Q E _ _ _ _ h => by
    obtain ⟨_, w1, ds, st, _, _, z⟩ := h
    exact z.elim⟩⟩
end DL

set_option Elab.async false
set_option linter.all false
set_option maxRecDepth 100000
set_option maxHeartbeats 2000000
namespace DL
open PySem PySem.Spec PyProof.Rows L2
/-! ### what comes out, in plain logic -/
abbrev EK := Str → List (Str × D) → Sto → Prop
/-- a value comes out as P says, or an error as E says -/
def Wp {α : Type} (x : Out α) (P : α → Sto → Prop) (E : EK) : Prop := match x with
  | .ok a st => P a st
  | .err c fs st => E c fs st
  | .bad => False
/-- the same of a statement: N for going on, R for a returned value -/
def WS (x : OutS) (N : Env' → Sto → Prop) (R : D → Sto → Prop) (E : EK) : Prop := match x with
  | .nx env st => N env st
  | .rt d st => R d st
  | .err c fs _ st => E c fs st
  | _ => False
abbrev E_ : EK := fun _ _ _ => False
section
variable {α β : Type} {P Q : α → Sto → Prop} {E E' : EK} {N N' : Env' → Sto → Prop} {R R' : D → Sto → Prop} {st : Sto} {env : Env'}
theorem Wp.imp {x : Out α} (h : Wp x P E) (hp : ∀ a st, P a st → Q a st) (he : ∀ c fs st, E c fs st → E' c fs st) : Wp x Q E' := by
  cases x with
  | ok a st => exact hp _ _ h
  | err c fs st => exact he _ _ _ h
  | bad => exact h
theorem Wp.mp {x : Out α} (h : Wp x P E_) (hp : ∀ a st, P a st → Q a st) : Wp x Q E := h.imp hp fun _ _ _ z => z.elim
theorem Wp.eq {x : Out α} {a : α} (h : Wp x (fun b s => b = a ∧ s = st) E_) : x = .ok a st := by
  cases x with
  | ok b s => obtain ⟨rfl, rfl⟩ := (show b = a ∧ s = st from h); rfl
  | err c fs s => exact (show False from h).elim
  | bad => exact (show False from h).elim
theorem Wp.ok_of {x : Out α} (h : Wp x P E_) : ∃ a st, x = .ok a st ∧ P a st := by
  cases x with
  | ok b s => exact ⟨b, s, rfl, h⟩
  | err c fs s => exact (show False from h).elim
  | bad => exact (show False from h).elim
theorem WS.imp {x : OutS} (h : WS x N R E) (hn : ∀ e s, N e s → N' e s) (hr : ∀ d s, R d s → R' d s) (he : ∀ c fs s, E c fs s → E' c fs s) : WS x N' R' E' := by
  cases x with
  | nx e s => exact hn _ _ h
  | rt d s => exact hr _ _ h
  | err c fs e s => exact he _ _ _ h
  | bk _ _ => exact h
  | ct _ _ => exact h
  | bad => exact h
@[simp] theorem Wp_ok (a : α) : Wp (.ok a st) P E = P a st := rfl
@[simp] theorem Wp_err (c : Str) (fs : List (Str × D)) : Wp (α := α) (.err c fs st) P E = E c fs st := rfl
@[simp] theorem Wp_bad : Wp (α := α) .bad P E = False := rfl
@[simp] theorem Wp_bnd {Q : β → Sto → Prop} (x : Out α) (f : α → Sto → Out β) : Wp (bnd x f) Q E = Wp x (fun a s => Wp (f a s) Q E) E := by cases x <;> rfl
@[simp] theorem WS_bndS (x : Out α) (f : α → Sto → OutS) : WS (bndS env x f) N R E = Wp x (fun a s => WS (f a s) N R E) E := by cases x <;> rfl
@[simp] theorem WS_nx : WS (.nx env st) N R E = N env st := rfl
@[simp] theorem WS_rt (d : D) : WS (.rt d st) N R E = R d st := rfl
@[simp] theorem WS_bad : WS .bad N R E = False := rfl
@[simp] theorem WS_err (c : Str) (fs : List (Str × D)) : WS (.err c fs env st) N R E = E c fs st := rfl
@[simp] theorem WS_seq (m1 m2 : SM) : WS (sSeq m1 m2 env st) N R E = WS (m1 env st) (fun e s => WS (m2 e s) N R E) R E := by
  unfold sSeq
  cases m1 env st <;> rfl
@[simp] theorem WS_sNx : WS (sNx env st) N R E = N env st := rfl
@[simp] theorem WS_ret (me : EM D) : WS (sRet me env st) N R E = Wp (me env st) R E := by unfold sRet; rw [WS_bndS]; rfl
@[simp] theorem WS_exp (me : EM D) : WS (sExp me env st) N R E = Wp (me env st) (fun _ s => N env s) E := by unfold sExp; rw [WS_bndS]; rfl
@[simp] theorem WS_if (mt : EM Bool) (m1 m2 : SM) : WS (sIf mt m1 m2 env st) N R E = Wp (mt env st) (fun c s => if c then WS (m1 env s) N R E else WS (m2 env s) N R E) E := by
  unfold sIf
  rw [WS_bndS]
  congr
  funext c s
  cases c <;> rfl
/-- what a target makes -/
def WG (o : Option (Env' × Sto)) (N : Env' → Sto → Prop) : Prop := match o with
  | some (e, s) => N e s
  | none => False
@[simp] theorem WG_some (e : Env') (s : Sto) : WG (some (e, s)) N = N e s := rfl
@[simp] theorem WG_none : WG none N = False := rfl
@[simp] theorem WS_asg (me : EM D) (g : GM) : WS (sAsg me g env st) N R E = Wp (me env st) (fun d s => WG (g d env s) N) E := by
  unfold sAsg
  rw [WS_bndS]
  congr
  funext d s
  cases h : g d env s with
  | none => rfl
  | some p => obtain ⟨e', s'⟩ := p; rfl
@[simp] theorem gN_eq (i : Nat) (d : D) : gN i d env st = some (env.set i (some d), st) := rfl
@[simp] theorem WS_par (k j : Nat) (a b : EM D) : WS (sPar k j (aCons a (aCons b aNil)) env st) N R E = Wp (a env st) (fun x s => Wp (b env s) (fun y s => N ((env.set k (some x)).set j (some y)) s) E) E := by
  unfold sPar aCons aNil
  simp only [WS_bndS, Wp_bnd, Wp_ok, WS_nx]
@[simp] theorem WS_raise (c f : Str) (me : EM D) : WS (sRaise c f me env st) N R E = Wp (me env st) (fun d s => E c [(f, d)] s) E := by unfold sRaise; rw [WS_bndS]; rfl
@[simp] theorem Wp_run (n : Nat) (m : SM) (ds : List D) {P : D → Sto → Prop} : Wp (runM n m ds st) P E = WS (m (startE n ds) st) (fun _ s => P .non s) P E := by
  unfold runM
  cases m (startE n ds) st <;> rfl
/-! expressions -/
section
variable {P : D → Sto → Prop} {PB : Bool → Sto → Prop} {PL : List D → Sto → Prop}
@[simp] theorem Wp_eC (d : D) : Wp (eC d env st) P E = P d st := rfl
@[simp] theorem Wp_eV (i : Nat) : Wp (eV i env st) P E = ∃ d, env[i]? = some (some d) ∧ P d st := by
  unfold eV
  cases h : env[i]? with
  | none => simp
  | some o =>
    cases o with
    | none => simp
    | some d => simp
@[simp] theorem Wp_eOp (f : D → D → Sto → Out D) (ma mb : EM D) : Wp (eOp f ma mb env st) P E = Wp (ma env st) (fun x s => Wp (mb env s) (fun y s => Wp (f x y s) P E) E) E := by
  unfold eOp; rw [Wp_bnd]; congr; funext x s; rw [Wp_bnd]
@[simp] theorem Wp_aNil : Wp (aNil env st) PL E = PL [] st := rfl
@[simp] theorem Wp_aCons (m : EM D) (mr : EM (List D)) : Wp (aCons m mr env st) PL E = Wp (m env st) (fun d s => Wp (mr env s) (fun ds s => PL (d :: ds) s) E) E := by
  unfold aCons; rw [Wp_bnd]; congr; funext x s; rw [Wp_bnd]; rfl
@[simp] theorem Wp_eTup (mr : EM (List D)) : Wp (eTup mr env st) P E = Wp (mr env st) (fun ds s => short ds = true ∧ P (.tup ds) s) E := by
  unfold eTup; rw [Wp_bnd]; congr; funext ds s; cases h : short ds <;> simp
@[simp] theorem Wp_eLst (mr : EM (List D)) : Wp (eLst mr env st) P E = Wp (mr env st) (fun ds s => short ds = true ∧ P (.lst ds) s) E := by
  unfold eLst; rw [Wp_bnd]; congr; funext ds s; cases h : short ds <;> simp
@[simp] theorem Wp_eCel (mr : EM (List D)) : Wp (eCel mr env st) P E = Wp (mr env st) (fun ds s => short ds = true ∧ P (.cel s.length) (s ++ [.lst ds])) E := by
  unfold eCel; rw [Wp_bnd]; congr; funext ds s; cases h : short ds <;> simp
@[simp] theorem Wp_eFz (m : EM D) : Wp (eFz m env st) P E = Wp (m env st) (fun d s => Wp (fzD d s) P E) E := by unfold eFz; rw [Wp_bnd]
@[simp] theorem Wp_tOf (m : EM D) : Wp (tOf m env st) PB E = Wp (m env st) (fun d s => ∃ b, d = .bl b ∧ PB b s) E := by
  unfold tOf; rw [Wp_bnd]; congr; funext d s
  cases d <;> simp [toB]
@[simp] theorem Wp_bAnd (a b : EM Bool) : Wp (bAnd a b env st) PB E = Wp (a env st) (fun c s => if c then Wp (b env s) PB E else PB false s) E := by
  unfold bAnd; rw [Wp_bnd]; congr; funext c s; cases c <;> rfl
@[simp] theorem Wp_bOr (a b : EM Bool) : Wp (bOr a b env st) PB E = Wp (a env st) (fun c s => if c then PB true s else Wp (b env s) PB E) E := by
  unfold bOr; rw [Wp_bnd]; congr; funext c s; cases c <;> rfl
@[simp] theorem Wp_bNot (a : EM Bool) : Wp (bNot a env st) PB E = Wp (a env st) (fun c s => PB (!c) s) E := by
  unfold bNot; rw [Wp_bnd]; rfl
@[simp] theorem Wp_eIf (mt : EM Bool) (a b : EM D) : Wp (eIf mt a b env st) P E = Wp (mt env st) (fun c s => if c then Wp (a env s) P E else Wp (b env s) P E) E := by
  unfold eIf; rw [Wp_bnd]; congr; funext c s; cases c <;> rfl
@[simp] theorem Wp_eAnd (a b : EM D) : Wp (eAnd a b env st) P E = Wp (a env st) (fun d s => ∃ c, d = .bl c ∧ if c then Wp (b env s) P E else P (.bl false) s) E := by
  unfold eAnd; rw [Wp_bnd]; congr; funext d s
  cases d with
  | bl c => cases c <;> simp
  | _ => simp
@[simp] theorem Wp_eOr (a b : EM D) : Wp (eOr a b env st) P E = Wp (a env st) (fun d s => ∃ c, d = .bl c ∧ if c then P (.bl true) s else Wp (b env s) P E) E := by
  unfold eOr; rw [Wp_bnd]; congr; funext d s
  cases d with
  | bl c => cases c <;> simp
  | _ => simp
@[simp] theorem Wp_eNot (a : EM D) : Wp (eNot a env st) P E = Wp (a env st) (fun d s => ∃ c, d = .bl c ∧ P (.bl (!c)) s) E := by
  unfold eNot; rw [Wp_bnd]; congr; funext d s
  cases d <;> simp
@[simp] theorem Wp_eCB (f : List D → Sto → Out D) (mr : EM (List D)) : Wp (eCB f mr env st) P E = Wp (mr env st) (fun ds s => Wp (f ds s) P E) E := by unfold eCB; rw [Wp_bnd]
@[simp] theorem Wp_eUn (f : D → Sto → Out D) (m : EM D) : Wp (eUn f m env st) P E = Wp (m env st) (fun d s => Wp (f d s) P E) E := by unfold eUn; rw [Wp_bnd]
@[simp] theorem Wp_eBM (g : D → Sto → Bool) (f : D → List D → Sto → Out D) (mo : EM D) (mr : EM (List D)) : Wp (eBM g f mo mr env st) P E = Wp (mo env st) (fun d s => g d s = true ∧ Wp (mr env s) (fun ds s => Wp (f d ds s) P E) E) E := by
  unfold eBM; rw [Wp_bnd]; congr; funext d s
  cases h : g d s <;> simp
@[simp] theorem Wp_eCall (n : Nat) (f : List D → Sto → Out D) (mr : EM (List D)) : Wp (eCall n f mr env st) P E = Wp (mr env st) (fun ds s => ds.length = n ∧ Wp (f ds s) P E) E := by
  unfold eCall; rw [Wp_bnd]; congr; funext ds s
  by_cases h : ds.length = n
  · simp [h]
  · simp [h]
@[simp] theorem Wp_eIsa (t : String) (m : EM D) : Wp (eIsa t m env st) P E = Wp (m env st) (fun d s => isFn d = false ∧ P (.bl (isaB (tyN d) t)) s) E := by
  unfold eIsa; rw [Wp_bnd]; congr; funext d s; unfold isaO; cases h : isFn d <;> simp
@[simp] theorem Wp_eIsaT (ts : List String) (m : EM D) : Wp (eIsaT ts m env st) P E = Wp (m env st) (fun d s => isFn d = false ∧ P (.bl (ts.any (isaB (tyN d)))) s) E := by
  unfold eIsaT; rw [Wp_bnd]; congr; funext d s; unfold isaT; cases h : isFn d <;> simp
@[simp] theorem Wp_eChain (f f' : D → D → Sto → Out D) (ma mb mc : EM D) : Wp (eChain f f' ma mb mc env st) P E = Wp (ma env st) (fun x s => Wp (mb env s) (fun y s => Wp (f x y s) (fun z s => ∃ c, z = .bl c ∧ if c then Wp (mc env s) (fun u s => Wp (f' y u s) P E) E else P (.bl false) s) E) E) E := by
  unfold eChain; rw [Wp_bnd]; congr; funext x s; rw [Wp_bnd]; congr; funext y s; rw [Wp_bnd]; congr; funext z s
  cases z with
  | bl c => cases c <;> simp
  | _ => simp
@[simp] theorem Wp_pN {Q : Option Int → Sto → Prop} : Wp (pN env st) Q E = Q none st := rfl
@[simp] theorem Wp_pI {Q : Option Int → Sto → Prop} (m : EM D) : Wp (pI m env st) Q E = Wp (m env st) (fun d s => ∃ i, d = .int i ∧ Q (some i) s) E := by
  unfold pI; rw [Wp_bnd]; congr; funext d s
  cases d <;> simp [toI]
@[simp] theorem Wp_eSl (m : EM D) (l h : EM (Option Int)) : Wp (eSl m l h env st) P E = Wp (m env st) (fun d s => Wp (l env s) (fun i s => Wp (h env s) (fun j s => Wp (slO d i j s) P E) E) E) E := by
  unfold eSl; simp only [Wp_bnd]
@[simp] theorem Wp_eLam (mo : (Sto → Out D) → Sto → Out D) (ml : EM D) : Wp (eLam mo ml env st) P E = Wp (mo (ml env) st) P E := rfl
@[simp] theorem Wp_aStar (m : EM D) (mr : EM (List D)) : Wp (aStar m mr env st) PL E = Wp (m env st) (fun d s => ∃ xs, seqOf s d = some xs ∧ Wp (mr env s) (fun ds s => PL (xs ++ ds) s) E) E := by
  unfold aStar; rw [Wp_bnd]; congr; funext d s
  cases h : seqOf s d with
  | none => simp
  | some xs => simp
@[simp] theorem Wp_iSq (m : EM D) : Wp (iSq m env st) PL E = Wp (m env st) (fun d s => ∃ xs, itemsOf d = some xs ∧ PL xs s) E := by
  unfold iSq; rw [Wp_bnd]; congr; funext d s
  unfold itemsO
  cases itemsOf d <;> simp
@[simp] theorem Wp_iEm (m : EM D) : Wp (iEm m env st) PL E = Wp (m env st) (fun d s => Wp (enumD d s) PL E) E := by unfold iEm; rw [Wp_bnd]
@[simp] theorem Wp_iR1 (m : EM (List D)) : Wp (iR1 m env st) PL E = Wp (m env st) (fun d s => Wp (rangeD1 d s) PL E) E := by unfold iR1; rw [Wp_bnd]
@[simp] theorem Wp_iR2 (m : EM (List D)) : Wp (iR2 m env st) PL E = Wp (m env st) (fun d s => Wp (rangeD2 d s) PL E) E := by unfold iR2; rw [Wp_bnd]
@[simp] theorem Wp_tT : Wp (tT env st) PB E = PB true st := rfl
/-! loops -/
theorem WS_for {mi : EM (List D)} {g : GM} {mb : SM} : WS (sFor mi g mb env st) N R E = Wp (mi env st) (fun ds s => WS (forM g mb ds env s) N R E) E := by unfold sFor; rw [WS_bndS]
theorem WS_forM {g : GM} {mb : SM} (I : List D → Env' → Sto → Prop) (step : ∀ d ds env st, I (d :: ds) env st → WG (g d env st) fun e s => WS (mb e s) (fun e s => I ds e s) R E) (fin : ∀ env st, I [] env st → N env st) :
    ∀ (ds : List D) (env : Env') (st : Sto), I ds env st → WS (forM g mb ds env st) N R E
  | [], env, st, h => fin env st h
  | d :: ds, env, st, h => by
    have h1 := step d ds env st h
    unfold forM
    cases q : g d env st with
    | none => rw [q] at h1; exact h1.elim
    | some p =>
      obtain ⟨e, s⟩ := p
      rw [q] at h1
      have h2 : WS (mb e s) (fun e s => I ds e s) R E := h1
      dsimp only
      cases q2 : mb e s with
      | nx e2 s2 => rw [q2] at h2; exact WS_forM I step fin ds e2 s2 h2
      | rt d s2 => rw [q2] at h2; exact h2
      | err c fs e2 s2 => rw [q2] at h2; exact h2
      | bk _ _ => rw [q2] at h2; exact h2.elim
      | ct _ _ => rw [q2] at h2; exact h2.elim
      | bad => rw [q2] at h2; exact h2.elim
theorem WS_while {fuel : Env' → Nat} {mt : EM Bool} {mb : SM} (I : Nat → Env' → Sto → Prop) (step : ∀ n env st, I n env st → ∃ k, n = k + 1 ∧ Wp (mt env st) (fun c s => if c then WS (mb env s) (fun e s => I k e s) R E else N env s) E) (h : I (fuel env) env st) : WS (sWhile fuel mt mb env st) N R E := by
  unfold sWhile
  have key : ∀ n env st, I n env st → WS (whileM mt mb n env st) N R E := by
    intro n
    induction n with
    | zero =>
      intro env st h
      obtain ⟨k, hk, _⟩ := step 0 env st h
      omega
    | succ n ih =>
      intro env st h
      obtain ⟨k, hk, h1⟩ := step _ env st h
      have hk' : k = n := by omega
      subst hk'
      unfold whileM
      rw [WS_bndS]
      refine h1.imp (fun c s hc => ?_) fun _ _ _ z => z
      cases c with
      | false => exact hc
      | true =>
        have hc' : WS (mb env s) (fun e s => I k e s) R E := hc
        show WS (match mb env s with | .nx env2 st2 => whileM mt mb k env2 st2 | .ct env2 st2 => whileM mt mb k env2 st2 | .bk env2 st2 => .nx env2 st2 | o => o) N R E
        cases q : mb env s with
        | nx e2 s2 => rw [q] at hc'; exact ih _ _ hc'
        | rt d s2 => rw [q] at hc'; exact hc'
        | err c fs e2 s2 => rw [q] at hc'; exact hc'
        | bk _ _ => rw [q] at hc'; exact hc'.elim
        | ct _ _ => rw [q] at hc'; exact hc'.elim
        | bad => rw [q] at hc'; exact hc'.elim
  exact key _ _ _ h
theorem Wp_eLc {mi : EM (List D)} {g : GM} {mt : EM Bool} {me : EM D} {vs : List Nat} : Wp (eLc mi g mt me vs env st) P E = Wp (mi env st) (fun ds s => Wp (lcM g mt me (wipeE env vs) ds [] s) P E) E := by unfold eLc; rw [Wp_bnd]
theorem Wp_lcM {g : GM} {mt : EM Bool} {me : EM D} {env0 : Env'} (I : List D → List D → Sto → Prop) (step : ∀ d ds acc st, I (d :: ds) acc st → WG (g d env0 st) fun e s => Wp (mt e s) (fun b s => if b then Wp (me e s) (fun y s => acc.length < 100000 ∧ I ds (acc ++ [y]) s) E_ else I ds acc s) E_) (fin : ∀ acc st, I [] acc st → P (.lst acc) st) :
    ∀ (ds acc : List D) (st : Sto), I ds acc st → Wp (lcM g mt me env0 ds acc st) P E
  | [], acc, st, h => fin acc st h
  | d :: ds, acc, st, h => by
    have h1 := step d ds acc st h
    unfold lcM
    cases q : g d env0 st with
    | none => rw [q] at h1; exact h1.elim
    | some p =>
      obtain ⟨e, s⟩ := p
      rw [q] at h1
      have h2 : Wp (mt e s) (fun b s => if b then Wp (me e s) (fun y s => acc.length < 100000 ∧ I ds (acc ++ [y]) s) E_ else I ds acc s) E_ := h1
      dsimp only
      cases q2 : mt e s with
      | err c fs s2 => rw [q2] at h2; exact h2.elim
      | bad => rw [q2] at h2; exact h2.elim
      | ok b s2 =>
        rw [q2] at h2
        cases b with
        | false => exact Wp_lcM I step fin ds acc s2 h2
        | true =>
          have h3 : Wp (me e s2) (fun y s => acc.length < 100000 ∧ I ds (acc ++ [y]) s) E_ := h2
          show Wp (match me e s2 with | .ok y st4 => if acc.length < 100000 then lcM g mt me env0 ds (acc ++ [y]) st4 else .bad | _ => .bad) P E
          cases q3 : me e s2 with
          | err c fs s2 => rw [q3] at h3; exact h3.elim
          | bad => rw [q3] at h3; exact h3.elim
          | ok y s3 =>
            rw [q3] at h3
            obtain ⟨h4, h5⟩ := (show acc.length < 100000 ∧ I ds (acc ++ [y]) s3 from h3)
            show Wp (if acc.length < 100000 then lcM g mt me env0 ds (acc ++ [y]) s3 else .bad) P E
            rw [if_pos h4]
            exact Wp_lcM I step fin ds _ s3 h5
end
end
end DL

set_option Elab.async false
set_option linter.all false
set_option maxRecDepth 100000
set_option maxHeartbeats 2000000
namespace DL
open PySem PySem.Spec PyProof.Rows L2
/-! ### the end: what stands at the program's top -/
/-- the def x, its text s1, stands there -/
def FnAt (K : PySem.W.Frag) (mg : Str → Option Value) (x : Str) (s1 : Stmt) : Prop := ∃ (f : Addr) (fd : FuncData), mg x = some (.ref f) ∧ Fun K x x s1 f fd
theorem fnAt_mk {K : PySem.W.Frag} {h : Heap} {mg : Str → Option Value} {x : Str} {s1 : Stmt} {f : Addr} {oc kV dc pm cd ct : Value} {od an : Option Addr} {sl : Array (Option Value)} (X : K.In h) (G : h.Ns mainGlobals mg) (a : PySem.W.nsIn K mainGlobals x = some (some (.ref f)))
    (l : K.lookup f = some ⟨oc, od, .func (PySem.W.fnOf x x (defArgs s1) (defBody s1) (defScope s1) .none kV dc pm an cd ct), sl⟩) (c : PySem.W.codeIn K cd x = true) (k : PySem.W.keepIn K (.ref f) = true) : FnAt K mg x s1 :=
  ⟨f, _, PySem.W.mg_of X G a, fun_mk l c k⟩
theorem krep_tup2s {K : PySem.W.Frag} {mg : Str → Option Value} {T : List (Addr × Str)} {q : Addr} {od : Option Addr} {sl : Array (Option Value)} {n : Nat} {x y : Str} {t1 t2 : Tok} (hl : K.lookup q = some ⟨.type "tuple", od, .seq #[.str x t1, .str y t2] n, sl⟩) : KRep ⟨K, mg, T⟩ (.ref q) (.tup [.str x, .str y]) :=
  krep_tup (its := [.str x t1, .str y t2]) (xs := [.str x, .str y]) hl rfl rfl (by show 2 ≤ sizeLine; decide) (.cons ⟨t1, rfl⟩ (.cons ⟨t2, rfl⟩ .nil)) fun _ _ => .cons (.str x) (.cons (.str y) .nil)
theorem krep_tup2i {K : PySem.W.Frag} {mg : Str → Option Value} {T : List (Addr × Str)} {q : Addr} {od : Option Addr} {sl : Array (Option Value)} {n : Nat} {x y : Int} {t1 t2 : Tok} (hl : K.lookup q = some ⟨.type "tuple", od, .seq #[.int x t1, .int y t2] n, sl⟩) : KRep ⟨K, mg, T⟩ (.ref q) (.tup [.int x, .int y]) :=
  krep_tup (its := [.int x t1, .int y t2]) (xs := [.int x, .int y]) hl rfl rfl (by show 2 ≤ sizeLine; decide) (.cons ⟨t1, rfl⟩ (.cons ⟨t2, rfl⟩ .nil)) fun _ _ => .cons (.int x) (.cons (.int y) .nil)
theorem kd_mk {K : PySem.W.Frag} {mg : Str → Option Value} {T : List (Addr × Str)} {w : World} {x : Str} {d : Addr} {es : Array DictEntry} {n : Nat} {kvs : List (Str × D)} (h1 : mg x = some (.ref d)) (h2 : K.lookup d = some ⟨.type "dict", none, .dict es n, #[]⟩) (h3 : PySem.W.KeysLit w.params es.toList) (h4 : (d == sysModules) = false)
    (h5 : Paired (fun (p : Str × D) (e : DictEntry) => (∃ t, e.key = .str p.1 t) ∧ KRep ⟨K, mg, T⟩ e.val p.2) kvs es.toList) : KD ⟨K, mg, T⟩ w x kvs := ⟨d, es, n, h1, ⟨h2, h3, h4⟩, h5⟩
/-- a class of errors with one field, its maker's text s1 -/
theorem errC_mk {K : PySem.W.Frag} {h : Heap} {mg : Str → Option Value} {c f q1 : Str} {s1 : Stmt} {C fI : Addr} {nm q : Str} {N : Addr} {bs bm : List Value} {sn : List Str} {sub : List Value} {ab : Bool} {col : Option Bool} {dd : Option Addr} {m0 m1 m2 m3 m5 : Option Value} {oc kV dc pm cd ct : Value} {od an : Option Addr} {sl : Array (Option Value)} {p1 p2 p3 p4 : Pos}
    (X : K.In h) (G : h.Ns mainGlobals mg) (a : PySem.W.nsIn K mainGlobals c = some (some (.ref C)))
    (xL : K.lookup C = some (excClassObj nm q C N bs bm true sn sub ab col dd m0 m1 m2 m3 m5 "ValueError.__new__")) (sa : PySem.W.findIn K (.ref C) "__setattr__" = some (some (.builtin "object.__setattr__"))) (ga : PySem.W.findIn K (.ref C) "__getattribute__" = some (some (.builtin "BaseException.__getattribute__"))) (gg : PySem.W.findIn K (.ref C) "__getattr__" = some none) (nb : PySem.W.findIn K (.ref C) f = some none)
    (a1 : PySem.W.findIn K (.ref C) "__init__" = some (some (.ref fI))) (t1 : PySem.W.typeIn K (.ref fI) = some (.type "function"))
    (l1 : K.lookup fI = some ⟨oc, od, .func (PySem.W.fnOf "__init__" q1 (defArgs s1) (defBody s1) (defScope s1) .none kV dc pm an cd ct), sl⟩) (c1 : PySem.W.codeIn K cd q1 = true) (k1 : PySem.W.keepIn K (.ref fI) = true)
    (kC : PySem.W.keepIn K (.ref C) = true) (eC : PySem.W.subIn K (.ref C) (.type "BaseException") = some true) (tC : PySem.W.typeIn K (.ref C) = some (.type "type")) (hC : PySem.W.hasDictIn K C = true) (hbm : PySem.HandSPX.refsVE bm = true)
    (S : FnScope ["self", f] ["self", f] (defScope s1)) (hb : defBody s1 = [.Assign [.Attribute (.Name "self" p1) f p2] (.Name f p3) p4]) (hl : (defScope s1).names.lookup ("self" : Str) = some .local) (hl2 : (defScope s1).names.lookup f = some .local)
    (hbi : ∀ (kV doc pm : Value) (an : Option Addr) (cdv ct : Value) (us : List Value), us.length = (["self", f] : List Str).length → bindArgs (PySem.W.fnOf "__init__" q1 (defArgs s1) (defBody s1) (defScope s1) .none kV doc pm an cdv ct) ⟨us, []⟩ = pure ((["self", f] : List Str).zip us))
    (hd : (f == ("__debug__" : Str)) = false := by decide) (hcd : (f == ("__classdict__" : Str)) = false := by decide) :
    ∀ (base : Heap) (P : Program) (w : World), ∃ (C fI : Addr) (fd : FuncData), ErrC P w K mg base c f C fI fd := fun base P w => by
  have F := fun_mk (st := s1) l1 c1 k1
  have T : OexC K C := ⟨⟨nm, q, N, bs, bm, sn, sub, ab, col, dd, m0, m1, m2, m3, m5, xL, hbm⟩, sa, eC, tC, kC⟩
  exact ⟨C, fI, _, ⟨T, ⟨ga, gg, eC, hC⟩, PySem.W.mg_of X G a, a1, t1, nb, init_ok F S hb T nb hl hl2 hd hcd, F.binds hbi⟩⟩
/-- an error of the class C at «except S» -/
theorem exm_of {K : PySem.W.Frag} {C S : Addr} {b : Bool} (hB : PySem.W.subIn K (.ref S) (.type "BaseException") = some true) (hI : PySem.W.isClsIn K S = true) (hT : PySem.W.typeIn K (.ref S) = some (.type "type")) (hS : PySem.W.subIn K (.ref C) (.ref S) = some b) : PySem.W.exmOne K (.ref C) (.ref S) = some b := by
  have hI' : (PySem.W.clsIn K S).isSome = true := hI
  unfold PySem.W.exmOne PySem.W.kitCls
  simp only [hB, hT, hI', hS, BEq.rfl, if_true, Bool.and_self]
/-- two classes that are told apart -/
theorem exmK2 {K : PySem.W.Frag} {mg : Str → Option Value} {c1 c2 : Str} {C1 C2 : Addr} (h1 : mg c1 = some (.ref C1)) (h2 : mg c2 = some (.ref C2)) (e1 : PySem.W.exmOne K (.ref C1) (.ref C1) = some true) (e2 : PySem.W.exmOne K (.ref C2) (.ref C2) = some true) (e3 : PySem.W.exmOne K (.ref C1) (.ref C2) = some false) (e4 : PySem.W.exmOne K (.ref C2) (.ref C1) = some false) (hne : c1 ≠ c2 := by decide) : ExmK K mg [c1, c2] := by
  intro c hc c' hc' C C' g g'
  have k : c = c1 ∨ c = c2 := by simpa using hc
  have k' : c' = c1 ∨ c' = c2 := by simpa using hc'
  rcases k with rfl | rfl <;> rcases k' with rfl | rfl
  · rw [h1] at g g'; cases g; cases g'; rw [e1]; simp
  · rw [h1] at g; rw [h2] at g'; cases g; cases g'; rw [e3]; simp [hne]
  · rw [h2] at g; rw [h1] at g'; cases g; cases g'; rw [e4]; simp [Ne.symm hne]
  · rw [h2] at g g'; cases g; cases g'; rw [e2]; simp
end DL

set_option Elab.async false
set_option linter.all false
set_option maxRecDepth 100000
set_option maxHeartbeats 2000000
/-! a list comprehension out of whose turns an exception leaves -/
namespace DL
open PySem PySem.Spec PyProof.Rows L2
section
variable {M : Model} {A : Around} {E : Value → Shared → Prop} {env : Env} {s : Shared}
theorem note_same {e : Value} {a b : Env} (h : a.frame = b.frame) : noteFrame e a = noteFrame e b := by
  unfold noteFrame PySem.frameOf
  rw [h]
/-- what is wanted behind the block; an exception is passed on by the block's own env -/
def postE (M : Model) (A : Around) (E : Value → Shared → Prop) (use : Option (Value → Sem Unit)) (Q : Value → Shared → Prop) (acc : Value) (ce : Env) : Result → Shared → Prop
  | .ok f, t => compPost M A E use Q acc ce.locals (.ok f) t
  | .error x, t => ∃ m, t.heap.Ns ce.locals m ∧ ∀ h2, Heap.SameBut ce.locals t.heap h2 → wpAny M A (PySem.passOn "comprehension.variables-let-go" x ce : Sem Value) (fun _ _ => False) E { t with heap := h2 }
theorem comp_raise {e : Expr} {scope : Scope} {pos : Pos} {mk first : Sem Value} {c : Comprehension} {cs : List Comprehension} {cl : List (Str × Addr)} {use : Option (Value → Sem Unit)} {Q : Value → Shared → Prop}
    (h1 : clausesOf e = c :: cs) (h2 : ∀ x, foldedSetIterable c.iter env x = pure x) (h3 : closureFor scope env = pure cl) (h4 : scope.kind = .function) (h5 : ∀ x ∈ scope.names, x.2 = .local → scope.names.lookup x.1 = some .local)
    (h : wpAny M A first (fun x t1 => wpAny M A (pyIter x) (fun it t2 => wpAny M A mk (fun acc t3 => wpAny M A (newFunctionEnv scope env.globals cl [] env.qual none .none (some env)) (fun ce t4 =>
      codeAny M A (.compStart e 0 it acc { ce with scope := relabel scope env }) (postE M A E use Q acc { ce with scope := relabel scope env }) t4) E t3) E t2) E t1) E s) :
    wpAny M A (comprehension e scope env pos mk false first use) Q E s := by
  unfold comprehension
  rw [h3, h1]
  refine wpAny_bind (wpAny_mono h (fun x t1 g1 => wpAny_bind (wpAny_standAt (wpAny_bind (wpAny_of_eq (h2 x) (wpAny_bind (wpAny_holding (wpAny_mono g1 (fun it t2 g2 => ?_) fun _ _ z => z))))))) fun _ _ z => z)
  refine wpAny_standIf (wpAny_bind (wpAny_mono g2 (fun acc t3 g3 => wpAny_bind (wpAny_pure (wpAny_bind (wpAny_mono g3 (fun ce t4 g4 => ?_) fun _ _ z => z)))) fun _ _ z => z))
  dsimp only
  have loc : ∀ x ∈ (scope.names.filter fun x => (x.2 == .local || x.2 == .cell) && x.1 != (".0" : Str)).reverse, x.2 = .local → Env.kindOf { ce with scope := relabel scope env } x.1 = some .local :=
    fun x hx hl => lookup_relabel_local (h5 x (List.mem_filter.mp (List.mem_reverse.mp hx)).1 hl)
  have loc2 : ∀ x ∈ (scope.names.filter fun x => (x.2 == .local || x.2 == .cell) && x.1 != (".0" : Str)).reverse.drop 1 ++ (scope.names.filter fun x => (x.2 == .local || x.2 == .cell) && x.1 != (".0" : Str)).reverse.take 1, x.2 = .local → Env.kindOf { ce with scope := relabel scope env } x.1 = some .local :=
    fun x hx hl => (List.mem_append.mp hx).elim (fun z => loc x (List.mem_of_mem_drop z) hl) fun z => loc x (List.mem_of_mem_take z) hl
  refine wpAny_holding (wpAny_bind (wpAny_attempt (wpAny_holding (wpAny_run (codeAny_mono g4 fun r t hr => ?_)))))
  cases r with
  | ok f =>
    have hr : compPost M A E use Q acc ce.locals (.ok f) t := hr
    cases use with
    | none =>
      obtain ⟨m, hn, hq⟩ := hr
      exact wpAny_bind (wpAny_holding (wpAny_comp_letGo (cenv := { ce with scope := relabel scope env }) h4 _ t m loc hn fun h' m' _ same => wpAny_pure (hq h' same)))
    | some u =>
      refine wpAny_bind (wpAny_rule (wpAny_bind (wpAny_holding (wpAny_mono hr (fun _ t5 hq => ?_) fun _ _ z => z))))
      obtain ⟨m, hn, hq⟩ := hq
      exact wpAny_bind (wpAny_comp_letGo (cenv := { ce with scope := relabel scope env }) h4 _ t5 m loc2 hn fun h' m' _ same => wpAny_pure (hq h' same))
  | error x =>
    obtain ⟨m, hn, hq⟩ := hr
    exact wpAny_bind (wpAny_holding (wpAny_comp_letGo (cenv := { ce with scope := relabel scope env }) h4 _ t m loc hn fun h' m' _ same => wpAny_mono (hq h' same) (fun _ _ z => z.elim) fun _ _ z => z))
end
theorem frames_but {h1 h2 B B2 : Heap} : ∀ {l : List Env}, h1.FunFrames B l → (∀ L ∈ frs l, h2.get? L = h1.get? L ∧ B2.get? L = none) → h2.FunFrames B2 l
  | [], _, _ => trivial
  | env :: l, ⟨hk, ⟨L, o, hf, _, ho, hd⟩, hr⟩, k => by
    obtain ⟨q1, q2⟩ := k L (List.mem_filterMap.mpr ⟨env, List.mem_cons_self, hf⟩)
    exact ⟨hk, ⟨L, o, hf, q2, q1.trans ho, hd⟩, frames_but hr fun b hb => by
      obtain ⟨e, he, q⟩ := List.mem_filterMap.mp hb
      exact k b (List.mem_filterMap.mpr ⟨e, List.mem_cons_of_mem _ he, q⟩)⟩
section
variable {X : Cx} {pins : List (Addr × Obj)} {σ : L2.St} {H3 : Hp} {s3 : Shared}
/-- an exception that a call of the block let out -/
def OutE (X : Cx) (W : WX) (σ : L2.St) (s3 : Shared) (H3 : Hp) (scope : Scope) (ce : Env) (fp : List Addr) (u : Value) (t : Shared) : Prop :=
  ∃ (pz : List (Addr × Obj)) (σz : L2.St) (Hz : Hp) (sz : Shared), Inv (X.blk s3 H3 scope ce fp) pz σz Hz sz ∧ L2.CX X.prog X.w X.stack Hz sz (fun c d H' => W c d σ H') u t
theorem out_post {W : WX} {scope : Scope} {ce : Env} {fp : List Addr} {use : Option (Value → Sem Unit)} {Qf : Value → Shared → Prop} {acc u : Value} {t : Shared} {E1 : Value → Shared → Prop}
    (tk : Takes X W) (hst : X.stack = X.env :: X.outer) (hf : X.env.frame = some X.env.locals) (J : Inv X pins σ H3 s3) (f3 : ∀ b ∈ fp, FpOk X pins H3 b ∧ b < s3.heap.objs.size) (cL : ce.locals = s3.heap.objs.size) (cF : ce.frame = X.env.frame)
    (x : OutE X W σ s3 H3 scope ce fp u t) : wpAny (model X.prog X.w) X.A (noteFrame u ce) (fun _ t2 => postE (model X.prog X.w) X.A X.xe use Qf acc ce (.error u) t2) E1 t := by
  obtain ⟨pz, σz, Hz, sz, Iz, a, B, H', cls, d, rfl, fl, hok, ub, na, os, ag, hE⟩ := x
  rw [note_same cF]
  have afr : X.A.frames = some (X.env :: X.outer) := by rw [J.ok.frames, hst]
  have fl' : HandSPX.FlyingZ B (X.env :: X.outer) a (Zc cls d) t.heap := by rw [← hst]; exact fl
  have frLt : ∀ L ∈ frs X.stack, L < s3.heap.objs.size := fun L hL => by
    obtain ⟨_, o, ho, _⟩ := J.stack.mem hL
    exact Heap.lt_size ho
  generalize hC : s3.heap.objs.size = C at cL
  have nCf : C ∉ frs X.stack := fun hm => absurd (frLt C hm) (by rw [hC]; exact Nat.lt_irrefl _)
  refine HandSPX.looks_onZ Zc.steady afr hf fl' fun h1 hh up1 => ?_
  obtain ⟨m, hn, _⟩ := Iz.loc
  have hn : sz.heap.Ns ce.locals m := hn
  rw [cL] at hn
  obtain ⟨oC, es, ep, eC, dC, rC⟩ := hn
  have nC : Hz C = none := by
    have z : Hz ce.locals = none := Iz.free
    rw [cL] at z
    exact z
  have bC : B.get? C = some oC := ub.keep C oC eC nC nCf
  have nC' : H' C = none := ub.free C oC eC nC
  obtain ⟨k1, k2, k3, k4⟩ := hh
  refine ⟨m, ?_, fun h2 sb => ?_⟩
  · rw [cL]
    exact ⟨oC, es, ep, k1 C oC bC, dC, rC⟩
  rw [cL] at sb
  obtain ⟨B2, b1, b2⟩ := restrict B fun b => decide (b ≠ C)
  have inB : ∀ b o, b ≠ C → B.get? b = some o → B2.get? b = some o := fun b o ne e => by rw [b1 b (by simpa using ne)]; exact e
  have ofB : ∀ b o, B2.get? b = some o → b ≠ C ∧ B.get? b = some o := fun b o e => by
    by_cases z : b = C
    · rw [b2 b (by simpa using z)] at e; cases e
    · rw [b1 b (by simpa using z)] at e; exact ⟨z, e⟩
  have noB : ∀ b, B.get? b = none → B2.get? b = none := fun b e => by
    cases q : B2.get? b with
    | none => rfl
    | some o => rw [(ofB b o q).2] at e; cases e
  have neC : ∀ b, B.get? b = none → b ≠ C := fun b e z => by rw [z, bC] at e; cases e
  obtain ⟨oe, vs, T, oT, ts, he, hz, hd, v1, hnT, hTe, hT, hdT, v3⟩ := k4
  have held : HandSPX.HeldZ B2 (X.env :: X.outer) a (Zc cls d) X.env.locals h2 := by
    refine ⟨fun b o e => ?_, noB a k2, frames_but k3 fun L hL => ?_, oe, vs, T, oT, ts, (sb.2 a (neC a k2)).trans he, hz, hd, v1, noB T hnT, hTe, (sb.2 T (neC T hnT)).trans hT, hdT, v3⟩
    · obtain ⟨z1, z2⟩ := ofB b o e
      exact (sb.2 b z1).trans (k1 b o z2)
    · have z := (k3.mem hL).1
      exact ⟨sb.2 L (neC L z), noB L z⟩
  unfold PySem.passOn
  refine wpAny_bind (wpAny_field (show h2.get? a = some oe from (sb.2 a (neC a k2)).trans he) hd v1 ?_)
  rw [if_neg (show ¬ ((Value.ref T == Value.none) = true) from by simp)]
  refine wpAny_bind ?_
  rw [cF, hf]
  refine HandSPX.setFlight_onZ held fun h3 hh3 up3 => ?_
  refine wpAny_throw (tk _ _ ?_)
  obtain ⟨G, g1, g2⟩ := restrict h3 fun b => (B2.get? b).isSome || decide (b ∈ frs X.stack)
  have gB : ∀ b o, B2.get? b = some o → G.get? b = some o := fun b o e => by
    rw [g1 b (by simp [e])]
    exact hh3.1 b o e
  have gF : ∀ b, b ∈ frs X.stack → G.get? b = h3.get? b := fun b hb => g1 b (by simp [hb])
  have og : ∀ b o, G.get? b = some o → h3.get? b = some o ∧ ((B2.get? b).isSome = true ∨ b ∈ frs X.stack) := fun b o e => by
    cases q : ((B2.get? b).isSome || decide (b ∈ frs X.stack)) with
    | false => rw [g2 b q] at e; cases e
    | true => rw [g1 b q] at e; exact ⟨e, by simpa [Bool.or_eq_true] using q⟩
  have toH3 : ∀ b o, b ∈ frs X.stack → t.heap.get? b = some o → (∀ vs, o.data ≠ .fields vs) → ∃ sl, h3.get? b = some { o with slots := sl } := fun b o hb e nf => by
    obtain ⟨l1, e1⟩ := up1 b o e nf
    have e2 : h2.get? b = some { o with slots := l1 } := (sb.2 b (fun z => nCf (z ▸ hb))).trans e1
    obtain ⟨l3, e3⟩ := up3 b _ e2 nf
    exact ⟨l3, e3⟩
  have slotF : ∀ b o, sz.heap.get? b = some o → b ∈ frs X.stack → (∀ vs, o.data ≠ .fields vs) → ∃ sl, G.get? b = some { o with slots := sl } := fun b o e hb nf => by
    obtain ⟨l1, e1⟩ := ub.slot b o e hb
    obtain ⟨l2, e2⟩ := toH3 b _ hb e1 nf
    exact ⟨l2, by rw [gF b hb]; exact e2⟩
  have ltNe : ∀ b o, s3.heap.get? b = some o → b ≠ C := fun b o e z => by
    have := Heap.lt_size e
    rw [hC, z] at this
    exact Nat.lt_irrefl _ this
  have un : Un (frs X.stack) fp H3 H' s3.heap G := by
    have U : Un (frs X.stack) fp H3 Hz s3.heap sz.heap := Iz.base
    refine ⟨fun b o e n hb hx => ?_, fun b o e n hb hx => ?_, fun b o e n hx => ?_, fun b o e hx => ?_, fun b xs e => ub.tups b xs (U.tups b xs e), fun b o u e => ub.frzs b o u (U.frzs b o u e), fun b ps e => ?_⟩
    · exact gB b o (inB b o (ltNe b o e) (ub.keep b o (U.keep b o e n hb hx) (U.free b o e n hx) hb))
    · obtain ⟨l1, e1⟩ := U.slot b o e n hb hx
      obtain ⟨_, o2, z2, nf⟩ := J.stack.mem hb
      rw [e] at z2
      cases z2
      obtain ⟨l2, e2⟩ := slotF b _ e1 hb nf
      exact ⟨l2, e2⟩
    · obtain ⟨o', e'⟩ := U.there b o e hx
      exact ub.free b o' e' (U.free b o e n hx)
    · obtain ⟨o', e'⟩ := U.there b o e hx
      by_cases hb : b ∈ frs X.stack
      · obtain ⟨_, o2, z2, nf⟩ := J.stack.mem hb
        obtain ⟨l1, e1⟩ := U.slot b o2 z2 (J.stkFree b hb) hb hx
        obtain ⟨l2, e2⟩ := slotF b _ e1 hb nf
        exact ⟨_, e2⟩
      · obtain ⟨o3, e3⟩ := ub.there b o' e' hb
        exact ⟨o3, gB b o3 (inB b o3 (ltNe b o e) e3)⟩
    · obtain ⟨m1, e1⟩ := U.tbls b ps e
      obtain ⟨m2, e2⟩ := ub.tbls b _ e1
      exact ⟨m1 ++ m2, by rw [e2, Array.append_assoc]⟩
  have hokG : HOk X.prog X.w H' G := fun b o e => (hok b o e).stay (fun c v hc q => by
    refine gB c v (inB c v (fun z => ?_) q)
    rcases hc with hc | hc
    · rw [← hc, z, nC'] at e; cases e
    · rw [z, nC'] at hc; cases hc) (fun _ q => q) fun _ _ q => q
  have K : Inv X pins σ H' { t with heap := G } := J.call' (s' := { t with heap := G }) (ch := fp) (by
      show t.os = s3.os
      rw [os]
      exact Iz.os) un hokG ag fun b hb => ⟨(f3 b hb).1.2.2.2.1, (f3 b hb).1.2.1, (f3 b hb).1.2.2.2.2.1, (f3 b hb).1.2.2.2.2.2⟩
  refine ⟨a, B2, { t with heap := G }, pins, σ, H', cls, d, rfl, K, fun b o e hb => ?_, Heap.UpToSlots.of_keeps fun b o e => (og b o e).1, .inr (.inr (by rw [hst]; exact hh3)), na, rfl, ag, hE⟩
  obtain ⟨e1, e2⟩ := og b o e
  rcases e2 with e2 | e2
  · obtain ⟨o', q⟩ := Option.isSome_iff_exists.mp e2
    have z := hh3.1 b o' q
    rw [e1] at z
    cases z
    exact q
  · exact absurd e2 hb
end
end DL

set_option Elab.async false
set_option linter.all false
set_option maxRecDepth 100000
set_option maxHeartbeats 2000000
namespace DL
open PySem PySem.Spec PyProof.Rows L2
section
variable {X : Cx}
theorem lcR_core {W : WX} {pins : List (Addr × Obj)} {s : Shared} {σ : L2.St} {H : Hp} {Q : VK} {elt tg iter : Expr} {ifs : List Expr} {scope : Scope} {own : List (Str × Nat)} {pos pos' : Pos} {wi : TI} {g : TG} {tt : TT} {te : TE} {use : Option (Value → Sem Unit)} {Qf : Value → Shared → Prop}
    (tk : Takes X W) (hst : X.stack = X.env :: X.outer) (hf : X.env.frame = some X.env.locals) (hc : X.calm = true) (hN : X.N.Nodup) (I : Inv X pins σ H s) (hi : PI X tg iter wi) (ok : BlkOk X.N X.env.scope scope own)
    (hg : ∀ (s : Shared) (H : Hp) (C : Addr) (cl : List (Str × Addr)) (fp : List Addr), PG (X.blk s H scope (compEnvC scope cl C X.env) fp) tg g)
    (ht : ∀ (s : Shared) (H : Hp) (C : Addr) (cl : List (Str × Addr)) (fp : List Addr), PTs (X.blk s H scope (compEnvC scope cl C X.env) fp) ifs tt)
    (he : ∀ (s : Shared) (H : Hp) (C : Addr) (cl : List (Str × Addr)) (fp : List Addr), Inv X pins σ H s → (∀ b ∈ fp, FpOk X pins H b ∧ b < s.heap.objs.size) → PE ((X.blk s H scope (compEnvC scope cl C X.env) fp).wish (OutE X W σ s H scope (compEnvC scope cl C X.env) fp)) elt te) (hs : ∀ x, foldedSetIterable iter X.env x = pure x)
    (h : tLc wi g tt te (own.map (·.2)) σ H Q)
    (fine : ∀ D C t m H', Inv X pins σ H' t → Q (.ref D) H' → t.heap.Ns C m → FpOk X pins H' C → compPost (model X.prog X.w) X.A X.xe use Qf (.ref D) C (.ok .next) t) :
    wpAny (model X.prog X.w) X.A (comprehension (.ListComp elt [⟨tg, iter, ifs, 0⟩] scope pos) scope X.env pos' (newList []) false (eval iter X.env) use) Qf X.xe s := by
  have clos : ∀ y ∈ scope.names, y.2 = .free → ∃ c, X.env.cells.lookup y.1 = some c := fun y hy e => (ok.free y hy e).elim (fun k => I.ok.has _ (.inl k)) fun k => I.ok.has _ (.inr k)
  refine comp_raise (use := use) rfl hs (closure_ok clos) ok.kind (fun y hy e => by rw [ok.uniq y hy, e]) (thn (hi.run pins s σ H _ I h) fun xv t1 hx => thn hx fun itv t2 g2 => ?_)
  obtain ⟨it, fp, tn, Jt, H2, rfl, I2, T, st2, f2, q⟩ := g2
  refine wpAny_newObj_type (newEnv_comp ?_) (by show 0 ≤ sizeLine; decide)
  generalize hD : t2.heap.objs.size = D
  obtain ⟨Wv, ⟨m0, w0⟩, turn⟩ := q D (I2.hok.fresh (Nat.le_of_eq hD))
  generalize hs3 : ({ t2 with heap := t2.heap.push { cls := .type "list", data := .seq ([] : List Value).toArray } } : Shared) = s3
  have J3 : Inv X pins σ (upd H2 D (.lst [])) s3 := by
    rw [← hs3]
    exact I2.laid (t' := t2.toks) (fun b o e => Heap.get?_push_of_some _ e) (Nat.le_of_eq hD) ⟨Nat.zero_le _, [], 0, .nil, by rw [← hD]; exact Heap.get?_push_size _ rfl⟩
  have e3 : s3.heap = t2.heap.push { cls := .type "list", data := .seq ([] : List Value).toArray } := by rw [← hs3]
  have f3 : ∀ b ∈ fp, FpOk X pins (upd H2 D (.lst [])) b ∧ b < s3.heap.objs.size := fun b hb => by
    have hlt : b < t2.heap.objs.size := by
      obtain ⟨o, e, _⟩ := T.obj _ _ st2 b hb
      exact Heap.lt_size e
    refine ⟨⟨?_, (f2 b hb).2⟩, by rw [e3, Heap.size_push]; exact Nat.lt_succ_of_lt hlt⟩
    rw [upd_ne (by rw [← hD]; exact Nat.ne_of_lt hlt)]
    exact (f2 b hb).1
  have st3 : tn 0 s3.heap := T.keep _ _ _ st2 fun b _ o e => by rw [e3]; exact Heap.get?_push_of_some _ e
  have J4 := block_start J3 ok hN f3
  generalize hcs : cellsFrom (s3.heap.objs.size + 1) scope.names (cloFrom X.env.cells scope.names []) = cs at J4
  show codeAny _ _ (.compStart (.ListComp elt [⟨tg, iter, ifs, 0⟩] scope pos) 0 (.ref it) (.ref D) (compEnvC scope cs s3.heap.objs.size X.env))
    (postE (model X.prog X.w) X.A X.xe use Qf (.ref D) (compEnvC scope cs s3.heap.objs.size X.env)) { s3 with heap := pushCells (s3.heap.push { cls := .type "dict", data := .dict #[] }) scope.names }
  have pg := hg s3 (upd H2 D (.lst [])) s3.heap.objs.size cs fp
  have pt := ht s3 (upd H2 D (.lst [])) s3.heap.objs.size cs fp
  have pe := he s3 (upd H2 D (.lst [])) s3.heap.objs.size cs fp J3 f3
  have nfp : ∀ b ∈ fp, (upd H2 D (.lst [])) b = none := fun b hb => (f3 b hb).1.1
  have cL : (compEnvC scope cs s3.heap.objs.size X.env).locals = s3.heap.objs.size := rfl
  have cF : (compEnvC scope cs s3.heap.objs.size X.env).frame = X.env.frame := rfl
  generalize hce : compEnvC scope cs s3.heap.objs.size X.env = ce at J4 pg pt pe cL cF ⊢
  generalize hH3 : upd H2 D (.lst []) = H3 at J3 J4 pg pt pe w0 nfp f3
  generalize hs4 : ({ s3 with heap := pushCells (s3.heap.push { cls := .type "dict", data := .dict #[] }) scope.names } : Shared) = s4 at J4 ⊢
  have st4 : tn 0 s4.heap := T.keep _ _ _ st3 fun b _ o e => by rw [← hs4]; exact pushCells_keeps _ _ _ _ (Heap.get?_push_of_some _ e)
  have stat : ∀ {σ' : L2.St} {H' : Hp} {t : Shared}, Inv (X.blk s3 H3 scope ce fp) [] σ' H' t → (∀ b ∈ fp, H' b = none) → ∀ b ∈ fp, FpOk (X.blk s3 H3 scope ce fp) [] H' b := fun {σ' H' t} K hn b hb =>
    ⟨hn b hb, (K.ok.exf b hb).1, K.ok.exfs b hb, .inl hb, fun x c e => (K.ok.exf b hb).2 x c e, fun p hp => absurd (show p ∈ ([] : List (Addr × Obj)) ++ [] from hp) (by simp)⟩
  have loop : codeAny (model X.prog X.w) X.A (.compLoop (.ListComp elt [⟨tg, iter, ifs, 0⟩] scope pos) 0 (.ref it) (.ref D) ce) (postE (model X.prog X.w) X.A X.xe use Qf (.ref D) ce) s4 := by
    refine compLoop_any (fun n t => ∃ i H', Inv (X.blk s3 H3 scope ce fp) [] (wipe σ (own.map (·.2))) H' t ∧ tn i t.heap ∧ (∀ b ∈ fp, H' b = none) ∧ Wv i n H') ?_ m0 ⟨0, H3, J4, st4, nfp, w0⟩
    rintro n t5 ⟨i, H5, K5, st5, n5, w5⟩
    rcases turn i n H5 w5 with ⟨stop, qq⟩ | ⟨go, Nx, hNx, step⟩
    · refine thnF (T.done (X.blk s3 H3 scope ce fp) rfl rfl rfl hc i [] t5 _ H5 (fun _ _ => False) K5 (stat K5 n5) st5 stop) fun r t6 ⟨hr, K6⟩ => ?_
      subst hr
      have K7 : Inv X pins σ H5 t6 := J3.call' (ch := fp) K6.os K6.base K6.hok K6.bare fun b hb => ⟨(f3 b hb).1.2.2.2.1, (f3 b hb).1.2.1, (f3 b hb).1.2.2.2.2.1, (f3 b hb).1.2.2.2.2.2⟩
      have nC : H5 s3.heap.objs.size = none := by
        have z : H5 ce.locals = none := K6.free
        rw [cL] at z
        exact z
      obtain ⟨m, hn, _⟩ := K6.loc
      have hn : t6.heap.Ns ce.locals m := hn
      show compPost _ _ _ _ _ _ ce.locals _ _
      rw [cL] at hn ⊢
      exact fine D s3.heap.objs.size t6 m H5 K7 qq hn (J3.fpOk (Nat.le_refl _) nC)
    · refine thnF (T.item (X.blk s3 H3 scope ce fp) rfl rfl rfl hc i [] t5 _ H5 (fun _ _ => False) K5 (stat K5 n5) st5 go) fun r t6 ⟨u, hr, h6⟩ => ?_
      subst hr
      refine thnF h6 fun _ t7 ⟨x, H7, K7, r7, y7, st7, n7⟩ => ?_
      refine thnF (pg.run _ t7 _ H7 x u _ (K7.pinned (stat K7 n7) (T.obj _ _ st7)) r7 (step x H7 y7)) fun _ t8 ⟨σ8, H8, K8, hw8, q8⟩ => ?_
      refine thnF (pt.run _ t8 σ8 H8 _ K8 q8) fun b t9 ⟨H9, K9, q9⟩ => ?_
      have fin : ∀ {t : Shared} {H' : Hp}, Inv (X.blk s3 H3 scope ce fp) ([] ++ pinsAt fp t7.heap) σ8 H' t → Nx H' → ∃ m, m < n ∧ ∃ i H', Inv (X.blk s3 H3 scope ce fp) [] (wipe σ (own.map (·.2))) H' t ∧ tn i t.heap ∧ (∀ b ∈ fp, H' b = none) ∧ Wv i m H' := fun {t H'} K' nx => by
        obtain ⟨m', hm, w'⟩ := hNx H' nx
        have pin : ∀ b ∈ fp, ∀ o, t7.heap.get? b = some o → t.heap.get? b = some o ∧ H' b = none := fun b hb o e =>
          let z := K'.pin (b, o) (List.mem_append_right _ (List.mem_append_right _ (mem_pinsAt hb e)))
          ⟨z.1, z.2.1⟩
        refine ⟨m', hm, i + 1, H', (K'.unpinned (pins := [])).weak (by rw [← hw8, wipe_length]) (fun j v e => ?_), T.keep _ _ _ st7 fun b hb o e => (pin b hb o e).1, fun b hb => ?_, w'⟩
        · rw [← hw8] at e
          exact (wipe_some e).1
        · obtain ⟨o, e, _⟩ := T.obj _ _ st7 b hb
          exact (pin b hb o e).2
      cases b with
      | false =>
        simp only [Bool.false_eq_true, if_false] at q9 ⊢
        exact fin K9 q9
      | true =>
        simp only [if_true] at q9 ⊢
        refine wpAny_mono (pe.run _ t9 σ8 H9 _ (K9.wish _) q9) (fun z t10 ⟨yv, H10, K10, r10, acc, hD10, hz10, nx⟩ => ?_) fun u t10 out => ?_
        · exact app_ok (X := X.blk s3 H3 scope ce fp) K10.unwish hD10 hz10 r10 fun t11 K11 => fin K11 nx
        · exact out_post tk hst hf J3 f3 cL cF out
  exact codeAny_compStart_list loop (T.self X.A 0 _ _ _ st4 loop)
/-- as a value -/
theorem pe_lcR {W : WX} {elt tg iter : Expr} {ifs : List Expr} {scope : Scope} {own : List (Str × Nat)} {pos : Pos} {wi : TI} {g : TG} {tt : TT} {te : L2.St → TE} (tk : Takes X W) (hst : X.stack = X.env :: X.outer) (hf : X.env.frame = some X.env.locals) (hc : X.calm = true) (hN : X.N.Nodup)
    (hi : PI X tg iter wi) (ok : BlkOk X.N X.env.scope scope own) (hg : ∀ (s : Shared) (H : Hp) (C : Addr) (cl : List (Str × Addr)) (fp : List Addr), PG (X.blk s H scope (compEnvC scope cl C X.env) fp) tg g)
    (ht : ∀ (s : Shared) (H : Hp) (C : Addr) (cl : List (Str × Addr)) (fp : List Addr), PTs (X.blk s H scope (compEnvC scope cl C X.env) fp) ifs tt)
    (he : ∀ (σ : L2.St) (s : Shared) (H : Hp) (C : Addr) (cl : List (Str × Addr)) (fp : List Addr), PE ((X.blk s H scope (compEnvC scope cl C X.env) fp).wish (OutE X W σ s H scope (compEnvC scope cl C X.env) fp)) elt (te σ)) (hs : ∀ x, foldedSetIterable iter X.env x = pure x := by intro _; rfl) :
    PE X (.ListComp elt [⟨tg, iter, ifs, 0⟩] scope pos) (fun σ H Q => tLc wi g tt (te σ) (own.map (·.2)) σ H Q) := by
  refine ⟨fun pins s σ H Q I h => ?_⟩
  rw [eval_ListComp]
  refine lcR_core tk hst hf hc hN I hi ok hg ht (fun s H C cl fp _ _ => he σ s H C cl fp) hs h fun D C t m H' K q hn f => ⟨m, hn, fun h2 sb => ?_⟩
  obtain ⟨f0, f1, f2, f3, f4, f5⟩ := f
  exact ⟨.ref D, H', K.turned (t' := t.toks) (fun b o hb e => (sb.2 b hb).trans e) f0 f1 f3 f4 f5, rfl, q⟩
/-- the element may lean on what the def knows -/
theorem pe_lcJ {W : WX} {elt tg iter : Expr} {ifs : List Expr} {scope : Scope} {own : List (Str × Nat)} {pos : Pos} {wi : TI} {g : TG} {tt : TT} {te : L2.St → TE} (tk : Takes X W) (hst : X.stack = X.env :: X.outer) (hf : X.env.frame = some X.env.locals) (hc : X.calm = true) (hN : X.N.Nodup)
    (hi : PI X tg iter wi) (ok : BlkOk X.N X.env.scope scope own) (hg : ∀ (s : Shared) (H : Hp) (C : Addr) (cl : List (Str × Addr)) (fp : List Addr), PG (X.blk s H scope (compEnvC scope cl C X.env) fp) tg g)
    (ht : ∀ (s : Shared) (H : Hp) (C : Addr) (cl : List (Str × Addr)) (fp : List Addr), PTs (X.blk s H scope (compEnvC scope cl C X.env) fp) ifs tt)
    (he : ∀ (pins : List (Addr × Obj)) (σ : L2.St) (s : Shared) (H : Hp) (C : Addr) (cl : List (Str × Addr)) (fp : List Addr), Inv X pins σ H s → (∀ b ∈ fp, FpOk X pins H b ∧ b < s.heap.objs.size) → PE ((X.blk s H scope (compEnvC scope cl C X.env) fp).wish (OutE X W σ s H scope (compEnvC scope cl C X.env) fp)) elt (te σ)) (hs : ∀ x, foldedSetIterable iter X.env x = pure x := by intro _; rfl) :
    PE X (.ListComp elt [⟨tg, iter, ifs, 0⟩] scope pos) (fun σ H Q => tLc wi g tt (te σ) (own.map (·.2)) σ H Q) := by
  refine ⟨fun pins s σ H Q I h => ?_⟩
  rw [eval_ListComp]
  refine lcR_core tk hst hf hc hN I hi ok hg ht (he pins σ) hs h fun D C t m H' K q hn f => ⟨m, hn, fun h2 sb => ?_⟩
  obtain ⟨f0, f1, f2, f3, f4, f5⟩ := f
  exact ⟨.ref D, H', K.turned (t' := t.toks) (fun b o hb e => (sb.2 b hb).trans e) f0 f1 f3 f4 f5, rfl, q⟩
/-- name = [..] -/
theorem ps_setLcR {W : WX} {i : Nat} {y : Str} {py : Pos} {elt tg iter : Expr} {ifs : List Expr} {scope : Scope} {own : List (Str × Nat)} {pos spos : Pos} {wi : TI} {g : TG} {tt : TT} {te : L2.St → TE} (tk : Takes X W) (hst : X.stack = X.env :: X.outer) (hf : X.env.frame = some X.env.locals) (hc : X.calm = true)
    (hN : X.N.Nodup) (hy : X.N[i]? = some y) (hyl : X.env.scope.names.lookup y = some .local) (hsw : swapsWith (.ListComp elt [⟨tg, iter, ifs, 0⟩] scope pos) (some (.Name y py)) spos.line X.env = pure true)
    (hi : PI X tg iter wi) (ok : BlkOk X.N X.env.scope scope own) (hg : ∀ (s : Shared) (H : Hp) (C : Addr) (cl : List (Str × Addr)) (fp : List Addr), PG (X.blk s H scope (compEnvC scope cl C X.env) fp) tg g)
    (ht : ∀ (s : Shared) (H : Hp) (C : Addr) (cl : List (Str × Addr)) (fp : List Addr), PTs (X.blk s H scope (compEnvC scope cl C X.env) fp) ifs tt)
    (he : ∀ (σ : L2.St) (s : Shared) (H : Hp) (C : Addr) (cl : List (Str × Addr)) (fp : List Addr), PE ((X.blk s H scope (compEnvC scope cl C X.env) fp).wish (OutE X W σ s H scope (compEnvC scope cl C X.env) fp)) elt (te σ)) (hs : ∀ x, foldedSetIterable iter X.env x = pure x := by intro _; rfl) :
    PS X (.Assign [.Name y py] (.ListComp elt [⟨tg, iter, ifs, 0⟩] scope pos) spos) (tAsg (fun σ H Q => tLc wi g tt (te σ) (own.map (·.2)) σ H Q) (gName i)) := by
  refine ⟨fun pins s σ H D I h => ?_⟩
  rw [exec_Assign_Name_used _ _ _ _ hsw]
  refine wpAny_bind (wpAny_standAt (wpAny_bind ?_))
  show wpAny _ X.A (do let _ ← comprehension (.ListComp elt [⟨tg, iter, ifs, 0⟩] scope pos) scope X.env (firstIterPos [⟨tg, iter, ifs, 0⟩] pos) (newList []) false (eval iter X.env) (some (assign (.Name y py) X.env))) _ _ s
  have h : tLc wi g tt (te σ) (own.map (·.2)) σ H (fun x H1 => gName i x σ H1 D.nx) := h
  refine wpAny_bind (thn (lcR_core (Qf := fun _ t => SP X pins D .next t) tk hst hf hc hN I hi ok hg ht (fun s H C cl fp _ _ => he σ s H C cl fp) hs h fun L C t m H' K q hn f => ?_) fun _ t hq => wpAny_pure (wpAny_pure hq))
  show wpAny _ _ (assign (.Name y py) X.env (.ref L)) _ _ _
  refine wpAny_assign_Name (store_ok2 (v := V.ref L) K hN hy (.inl hyl) rfl (fun t2 K2 ⟨a, sb, ha⟩ => ?_) (.inr hyl))
  obtain ⟨f0, f1, f2, f3, f4, f5⟩ := f
  have haC : C ≠ a := ha.elim (fun z => by rw [z]; exact f1) fun z e => f4 y a z e.symm
  exact ⟨m, hn.sameBut sb haC, fun h3 sb3 => ⟨_, H', K2.turned (t' := t2.toks) (fun b o hb e => (sb3.2 b hb).trans e) f0 f1 f3 f4 f5, q⟩⟩
end
end DL

set_option Elab.async false
set_option linter.all false
set_option maxRecDepth 100000
set_option maxHeartbeats 2000000
namespace DL
open PySem PySem.Spec PyProof.Rows L2
/-! ### comprehensions whose turns may raise -/
def lcMR (g : GM) (mt : EM Bool) (me : EM D) (env0 : Env') : List D → List D → Sto → Out D
  | [], acc, st => .ok (.lst acc) st
  | d :: ds, acc, st => match g d env0 st with
    | none => .bad
    | some (env2, st2) => (match mt env2 st2 with
      | .ok b st3 => if b then (match me env2 st3 with
          | .ok y st4 => if acc.length < 100000 then lcMR g mt me env0 ds (acc ++ [y]) st4 else .bad
          | .err c fs st4 => .err c fs st4
          | .bad => .bad) else lcMR g mt me env0 ds acc st3
      | _ => .bad)
def eLcR (mi : EM (List D)) (g : GM) (mt : EM Bool) (me : EM D) (vs : List Nat) : EM D := fun env st => bnd (mi env st) fun ds st => lcMR g mt me (wipeE env vs) ds [] st
section
variable {G : Gr}
theorem dlcR {W : WX} {mi : EM (List D)} {g : GM} {mt : EM Bool} {me : EM D} {vs us : List Nat} (hu : ∀ i ∈ us, i ∈ vs) {σ : L2.St} {H : Hp} {Q : VK} (h : dE G W (eLcR mi g mt me vs) σ H Q) : tLc (dI G W mi) (dGv G g us) (dT G WF mt) (dE G (fun c d _ H' => W c d σ H') me) vs σ H Q := by
  obtain ⟨w, env, st, rs, re, h⟩ := h
  refine ⟨w, env, st, rs, re, Fit.bind h fun ds st1 w1 H1 J rs1 e1 wk h1 => fun P hP => ?_⟩
  have re1 := re.ext e1
  refine ⟨fun i m H' => m = ds.length - i ∧ i ≤ ds.length ∧ ∃ w' st' xs acc, RSt G.K G.T w' st' H' ∧ Ext w1 H1 w' H' ∧ w'.liv P ∧ (∀ n : Nat, w'.adr[n]? ≠ some P) ∧ H' P = some (.lst xs) ∧ Reps G.K w' H' xs acc ∧
      FitD G w1 H1 Q (fun c d H' => W c d σ H') (lcMR g mt me (wipeE env vs) (ds.drop i) acc st'),
    ⟨ds.length, by simp, Nat.zero_le _, w1.plus P, st1, [], [], ?_, ?_, .inr rfl, fun n => rs1.notIn hP, upd_same, .nil, h1⟩, ?_⟩
  · refine ⟨rs1.len, rs1.nd, fun a l => ?_, fun n a zs g1 g2 => .inl (rs1.livL n a zs g1 g2), fun n a zs g1 g2 l => ?_, fun n a c g1 g2 => ?_, rs1.tab.ext fun b u hb => by rw [upd_ne (ne_of_none hb hP)]; exact hb⟩
    · rcases l with l | l
      · obtain ⟨o, ez, m⟩ := rs1.livH a l
        exact ⟨o, by rw [upd_ne (ne_of_none ez hP)]; exact ez, m⟩
      · rw [l]
        exact ⟨_, upd_same, trivial⟩
    · rcases l with l | l
      · exact rs1.livF n a zs g1 g2 l
      · rw [l] at g1
        exact rs1.notIn hP g1
    · obtain ⟨zs, ez, q⟩ := rs1.cell n a c g1 g2
      have e00 : Ext0 w1 H1 (w1.plus P) (upd H1 P (.lst [])) := by
        refine ⟨fun _ _ z => z, fun b u hb nl _ => ⟨by rw [upd_ne (ne_of_none hb hP)]; exact hb, fun z => ?_⟩⟩
        rcases z with z | z
        · exact nl z
        · exact ne_of_none hb hP z
      exact ⟨zs, by rw [upd_ne (ne_of_none ez hP)]; exact ez, q.ext0 e00⟩
  · refine ⟨⟨fun _ _ z => z, fun b u hb nl _ => ⟨by rw [upd_ne (ne_of_none hb hP)]; exact hb, fun z => ?_⟩⟩, fun b u l nn hb => ⟨by rw [upd_ne (ne_of_none hb hP)]; exact hb, .inl l, nn⟩⟩
    rcases z with z | z
    · exact nl z
    · exact ne_of_none hb hP z
  · rintro i m H' ⟨rfl, hle, w', st', xs, acc, rs', e', lP, nP, hxs, racc, h'⟩
    by_cases hlt : i < ds.length
    · have hd : ds[i]? = some ds[i] := List.getElem?_eq_getElem hlt
      obtain ⟨go, yl⟩ := (wk i w' H' e').1 _ hd
      refine .inr ⟨go, fun H2 => ∃ w2 st2 xs2 acc2, RSt G.K G.T w2 st2 H2 ∧ Ext w1 H1 w2 H2 ∧ w2.liv P ∧ (∀ n : Nat, w2.adr[n]? ≠ some P) ∧ H2 P = some (.lst xs2) ∧ Reps G.K w2 H2 xs2 acc2 ∧
        FitD G w1 H1 Q (fun c d H' => W c d σ H') (lcMR g mt me (wipeE env vs) (ds.drop (i + 1)) acc2 st2), fun H2 q => ⟨ds.length - (i + 1), by omega, rfl, hlt, q⟩, fun x H2 y => ?_⟩
      obtain ⟨k1, k2, k3⟩ := yl x H2 y st' rs'
      obtain ⟨p1, p2, p3⟩ := k2.frn P _ lP nP hxs
      rw [List.drop_eq_getElem_cons hlt] at h'
      refine ⟨w', wipeE env vs, st', ds[i], k1, ((re1.ext e').ext k2).wipe vs, k3, ?_⟩
      unfold lcMR at h'
      cases q : g ds[i] (wipeE env vs) st' with
      | none => rw [q] at h'; exact h'
      | some pr =>
        obtain ⟨env2, st2⟩ := pr
        rw [q] at h'
        dsimp only at h' ⊢
        intro w2 H3 σ2 rs2 e2 re2 f2
        refine ⟨by rw [wipe_fr f2 hu, wipe_wipe], w2, env2, st2, rs2, re2, ?_⟩
        cases q2 : mt env2 st2 with
        | err _ _ _ => rw [q2] at h'; exact h'.elim
        | bad => rw [q2] at h'; exact h'
        | ok b st3 =>
          rw [q2] at h'
          dsimp only at h'
          intro w3 H4 b' rs3 e3 eb
          subst eb
          have ee := ((e'.trans k2).trans e2).trans e3
          obtain ⟨r1, r2, r3⟩ := (e2.trans e3).frn P _ p2 p3 p1
          cases b' with
          | false =>
            exact ⟨w3, st3, xs, acc, rs3, ee, r2, r3, r1, ((racc.ext k2).ext e2).ext e3, h'⟩
          | true =>
            rw [if_pos rfl]
            rw [if_pos rfl] at h'
            refine ⟨w3, env2, st3, rs3, re2.ext e3, ?_⟩
            cases q3 : me env2 st3 with
            | err c fs st4 =>
              rw [q3] at h'
              intro w4 H5 cls dx rs4 e4 ex4
              exact h' w4 H5 cls dx rs4 (ee.trans e4) ex4
            | bad => rw [q3] at h'; exact h'
            | ok yd st4 =>
              rw [q3] at h'
              dsimp only at h'
              intro w4 H5 yv rs4 e4 ry
              obtain ⟨t1, t2, t3⟩ := e4.frn P _ r2 r3 r1
              have racc4 := (((racc.ext k2).ext e2).ext e3).ext e4
              by_cases hl : acc.length < 100000
              · rw [if_pos hl] at h'
                have e0 : Ext0 w4 H5 w4 (upd H5 P (.lst (xs ++ [yv]))) := ⟨fun _ _ z => z, fun b u hb nl _ => ⟨by rw [upd_ne (fun z : b = P => nl (z ▸ t2))]; exact hb, nl⟩⟩
                refine ⟨xs, t1, lt_line (by rw [racc.length]; exact hl), w4, st4, xs ++ [yv], acc ++ [yd], ?_, ?_, t2, t3, upd_same, (racc4.ext0 e0).append (.cons (ry.ext0 e0) .nil), h'⟩
                · refine ⟨rs4.len, rs4.nd, fun a l => ?_, rs4.livL, rs4.livF, fun n a c g1 g2 => ?_, tabs_put rs4.tab t1⟩
                  · by_cases ea : a = P
                    · rw [ea]; exact ⟨_, upd_same, trivial⟩
                    · obtain ⟨o, ez, m⟩ := rs4.livH a l
                      exact ⟨o, by rw [upd_ne ea]; exact ez, m⟩
                  · obtain ⟨zs, ez, qz⟩ := rs4.cell n a c g1 g2
                    exact ⟨zs, by rw [upd_ne (fun z : a = P => t3 n (z ▸ g1))]; exact ez, qz.ext0 e0⟩
                · have e5 := ee.trans e4
                  exact ⟨⟨e5.pre, fun b u hb nl nt => let ⟨z1, z2⟩ := e5.keep b u hb nl nt; ⟨by rw [upd_ne (ne_of_none hb hP)]; exact z1, z2⟩⟩, fun b u l nn hb => let ⟨z1, z2, z3⟩ := e5.frn b u l nn hb; ⟨by rw [upd_ne (ne_of_none hb hP)]; exact z1, z2, z3⟩⟩
              · rw [if_neg hl] at h'
                exact h'.elim
    · have ei : i = ds.length := by omega
      refine .inl ⟨(wk i w' H' e').2 ei, ?_⟩
      rw [ei, List.drop_length] at h'
      have e0 : Ext0 w' H' (w'.drop P) H' := ⟨fun _ _ z => z, fun b u hb nl _ => ⟨hb, fun z => nl z.1⟩⟩
      refine h' (w'.drop P) H' (.ref P) ⟨rs'.len, rs'.nd, fun a l => rs'.livH a l.1, fun n a zs g1 g2 => ⟨rs'.livL n a zs g1 g2, fun z => nP n (z ▸ g1)⟩, fun n a zs g1 g2 l => rs'.livF n a zs g1 g2 l.1, fun n a c g1 g2 => ?_, rs'.tab⟩ ?_ (.lst ⟨hxs, fun z => z.2 rfl⟩ (racc.ext0 e0))
      · obtain ⟨zs, ez, qz⟩ := rs'.cell n a c g1 g2
        exact ⟨zs, ez, qz.ext0 e0⟩
      · exact ⟨⟨e'.pre, fun b u hb nl nt => let ⟨z1, z2⟩ := e'.keep b u hb nl nt; ⟨z1, fun z => z2 z.1⟩⟩, fun b u l nn hb => let ⟨z1, z2, z3⟩ := e'.frn b u l nn hb; ⟨z1, ⟨z2, ne_of_none hb hP⟩, z3⟩⟩
theorem dlcJ {W : WX} {mi : EM (List D)} {g : GM} {mt : EM Bool} {me : EM D} {vs us : List Nat} (hu : ∀ i ∈ us, i ∈ vs) {σ : L2.St} {H : Hp} {Q : VK} (h : dE G W (eLcR mi g mt me vs) σ H Q) : tLc (dI G W mi) (dGv G g us) (dT G WF mt) (fun σ2 H Q => L2.wipe σ2 vs = L2.wipe σ vs ∧ dE G (fun c d _ H' => W c d σ H') me σ2 H Q) vs σ H Q := by
  obtain ⟨w, env, st, rs, re, h⟩ := h
  refine ⟨w, env, st, rs, re, Fit.bind h fun ds st1 w1 H1 J rs1 e1 wk h1 => fun P hP => ?_⟩
  have re1 := re.ext e1
  refine ⟨fun i m H' => m = ds.length - i ∧ i ≤ ds.length ∧ ∃ w' st' xs acc, RSt G.K G.T w' st' H' ∧ Ext w1 H1 w' H' ∧ w'.liv P ∧ (∀ n : Nat, w'.adr[n]? ≠ some P) ∧ H' P = some (.lst xs) ∧ Reps G.K w' H' xs acc ∧
      FitD G w1 H1 Q (fun c d H' => W c d σ H') (lcMR g mt me (wipeE env vs) (ds.drop i) acc st'),
    ⟨ds.length, by simp, Nat.zero_le _, w1.plus P, st1, [], [], ?_, ?_, .inr rfl, fun n => rs1.notIn hP, upd_same, .nil, h1⟩, ?_⟩
  · refine ⟨rs1.len, rs1.nd, fun a l => ?_, fun n a zs g1 g2 => .inl (rs1.livL n a zs g1 g2), fun n a zs g1 g2 l => ?_, fun n a c g1 g2 => ?_, rs1.tab.ext fun b u hb => by rw [upd_ne (ne_of_none hb hP)]; exact hb⟩
    · rcases l with l | l
      · obtain ⟨o, ez, m⟩ := rs1.livH a l
        exact ⟨o, by rw [upd_ne (ne_of_none ez hP)]; exact ez, m⟩
      · rw [l]
        exact ⟨_, upd_same, trivial⟩
    · rcases l with l | l
      · exact rs1.livF n a zs g1 g2 l
      · rw [l] at g1
        exact rs1.notIn hP g1
    · obtain ⟨zs, ez, q⟩ := rs1.cell n a c g1 g2
      have e00 : Ext0 w1 H1 (w1.plus P) (upd H1 P (.lst [])) := by
        refine ⟨fun _ _ z => z, fun b u hb nl _ => ⟨by rw [upd_ne (ne_of_none hb hP)]; exact hb, fun z => ?_⟩⟩
        rcases z with z | z
        · exact nl z
        · exact ne_of_none hb hP z
      exact ⟨zs, by rw [upd_ne (ne_of_none ez hP)]; exact ez, q.ext0 e00⟩
  · refine ⟨⟨fun _ _ z => z, fun b u hb nl _ => ⟨by rw [upd_ne (ne_of_none hb hP)]; exact hb, fun z => ?_⟩⟩, fun b u l nn hb => ⟨by rw [upd_ne (ne_of_none hb hP)]; exact hb, .inl l, nn⟩⟩
    rcases z with z | z
    · exact nl z
    · exact ne_of_none hb hP z
  · rintro i m H' ⟨rfl, hle, w', st', xs, acc, rs', e', lP, nP, hxs, racc, h'⟩
    by_cases hlt : i < ds.length
    · have hd : ds[i]? = some ds[i] := List.getElem?_eq_getElem hlt
      obtain ⟨go, yl⟩ := (wk i w' H' e').1 _ hd
      refine .inr ⟨go, fun H2 => ∃ w2 st2 xs2 acc2, RSt G.K G.T w2 st2 H2 ∧ Ext w1 H1 w2 H2 ∧ w2.liv P ∧ (∀ n : Nat, w2.adr[n]? ≠ some P) ∧ H2 P = some (.lst xs2) ∧ Reps G.K w2 H2 xs2 acc2 ∧
        FitD G w1 H1 Q (fun c d H' => W c d σ H') (lcMR g mt me (wipeE env vs) (ds.drop (i + 1)) acc2 st2), fun H2 q => ⟨ds.length - (i + 1), by omega, rfl, hlt, q⟩, fun x H2 y => ?_⟩
      obtain ⟨k1, k2, k3⟩ := yl x H2 y st' rs'
      obtain ⟨p1, p2, p3⟩ := k2.frn P _ lP nP hxs
      rw [List.drop_eq_getElem_cons hlt] at h'
      refine ⟨w', wipeE env vs, st', ds[i], k1, ((re1.ext e').ext k2).wipe vs, k3, ?_⟩
      unfold lcMR at h'
      cases q : g ds[i] (wipeE env vs) st' with
      | none => rw [q] at h'; exact h'
      | some pr =>
        obtain ⟨env2, st2⟩ := pr
        rw [q] at h'
        dsimp only at h' ⊢
        intro w2 H3 σ2 rs2 e2 re2 f2
        refine ⟨by rw [wipe_fr f2 hu, wipe_wipe], w2, env2, st2, rs2, re2, ?_⟩
        cases q2 : mt env2 st2 with
        | err _ _ _ => rw [q2] at h'; exact h'.elim
        | bad => rw [q2] at h'; exact h'
        | ok b st3 =>
          rw [q2] at h'
          dsimp only at h'
          intro w3 H4 b' rs3 e3 eb
          subst eb
          have ee := ((e'.trans k2).trans e2).trans e3
          obtain ⟨r1, r2, r3⟩ := (e2.trans e3).frn P _ p2 p3 p1
          cases b' with
          | false =>
            exact ⟨w3, st3, xs, acc, rs3, ee, r2, r3, r1, ((racc.ext k2).ext e2).ext e3, h'⟩
          | true =>
            rw [if_pos rfl]
            rw [if_pos rfl] at h'
            refine ⟨by rw [wipe_fr f2 hu, wipe_wipe], w3, env2, st3, rs3, re2.ext e3, ?_⟩
            cases q3 : me env2 st3 with
            | err c fs st4 =>
              rw [q3] at h'
              intro w4 H5 cls dx rs4 e4 ex4
              exact h' w4 H5 cls dx rs4 (ee.trans e4) ex4
            | bad => rw [q3] at h'; exact h'
            | ok yd st4 =>
              rw [q3] at h'
              dsimp only at h'
              intro w4 H5 yv rs4 e4 ry
              obtain ⟨t1, t2, t3⟩ := e4.frn P _ r2 r3 r1
              have racc4 := (((racc.ext k2).ext e2).ext e3).ext e4
              by_cases hl : acc.length < 100000
              · rw [if_pos hl] at h'
                have e0 : Ext0 w4 H5 w4 (upd H5 P (.lst (xs ++ [yv]))) := ⟨fun _ _ z => z, fun b u hb nl _ => ⟨by rw [upd_ne (fun z : b = P => nl (z ▸ t2))]; exact hb, nl⟩⟩
                refine ⟨xs, t1, lt_line (by rw [racc.length]; exact hl), w4, st4, xs ++ [yv], acc ++ [yd], ?_, ?_, t2, t3, upd_same, (racc4.ext0 e0).append (.cons (ry.ext0 e0) .nil), h'⟩
                · refine ⟨rs4.len, rs4.nd, fun a l => ?_, rs4.livL, rs4.livF, fun n a c g1 g2 => ?_, tabs_put rs4.tab t1⟩
                  · by_cases ea : a = P
                    · rw [ea]; exact ⟨_, upd_same, trivial⟩
                    · obtain ⟨o, ez, m⟩ := rs4.livH a l
                      exact ⟨o, by rw [upd_ne ea]; exact ez, m⟩
                  · obtain ⟨zs, ez, qz⟩ := rs4.cell n a c g1 g2
                    exact ⟨zs, by rw [upd_ne (fun z : a = P => t3 n (z ▸ g1))]; exact ez, qz.ext0 e0⟩
                · have e5 := ee.trans e4
                  exact ⟨⟨e5.pre, fun b u hb nl nt => let ⟨z1, z2⟩ := e5.keep b u hb nl nt; ⟨by rw [upd_ne (ne_of_none hb hP)]; exact z1, z2⟩⟩, fun b u l nn hb => let ⟨z1, z2, z3⟩ := e5.frn b u l nn hb; ⟨by rw [upd_ne (ne_of_none hb hP)]; exact z1, z2, z3⟩⟩
              · rw [if_neg hl] at h'
                exact h'.elim
    · have ei : i = ds.length := by omega
      refine .inl ⟨(wk i w' H' e').2 ei, ?_⟩
      rw [ei, List.drop_length] at h'
      have e0 : Ext0 w' H' (w'.drop P) H' := ⟨fun _ _ z => z, fun b u hb nl _ => ⟨hb, fun z => nl z.1⟩⟩
      refine h' (w'.drop P) H' (.ref P) ⟨rs'.len, rs'.nd, fun a l => rs'.livH a l.1, fun n a zs g1 g2 => ⟨rs'.livL n a zs g1 g2, fun z => nP n (z ▸ g1)⟩, fun n a zs g1 g2 l => rs'.livF n a zs g1 g2 l.1, fun n a c g1 g2 => ?_, rs'.tab⟩ ?_ (.lst ⟨hxs, fun z => z.2 rfl⟩ (racc.ext0 e0))
      · obtain ⟨zs, ez, qz⟩ := rs'.cell n a c g1 g2
        exact ⟨zs, ez, qz.ext0 e0⟩
      · exact ⟨⟨e'.pre, fun b u hb nl nt => let ⟨z1, z2⟩ := e'.keep b u hb nl nt; ⟨z1, fun z => z2 z.1⟩⟩, fun b u l nn hb => let ⟨z1, z2, z3⟩ := e'.frn b u l nn hb; ⟨z1, ⟨z2, ne_of_none hb hP⟩, z3⟩⟩
end
section
variable {X : Cx} {G : Gr} {W : WX} {elt tg iter : Expr} {ifs : List Expr} {scope : Scope} {own : List (Str × Nat)} {pos : Pos} {mi : EM (List D)} {g : GM} {mt : EM Bool} {me : EM D} {us : List Nat}
/-- a call in a block that lets exceptions out -/
theorem de_hasO {Y : Cx} {e : Expr} {es : List Expr} {mr : EM (List D)} {p pos : Pos} {x : Str} {ps : List Str} {n k : Nat} {m : List D → Sto → Out D} {σ0 : L2.St} {s : Shared} {H : Hp} {ce : Env} {fp : List Addr} (hY : Y = (X.blk s H scope ce fp).wish (OutE X W σ0 s H scope ce fp))
    (F : Has X.prog X.w X.base G x ps k m) (hn : ps.length = n) (hK : G.K = X.K) (hM : G.mg = X.mg) (hr : Room k X.A) (hg : Gl Y x) (ha : PA Y (e :: es) (dA G (fun c d _ H' => W c d σ0 H') mr)) (hdb : (x == ("__debug__" : Str)) = false := by decide)
    (he : starEach (e :: es) Y.env = (false, eval e Y.env) :: starEach es Y.env := by rfl) (hpl : (backTo pos (starEach es Y.env)).any (·.1) = false := by rfl) : PE Y (.Call (.Name x p) (e :: es) [] pos) (dE G (fun c d _ H' => W c d σ0 H') (eCall n m mr)) := by
  subst hY
  obtain ⟨f, fd, h1, h2, h3, h4⟩ := F
  subst hn
  rw [hK, hM] at h4
  rw [hM] at h1
  rw [hK] at h2 h3
  exact PE.imp (pe_callS h4 hr hg h1 h2 h3 (fun σ pins H1 s1 e1 s2 I c => ⟨pins, σ, H1, s1, I.unwish, c⟩) ha hdb he hpl) fun _ _ _ q => dcall q
theorem de_lcR (own : List (Str × Nat)) (tk : Takes X W) (hst : X.stack = X.env :: X.outer) (hf : X.env.frame = some X.env.locals) (hc : X.calm = true) (hN : X.N.Nodup) (hi : PI X tg iter (dI G W mi)) (ok : BlkOk X.N X.env.scope scope own) (hu : ∀ i ∈ us, i ∈ own.map (·.2))
    (hg : ∀ (s : Shared) (H : Hp) (C : Addr) (cl : List (Str × Addr)) (fp : List Addr), PG (X.blk s H scope (compEnvC scope cl C X.env) fp) tg (dGv G g us))
    (ht : ∀ (s : Shared) (H : Hp) (C : Addr) (cl : List (Str × Addr)) (fp : List Addr), PTs (X.blk s H scope (compEnvC scope cl C X.env) fp) ifs (dT G WF mt))
    (he : ∀ (σ : L2.St) (s : Shared) (H : Hp) (C : Addr) (cl : List (Str × Addr)) (fp : List Addr), PE ((X.blk s H scope (compEnvC scope cl C X.env) fp).wish (OutE X W σ s H scope (compEnvC scope cl C X.env) fp)) elt (dE G (fun c d _ H' => W c d σ H') me)) (hs : ∀ x, foldedSetIterable iter X.env x = pure x := by intro _; rfl) :
    PE X (.ListComp elt [⟨tg, iter, ifs, 0⟩] scope pos) (dE G W (eLcR mi g mt me (own.map (·.2)))) := PE.imp (pe_lcR tk hst hf hc hN hi ok hg ht he hs) fun _ _ _ q => dlcR hu q
theorem ds_setLcR {i : Nat} {y : Str} {py spos : Pos} (own : List (Str × Nat)) (tk : Takes X W) (hst : X.stack = X.env :: X.outer) (hf : X.env.frame = some X.env.locals) (hc : X.calm = true) (hN : X.N.Nodup) (hy : X.N[i]? = some y) (hyl : X.env.scope.names.lookup y = some .local)
    (hsw : swapsWith (.ListComp elt [⟨tg, iter, ifs, 0⟩] scope pos) (some (.Name y py)) spos.line X.env = pure true) (hi : PI X tg iter (dI G W mi)) (ok : BlkOk X.N X.env.scope scope own) (hu : ∀ i ∈ us, i ∈ own.map (·.2))
    (hg : ∀ (s : Shared) (H : Hp) (C : Addr) (cl : List (Str × Addr)) (fp : List Addr), PG (X.blk s H scope (compEnvC scope cl C X.env) fp) tg (dGv G g us))
    (ht : ∀ (s : Shared) (H : Hp) (C : Addr) (cl : List (Str × Addr)) (fp : List Addr), PTs (X.blk s H scope (compEnvC scope cl C X.env) fp) ifs (dT G WF mt))
    (he : ∀ (σ : L2.St) (s : Shared) (H : Hp) (C : Addr) (cl : List (Str × Addr)) (fp : List Addr), PE ((X.blk s H scope (compEnvC scope cl C X.env) fp).wish (OutE X W σ s H scope (compEnvC scope cl C X.env) fp)) elt (dE G (fun c d _ H' => W c d σ H') me)) (hs : ∀ x, foldedSetIterable iter X.env x = pure x := by intro _; rfl) :
    PS X (.Assign [.Name y py] (.ListComp elt [⟨tg, iter, ifs, 0⟩] scope pos) spos) (dS G W (sAsg (eLcR mi g mt me (own.map (·.2))) (gN i))) := PS.imp (ps_setLcR tk hst hf hc hN hy hyl hsw hi ok hg ht he hs) fun Dn σ H ⟨w, env, st, rs, re, h⟩ => by
  show tLc (dI G W mi) (dGv G g us) (dT G WF mt) (dE G (fun c d _ H' => W c d σ H') me) (own.map (·.2)) σ H (fun x H1 => gName i x σ H1 Dn.nx)
  refine dlcR hu ⟨w, env, st, rs, re, FitS.bind re h fun d st1 w1 H1 v rs1 e1 rv h1 => ?_⟩
  exact h1 w1 H1 _ rs1 (Ext.refl _ _) ((re.ext e1).set i rv)
/-- what is not reached -/
def sBad : SM := fun _ _ => .bad
theorem dss_bad {ss : List Stmt} : PSs X ss (dS G W sBad) := ⟨fun pins s σ H D I h => by
  obtain ⟨w, env, st, rs, re, h⟩ := h
  exact h.elim⟩
end
end DL

set_option Elab.async false
set_option linter.all false
set_option maxRecDepth 100000
set_option maxHeartbeats 4000000
/-! sets of texts: made of a list or a tuple, sorted -/
namespace DL
open PySem PySem.Spec PyProof.Rows L2
def keyS (e : Int × Value) : Str := match e.2 with
  | .str k _ => k
  | _ => Str.empty
def OkS (P : Program) (w : World) (e : Int × Value) : Prop := ∃ k tk, e.2 = Value.str k tk ∧ e.1 = (PySem.strKind P w).hash k
/-- at a a set of just the texts L; its table rises and can be walked -/
def SetS (P : Program) (w : World) (h : Heap) (a : Addr) (L : List Str) : Prop :=
  ∃ o es ep t, h.get? a = some o ∧ o.ExactSet ∧ o.data = .set es ep t ∧ ((∀ e ∈ es.toList, OkS P w e) ∧ (es.toList.map keyS).Nodup ∧ (∀ k, k ∈ es.toList.map keyS ↔ k ∈ L) ∧ es.size ≤ L.length) ∧
    L.length < scanBound ∧ t.fits es.size = true ∧ Ris t.place.toList ∧ (w.params.followText "set-order" = true ∨ t.led = true)
section
variable {P : Program} {w : World} {h h' : Heap} {a : Addr} {L : List Str}
theorem SetS.keep (R : SetS P w h a L) (k : ∀ o, h.get? a = some o → h'.get? a = some o) : SetS P w h' a L := by
  obtain ⟨o, es, ep, t, q, r⟩ := R
  exact ⟨o, es, ep, t, k o q, r⟩
theorem okS_elems {l : List (Int × Value)} (g : ∀ e ∈ l, OkS P w e) : ElemsOf (PySem.strKind P w) l := fun e he => by
  obtain ⟨k, tk, q1, q2⟩ := g e he
  exact ⟨⟨k, by rw [q1]; exact strKind_is P w k tk, q2⟩, by rw [q1] <;> rfl⟩
theorem okS_is {e : Int × Value} (g : OkS P w e) (k : Str) : (PySem.strKind P w).is k e.2 = true ↔ keyS e = k := by
  obtain ⟨k0, tk, q, _⟩ := g
  unfold keyS
  rw [q]
  constructor
  · intro z
    exact (PySem.strKind P w).inj _ _ _ (strKind_is P w k0 tk) z
  · rintro rfl
    exact strKind_is P w k0 tk
theorem okS_mem {l : List (Int × Value)} (g : ∀ e ∈ l, OkS P w e) (k : Str) : k ∈ l.map keyS ↔ ∃ e ∈ l, (PySem.strKind P w).is k e.2 = true :=
  ⟨fun z => let ⟨e, he, q⟩ := List.mem_map.mp z; ⟨e, he, (okS_is (g e he) k).2 q⟩, fun ⟨e, he, q⟩ => List.mem_map.mpr ⟨e, he, (okS_is (g e he) k).1 q⟩⟩
end
section
variable {P : Program} {w : World} {A : Around} {E : Value → Shared → Prop} {s : Shared} {a : Addr} {L : List Str}
theorem setS_tail {gv : Bool → Sem Unit} (hgv : ∀ (b : Bool) (u : Shared) (Q' : Unit → Shared → Prop), Q' () u → wpAny (model P w) A (gv b) Q' E u) {o : Obj} {es : Array (Int × Value)} {ep : Nat} {t : SetTable} (ho : s.heap.get? a = some o) (hex : o.ExactSet) (hd : o.data = .set es ep t)
    {fs : Array (Int × Value)} {t2 : SetTable} {M : List Str} (g1 : (∀ e ∈ fs.toList, OkS P w e) ∧ (fs.toList.map keyS).Nodup ∧ (∀ k, k ∈ fs.toList.map keyS ↔ k ∈ M) ∧ fs.size ≤ M.length) (hM : M.length < scanBound) (hf2 : t2.fits fs.size = true) (hr : Ris t2.place.toList)
    (hl : w.params.followText "set-order" = true ∨ t2.led = true) {wd : Bool} {R : Option Bool → Shared → Prop} (hR : ∀ h', Heap.SameBut a s.heap h' → SetS P w h' a M → R (some true) { s with heap := h' }) :
    wpAny (model P w) A (do
        storeSet a fs t2
        if (!wd && t2.tooFull) = true then do
            gv (relayAll t2 fs (SetTable.grown fs.size)).2.2
            storeSet a (relayAll t2 fs (SetTable.grown fs.size)).1 (relayAll t2 fs (SetTable.grown fs.size)).2.1
            pure (some true)
          else pure (some true)) R E s := by
  have small : fs.size < scanBound := Nat.lt_of_le_of_lt g1.2.2.2 hM
  refine wpAny_bind (wpAny_storeSet_of ho hd ?_ (fits_of_scanBound small))
  have o1 := store_at (es' := fs) (t' := t2) ho hd
  have b1 := Heap.SameBut.update s.heap a (Obj.putSet fs t2)
  split
  · have pm := relayAll_perm t2 fs (SetTable.grown fs.size)
    have f3 := relayAll_fits t2 fs (SetTable.grown fs.size)
    have r3 := relayAll_ris t2 fs (SetTable.grown fs.size)
    have l3 := relayAll_led t2 fs (SetTable.grown fs.size)
    generalize relayAll t2 fs (SetTable.grown fs.size) = Z at pm f3 r3 l3 ⊢
    obtain ⟨gs, t3, gave⟩ := Z
    dsimp only at pm f3 r3 l3 ⊢
    have sz : gs.size = fs.size := by rw [← Array.length_toList, pm.length_eq, Array.length_toList]
    refine wpAny_bind (hgv _ _ _ (wpAny_bind (wpAny_storeSet_of o1 rfl ?_ (fits_of_scanBound (by rw [sz]; exact small)))))
    have o2 := store_at (es' := gs) (t' := t3) o1 rfl
    refine wpAny_pure (hR _ (b1.trans (Heap.SameBut.update _ a _)) ⟨_, gs, _, t3, o2, hex, rfl, ⟨fun e he => g1.1 e (pm.mem_iff.mp he), (pm.map keyS).nodup_iff.mpr g1.2.1, fun k => ((pm.map keyS).mem_iff).trans (g1.2.2.1 k), by rw [sz]; exact g1.2.2.2⟩, hM, f3, r3, hl.imp id fun z => by rw [l3]; exact z⟩)
  · exact wpAny_pure (hR _ b1 ⟨_, fs, _, t2, o1, hex, rfl, g1, hM, hf2, hr, hl⟩)
theorem setS_add {k : Str} {tk : Tok} {Q : Bool → Shared → Prop} (R : SetS P w s.heap a L) (room : L.length + 1 < scanBound) (hQ : ∀ b h', Heap.SameBut a s.heap h' → SetS P w h' a (L ++ [k]) → Q b { s with heap := h' }) :
    wpAny (model P w) A (setAddHashed a (.str k tk) ((PySem.strKind P w).hash k)) Q E s := by
  obtain ⟨o, es, ep, t, ho, hex, hd, ⟨g, nd, hm, le⟩, hb, hf, hr, hl⟩ := R
  have small : es.size < scanBound := Nat.lt_of_le_of_lt le hb
  have hM : (L ++ [k]).length < scanBound := by rw [List.length_append]; exact room
  have scan : (Value.str k tk).scannable = true := rfl
  have hel : ElemsOf (PySem.strKind P w) es.toList := okS_elems g
  unfold setAddHashed setAddHashedIn
  refine wpAny_holding (wpAny_bind (wpAny_setState_of ho hd hf ?_))
  dsimp only
  rw [byScan_of scan small hel]
  simp only [↓reduceIte]
  unfold setAddByScan
  refine wpAny_bind (wpAny_bind (wpAny_rule (wpAny_bind (wpAny_setScan_of (strKind_is P w k tk) ho hd hf hel ?_))))
  cases hfi : List.findIdx? (fun e => (PySem.strKind P w).is k e.2) es.toList with
  | some j =>
    dsimp only
    obtain ⟨hj, pj, _⟩ := List.findIdx?_eq_some_iff_getElem.mp hfi
    have inL : k ∈ L := (hm k).1 ((okS_mem (P := P) (w := w) g k).2 ⟨es.toList[j], List.getElem_mem hj, pj⟩)
    refine wpAny_pure (wpAny_pure (hQ _ s.heap (Heap.SameBut.refl a s.heap) ⟨o, es, ep, t, ho, hex, hd, ⟨g, nd, fun i => ?_, by rw [List.length_append]; exact Nat.le_succ_of_le le⟩, hM, hf, hr, hl⟩))
    rw [hm i, List.mem_append, List.mem_singleton]
    exact ⟨.inl, fun z => z.elim id fun e => e ▸ inL⟩
  | none =>
    dsimp only
    have out : k ∉ es.toList.map keyS := fun z => by
      obtain ⟨e, he, q⟩ := (okS_mem (P := P) (w := w) g k).1 z
      have c := List.findIdx?_eq_none_iff.mp hfi e he
      rw [q] at c
      cases c
    have gave : ∀ (b : Bool) {u : Shared} {Q' : Unit → Shared → Prop}, Q' () u → wpAny (model P w) A (match b with | true => rule "set.scan.the-table-gave-way" | false => pure ()) Q' E u :=
      fun b u Q' q => by cases b <;> first | exact wpAny_pure q | exact wpAny_rule q
    have pm := layNew_perm t es ((PySem.strKind P w).hash k) (.str k tk)
    have f1 := layNew_fits t es ((PySem.strKind P w).hash k) (.str k tk)
    have r1 := layNew_ris t es ((PySem.strKind P w).hash k) (.str k tk) hr
    have l1 := layNew_led t es ((PySem.strKind P w).hash k) (.str k tk)
    generalize layNew t es ((PySem.strKind P w).hash k) (.str k tk) = Z at pm f1 r1 l1 ⊢
    obtain ⟨fs, t1, wd, gv⟩ := Z
    dsimp only at pm f1 r1 l1 ⊢
    rw [Array.toList_push] at pm
    have pc : fs.toList.Perm (((PySem.strKind P w).hash k, Value.str k tk) :: es.toList) := pm.trans (List.perm_append_singleton _ _)
    have pk : (fs.toList.map keyS).Perm (k :: es.toList.map keyS) := pc.map keyS
    have good : (∀ e ∈ fs.toList, OkS P w e) ∧ (fs.toList.map keyS).Nodup ∧ (∀ i, i ∈ fs.toList.map keyS ↔ i ∈ L ++ [k]) ∧ fs.size ≤ (L ++ [k]).length := by
      refine ⟨fun e he => ?_, pk.nodup_iff.mpr (List.nodup_cons.mpr ⟨out, nd⟩), fun i => ?_, ?_⟩
      · rcases List.mem_cons.mp (pc.mem_iff.mp he) with z | z
        · rw [z]; exact ⟨k, tk, rfl, rfl⟩
        · exact g e z
      · rw [pk.mem_iff, List.mem_cons, hm i, List.mem_append, List.mem_singleton]
        exact Or.comm
      · rw [← Array.length_toList, pc.length_eq, List.length_cons, Array.length_toList, List.length_append]
        exact Nat.succ_le_succ le
    have led : w.params.followText "set-order" = true ∨ t1.led = true := hl.imp id fun z => by rw [l1]; exact z
    refine wpAny_bind (gave _ ?_)
    split
    · refine wpAny_bind ?_
      rw [hashByValue_scannable 8 scan]
      refine wpAny_pure (setS_tail ?_ ho hex hd good hM ?_ ?_ ?_ ?_)
      · intro b u Q' q; cases b <;> first | exact wpAny_pure q | exact wpAny_rule q
      · first | (split <;> first | exact f1 | exact SetTable.fits_plain_off f1) | exact f1
      · first | (split <;> exact r1) | exact r1
      · first | (split <;> exact led) | exact led
      · intro h' sb r; dsimp only; exact wpAny_pure (hQ _ h' sb r)
    · refine wpAny_bind (wpAny_pure ?_)
      simp only [↓reduceIte]
      refine setS_tail ?_ ho hex hd good hM f1 r1 led ?_
      · intro b u Q' q; cases b <;> first | exact wpAny_pure q | exact wpAny_rule q
      · intro h' sb r; dsimp only; exact wpAny_pure (hQ _ h' sb r)
end
section
variable {prog : Program} {w : World} {A : Around} {R : Result → Shared → Prop} {I : Addr} {fp wr : List Addr} {G : Array GenState → Array GenState → Prop} {n : Nat} {Pv : Nat → Value → Prop} {St : Nat → Shared → Prop}
theorem setS_loop (W : WalksS prog w A.in1 I fp wr G n Pv St) (S : Addr) (nf : S ∉ fp) (xs : List Str) (hsz : xs.length = n) (small : n + 1 < scanBound) (hval : ∀ i v, Pv i v → ∃ t, v = .str (xs.getD i Str.empty) t) :
    ∀ (k i : Nat) (s : Shared), n - i = k → i ≤ n → St i s → SetS prog w s.heap S (xs.take i) →
      (∀ s', Moved (S :: wr) G s s' → SetS prog w s'.heap S xs → R (.ok (.ret .none)) s') →
      codeAny (model prog w) A (.builtin "set.update.loop" ⟨[.ref S, .ref I], []⟩) R s := by
  have nw : S ∉ wr := fun z => nf (W.sub _ z)
  have sub : ∀ b ∈ wr, b ∈ S :: wr := fun b hb => List.mem_cons_of_mem _ hb
  intro k
  induction k with
  | zero =>
    intro i s hk hi hst hS hR
    obtain rfl : i = n := by omega
    refine codeAny_builtin PyProof.Rows.F.entry_set_update_loop ?_
    rw [Around.under_plainId PyProof.Rows.F.plain_set_update_loop _]
    show wpAny _ A.in1 (pyNext (.ref I) >>= _) _ _ s
    refine wpAny_bind (W.done s _ _ hst fun s' hm => ?_)
    show wpAny _ A.in1 (ret Value.none) _ _ s'
    refine wpAny_pure (hR s' (hm.mono sub) ?_)
    rw [List.take_of_length_le (Nat.le_of_eq hsz)] at hS
    exact hS.keep fun o e => hm.heap S _ nw e
  | succ k ih =>
    intro i s hk hi hst hS hR
    have lt : i < n := by omega
    refine codeAny_builtin PyProof.Rows.F.entry_set_update_loop ?_
    rw [Around.under_plainId PyProof.Rows.F.plain_set_update_loop _]
    show wpAny _ A.in1 (pyNext (.ref I) >>= _) _ _ s
    refine wpAny_bind (W.item i s _ _ lt hst fun v s' hP st' hm => ?_)
    obtain ⟨t, rfl⟩ := hval i v hP
    have hS' : SetS prog w s'.heap S (xs.take i) := hS.keep fun o e => hm.heap S _ nw e
    show wpAny _ A.in1 (holding [Value.str (xs.getD i Str.empty) t] (setAdd S (.str (xs.getD i Str.empty) t)) >>= _) _ _ s'
    refine wpAny_bind (wpAny_holding ?_)
    unfold setAdd
    refine wpAny_holding (wpAny_bind ((PySem.strKind prog w).pyHash (k := xs.getD i Str.empty) (strKind_is _ _ _ _) ?_))
    refine setS_add (s := { s' with toks := s'.toks + 1 }) hS' (by rw [List.length_take]; omega) fun b h' sb r => ?_
    have tk1 : xs.take i ++ [xs.getD i Str.empty] = xs.take (i + 1) := by
      have lt' : i < xs.length := by omega
      rw [List.take_succ, List.getD_eq_getElem?_getD, List.getElem?_eq_getElem lt']
      rfl
    rw [tk1] at r
    refine wpAny_pure ⟨plainId_quiet PyProof.Rows.F.plain_set_update_loop _, ih (i + 1) _ (by omega) lt (W.frame _ s' _ _ st' (Nat.le_succ _) fun b hb o e => ?_) r fun s2 m2 r2 => ?_⟩
    · rw [sb.2 b (fun z : b = S => nf (by rw [← z]; exact hb))]; exact e
    · refine hR s2 (Moved.trans W.gtrans ((hm.mono sub).then_heap (Nat.le_succ _) fun b o hb e => ?_) m2) r2
      rw [sb.2 b (fun z : b = S => hb (by rw [z]; exact List.mem_cons_self))]; exact e
end
end DL

set_option Elab.async false
set_option linter.all false
set_option maxRecDepth 100000
set_option maxHeartbeats 4000000
namespace DL
open PySem PySem.Spec PyProof.Rows L2
abbrev set0 (w : World) : Obj := { cls := .type "set", dict := none, data := .set #[] 0 (.fresh 0 0 (!w.params.followText "set-order")) }
theorem setS_fresh {P : Program} {w : World} {h : Heap} {a : Addr} (ho : h.get? a = some (set0 w)) : SetS P w h a [] :=
  ⟨_, #[], 0, _, ho, ⟨rfl, rfl, rfl⟩, rfl, ⟨fun e he => by simp at he, by simp, fun k => by simp, Nat.le_refl _⟩, by decide, by rfl, List.Pairwise.nil, by
    show _ ∨ (!w.params.followText "set-order") = true
    cases w.params.followText "set-order"
    · exact .inr rfl
    · exact .inl rfl⟩
section
variable {prog : Program} {w : World} {A : Around} {E : Value → Shared → Prop} {s : Shared}
theorem set_new1 (a : Value) {Q1 : Value → Shared → Prop} (h : Q1 (.ref s.heap.objs.size) { s with heap := s.heap.push (set0 w) }) :
    codeAny (model prog w) A (.call (.builtin "set.__new__") ⟨[.type "set", a], []⟩) (wants Q1 E) s := by
  refine codeAny_of_tree ?_
  show wpAny _ A.in1 (do checkBuiltinCall "set.__new__" ⟨[.type "set", a], []⟩; again (.builtin "set.__new__" ⟨[.type "set", a], []⟩)) _ _ s
  refine wpAny_bind (wpAny_of_eq (PySem.F.newCall_set_1 a) (wpAny_pure ⟨plainId_quiet PySem.F.plain_set_new _, codeAny_builtin PySem.F.entry_set_new ?_⟩))
  rw [Around.under_plainId PySem.F.plain_set_new _]
  unfold Builtin.«set.__new__» Builtin.Frozenset.newClass
  have hsub := sub_set_self
  obtain ⟨hp, g, d, tk, os⟩ := s
  dsimp only
  wp_walk
  refine wpAny_askSetting (wpAny_pure ?_)
  dsimp only
  simp only [newObj]
  exact wpAny_bind (wpAny_alloc (wpAny_pure (wpAny_pure h)))
/-- set(l), l a list -/
theorem set_of_list {l : Addr} {items : Array Value} {xs : List Str} {Q : Value → Shared → Prop} (hh : A.handled = none) (hl : s.heap.IsList l items) (hi : PyProof.Rows.StrsAre items.toList xs) (small : xs.length + 1 < scanBound)
    (h : ∀ (h' : Heap) (tk : Nat), SetS prog w h' s.heap.objs.size xs → (∀ b o, b < s.heap.objs.size → s.heap.get? b = some o → h'.get? b = some o) → Q (.ref s.heap.objs.size) { s with heap := h', toks := tk }) :
    wpAny (model prog w) A (call (.type "set") [.ref l]) Q E s := by
  obtain ⟨c, tl, hmro⟩ := PySem.F.called_set.mro
  have hmade := PySem.F.called_set.made
  have hsub := PySem.F.called_set.sub
  refine wpAny_call (codeAny_of_tree ?_)
  show wpAny _ _ (callAny (.type "set") _) _ _ _
  refine wpAny_pure ⟨Code.quiet_builtin _ (by decide +kernel), codeAny_builtin PySem.F.entry_type_call ?_⟩
  rw [Around.under_plain (weight_type_call_type "set" [.ref l] []) rfl]
  have h1 := PySem.F.called_set.notType
  have h2 := PySem.F.called_set.canCreate
  have hct := PySem.F.typeCall_set_1 (.ref l)
  repeat (any_goals (first | assumption | wp_step))
  refine codeAny_mono (set_new1 (.ref l) (E := E) (Q1 := fun obj u => obj = .ref s.heap.objs.size ∧ u = { s with heap := s.heap.push (set0 w) }) ⟨rfl, rfl⟩) fun r u hr => ?_
  cases r with
  | error e => exact hr
  | ok fl =>
    cases fl with
    | ret obj =>
      obtain ⟨rfl, rfl⟩ := hr
      have hS : (s.heap.push (set0 w)).get? s.heap.objs.size = some (set0 w) := Heap.get?_push_size _ rfl
      have hT : Shared.TypeIs { s with heap := s.heap.push (set0 w) } (.ref s.heap.objs.size) "set" := ⟨_, hS, rfl⟩
      have hli := PySem.F.called_set.init.lookup
      have hbi := PySem.F.called_set.init.bind (.ref s.heap.objs.size)
      repeat (any_goals (first | assumption | wp_step))
      refine codeAny_mono (codeAny_call_builtin (R := wants (fun r u2 => r = .none ∧ ∃ h' tk, u2 = { s with heap := h', toks := tk } ∧ SetS prog w h' s.heap.objs.size xs ∧ (∀ b o, b < s.heap.objs.size → s.heap.get? b = some o → h'.get? b = some o)) E) PySem.F.called_set.init.plain PySem.F.entry_set_init (check_set_init_1 hT ?_)) fun r2 u2 hr2 => ?_
      · obtain ⟨ol, hol, hcl, nl, hdl⟩ := hl
        obtain ⟨ocls, odict, odata, oslots⟩ := ol
        simp only at hcl hdl
        subst hcl; subst hdl
        have hol' : (s.heap.push (set0 w)).get? l = some { cls := .type "list", dict := odict, data := .seq items nl, slots := oslots } := Heap.get?_push_of_some _ hol
        have q1 := PySem.F.sub_list_set
        have q2 := PySem.F.sub_list_frozenset
        have q3 : (Value.type "list" == Value.type "dict") = false := by decide
        have hl1 : (s.heap.push (set0 w)).IsList l items := ⟨_, hol', rfl, nl, rfl⟩
        unfold Builtin.«set.__init__» noKeywords Builtin.Frozenset.updateFrom
        generalize hPI : pyIter = PI
        wp_walk
        subst hPI
        refine wpAny_pyIter_list hl1 (wpAny_bind (wpAny_runValue ?_))
        have lS : l < s.heap.objs.size := Heap.lt_size hol
        have nI : l ≠ (s.heap.push (set0 w)).objs.size := by rw [Heap.size_push]; exact Nat.ne_of_lt (Nat.lt_succ_of_lt lS)
        have nf : s.heap.objs.size ∉ [(s.heap.push (set0 w)).objs.size, l] := by
          rw [Heap.size_push]
          simp only [List.mem_cons, List.mem_singleton, List.not_mem_nil, or_false, not_or]
          exact ⟨Nat.ne_of_lt (Nat.lt_succ_self _), Nat.ne_of_gt lS⟩
        have sz : xs.length = items.size := by rw [← StrsAre.len_eq hi, Array.length_toList]
        refine setS_loop ((Walks.list (show A.in1.in1.in1.handled = none by simp [hh]) _ l nI items).toS) s.heap.objs.size nf xs sz (by rw [← sz]; exact small)
          (fun i v hv => SS.strs_at hi i v (by rw [Array.getElem?_toList]; exact hv)) (items.size - 0) 0 _ (by omega) (Nat.zero_le _) ⟨⟨_, Heap.get?_push_size _ rfl, rfl, rfl⟩, (hl1.push _)⟩ (setS_fresh (Heap.get?_push_of_some _ hS)) ?_
        intro u3 hm r3
        obtain ⟨h', g', d', tk', os'⟩ := u3
        obtain rfl : g' = s.gens := hm.gens
        obtain rfl : d' = s.drawn := hm.drawn
        obtain rfl : os' = s.os := hm.os
        show wpAny _ _ _ _ _ _
        refine wpAny_pure ?_
        show wpAny _ _ (ret Value.none) _ _ _
        refine wpAny_pure ⟨rfl, h', tk', rfl, r3, fun b o hb e => hm.heap b o ?_ (Heap.get?_push_of_some _ (Heap.get?_push_of_some _ e))⟩
        simp only [List.mem_cons, List.mem_singleton, List.not_mem_nil, or_false, not_or]
        exact ⟨Nat.ne_of_lt hb, by rw [Heap.size_push]; exact Nat.ne_of_lt (Nat.lt_succ_of_lt hb)⟩
      · cases r2 with
        | error e => exact hr2
        | ok f2 =>
          cases f2 with
          | ret r =>
            obtain ⟨rfl, h', tk, rfl, q1, q2⟩ := hr2
            repeat (any_goals (first | assumption | wp_step))
            exact h _ _ q1 q2
          | _ => exact hr2.elim
    | _ => exact hr.elim
end
end DL

set_option Elab.async false
set_option linter.all false
set_option maxRecDepth 100000
set_option maxHeartbeats 4000000
namespace DL
open PySem PySem.Spec PyProof.Rows L2
section
variable {prog : Program} {w : World} {A : Around} {E : Value → Shared → Prop} {s : Shared}
/-- set(l), l a tuple -/
theorem set_of_tuple {l : Addr} {items : Array Value} {xs : List Str} {Q : Value → Shared → Prop} (hh : A.handled = none) (hl : s.heap.IsTuple l items) (hi : PyProof.Rows.StrsAre items.toList xs) (small : xs.length + 1 < scanBound)
    (h : ∀ (h' : Heap) (tk : Nat), SetS prog w h' s.heap.objs.size xs → (∀ b o, b < s.heap.objs.size → s.heap.get? b = some o → h'.get? b = some o) → Q (.ref s.heap.objs.size) { s with heap := h', toks := tk }) :
    wpAny (model prog w) A (call (.type "set") [.ref l]) Q E s := by
  obtain ⟨c, tl, hmro⟩ := PySem.F.called_set.mro
  have hmade := PySem.F.called_set.made
  have hsub := PySem.F.called_set.sub
  refine wpAny_call (codeAny_of_tree ?_)
  show wpAny _ _ (callAny (.type "set") _) _ _ _
  refine wpAny_pure ⟨Code.quiet_builtin _ (by decide +kernel), codeAny_builtin PySem.F.entry_type_call ?_⟩
  rw [Around.under_plain (weight_type_call_type "set" [.ref l] []) rfl]
  have h1 := PySem.F.called_set.notType
  have h2 := PySem.F.called_set.canCreate
  have hct := PySem.F.typeCall_set_1 (.ref l)
  repeat (any_goals (first | assumption | wp_step))
  refine codeAny_mono (set_new1 (.ref l) (E := E) (Q1 := fun obj u => obj = .ref s.heap.objs.size ∧ u = { s with heap := s.heap.push (set0 w) }) ⟨rfl, rfl⟩) fun r u hr => ?_
  cases r with
  | error e => exact hr
  | ok fl =>
    cases fl with
    | ret obj =>
      obtain ⟨rfl, rfl⟩ := hr
      have hS : (s.heap.push (set0 w)).get? s.heap.objs.size = some (set0 w) := Heap.get?_push_size _ rfl
      have hT : Shared.TypeIs { s with heap := s.heap.push (set0 w) } (.ref s.heap.objs.size) "set" := ⟨_, hS, rfl⟩
      have hli := PySem.F.called_set.init.lookup
      have hbi := PySem.F.called_set.init.bind (.ref s.heap.objs.size)
      repeat (any_goals (first | assumption | wp_step))
      refine codeAny_mono (codeAny_call_builtin (R := wants (fun r u2 => r = .none ∧ ∃ h' tk, u2 = { s with heap := h', toks := tk } ∧ SetS prog w h' s.heap.objs.size xs ∧ (∀ b o, b < s.heap.objs.size → s.heap.get? b = some o → h'.get? b = some o)) E) PySem.F.called_set.init.plain PySem.F.entry_set_init (check_set_init_1 hT ?_)) fun r2 u2 hr2 => ?_
      · obtain ⟨ol, hol, hcl, nl, hdl⟩ := hl
        obtain ⟨ocls, odict, odata, oslots⟩ := ol
        simp only at hcl hdl
        subst hcl; subst hdl
        have hol' : (s.heap.push (set0 w)).get? l = some { cls := .type "tuple", dict := odict, data := .seq items nl, slots := oslots } := Heap.get?_push_of_some _ hol
        have q1 := PySem.F.sub_tuple_set
        have q2 := PySem.F.sub_tuple_frozenset
        have q3 : (Value.type "tuple" == Value.type "dict") = false := by decide
        have hl1 : (s.heap.push (set0 w)).IsTuple l items := ⟨_, hol', rfl, nl, rfl⟩
        unfold Builtin.«set.__init__» noKeywords Builtin.Frozenset.updateFrom
        generalize hPI : pyIter = PI
        wp_walk
        subst hPI
        refine wpAny_pyIter_tuple hl1 (wpAny_bind (wpAny_runValue ?_))
        have lS : l < s.heap.objs.size := Heap.lt_size hol
        have nI : l ≠ (s.heap.push (set0 w)).objs.size := by rw [Heap.size_push]; exact Nat.ne_of_lt (Nat.lt_succ_of_lt lS)
        have nf : s.heap.objs.size ∉ [(s.heap.push (set0 w)).objs.size, l] := by
          rw [Heap.size_push]
          simp only [List.mem_cons, List.mem_singleton, List.not_mem_nil, or_false, not_or]
          exact ⟨Nat.ne_of_lt (Nat.lt_succ_self _), Nat.ne_of_gt lS⟩
        have sz : xs.length = items.size := by rw [← StrsAre.len_eq hi, Array.length_toList]
        refine setS_loop ((Walks.tuple (show A.in1.in1.in1.handled = none by simp [hh]) _ l nI items).toS) s.heap.objs.size nf xs sz (by rw [← sz]; exact small)
          (fun i v hv => SS.strs_at hi i v (by rw [Array.getElem?_toList]; exact hv)) (items.size - 0) 0 _ (by omega) (Nat.zero_le _) ⟨⟨_, Heap.get?_push_size _ rfl, rfl, rfl⟩, (hl1.push _)⟩ (setS_fresh (Heap.get?_push_of_some _ hS)) ?_
        intro u3 hm r3
        obtain ⟨h', g', d', tk', os'⟩ := u3
        obtain rfl : g' = s.gens := hm.gens
        obtain rfl : d' = s.drawn := hm.drawn
        obtain rfl : os' = s.os := hm.os
        show wpAny _ _ _ _ _ _
        refine wpAny_pure ?_
        show wpAny _ _ (ret Value.none) _ _ _
        refine wpAny_pure ⟨rfl, h', tk', rfl, r3, fun b o hb e => hm.heap b o ?_ (Heap.get?_push_of_some _ (Heap.get?_push_of_some _ e))⟩
        simp only [List.mem_cons, List.mem_singleton, List.not_mem_nil, or_false, not_or]
        exact ⟨Nat.ne_of_lt hb, by rw [Heap.size_push]; exact Nat.ne_of_lt (Nat.lt_succ_of_lt hb)⟩
      · cases r2 with
        | error e => exact hr2
        | ok f2 =>
          cases f2 with
          | ret r =>
            obtain ⟨rfl, h', tk, rfl, q1, q2⟩ := hr2
            repeat (any_goals (first | assumption | wp_step))
            exact h _ _ q1 q2
          | _ => exact hr2.elim
    | _ => exact hr.elim
end
end DL

set_option Elab.async false
set_option linter.all false
set_option maxRecDepth 100000
set_option maxHeartbeats 4000000
namespace DL
open PySem PySem.Spec PyProof.Rows L2
/-! ### sorted(set(..)) -/
theorem strs_of : ∀ {P : Program} {w : World} (l : List (Int × Value)), (∀ e ∈ l, OkS P w e) → StrsAre (l.map (·.2)) (l.map keyS)
  | _, _, [], _ => .nil
  | P, w, e :: l, h => by
    obtain ⟨k, tk, q, _⟩ := h e List.mem_cons_self
    have ih := strs_of (P := P) (w := w) l fun u hu => h u (List.mem_cons_of_mem _ hu)
    show StrsAre (e.2 :: l.map (·.2)) (keyS e :: l.map keyS)
    unfold keyS
    rw [q]
    exact .cons k tk ih
theorem strsAre_perm {vs us : List Value} (p : us.Perm vs) : ∀ {ks : List Str}, StrsAre vs ks → ∃ js, StrsAre us js ∧ js.Perm ks := by
  induction p with
  | nil => intro ks h; exact ⟨ks, h, .refl _⟩
  | cons x p ih =>
    intro ks h
    cases h with
    | cons y t h =>
      obtain ⟨js, h1, h2⟩ := ih h
      exact ⟨y :: js, .cons y t h1, h2.cons y⟩
  | swap x y l =>
    intro ks h
    cases h with
    | cons y t h =>
      cases h with
      | cons z u h => exact ⟨_, .cons z u (.cons y t h), .swap _ _ _⟩
  | trans p q ih1 ih2 =>
    intro ks h
    obtain ⟨js, h1, h2⟩ := ih2 h
    obtain ⟨is, h3, h4⟩ := ih1 h1
    exact ⟨is, h3, h4.trans h2⟩
section
variable {P : Program} {w : World} {A : Around} {E : Value → Shared → Prop} {s : Shared} {a : Addr}
theorem sorted_setS {L : List Str} {Q : Value → Shared → Prop} (R : SetS P w s.heap a L) (hh : A.handled = none)
    (hQ : ∀ u p (out : Array Value) (c : Nat) (ys : List Str), (∀ b o, s.heap.get? b = some o → u.heap.get? b = some o) → u.gens = s.gens → u.os = s.os → s.heap.objs.size ≤ p → u.heap.get? p = some (seqObj "list" out c) →
      StrsAre out.toList ys → ys.Nodup → sortedS ys = true → (∀ k, k ∈ ys ↔ k ∈ L) → ys.length ≤ sizeLine → Q (.ref p) u) : wpAny (model P w) A (call (.builtin "sorted") [.ref a]) Q E s := by
  obtain ⟨o, es, ep, t, ho, hex, hd, ⟨g, nd, hm, le⟩, hb, hf, hr, hl⟩ := R
  have small : es.size < scanBound := Nat.lt_of_le_of_lt le hb
  refine Calls.call_function_entry kind_sorted plain_sorted entry_sorted (args_sorted1 _) ?_
  unfold Builtin.«sorted»
  refine wpAny_bind (m := checkCount "sorted" 1 1 _) (wpAny_pure (wpAny_bind (collect_set (A := A.in1) hh ⟨o, ho, hex.1, hd⟩ hf small hr hl fun u vs k1 hz g1 o1 pm => ?_)))
  obtain ⟨js, hS, pj⟩ := strsAre_perm pm (strs_of es.toList g)
  have hvl : vs.length ≤ sizeLine := by rw [pm.length_eq, List.length_map, Array.length_toList]; exact fits_of_scanBound small
  refine wpAny_bind (wpAny_newList ?_ hvl)
  have oL : (u.heap.push (seqObj "list" vs.toArray 0)).get? u.heap.objs.size = some (seqObj "list" vs.toArray 0) := Heap.get?_push_size _ rfl
  refine wpAny_bind (wpAny_holding (wpAny_call_entry slot_list_sort ⟨_, oL, rfl⟩ entry_list_sort (list_sort_treeKAny strKind_oneLt oL hS.keysOf (fun v1 v2 rest e => keyKind_strs (by rw [← e]; exact hS)) hvl fun st' hp hs => ⟨_, rfl, ?_⟩) (args_list_sort _)))
  obtain ⟨ys, z1, z2, z3⟩ := sorted_out_str hS hp hs
  obtain ⟨c, hc⟩ := sortedHeap_at (vs := vs) (out := (arrOf st').map (·.2)) oL
  have pk : ys.Perm (es.toList.map keyS) := z2.trans pj
  refine wpAny_pure ⟨_, rfl, hQ _ u.heap.objs.size _ c ys (fun b v e => ?_) g1 o1 hz hc z1 (pk.nodup_iff.mpr nd) z3 (fun k => pk.mem_iff.trans (hm k)) ?_⟩
  · have q := k1 b v e
    have lt := Heap.lt_size q
    show (sortedHeap (u.heap.push (seqObj "list" vs.toArray 0)) u.heap.objs.size vs ((arrOf st').map (·.2))).get? b = some v
    rw [sortedHeap_old (Nat.ne_of_lt lt) (by rw [size_push']; exact Nat.lt_succ_of_lt lt)]
    exact Heap.get?_push_of_some _ q
  · rw [pk.length_eq, List.length_map, Array.length_toList]
    exact fits_of_scanBound small
end
/-- the set at a -/
def SetSO (P : Program) (w : World) (a : Addr) (L : List Str) : HO := .ext fun h => SetS P w h a L
section
variable {X : Cx}
theorem setSO_new {P : Program} {w : World} {H : Hp} {h : Heap} {a : Addr} {L : List Str} (R : SetS P w h a L) : ObjOk P w H h a (SetSO P w a L) := by
  have ⟨o, _, _, _, ho, _⟩ := R
  exact ⟨R, ⟨o, ho⟩, fun h1 h2 p k => SetS.keep p k⟩
theorem cr_setS (hc : X.calm = true) : CallR X (.type "set") (fun xs H Q => ∃ (a : Addr) (ss : List Str), xs = [.ref a] ∧ (SqL X.K H a (ss.map V.str) ∨ SqT X.K H a (ss.map V.str)) ∧ ss.length < 1000 ∧ ∀ p, H p = none → Q (.ref p) (upd H p (SetSO X.prog X.w p ss))) := by
  intro pins s σ H vs us Q I r h
  obtain ⟨a, ss, rfl, hs, few, q⟩ := h
  rw [Vals.ref1 r]
  have hn : H s.heap.objs.size = none := I.hok.fresh (Nat.le_refl _)
  have small : ss.length + 1 < scanBound := by unfold scanBound; omega
  have fin : ∀ (h' : Heap) (tk : Nat), SetS X.prog X.w h' s.heap.objs.size ss → (∀ b o, b < s.heap.objs.size → s.heap.get? b = some o → h'.get? b = some o) → EP X pins σ Q (.ref s.heap.objs.size) { s with heap := h', toks := tk } := fun h' tk R k =>
    ⟨.ref _, upd H s.heap.objs.size (SetSO X.prog X.w s.heap.objs.size ss), I.laid (t' := tk) (fun b o e => k b o (Heap.lt_size e) e) (Nat.le_refl _) (setSO_new R), rfl, q _ hn⟩
  rcases hs with hs | hs
  · obtain ⟨its, rv, hl, _⟩ := I.list hs
    exact set_of_list (I.ok.hd hc) hl.isList (by simpa using rv.strs) small fin
  · obtain ⟨its, rv, hl, _⟩ := I.tuple hs
    exact set_of_tuple (I.ok.hd hc) hl (by simpa using rv.strs) small fin
theorem cr_sortedSS (hc : X.calm = true) : CallR X (.builtin "sorted") (fun vs H Q => ∃ (a : Addr) (L : List Str), vs = [V.ref a] ∧ H a = some (SetSO X.prog X.w a L) ∧ ∀ (ys : List Str) (p : Addr), ys.Nodup → sortedS ys = true → (∀ k, k ∈ ys ↔ k ∈ L) → H p = none → Q (.ref p) (upd H p (.lst (ys.map V.str)))) := by
  intro pins s σ H vs us Q I r h
  obtain ⟨a, L, rfl, ha, q⟩ := h
  have R : SetS X.prog X.w s.heap a L := (I.hok a _ ha).1
  rw [Vals.ref1 r]
  refine sorted_setS R (I.ok.hd hc) fun u p out c ys k g o hp hg hi hnd hs hm hl => ?_
  have hn : H p = none := I.hok.fresh hp
  have J : Inv X pins σ (upd H p (.lst (ys.map V.str))) { s with heap := u.heap, gens := u.gens, drawn := u.drawn, toks := u.toks } :=
    I.call (ch := []) (Un.laid k hp hn) (I.hok.laid k hp ⟨by rw [List.length_map]; exact hl, out.toList, c, vals_of_strs hi, hg⟩) (by rw [g]; exact I.bare) (fun _ z => nomatch z)
  have e : u = { s with heap := u.heap, gens := u.gens, drawn := u.drawn, toks := u.toks } := by
    cases u; cases s; cases o; rfl
  rw [e]
  exact ⟨.ref p, _, J, rfl, q ys p hnd hs hm hn⟩
end
/-! ### just one such list -/
theorem sorted_le : ∀ (p : Str) (l : List Str), risingS p l = true → ∀ y ∈ l, ¬ (y.cps.toList < p.cps.toList)
  | _, [], _, y, h => by cases h
  | p, x :: r, h, y, hy => by
    have h' : ltCps x.cps.toList p.cps.toList = false ∧ risingS x r = true := by simpa [risingS] using h
    have h1 : ¬ (x.cps.toList < p.cps.toList) := by
      have q := h'.1
      rw [ltCps_eq] at q
      simpa using q
    rcases List.mem_cons.mp hy with e | e
    · rw [e]; exact h1
    · have h2 := sorted_le x r h'.2 y e
      exact List.not_lt.mpr (List.le_trans (List.not_lt.mp h1) (List.not_lt.mp h2))
theorem rising_tail {p x : Str} {r : List Str} (h : risingS p (x :: r) = true) : risingS x r = true := by
  have h' : ltCps x.cps.toList p.cps.toList = false ∧ risingS x r = true := by simpa [risingS] using h
  exact h'.2
theorem sortedS_tail {x : Str} {r : List Str} (h : sortedS (x :: r) = true) : sortedS r = true := by
  cases r with
  | nil => rfl
  | cons y r => exact rising_tail (p := x) h
theorem sorted_one : ∀ {ys zs : List Str}, ys.Nodup → zs.Nodup → sortedS ys = true → sortedS zs = true → (∀ k, k ∈ ys ↔ k ∈ zs) → ys = zs
  | [], [], _, _, _, _, _ => rfl
  | [], z :: zs, _, _, _, _, h => absurd ((h z).2 List.mem_cons_self) (by simp)
  | y :: ys, [], _, _, _, _, h => absurd ((h y).1 List.mem_cons_self) (by simp)
  | y :: ys, z :: zs, n1, n2, s1, s2, h => by
    obtain ⟨a1, a2⟩ := List.nodup_cons.mp n1
    obtain ⟨b1, b2⟩ := List.nodup_cons.mp n2
    have e : y = z := by
      rcases List.mem_cons.mp ((h y).1 List.mem_cons_self) with e | e
      · exact e
      · rcases List.mem_cons.mp ((h z).2 List.mem_cons_self) with e' | e'
        · exact e'.symm
        · have q1 := sorted_le z zs s2 y e
          have q2 := sorted_le y ys s1 z e'
          have q : y.cps.toList = z.cps.toList := List.le_antisymm (List.not_lt.mp q2) (List.not_lt.mp q1)
          cases y; cases z
          exact congrArg Str.mk (Array.toList_inj.mp q)
    subst e
    congr 1
    refine sorted_one a2 b2 (sortedS_tail s1) (sortedS_tail s2) fun k => ?_
    constructor
    · intro hk
      rcases List.mem_cons.mp ((h k).1 (List.mem_cons_of_mem _ hk)) with e | e
      · exact absurd (e ▸ hk) a1
      · exact e
    · intro hk
      rcases List.mem_cons.mp ((h k).2 (List.mem_cons_of_mem _ hk)) with e | e
      · exact absurd (e ▸ hk) b1
      · exact e
end DL

set_option Elab.async false
set_option linter.all false
set_option maxRecDepth 100000
set_option maxHeartbeats 2000000
namespace DL
open PySem PySem.Spec PyProof.Rows L2
/-! ### sorted(set(..)) of texts -/
def strsOf : List D → Option (List Str)
  | [] => some []
  | .str x :: ds => (strsOf ds).map (x :: ·)
  | _ :: _ => none
theorem strsOf_eq : ∀ {ds : List D} {ss : List Str}, strsOf ds = some ss → ds = ss.map D.str
  | [], ss, h => by cases h; rfl
  | d :: ds, ss, h => by
    cases d with
    | str x =>
      have h' : (strsOf ds).map (x :: ·) = some ss := h
      cases q : strsOf ds with
      | none => rw [q] at h'; cases h'
      | some ts =>
        rw [q] at h'
        cases h'
        rw [strsOf_eq q]
        rfl
    | _ => cases h
theorem strsOf_map (ss : List Str) : strsOf (ss.map D.str) = some ss := by
  induction ss with
  | nil => rfl
  | cons x ss ih =>
    show (strsOf (ss.map D.str)).map (x :: ·) = _
    rw [ih]
    rfl
theorem Reps.strs {K : PySem.W.Frag} {w : Wo} {H : Hp} : ∀ {vs : List V} {ss : List Str}, Reps K w H vs (ss.map D.str) → vs = ss.map V.str
  | _, [], .nil => rfl
  | _, _ :: _, .cons r t => by
    cases r
    rw [Reps.strs t]
    rfl
theorem Reps.of_strs {K : PySem.W.Frag} {w : Wo} {H : Hp} : ∀ (ss : List Str), Reps K w H (ss.map V.str) (ss.map D.str)
  | [] => .nil
  | x :: ss => .cons (.str x) (Reps.of_strs ss)
/-- the members, ascending, each once -/
def IsSort (ss ys : List Str) : Prop := ys.Nodup ∧ sortedS ys = true ∧ ∀ k, k ∈ ys ↔ k ∈ ss
noncomputable def sortS (ss : List Str) : List Str := Classical.epsilon (IsSort ss)
theorem sortS_eq {ss ys : List Str} (h : IsSort ss ys) : sortS ss = ys := by
  have q : IsSort ss (sortS ss) := Classical.epsilon_spec ⟨ys, h⟩
  exact sorted_one q.1 h.1 q.2.1 h.2.1 fun k => (q.2.2 k).trans (h.2.2 k).symm
theorem sortS_congr {ss ts : List Str} (h : ∀ k, k ∈ ss ↔ k ∈ ts) : sortS ss = sortS ts := by
  have e : IsSort ss = IsSort ts := by
    funext ys
    unfold IsSort
    simp only [h]
  unfold sortS
  rw [e]
noncomputable def sortSetO (d : D) (st : Sto) : Out D := match seqOf st d with
  | some ds => (match strsOf ds with
    | some ss => if ss.length < 1000 then .ok (.lst ((sortS ss).map D.str)) st else .bad
    | none => .bad)
  | none => .bad
section
variable {X : Cx} {G : Gr} {W : WX} {e a b : Expr} {me ma mb : EM D} {pos p1 p2 p3 : Pos}
theorem de_sortset (hK : G.K = X.K) (hc : X.calm = true) (hg : Gl X "sorted") (hm : X.mg "sorted" = none) (hg2 : Gl X "set") (hm2 : X.mg "set" = none) (he : PE X e (dE G W me))
    (hs : starEach [e] X.env = (false, eval e X.env) :: starEach [] X.env := by rfl) (hs2 : starEach [.Call (.Name "set" p2) [e] [] p3] X.env = (false, eval (.Call (.Name "set" p2) [e] [] p3) X.env) :: starEach [] X.env := by rfl) :
    PE X (.Call (.Name "sorted" p1) [.Call (.Name "set" p2) [e] [] p3] [] pos) (dE G W (eUn sortSetO me)) := by
  refine PE.imp (pe_callB (cr_sortedSS hc) hg hm (by decide +kernel) (pa_cons (pe_callTy (cr_setS hc) hg2 hm2 (by decide +kernel) (pa_cons he pa_nil hs) (he := hs) (hpl := by rfl)) pa_nil hs2) (he := hs2) (hpl := by rfl)) fun σ H Q ⟨w, env, st, rs, re, h⟩ => ?_
  refine ⟨w, env, st, rs, re, Fit.bind h fun d st1 w1 H1 v rs1 e1 rv h1 => ?_⟩
  unfold sortSetO at h1
  cases q : seqOf st1 d with
  | none => rw [q] at h1; exact h1.elim
  | some ds =>
    rw [q] at h1
    dsimp only at h1
    cases q2 : strsOf ds with
    | none => rw [q2] at h1; exact h1.elim
    | some ss =>
      rw [q2] at h1
      dsimp only at h1
      by_cases few : ss.length < 1000
      · rw [if_pos few] at h1
        obtain ⟨pl, ys, rfl, hsq, rr⟩ := rv.seq rs1 q
        rw [strsOf_eq q2] at rr
        rw [rr.strs, hK] at hsq
        refine ⟨pl, ss, rfl, hsq, few, fun p hp => ⟨p, ss, rfl, upd_same, fun zs p' nd so mem hp' => ?_⟩⟩
        have ez : sortS ss = zs := sortS_eq ⟨nd, so, mem⟩
        have rs2 : RSt G.K G.T w1 st1 (upd H1 p (SetSO X.prog X.w p ss)) := rs1.new hp
        have ex2 : Ext w1 H1 w1 (upd H1 p (SetSO X.prog X.w p ss)) := Ext.new hp
        obtain ⟨k1, k2, k3⟩ := rs2.newL (ds := zs.map D.str) hp' (Reps.of_strs zs)
        rw [ez] at h1
        exact h1 _ _ _ k1 (ex2.trans k2) k3
      · rw [if_neg few] at h1
        exact h1.elim
/-! ### xs * k -/
def oRep (x y : D) (st : Sto) : Out D := match lstOf st x, y with
  | some ds, .int k => if 0 ≤ k ∧ k ≤ 100 ∧ ds.length ≤ 100 then .ok (.lst (List.replicate k.toNat ds).flatten) st else .bad
  | _, _ => .bad
theorem calm_rep (x y : D) (st : Sto) : Calm (oRep x y st) := by
  unfold oRep
  split
  · split <;> trivial
  · trivial
theorem Reps.rep {K : PySem.W.Frag} {w : Wo} {H : Hp} {vs : List V} {ds : List D} (r : Reps K w H vs ds) : ∀ n : Nat, Reps K w H (List.replicate n vs).flatten (List.replicate n ds).flatten
  | 0 => .nil
  | n + 1 => by
    rw [List.replicate_succ, List.replicate_succ, List.flatten_cons, List.flatten_cons]
    exact r.append (Reps.rep r n)
theorem de_rep (ha : PE X a (dE G W ma)) (hb : PE X b (dE G W mb)) : PE X (.BinOp a .Mult b pos) (dE G W (eOp oRep ma mb)) := de_op op_rep (fun w st H x y dx dy Q rs rx ry h => by
  unfold oRep at h
  split at h
  · rename_i ds k hl
    split at h
    · rename_i hk
      obtain ⟨p, ys, rfl, hp, rr⟩ := rx.lstAt rs hl
      cases ry
      refine ⟨p, k, ys, rfl, rfl, hp, by omega, by omega, ?_, fun q hq => ?_⟩
      · rw [rr.length]
        have h1 : k.toNat ≤ 100 := by omega
        have h2 := Nat.mul_le_mul hk.2.2 h1
        exact Nat.le_trans h2 (by rw [sizeLine_eq]; omega)
      · obtain ⟨k1, k2, k3⟩ := rs.newL hq (rr.rep k.toNat)
        exact h _ _ _ k1 k2 k3
    · exact h.elim
  · exact h.elim) calm_rep ha hb
end
/-! ### xs.extend(ys) -/
def extO (x : D) (ds : List D) (st : Sto) : Out D := match ds with
  | [d] => (match celAt x st, lstOf st d with
    | some (n, xs), some ys => if xs.length + ys.length < 100000 then .ok .non (st.set n (.lst (xs ++ ys))) else .bad
    | _, _ => .bad)
  | _ => .bad
theorem calm_ext (x : D) (ds : List D) (st : Sto) : Calm (extO x ds st) := by
  unfold extO
  split
  · split
    · split <;> trivial
    · trivial
  · trivial
section
variable {X : Cx} {G : Gr} {W : WX} {e o : Expr} {es : List Expr} {mo : EM D} {mr : EM (List D)}
theorem mets_ext : MetS G "list" rExtend extO := by
  intro w st H x dx xs ds Q rs rx r h
  unfold extO at h
  split at h
  · rename_i d
    obtain ⟨v, rfl, rv⟩ := r.one
    split at h
    · rename_i n zs ws hc hl
      split at h
      · rename_i few
        obtain ⟨q, ys, rfl, f, hst, hq, rr⟩ := rx.cell rs hc
        obtain ⟨p, us, rfl, hp, r2⟩ := rv.lstAt rs hl
        obtain ⟨k1, k2⟩ := rs.put f hst (rr.append r2)
        exact ⟨q, p, ys, us, rfl, rfl, hq, hp, le_line (by rw [rr.length, r2.length]; exact Nat.le_of_lt few), h _ _ _ k1 k2 .non⟩
      · exact h.elim
    · exact h.elim
  · exact h.elim
theorem de_extend {apos cpos : Pos} (hK : G.K = X.K) (ho : PE X o (dE G W mo)) (ha : PA X (e :: es) (dA G W mr)) (hbase : attributeBase o "extend" X.env (eval o X.env) = eval o X.env := by rfl)
    (hfew : ((backTo cpos (starEach (e :: es) X.env)).all (fun x => !x.1) && (backToKw cpos (keywordEach [] X.env)).all (fun x => x.1.isSome) && decide ((e :: es).length + ([] : List Keyword).length + (if ([] : List Keyword).isEmpty then 0 else 1) < 30)) = true := by rfl)
    (hline : (apos.endLine == cpos.line) = true := by rfl) (hs : starEach (e :: es) X.env = (false, eval e X.env) :: starEach es X.env := by rfl) (hplain : (backTo cpos (starEach es X.env)).any (·.1) = false := by rfl) :
    PE X (.Call (.Attribute o "extend" apos) (e :: es) [] cpos) (dE G W (eBM isCel extO mo mr)) :=
  de_bm hK PySem.F.plainAttrs_list PySem.F.slot_list_extend PySem.F.type_list_extend mt_extend tys_cel mets_ext calm_ext ho ha hbase hfew hline hs hplain
end
/-! ### what is being made: live, no cell -/
section
variable {K : PySem.W.Frag} {T : List (Addr × Str)} {w w' : Wo} {st : Sto} {H H' : Hp} {p : Addr} {o o' : HO}
theorem Ext.livN (hp : H p = none) : Ext w H (w.plus p) (upd H p o) := by
  refine ⟨⟨fun _ _ z => z, fun b u hb nl _ => ⟨by rw [upd_ne (ne_of_none hb hp)]; exact hb, fun z => ?_⟩⟩, fun b u l nn hb => ⟨by rw [upd_ne (ne_of_none hb hp)]; exact hb, .inl l, nn⟩⟩
  rcases z with z | z
  · exact nl z
  · exact ne_of_none hb hp z
/-- a new thing that may change -/
theorem RSt.livN (rs : RSt K T w st H) (hp : H p = none) (m : Mu o) : RSt K T (w.plus p) st (upd H p o) := by
  refine ⟨rs.len, rs.nd, fun a l => ?_, fun n a zs g1 g2 => .inl (rs.livL n a zs g1 g2), fun n a zs g1 g2 l => ?_, fun n a c g1 g2 => ?_, rs.tab.ext fun b u hb => by rw [upd_ne (ne_of_none hb hp)]; exact hb⟩
  · rcases l with l | l
    · obtain ⟨u, ez, m⟩ := rs.livH a l
      exact ⟨u, by rw [upd_ne (ne_of_none ez hp)]; exact ez, m⟩
    · rw [l]
      exact ⟨_, upd_same, m⟩
  · rcases l with l | l
    · exact rs.livF n a zs g1 g2 l
    · rw [l] at g1
      exact rs.notIn hp g1
  · obtain ⟨zs, ez, q⟩ := rs.cell n a c g1 g2
    exact ⟨zs, by rw [upd_ne (ne_of_none ez hp)]; exact ez, q.ext (Ext.livN hp)⟩
theorem Ext0.livU (l : w.liv p) : Ext0 w H w (upd H p o) := ⟨fun _ _ z => z, fun b u hb nl _ => ⟨by rw [upd_ne (fun z : b = p => nl (z ▸ l))]; exact hb, nl⟩⟩
/-- it is changed -/
theorem RSt.livU (rs : RSt K T w st H) (l : w.liv p) (nc : ∀ n : Nat, w.adr[n]? ≠ some p) (m : Mu o) : RSt K T w st (upd H p o) := by
  obtain ⟨u0, h0, m0⟩ := rs.livH p l
  refine ⟨rs.len, rs.nd, fun a la => ?_, rs.livL, rs.livF, fun n a c g1 g2 => ?_, fun q hq => ?_⟩
  · by_cases ea : a = p
    · rw [ea]; exact ⟨_, upd_same, m⟩
    · obtain ⟨u, ez, m⟩ := rs.livH a la
      exact ⟨u, by rw [upd_ne ea]; exact ez, m⟩
  · obtain ⟨zs, ez, q⟩ := rs.cell n a c g1 g2
    exact ⟨zs, by rw [upd_ne (fun z : a = p => nc n (z ▸ g1))]; exact ez, q.ext0 (Ext0.livU l)⟩
  · obtain ⟨ps, h1, h2, h3⟩ := rs.tab q hq
    have ne : q.1 ≠ p := fun z => by
      rw [z, h0] at h1
      cases h1
      exact m0
    refine ⟨ps, by rw [upd_ne ne]; exact h1, h2, fun pos cv hc => ?_⟩
    obtain ⟨c, e1, e2⟩ := h3 pos cv hc
    have nc2 : c ≠ p := fun z => by
      rw [z, h0] at e2
      cases e2
      exact m0
    exact ⟨c, e1, by rw [upd_ne nc2]; exact e2⟩
/-- it is left as it is -/
theorem RSt.livD (rs : RSt K T w st H) (nc : ∀ n : Nat, w.adr[n]? ≠ some p) : RSt K T (w.drop p) st H ∧ Ext0 w H (w.drop p) H := by
  have e0 : Ext0 w H (w.drop p) H := ⟨fun _ _ z => z, fun b u hb nl _ => ⟨hb, fun z => nl z.1⟩⟩
  refine ⟨⟨rs.len, rs.nd, fun a l => rs.livH a l.1, fun n a zs g1 g2 => ⟨rs.livL n a zs g1 g2, fun z => nc n (z ▸ g1)⟩, fun n a zs g1 g2 l => rs.livF n a zs g1 g2 l.1, fun n a c g1 g2 => ?_, rs.tab⟩, e0⟩
  obtain ⟨zs, ez, q⟩ := rs.cell n a c g1 g2
  exact ⟨zs, ez, q.ext0 e0⟩
theorem Ext.updNew {w0 : Wo} {H0 : Hp} (e : Ext w0 H0 w H) (hp : H0 p = none) : Ext w0 H0 w (upd H p o) :=
  ⟨⟨e.pre, fun b u hb nl nt => let ⟨z1, z2⟩ := e.keep b u hb nl nt; ⟨by rw [upd_ne (ne_of_none hb hp)]; exact z1, z2⟩⟩, fun b u l nn hb => let ⟨z1, z2, z3⟩ := e.frn b u l nn hb; ⟨by rw [upd_ne (ne_of_none hb hp)]; exact z1, z2, z3⟩⟩
theorem Ext.dropNew {w0 : Wo} {H0 : Hp} (e : Ext w0 H0 w H) (hp : H0 p = none) : Ext w0 H0 (w.drop p) H :=
  ⟨⟨e.pre, fun b u hb nl nt => let ⟨z1, z2⟩ := e.keep b u hb nl nt; ⟨z1, fun z => z2 z.1⟩⟩, fun b u l nn hb => let ⟨z1, z2, z3⟩ := e.frn b u l nn hb; ⟨z1, ⟨z2, ne_of_none hb hp⟩, z3⟩⟩
end
/-! ### a written dict -/
def lookD (ks : List L2.Key) (ds : List D) (k : L2.Key) : Option D := ((ks.zip ds).find? fun q => decide (q.1 = k)).map (·.2)
def keyD : D → Option L2.Key
  | .int i => some (.inl i)
  | .str x => some (.inr x)
  | _ => none
def dixO (x y : D) (st : Sto) : Out D := match x, keyD y with
  | .dct ks ds, some k => (match lookD ks ds k with
    | some d => .ok d st
    | none => .bad)
  | _, _ => .bad
theorem lookD_rep {K : PySem.W.Frag} {w : Wo} {H : Hp} {k : L2.Key} {d : D} : ∀ {kvs : List (L2.Key × V)} {ds : List D}, Reps K w H (kvs.map (·.2)) ds → lookD (kvs.map (·.1)) ds k = some d → ∃ v, valV kvs k = some v ∧ Rep K w H v d
  | [], _, _, h => by cases h
  | (k0, v0) :: kvs, d0 :: ds, .cons r t, h => by
    by_cases e : k0 = k
    · have h' : some d0 = some d := by
        have : lookD ((k0, v0) :: kvs |>.map (·.1)) (d0 :: ds) k = some d0 := by simp [lookD, e]
        rw [← this]; exact h
      cases h'
      exact ⟨v0, valV_pos e, r⟩
    · have h' : lookD (kvs.map (·.1)) ds k = some d := by
        have : lookD ((k0, v0) :: kvs |>.map (·.1)) (d0 :: ds) k = lookD (kvs.map (·.1)) ds k := by simp [lookD, e]
        rw [← this]; exact h
      obtain ⟨v, h1, h2⟩ := lookD_rep t h'
      exact ⟨v, by rw [valV_neg e]; exact h1, h2⟩
section
variable {X : Cx} {G : Gr} {W : WX} {a b : Expr} {ma mb : EM D} {pos : Pos}
theorem de_dix (hu : X.A.units + 1 < cLine) (ha : PE X a (dE G W ma)) (hb : PE X b (dE G W mb)) (hs : NoSl b := by exact fun _ _ => rfl) : PE X (.Subscript a b pos) (dE G W (eOp dixO ma mb)) := PE.imp (pe_dget hu ha hb hs) fun σ H Q ⟨w, env, st, rs, re, h⟩ => by
  refine ⟨w, env, st, rs, re, Fit.bind h fun dx st1 w1 H1 x rs1 e1 rx h1 => ⟨w1, env, st1, rs1, re.ext e1, Fit.bind h1 fun dy st2 w2 H2 y rs2 e2 ry h2 => ?_⟩⟩
  have rx2 := rx.ext e2
  unfold dixO at h2
  split at h2
  · rename_i ks ds k hk
    split at h2
    · rename_i d hl
      cases rx2 with
      | dct f nl ek r =>
        subst ek
        obtain ⟨v, hv, rv⟩ := lookD_rep r hl
        rename_i aa kvs
        refine ⟨_, v, rfl, .inl ⟨kvs, k, .inl f, ?_, hv.symm⟩, h2.now rs2 rv⟩
        cases ry with
        | int i => cases hk; rfl
        | str s => cases hk; rfl
        | _ => cases hk
    · exact h2.elim
  · exact h2.elim
/-- the pairs of a display: keys that are written, values from the left -/
def pairTs (G : Gr) (W : WX) : List L2.Key → List (EM D) → List (TE × TE)
  | k :: ks, m :: ms => (tC (kV k), dE G W m) :: pairTs G W ks ms
  | _, _ => []
def argsM : List (EM D) → EM (List D)
  | [] => aNil
  | m :: ms => aCons m (argsM ms)
theorem pairs_read {σ : L2.St} {env : Env'} : ∀ (ks : List L2.Key) (ms : List (EM D)), ks.length = ms.length → ∀ {w : Wo} {st : Sto} {H : Hp} {Q : List (V × V) → Hp → Prop}, RSt G.K G.T w st H → REnv G.K w H env σ →
    FitA G w H (fun vs H2 => Q ((ks.map kV).zip vs) H2) (fun c d H' => W c d σ H') (argsM ms env st) → tPairs (pairTs G W ks ms) σ H Q
  | [], [], _, w, st, H, Q, rs, re, h => h w H [] rs (Ext.refl _ _) .nil
  | k :: ks, m :: ms, hl, w, st, H, Q, rs, re, h => by
    refine ⟨w, env, st, rs, re, Fit.bind h fun d st1 w1 H1 v rs1 e1 rv h1 => ?_⟩
    refine pairs_read ks ms (by simpa using hl) rs1 (re.ext e1) (Fit.bind h1 fun ds st2 w2 H2 vs rs2 e2 rvs h2 => ?_)
    exact h2 w2 H2 (v :: vs) rs2 (Ext.refl _ _) (.cons (rv.ext e2) rvs)
def eDct (ks : List L2.Key) (ms : List (EM D)) : EM D := fun env st => bnd (argsM ms env st) fun ds st => if ds.length = ks.length then .ok (.dct ks ds) st else .bad
theorem merge_nodup : ∀ (kvs acc : List (L2.Key × V)), ((acc ++ kvs).map (·.1)).Nodup → mergeK acc kvs = acc ++ kvs
  | [], acc, _ => by simp [mergeK]
  | (k, v) :: kvs, acc, h => by
    have hn : (acc.any fun kv => decide (kv.1 = k)) = false := by
      rw [List.any_eq_false]
      intro q hq
      have : q.1 ≠ k := fun e => by
        rw [List.map_append, List.nodup_append] at h
        exact h.2.2 q.1 (List.mem_map_of_mem hq) k (by simp) e
      simpa using this
    show mergeK (putK acc k v) kvs = _
    have : putK acc k v = acc ++ [(k, v)] := by unfold putK; rw [hn]; rfl
    rw [this, merge_nodup kvs (acc ++ [(k, v)]) (by simpa using h)]
    simp
theorem de_dct {keys : List (Option Expr)} {values : List Expr} (ks : List L2.Key) (ms : List (EM D)) (hl : ks.length = ms.length) (hnd : ks.Nodup) (h : PPs X pos keys values (pairTs G W ks ms)) (hall : keys.all (·.isSome) = true) (hlv : keys.length = values.length) (h0 : keys ≠ []) (h15 : keys.length ≤ 15) (hkl : ks.length = keys.length) :
    PE X (.Dict keys values pos) (dE G W (eDct ks ms)) := PE.imp (pe_disp h hall hlv h0 h15) fun σ H Q ⟨w, env, st, rs, re, hF⟩ p hp => by
  have ex1 : Ext w H (w.plus p) (upd H p (.dK [])) := Ext.livN hp
  refine pairs_read ks ms hl (rs.livN hp (o := .dK []) trivial) (re.ext ex1) ?_
  have key : ∀ (ks : List L2.Key) (vs : List V), vs.length = ks.length → (ks.map kV).zip vs = (ks.zip vs).map (fun kv => (kV kv.1, kv.2)) ∧ (ks.zip vs).map (·.1) = ks ∧ (ks.zip vs).map (·.2) = vs := by
    intro ks
    induction ks with
    | nil => intro vs hv; cases vs with
      | nil => exact ⟨rfl, rfl, rfl⟩
      | cons _ _ => cases hv
    | cons k ks ih =>
      intro vs hv
      cases vs with
      | nil => cases hv
      | cons v vs =>
        obtain ⟨a1, a2, a3⟩ := ih vs (by simpa using hv)
        simp only [List.map_cons, List.zip_cons_cons]
        exact ⟨by rw [a1], by rw [a2], by rw [a3]⟩
  unfold eDct at hF
  cases qa : argsM ms env st with
  | bad => rw [qa] at hF; exact hF.elim
  | err c fs st1 =>
    rw [qa] at hF
    intro w1 H1 cls dx rs1 e1 x1
    exact hF w1 H1 cls dx rs1 (ex1.trans e1) x1
  | ok ds st1 =>
    rw [qa, bnd_ok] at hF
    intro w1 H1 vs rs1 e1 rv
    obtain ⟨q1, q2, q3⟩ := e1.frn p _ (.inr rfl) (fun n => rs.notIn hp) upd_same
    by_cases hd : ds.length = ks.length
    · rw [if_pos hd] at hF
      obtain ⟨z1, z2, z3⟩ := key ks vs (by rw [rv.length]; exact hd)
      refine ⟨q1, ks.zip vs, z1, ?_, ?_⟩
      · rw [List.length_zip, rv.length, hd, Nat.min_self, hkl]; exact h15
      · rw [merge_nodup (ks.zip vs) [] (by rw [List.nil_append, z2]; exact hnd), List.nil_append]
        have e0 : Ext0 w1 H1 w1 (upd H1 p (.dK (ks.zip vs))) := Ext0.livU q2
        obtain ⟨d1, d2⟩ := (rs1.livU q2 q3 (o := .dK (ks.zip vs)) trivial).livD q3
        exact hF (w1.drop p) (upd H1 p (.dK (ks.zip vs))) (.ref p) d1 (((ex1.trans e1).updNew hp).dropNew hp) (.dct upd_same (fun z => z.2 rfl) z2 (by rw [z3]; exact (rv.ext0 e0).ext0 d2))
    · rw [if_neg hd] at hF
      exact hF.elim
end
end DL

set_option Elab.async false
set_option linter.all false
set_option maxRecDepth 100000
set_option maxHeartbeats 2000000
namespace DL
open PySem PySem.Spec PyProof.Rows L2
open LamX (LamS lamCx lamEnv CodeO TabB Tabs ExtN lam_start2 run_ofS codeO_ne inv_table among_app)
/-! ### lambdas as values -/
section
variable {X : Cx} {pins : List (Addr × Obj)} {σ : L2.St} {H : Hp} {s : Shared}
theorem fnO_ok {P : Program} {w : World} {H : Hp} {h : Heap} {f : Addr} {t : LamT} {cl : List (Str × Addr)} {pm ctv : Value} {c1 : Addr} (e : h.get? f = some (PySem.W.kla_obj "<lambda>" t.q t.params t.body t.scope cl pm c1 ctv)) : ObjOk P w H h f (FnO f t cl pm c1 ctv) :=
  ⟨e, ⟨_, e⟩, fun h1 h2 e1 k => k _ e1⟩
/-- the lambda is made; its object is known from now on -/
theorem lam_made {T : List (Addr × Str)} {c P : Addr} {params : Arguments} {body : Expr} {scope : Scope} {pos : Pos} {E : Value → Shared → Prop} {Q : Value → Shared → Prop} (I : Inv X pins σ H s) (TB : TabB X.base X.mg c P) (hcode : X.env.code = .ref c)
    (hm : (P, X.env.qual ++ "<lambda>") ∈ T) (hu : ∀ p ∈ T, p.1 = P → p.2 = X.env.qual ++ "<lambda>") (hT : Tabs T H) (hdef : defaultsOf params X.env = ([], [])) (hfree : ∀ y ∈ scope.names, y.2 = .free → ∃ c, X.env.cells.lookup y.1 = some c)
    (h : ∀ (f c1 : Addr) (pm ctv : Value) (H1 : Hp) (u : Shared), Inv X pins σ (upd H1 f (FnO f ⟨X.env.qual ++ "<lambda>", params, body, scope⟩ (cloFrom X.env.cells scope.names []) pm c1 ctv)) u → ExtN H H1 → Tabs T H1 → H1 f = none → H1 c1 = some (CodeO c1 (X.env.qual ++ "<lambda>")) → Q (.ref f) u) :
    wpAny (model X.prog X.w) X.A (eval (.Lambda params body scope pos) X.env) Q E s := by
  obtain ⟨ps, hP, ht, ha⟩ := hT _ hm
  refine PySem.W.kla_eval hdef ?_
  have bP : s.heap.BuiltinsAt X.mg P := TB.bm.keeps I.bk
  have oP : s.heap.get? P = some { cls := .none, data := .fields ps } := I.hok P _ hP
  cases hc : codeAmong pos ps.toList with
  | none =>
    refine PySem.W.kla_makeFunction (mg := X.mg) (c := c) (P := P) (ps := ps) (closure_ok hfree) I.ok.glob (I.mod.glob.keeps I.bk) hcode (TB.code.keeps I.bk) oP ht hc TB.gP bP fun c1 ctv g1 tk hx hge hlt hrec htb => ?_
    obtain ⟨c2, oc, vs, t, e2, hoc, hd, hv⟩ := hrec
    cases e2
    have sz : s.heap.objs.size ≤ g1.objs.size := Nat.le_trans hge (Nat.le_of_lt hlt)
    have nC : H c1 = none := I.hok.fresh hge
    have J := inv_table (t' := tk) (more := #[rawInt pos.line, rawInt pos.col, .ref c1]) (h' := g1) (q := X.env.qual ++ "<lambda>") I hP hx htb hge ⟨oc, vs, t, hoc, hd, hv⟩
    generalize hH1 : upd (upd H P (.tbl (ps ++ #[rawInt pos.line, rawInt pos.col, .ref c1]))) c1 (CodeO c1 (X.env.qual ++ "<lambda>")) = H1 at J
    have eN : ExtN H H1 := fun b o e n => by
      rw [← hH1, upd_ne (ne_of_none e nC), upd_ne (fun z => n ps (Option.some.inj (e.symm.trans (by rw [z]; exact hP))))]
      exact e
    have aC : H1 c1 = some (CodeO c1 (X.env.qual ++ "<lambda>")) := by rw [← hH1]; exact upd_same
    have aP : H1 P = some (.tbl (ps ++ #[rawInt pos.line, rawInt pos.col, .ref c1])) := by rw [← hH1, upd_ne (ne_of_none hP nC), upd_same]
    have eL : (ps ++ #[rawInt pos.line, rawInt pos.col, .ref c1]).toList = ps.toList ++ [rawInt pos.line, rawInt pos.col, .ref c1] := by simp
    have tabs : Tabs T H1 := fun p hp => by
      by_cases hb : p.1 = P
      · rw [hu p hp hb, hb]
        refine ⟨_, aP, by rw [eL]; exact PySem.TriplesOk_snoc _ _ _ _ ht, fun p' cv hcv => ?_⟩
        rw [eL] at hcv
        rcases among_app _ ht hcv with z | z
        · obtain ⟨c0, y1, y2⟩ := ha p' cv z
          exact ⟨c0, y1, eN _ _ y2 codeO_ne⟩
        · exact ⟨c1, z, aC⟩
      · obtain ⟨qs, a1, a2, a3⟩ := hT p hp
        refine ⟨qs, by rw [← hH1, upd_ne (ne_of_none a1 nC), upd_ne hb]; exact a1, a2, fun p' cv hcv => ?_⟩
        obtain ⟨c0, y1, y2⟩ := a3 p' cv hcv
        exact ⟨c0, y1, eN _ _ y2 codeO_ne⟩
    have nF : H1 g1.objs.size = none := J.hok.fresh (Nat.le_refl _)
    exact h g1.objs.size c1 ((X.mg "__name__").getD .none) ctv H1 _ (J.laid (t' := tk) (fun b o e => Heap.get?_push_of_some _ e) (Nat.le_refl _) (fnO_ok (Heap.get?_push_size _ rfl))) eN tabs nF aC
  | some cv =>
    obtain ⟨c1, e, hco⟩ := ha pos cv hc
    subst e
    refine PySem.W.kla_makeFunctionHit (mg := X.mg) (c := c) (P := P) (ps := ps) (closure_ok hfree) I.ok.glob (I.mod.glob.keeps I.bk) hcode (TB.code.keeps I.bk) oP ht hc bP fun ctv g1 tk hx sz => ?_
    exact h g1.objs.size c1 ((X.mg "__name__").getD .none) ctv H _ (I.laid (t' := tk) (fun b o e => Heap.get?_push_of_some _ (hx b o e)) sz (fnO_ok (Heap.get?_push_size _ rfl))) (ExtN.refl H) hT (I.hok.fresh sz) hco
theorem de_clo {G : Gr} {W : WX} {c P : Addr} {params : Arguments} {body : Expr} {scope : Scope} {pos : Pos} (i : Nat) (TB : TabB X.base X.mg c P) (hcode : X.env.code = .ref c) (hmT : (P, X.env.qual ++ "<lambda>") ∈ G.T) (hu : ∀ p ∈ G.T, p.1 = P → p.2 = X.env.qual ++ "<lambda>")
    (L : LamS X.env.scope scope) (hdef : defaultsOf params X.env = ([], [])) :
    PE X (.Lambda params body scope pos) (dE G W (eC (.clo i ⟨X.env.qual ++ "<lambda>", params, body, scope⟩ (cloFrom X.env.cells scope.names [])))) := by
  refine ⟨fun pins s σ H Q I h => ?_⟩
  obtain ⟨w, env, st, rs, re, h⟩ := h
  refine lam_made I TB hcode hmT hu rs.tab hdef (L.has I.ok) fun f c1 pm ctv H1 u J eN T1 hfn hco => ?_
  obtain ⟨rs1, e1⟩ := rs.extN eN T1
  have ncl : ¬ w.liv c1 := fun z => by
    obtain ⟨o, hx, m⟩ := rs1.livH c1 z
    rw [hco] at hx
    cases hx
    exact m
  refine ⟨.ref f, _, J, rfl, h w _ (.ref f) (rs1.new hfn) (e1.trans (Ext.new hfn)) (.clo upd_same (rs1.notLive hfn) ?_ ncl)⟩
  rw [upd_ne (ne_of_none hco hfn)]
  exact hco
/-- x(), in the def that got the lambda, whose object is known -/
theorem pe_actT {CXg : CXT} {Eg : XK} {Ng : List Str} {qg : Str} {sg : Scope} {g : Addr} {cdg : Value} {params : Arguments} {body : Expr} {scope : Scope} {k i : Nat} {a : Str} {pn : List (Addr × Obj)} {xe : Value → Shared → Prop} {W : WX} {tb : XK → TE} {p1 p2 : Pos}
    (I : Inv X pins σ H s) (L : LamS X.env.scope scope) (hbind : ∀ (cl : List (Str × Addr)) (pm cv ctv : Value), bindArgs (PySem.W.kla_fn "<lambda>" (X.env.qual ++ "<lambda>") params body scope cl pm cv ctv) ⟨[], []⟩ = pure [])
    (tk : Takes ((cxOf CXg X.prog X.w X.K X.mg X.base Ng qg sg g cdg X.A X.stack s H Eg).tr pn xe) W) (hr : Room (k + 1) (X.A.deeper (envOfC qg sg s.heap.objs.size g cdg)))
    (hbody : ∀ (A : Around) (outer : List Env) (s : Shared) (H : Hp) (E : XK) (f c1 : Addr), Room k (A.deeper (lamEnv X scope s.heap.objs.size f c1)) → PE (lamCx X A outer s H E scope f c1) body (tb E))
    (hN : Ng[i]? = some a) (hv : Vis sg a) (hd : (a == ("__debug__" : Str)) = false := by decide) (hcd : (a == ("__classdict__" : Str)) = false := by decide) :
    PE ((cxOf CXg X.prog X.w X.K X.mg X.base Ng qg sg g cdg X.A X.stack s H Eg).tr pn xe) (.Call (.Name a p1) [] [] p2)
      (fun σZ HZ Q => ∃ f c1 pm ctv, σZ[i]? = some (some (.ref f)) ∧ HZ f = some (FnO f ⟨X.env.qual ++ "<lambda>", params, body, scope⟩ (cloFrom X.env.cells scope.names []) pm c1 ctv) ∧ HZ c1 = some (CodeO c1 (X.env.qual ++ "<lambda>")) ∧ tb (fun c d H' => W c d σZ H') σ HZ Q) := by
  refine ⟨fun pinsZ sZ σZ HZ Q IZ hh => ?_⟩
  obtain ⟨f, c1, pm, ctv, hsl, hfo, hcode, hread⟩ := hh
  have ld := (pe_var (pos := p1) (i := i) hN hv hd hcd).run pinsZ sZ σZ HZ (fun v H1 => v = .ref f ∧ H1 = HZ) IZ ⟨.ref f, hsl, rfl, rfl⟩
  refine wpAny_Call_Name_kw (thn ld fun u s1 hu => ?_)
  obtain ⟨v, H1, I1, r1, ev, eH⟩ := hu
  subst ev
  rw [eH] at I1
  obtain rfl : u = Value.ref f := r1
  have of1 : s1.heap.get? f = some (PySem.W.kla_obj "<lambda>" (X.env.qual ++ "<lambda>") params body scope (cloFrom X.env.cells scope.names []) pm c1 ctv) := (I1.hok f _ hfo).1
  refine PySem.W.callWith_F0 ⟨_, _, _, _, of1⟩ ?_
  have un : Un (frs X.stack) [] H HZ s.heap s1.heap := I1.base
  obtain ⟨⟨oc, vs, t, hoc, hdc, hvc⟩, _, _⟩ := I1.hok c1 _ hcode
  have ran : codeAny (model X.prog X.w) (X.A.deeper (envOfC qg sg s.heap.objs.size g cdg)) (.call (.ref f) ⟨[], []⟩) (CR (L2.CX X.prog X.w) (envOfC qg sg s.heap.objs.size g cdg :: X.stack) X.prog X.w HZ s1 Q (fun c d H' => W c d σZ H')) s1 := by
    refine PySem.W.kla_callFunE hr.depth of1 rfl L.co L.gen rfl ⟨c1, oc, vs, t, rfl, hoc, hdc, hvc⟩ ?_
    rw [hbind]
    refine wpAny_pure (wpAny_newFunctionEnv (fun y hy => (L.own y hy).2) (fun y hy => absurd hy (by simp)) (fun h1 hns hsb => ⟨I1.nolimit.fresh _ hsb, ?_⟩) L.kind)
    show codeAny _ _ (.expr body (lamEnv X scope s1.heap.objs.size f c1)) _ _
    have kp : ∀ b o, s1.heap.get? b = some o → h1.get? b = some o := fun b o e => hsb.extBut b o (Nat.ne_of_lt (Heap.lt_size e)) (Heap.get?_push_of_some _ e)
    have J := lam_start2 (E := fun c d H' => W c d σZ H') (f := f) (c' := c1) (tk := s1.toks + ([] : List (Str × Value)).length) I L I1.env0 hr.hd un hns kp
    refine PySem.W.kla_codeExpr (wpAny_mono ((hbody _ _ s1 HZ _ f c1 (hr.deeper _)).run [] _ _ HZ Q J hread) (fun v s2 hq => ?_) fun e s2 hq => hq)
    obtain ⟨w2, H2, J2, rv, q⟩ := hq
    exact ⟨w2, H2, J2.os, J2.bare, J2.base, J2.hok, rv, q⟩
  refine wpAny_call (codeAny_mono ran fun r s2 hq => ?_)
  cases r with
  | error e => exact passAt tk σZ pinsZ HZ s1 e s2 I1 hq
  | ok fl =>
    cases fl with
    | ret u => exact I1.after hq
    | next => exact False.elim hq
    | brk => exact False.elim hq
    | cont => exact False.elim hq
end
end DL

set_option Elab.async false
set_option linter.all false
set_option maxRecDepth 100000
set_option maxHeartbeats 2000000
namespace DL
open PySem PySem.Spec PyProof.Rows L2
open LamX (LamS lamCx lamEnv CodeO TabB Tabs ExtN run_ofS)
/-! ### lambdas handed on out of a list -/
/-- the lambda t computes m -/
def JobOk (X : Cx) (G : Gr) (k : Nat) (t : LamT) (m : EM D) : Prop :=
  t.q = X.env.qual ++ "<lambda>" ∧ LamS X.env.scope t.scope ∧ (∀ (cl : List (Str × Addr)) (pm cv ctv : Value), bindArgs (PySem.W.kla_fn "<lambda>" (X.env.qual ++ "<lambda>") t.params t.body t.scope cl pm cv ctv) ⟨[], []⟩ = pure []) ∧
    ∀ (A : Around) (outer : List Env) (s : Shared) (H : Hp) (E : XK) (f c1 : Addr), Room k (A.deeper (lamEnv X t.scope s.heap.objs.size f c1)) → PE (lamCx X A outer s H E t.scope f c1) t.body (dE G (fun c d _ H' => E c d H') m)
open Classical in
/-- g(y), y in the slot i a lambda; its names are those of the def around the block -/
noncomputable def eJobB (i : Nat) (cells : List (Str × Addr)) (bodies : List (LamT × EM D)) (vs : List Nat) (mo : (Sto → Out D) → Sto → Out D) : EM D := fun env st => match env[i]? with
  | some (some (.clo j t cl)) => (match bodies[j]? with
    | some (t', m) => if t = t' ∧ cl = cloFrom cells t'.scope.names [] then mo (m (wipeE env vs)) st else .bad
    | none => .bad)
  | _ => .bad
theorem wipe_renv {K : PySem.W.Frag} {w : Wo} {H : Hp} {env : Env'} {σ σ2 : L2.St} {vs : List Nat} (re : REnv K w H env σ2) (hw : L2.wipe σ2 vs = L2.wipe σ vs) : REnv K w H (wipeE env vs) σ := by
  have r := re.wipe vs
  rw [hw] at r
  refine ⟨by rw [r.1, L2.wipe_length], fun i d h => ?_⟩
  obtain ⟨v, h1, h2⟩ := r.2 i d h
  exact ⟨v, (wipe_some h1).1, h2⟩
section
variable {X : Cx} {G : Gr} {W : WX}
theorem pe_job {pins : List (Addr × Obj)} {σ : L2.St} {s3 : Shared} {H3 : Hp} {bscope : Scope} {ce : Env} {fp : List Addr} {E : Value → Shared → Prop} {x a y : Str} {g : Addr} {k i : Nat} {pg : Arguments} {bg : List Stmt} {sg : Scope} {dV kV doc pm cdv ct oc : Value} {an od : Option Addr} {osl : Array (Option Value)} {Ng : List Str}
    {p py pos : Pos} {vs : List Nat} {bodies : List (LamT × EM D)} {mg : D → (Sto → Out D) → SM} {mo : (Sto → Out D) → Sto → Out D}
    (J : Inv X pins σ H3 s3) (f3 : ∀ b ∈ fp, FpOk X pins H3 b ∧ b < s3.heap.objs.size) (hg : Gl ((X.blk s3 H3 bscope ce fp).wish E) x) (hm : X.mg x = some (.ref g)) (hk : PySem.W.keepIn X.K (.ref g) = true) (lk : X.K.lookup g = some ⟨oc, od, .func (PySem.W.fnOf x x pg bg sg dV kV doc pm an cdv ct), osl⟩) (hcg : PySem.W.codeIn X.K cdv x = true)
    (hb : Binds X.K (PySem.W.fnOf x x pg bg sg dV kV doc pm an cdv ct) [a] []) (Sg : FnScope Ng [a] sg) (hNg : Ng[0]? = some a) (hva : Vis sg a) (hG : GivesD X G k Ng x sg g cdv bg a mg) (hsem : ∀ d job st, outOf (mg d job (startE Ng.length [d]) st) = mo job st) (hcalm : ∀ job st, Calm (mo job st))
    (hr : Room (k + 2) X.A) (hB : ∀ q ∈ bodies, JobOk X G k q.1 q.2) (hN : X.N[i]? = some y) (hvy : Vis ce.scope y) (hdb : (x == ("__debug__" : Str)) = false := by decide) (hdy : (y == ("__debug__" : Str)) = false := by decide) (hcy : (y == ("__classdict__" : Str)) = false := by decide)
    (hd : (a == ("__debug__" : Str)) = false := by decide) (hcd : (a == ("__classdict__" : Str)) = false := by decide) :
    PE ((X.blk s3 H3 bscope ce fp).wish E) (.Call (.Name x p) [.Name y py] [] pos) (fun σ2 H Q => L2.wipe σ2 vs = L2.wipe σ vs ∧ dE G W (eJobB i X.env.cells bodies vs mo) σ2 H Q) := by
  refine ⟨fun pinsY s σ2 H Q I h => ?_⟩
  obtain ⟨hw, w, env, st, rs, re, h⟩ := h
  unfold eJobB at h
  split at h
  next j t cl hslot =>
    split at h
    next t' ml hbj =>
      split at h
      next hte =>
        obtain ⟨rfl, rfl⟩ := hte
        have hmem : (t, ml) ∈ bodies := List.mem_of_getElem? hbj
        obtain ⟨hq, L, hbind, hbody⟩ := hB _ hmem
        dsimp only at hq L hbind hbody
        have h0 : FitD G w H Q E0 (mo (ml (wipeE env vs)) st) := fit_calm h (hcalm _ _)
        obtain ⟨v, hv, rv⟩ := re.2 i _ hslot
        cases rv with
        | clo hfo nlf hco nlc =>
          rename_i f c1 pm1 ctv1
          refine wpAny_Call_Name_kw (ld_glob I hg hm ?_ hdb)
          refine PySem.W.callWith_K (h₀ := X.base) I.ok.mod.kin hk ?_ (by rfl) (by rfl)
          show wpAny _ _ (spliced ((false, eval (.Name y py) ce) :: backTo pos (starEach [] ce))) _ _ s
          refine Calls.spliced_cons (thn ((pe_var (X := (X.blk s3 H3 bscope ce fp).wish E) (pos := py) (i := i) hN hvy hdy hcy).run pinsY s σ2 H (fun v H1 => v = .ref f ∧ H1 = H) I ⟨.ref f, hv, rfl, rfl⟩) fun u s1 hu => ?_)
          obtain ⟨v1, H1, I1, r1, ev, eH⟩ := hu
          subst ev
          subst eH
          obtain rfl : u = Value.ref f := r1
          refine Calls.spliced_nil ⟨I1.kIn, ?_⟩
          have IX : Inv X pins σ H1 s1 := J.call' (ch := fp) I1.unwish.os I1.unwish.base I1.unwish.hok I1.unwish.bare fun b hb => ⟨(f3 b hb).1.2.2.2.1, (f3 b hb).1.2.1, (f3 b hb).1.2.2.2.2.1, (f3 b hb).1.2.2.2.2.2⟩
          have reX : REnv G.K w H1 (wipeE env vs) σ := wipe_renv re hw
          have rd : Rep G.K w H1 (.ref f) (.fn f c1 t.q w H1) := .fn hco nlc (Ext.refl w H1).toExt0
          have ran : codeAny (model X.prog X.w) X.A (.call (.ref g) ⟨[.ref f], []⟩) (CR CX0 X.stack X.prog X.w H1 s1 Q E0) s1 := by
            refine run_ofS (N := Ng) (ps := [a]) (us := [.ref f]) (vs := [.ref f]) lk hcg Sg hr IX.env0 (hb s1 [.ref f] IX.kIn rfl) (.cons rfl .nil) rfl fun hr1 => ?_
            refine ⟨_, (hG s1 H1 (.fn f c1 t.q w H1) (fun st => ml (wipeE env vs) st) hr1 fun W1 pn xe p1 p2 tk => ?_).nox, ?_⟩
            · refine PE.imp (pe_actT (i := 0) (params := t.params) (body := t.body) (scope := t.scope) IX L hbind tk hr1 hbody hNg hva hd hcd) fun σZ HZ Q1 hz => ?_
              obtain ⟨wZ, envZ, stZ, rsZ, reZ, hZ⟩ := hz
              unfold eJob at hZ
              cases q : envZ[0]? with
              | none => rw [q] at hZ; exact hZ.elim
              | some od =>
                cases od with
                | none => rw [q] at hZ; exact hZ.elim
                | some d1 =>
                  rw [q] at hZ
                  dsimp only at hZ
                  split at hZ
                  · rename_i ed
                    subst ed
                    obtain ⟨v0, hv0, rv0⟩ := reZ.2 0 _ q
                    cases rv0 with
                    | fn hc2 nl2 ex2 =>
                      have hfz := (ex2.keep f _ hfo nlf fun ps z => fnO_ne ps z).1
                      refine ⟨f, c1, pm1, ctv1, hv0, ?_, by rw [← hq]; exact hc2, wZ, wipeE env vs, stZ, rsZ, ⟨reX.1, fun i d hi => let ⟨v, h1, h2⟩ := reX.2 i d hi; ⟨v, h1, h2.ext0 ex2⟩⟩, hZ⟩
                      rw [hfz]
                      cases t
                      dsimp only at hq
                      subst hq
                      rfl
                  · exact hZ.elim
            · exact ⟨w, _, st, rs, renv_start (.cons rd .nil), fit_run (E := E0) (by rw [hsem]; exact h0)⟩
          refine wpAny_call (codeAny_mono ran fun r s2 hq => ?_)
          cases r with
          | error e => exact (show False from hq).elim
          | ok fl =>
            cases fl with
            | ret u => exact I1.after hq
            | next => exact False.elim hq
            | brk => exact False.elim hq
            | cont => exact False.elim hq
      next => exact h.elim
    next => exact h.elim
  next => exact h.elim
/-- [g(y) != z for y in ys] -/
theorem de_jobs {x a y : Str} {g : Addr} {k i iz iy : Nat} {pg : Arguments} {bg : List Stmt} {sg : Scope} {dV kV doc pm cdv ct oc : Value} {an od : Option Addr} {osl : Array (Option Value)} {Ng : List Str} {p py pos pc pt pz : Pos} {bodies : List (LamT × EM D)} {mg : D → (Sto → Out D) → SM} {mo : (Sto → Out D) → Sto → Out D}
    {iter z : Expr} {scope : Scope} {mi : EM (List D)} {us : List Nat} {gt : GM} {mz : EM D} (own : List (Str × Nat)) (hK : G.K = X.K) (tk : Takes X W) (hst : X.stack = X.env :: X.outer) (hf : X.env.frame = some X.env.locals) (hc : X.calm = true) (hND : X.N.Nodup) (hi : PI X (.Name y pt) iter (dI G W mi)) (ok : BlkOk X.N X.env.scope scope own) (hus : ∀ i ∈ us, i ∈ own.map (·.2))
    (hgt : ∀ (s : Shared) (H : Hp) (C : Addr) (cl : List (Str × Addr)) (fp : List Addr), PG (X.blk s H scope (compEnvC scope cl C X.env) fp) (.Name y pt) (dGv G gt us))
    (hz : ∀ (W : WX) (s : Shared) (H : Hp) (C : Addr) (cl : List (Str × Addr)) (fp : List Addr) (E : Value → Shared → Prop), PE ((X.blk s H scope (compEnvC scope cl C X.env) fp).wish E) z (dE G W mz))
    (hg : ∀ (s : Shared) (H : Hp) (C : Addr) (cl : List (Str × Addr)) (fp : List Addr) (E : Value → Shared → Prop), Gl ((X.blk s H scope (compEnvC scope cl C X.env) fp).wish E) x)
    (hm : X.mg x = some (.ref g)) (hk : PySem.W.keepIn X.K (.ref g) = true) (lk : X.K.lookup g = some ⟨oc, od, .func (PySem.W.fnOf x x pg bg sg dV kV doc pm an cdv ct), osl⟩) (hcg : PySem.W.codeIn X.K cdv x = true)
    (hb : Binds X.K (PySem.W.fnOf x x pg bg sg dV kV doc pm an cdv ct) [a] []) (Sg : FnScope Ng [a] sg) (hNg : Ng[0]? = some a) (hva : Vis sg a) (hG : GivesD X G k Ng x sg g cdv bg a mg) (hsem : ∀ d job st, outOf (mg d job (startE Ng.length [d]) st) = mo job st) (hcalm : ∀ job st, Calm (mo job st))
    (hr : Room (k + 2) X.A) (hu : X.A.units + 64 < cLine) (hB : ∀ q ∈ bodies, JobOk X G k q.1 q.2) (hN : X.N[i]? = some y) (hvy : ∀ (C : Addr) (cl : List (Str × Addr)), Vis (compEnvC scope cl C X.env).scope y) (hdb : (x == ("__debug__" : Str)) = false := by decide) (hdy : (y == ("__debug__" : Str)) = false := by decide) (hcy : (y == ("__classdict__" : Str)) = false := by decide)
    (hd : (a == ("__debug__" : Str)) = false := by decide) (hcd : (a == ("__classdict__" : Str)) = false := by decide) (hs : ∀ x, foldedSetIterable iter X.env x = pure x := by intro _; rfl) :
    PE X (.ListComp (.Compare (.Call (.Name x p) [.Name y py] [] pc) [.NotEq] [z] pz) [⟨.Name y pt, iter, [], 0⟩] scope pos) (dE G W (eLcR mi gt tT (eOp oNe (eJobB i X.env.cells bodies (own.map (·.2)) mo) mz) (own.map (·.2)))) := by
  refine PE.imp (pe_lcJ (te := fun σ σ2 H Q => L2.wipe σ2 (own.map (·.2)) = L2.wipe σ (own.map (·.2)) ∧ dE G (fun c d _ H' => W c d σ H') (eOp oNe (eJobB i X.env.cells bodies (own.map (·.2)) mo) mz) σ2 H Q) tk hst hf hc hND hi ok hgt (fun _ _ _ _ _ => dts_nil) (fun pins σ s H C cl fp J f3 => ?_) hs) fun _ _ _ q => dlcJ hus q
  refine PE.imp (pe_cmpR (op_neD hu) (pe_job (W := fun c d _ H' => W c d σ H') (vs := own.map (·.2)) J f3 (hg s H C cl fp _) hm hk lk hcg hb Sg hNg hva hG hsem hcalm hr hB hN (hvy C cl) hdb hdy hcy hd hcd) (hz (fun c d _ H' => W c d σ H') s H C cl fp _) (nomark _)) fun σ2 H Q h => ?_
  exact ⟨h.1, dop (ops_ne hK) calm_ne h.2⟩
end
end DL

set_option Elab.async false
set_option linter.all false
set_option maxRecDepth 100000
set_option maxHeartbeats 2000000
namespace DL
open PySem PySem.Spec PyProof.Rows L2
/-! ### for x in {}: -/
def sForDic (i : Nat) : SM := fun env st => match env[i]? with
  | some (some .dic) => .nx env st
  | _ => .bad
theorem upd_back {H : Hp} {a : Addr} {o u : HO} (h : H a = some u) : upd (upd H a o) a u = H := by
  funext b
  by_cases e : b = a
  · rw [e, upd_same, h]
  · rw [upd_ne e, upd_ne e]
section
variable {X : Cx} {G : Gr} {W : WX}
theorem ds_forDic (i : Nat) {j : Nat} {x y : Str} {p pos pt : Pos} {body : List Stmt} (hN : X.N[i]? = some x) (hp : PassesOwn (model X.prog X.w) X.A X.env X.xe) (hc : X.calm = true) (hg : PG X (.Name y pt) (gName j)) (hv : Vis X.env.scope x := by first | exact Or.inl rfl | exact Or.inr (Or.inl rfl) | exact Or.inr (Or.inr rfl)) (hd : (x == ("__debug__" : Str)) = false := by decide) (hcd : (x == ("__classdict__" : Str)) = false := by decide)
    (hs : ∀ z, foldedSetIterable (.Name x p) X.env z = pure z := by intro _; rfl) : PS X (.For (.Name y pt) (.Name x p) body [] pos) (dS G W (sForDic i)) := by
  refine PS.imp (ps_lock (ps_for hp hc (pi_keys (pe_var hN hv hd hcd)) hg (tb := fun _ _ _ => False) ⟨fun _ _ _ _ _ _ h => h.elim⟩ hs)) fun Dn σ H ⟨w, env, st, rs, re, h⟩ => ?_
  unfold sForDic at h
  split at h
  · rename_i hslot
    obtain ⟨v, hσ, rv⟩ := re.2 i _ hslot
    cases rv with
    | dic ha nl =>
      rename_i a
      refine ⟨a, .dK [], ha, trivial, fun od => ⟨.ref a, hσ, a, od, rfl, .inl ⟨[], upd_same, fun j m σ' H' => j = 0 ∧ σ' = σ ∧ H' = upd H a (.frz od (.dK [])), ⟨0, rfl, rfl, rfl⟩, fun j m σ' H' hW => ?_⟩⟩⟩
      obtain ⟨rfl, rfl, rfl⟩ := hW
      refine .inl ⟨⟨upd_same, Nat.zero_le _⟩, upd_same, ?_⟩
      rw [upd_back ha]
      exact h w H _ rs (Ext.refl _ _) re
  · exact h.elim
end
/-! ### a dict that a loop walks; the keys of a dict -/
def dixL (x y : D) (st : Sto) : Out D := match x, keyD y with
  | .dcl ks ds, some k => (match lookD ks ds k with
    | some d => .ok d st
    | none => .bad)
  | _, _ => .bad
def keyToD : L2.Key → D
  | .inl i => .int i
  | .inr x => .str x
def lenDO (ds : List D) (st : Sto) : Out D := match ds with
  | [.dct ks _] => .ok (.int ks.length) st
  | _ => .bad
def listDO (ds : List D) (st : Sto) : Out D := match ds with
  | [.dct ks _] => .ok (.lst (ks.map keyToD)) st
  | _ => .bad
theorem keys_rep {K : PySem.W.Frag} {w : Wo} {H : Hp} : ∀ ks : List L2.Key, Reps K w H (ks.map kV) (ks.map keyToD)
  | [] => .nil
  | .inl i :: ks => .cons (.int i) (keys_rep ks)
  | .inr x :: ks => .cons (.str x) (keys_rep ks)
section
variable {X : Cx} {G : Gr} {W : WX} {a b e : Expr} {es : List Expr} {ma mb : EM D} {mr : EM (List D)} {pos p : Pos}
theorem de_dixL (hu : X.A.units + 1 < cLine) (ha : PE X a (dE G W ma)) (hb : PE X b (dE G W mb)) (hs : NoSl b := by exact fun _ _ => rfl) : PE X (.Subscript a b pos) (dE G W (eOp dixL ma mb)) := PE.imp (pe_dget hu ha hb hs) fun σ H Q ⟨w, env, st, rs, re, h⟩ => by
  refine ⟨w, env, st, rs, re, Fit.bind h fun dx st1 w1 H1 x rs1 e1 rx h1 => ⟨w1, env, st1, rs1, re.ext e1, Fit.bind h1 fun dy st2 w2 H2 y rs2 e2 ry h2 => ?_⟩⟩
  have rx2 := rx.ext e2
  unfold dixL at h2
  split at h2
  · rename_i ks ds k hk
    split at h2
    · rename_i d hl
      cases rx2 with
      | dcl f nl ek r =>
        subst ek
        obtain ⟨v, hv, rv⟩ := lookD_rep r hl
        rename_i aa oo kvs
        refine ⟨_, v, rfl, .inl ⟨kvs, k, .inr ⟨oo, f⟩, ?_, hv.symm⟩, h2.now rs2 rv⟩
        cases ry with
        | int i => cases hk; rfl
        | str s => cases hk; rfl
        | _ => cases hk
    · exact h2.elim
  · exact h2.elim
theorem de_lenD (hg : Gl X "len") (hm : X.mg "len" = none) (ha : PA X (e :: es) (dA G W mr)) (he : starEach (e :: es) X.env = (false, eval e X.env) :: starEach es X.env := by rfl) (hpl : (backTo pos (starEach es X.env)).any (·.1) = false := by rfl) : PE X (.Call (.Name "len" p) (e :: es) [] pos) (dE G W (eCB lenDO mr)) :=
  de_callB call_lenD (fun w st H vs ds Q rs rv h => by
    unfold lenDO at h
    split at h
    · obtain ⟨v, rfl, r⟩ := rv.one
      cases r with
      | dct f nl ek r => subst ek; exact ⟨_, _, rfl, f, by simpa using h.now rs (.int _)⟩
    · exact h.elim) (fun ds st => by unfold lenDO; split <;> trivial) hg hm PySem.boot_len ha (he := he) (hpl := hpl)
theorem de_listD (hc : X.calm = true) (hg : Gl X "list") (hm : X.mg "list" = none) (ha : PA X (e :: es) (dA G W mr)) (he : starEach (e :: es) X.env = (false, eval e X.env) :: starEach es X.env := by rfl) (hpl : (backTo pos (starEach es X.env)).any (·.1) = false := by rfl) : PE X (.Call (.Name "list" p) (e :: es) [] pos) (dE G W (eCB listDO mr)) :=
  de_callTy (call_listD hc) (fun w st H vs ds Q rs rv h => by
    unfold listDO at h
    split at h
    · obtain ⟨v, rfl, r⟩ := rv.one
      cases r with
      | dct f nl ek r =>
        subst ek
        rename_i aa kvs
        refine ⟨aa, kvs, rfl, .inl f, fun p hp => ?_⟩
        have hk := keys_rep (K := G.K) (w := w) (H := H) (kvs.map (·.1))
        rw [List.map_map] at hk
        obtain ⟨k1, k2, k3⟩ := rs.newL hp hk
        exact h _ _ _ k1 k2 k3
    · exact h.elim) (fun ds st => by unfold listDO; split <;> trivial) hg hm (by decide +kernel) ha (he := he) (hpl := hpl)
end
/-! ### instances that no longer change -/
def fldO (Cw : Addr) (f : Str) (d : D) (st : Sto) : Out D := match d with
  | .ins C fs ds => if C = Cw then (match (fs.zip ds).lookup f with
    | some x => .ok x st
    | none => .bad) else .bad
  | _ => .bad
theorem flds_get {K : PySem.W.Frag} {w : Wo} {H : Hp} {f : Str} {d : D} : ∀ {fvs : List (Str × V)} {ds : List D}, Reps K w H (fvs.map (·.2)) ds → ((fvs.map (·.1)).zip ds).lookup f = some d → ∃ v, fvs.lookup f = some v ∧ Rep K w H v d
  | [], _, _, h => by cases h
  | (g, v0) :: fvs, d0 :: ds, .cons r t, h => by
    have h' : (match f == g with | true => some d0 | false => ((fvs.map (·.1)).zip ds).lookup f) = some d := h
    rw [List.lookup_cons]
    cases e : f == g with
    | true =>
      rw [e] at h'
      cases h'
      exact ⟨v0, rfl, r⟩
    | false =>
      rw [e] at h'
      exact flds_get t h'
theorem flds_none {f : Str} : ∀ {fvs : List (Str × V)}, f ∉ fvs.map (·.1) → fvs.lookup f = none
  | [], _ => rfl
  | (g, v0) :: fvs, h => by
    rw [List.lookup_cons]
    have h1 : f ≠ g := fun e => h (by simp [e])
    have e : (f == g) = false := beq_eq_false_iff_ne.mpr h1
    rw [e]
    exact flds_none fun z => h (by simp only [List.map_cons, List.mem_cons]; exact .inr z)
/-- the method m of the class C computes mm -/
def MethOk (P : Program) (w : World) (base : Heap) (G : Gr) (C : Addr) (m : Str) (k : Nat) (mm : List D → Sto → Out D) : Prop :=
  ∃ (f : Addr) (fd : FuncData), Meth G.K C m f ∧ Binds G.K fd ["self"] [] ∧ FnOk P w G.K G.mg base (L2.CX P w) k f fd ["self"] (spM G 1 mm)
open Classical in
noncomputable def eMeth0 (Cw : Addr) (m : Str) (mm : List D → Sto → Out D) (me : EM D) : EM D := fun env st => bnd (me env st) fun d st => match d with
  | .ins C fs ds => if C = Cw ∧ m ∉ fs then mm [.ins C fs ds] st else .bad
  | _ => .bad
section
variable {X : Cx} {G : Gr} {W : WX} {e : Expr} {me : EM D} {pos apos : Pos}
theorem de_fld {Cw : Addr} {f : Str} (hK : G.K = X.K) (c : Cls X.K Cw) (n : NoAttr X.K Cw f) (he : PE X e (dE G W me)) (hb : attributeBase e f X.env (eval e X.env) = eval e X.env := by rfl) : PE X (.Attribute e f pos) (dE G W (eUn (fldO Cw f) me)) := PE.imp (pe_fld he hb) fun σ H Q ⟨w, env, st, rs, re, h⟩ => by
  refine ⟨w, env, st, rs, re, Fit.bind h fun d st1 w1 H1 v rs1 e1 rv h1 => ?_⟩
  unfold fldO at h1
  split at h1
  · rename_i C fs ds
    split at h1
    · rename_i eC
      subst eC
      split at h1
      · rename_i x hl
        cases rv with
        | ins ha nl ef r =>
          subst ef
          obtain ⟨u, hu, ru⟩ := flds_get r hl
          exact ⟨_, _, _, _, u, rfl, ha, c, n, hu, h1.now rs1 ru⟩
      · exact h1.elim
    · exact h1.elim
  · exact h1.elim
theorem de_meth0 {pl : Sem Bool} {Cw : Addr} {m : Str} {k : Nat} {mm : List D → Sto → Out D} (F : MethOk X.prog X.w X.base G Cw m k mm) (hK : G.K = X.K) (hM : G.mg = X.mg) (c : Cls X.K Cw) (hr : Room k X.A) (hc : ∀ ds st, Calm (mm ds st)) (he : PE X e (dE G W me))
    (ht : eval (.Call (.Attribute e m apos) [] [] pos) X.env = (eval e X.env >>= fun ov => standAt apos.atName >>= fun _ => holding [ov] (getMethod ov m pl) >>= fun q => callWith pos q.1 q.2 (backTo pos (starEach [] X.env)) (backToKw pos (keywordEach [] X.env))) := by rfl) :
    PE X (.Call (.Attribute e m apos) [] [] pos) (dE G W (eMeth0 Cw m mm me)) := by
  obtain ⟨f, fd, h1, h2, h3⟩ := F
  rw [hK] at h1 h2
  rw [hK, hM] at h3
  refine PE.imp (pe_meth0 (pl := pl) he c h1 h3 hr h2 (dvs := []) .nil (E := E0) (fun pins σ H s e s' I cx => by
    obtain ⟨_, _, _, _, _, _, _, _, _, _, _, _, z⟩ := cx
    exact z.elim) ht) fun σ H Q ⟨w, env, st, rs, re, h⟩ => ?_
  refine ⟨w, env, st, rs, re, Fit.bind h fun d st1 w1 H1 v rs1 e1 rv h1 => ?_⟩
  split at h1
  · rename_i C fs ds
    split at h1
    · rename_i hh
      obtain ⟨rfl, hn⟩ := hh
      have rv0 := rv
      cases rv with
      | ins ha nl ef r =>
        subst ef
        refine ⟨_, _, _, rfl, ha, flds_none hn, ?_⟩
        exact ⟨rfl, w1, [_], st1, rs1, .cons rv0 .nil, fit_calm h1 (hc _ _)⟩
    · exact h1.elim
  · exact h1.elim
end
end DL

set_option Elab.async false
set_option linter.all false
set_option maxRecDepth 100000
set_option maxHeartbeats 2000000
namespace DL
open PySem PySem.Spec PyProof.Rows L2
def stubM : List D → Sto → Out D := fun _ _ => .bad
/-- return list(self.tracks) -/
def arrowsM (Cw : Addr) : List D → Sto → Out D := runM 1 (sRet (eCB listO (aCons (eUn (fldO Cw "tracks") (eV 0)) aNil)))
def watD (Cw : Addr) : D := .ins Cw ["hands", "held", "tracks", "last_ones"] [.any, .any, .tup [.tup [.str "p", .str "a", .tup [], .tup [], .str "p"]], .any]
/-- a law whose model hangs on where its frame's cells lie -/
def spC (G : Gr) (n : Nat) (m : List (Str × Addr) → List D → Sto → Out D) : Sp := fun vs H Q E => vs.length = n ∧ ∃ w ds st, RSt G.K G.T w st H ∧ Reps G.K w H vs ds ∧ ∀ cells, FitD G w H Q E (m cells ds st)
theorem law_atC {l : PySem.W.OpenLaw} {w : World} {K : PySem.W.Frag} {k : Nat} {x : Str} {mg : Str → Option Value} {fa : Addr} {h : Heap} {cs : List (Addr × Addr)} {T : List (Addr × Str)} {m : List (Str × Addr) → List D → Sto → Out D} {fd : FuncData}
    (hT : ∀ p ∈ cs, h.get? p.2 = some { cls := .none, data := .fields #[] }) (nT : ∀ p ∈ cs, K.lookup p.2 = none) (C : ∀ p ∈ cs, PySem.W.CodeHd h p.1 p.2) (hb : ∀ (s : Shared) (u : Value), BindsTo s fd ⟨[u], []⟩ [(x, u)]) (hTc : ∀ p ∈ T, p.1 ∈ cs.map (·.2))
    (hm : ∀ cells, ∀ ns : List Int, ns.length ≤ 63 → (∀ z ∈ ns, Builtin.Int.intBits z ≤ 1048576) → ∃ st, m cells [.scr ns] [] = .ok (.bl true) st)
    (F : ∀ base : Heap, K.In base → base.Ns mainGlobals mg → (∀ p ∈ cs, LamX.TabB base mg p.1 p.2) → FnOk l.prog w K mg base (L2.CX l.prog w) k fa fd [x] (spC ⟨K, mg, T⟩ 1 m)) :
    LamX.LawAtS l w K (L2.CX l.prog w) k 63 x mg fa h := by
  refine ⟨fd, cs, _, hT, nT, C, hb, fun H a ns hl hbits hH hS => ?_, F⟩
  refine ⟨rfl, ⟨[], fun _ => False⟩, [.scr ns], [], ⟨rfl, by simp, fun a z => z.elim, fun n a ds h => by simp at h, fun n a ds h => by simp at h, fun n a c h => by simp at h, fun p hp => ?_⟩, .cons (.scr ?_) .nil, fun cells => ?_⟩
  · obtain ⟨q, hq, e⟩ := List.mem_map.mp (hTc p hp)
    exact LamX.TabS.nil (by rw [← e]; exact hH q hq)
  · rcases hS with hS | hS
    · exact .inl ⟨hS, fun z => z⟩
    · exact .inr hS
  · obtain ⟨st, e⟩ := hm cells ns hl hbits
    rw [e]
    intro w' H' v rs ex r
    cases r
    rfl
theorem arrowsM_calm (Cw : Addr) (ds : List D) (st : Sto) : Calm (arrowsM Cw ds st) := by
  unfold arrowsM runM sRet eCB aCons aNil eUn
  simp only [eV]
  split
  · rename_i d hd
    simp only [bnd_ok]
    unfold fldO
    split
    · split
      · split
        · simp only [bnd_ok]
          unfold listO
          simp only []
          split <;> trivial
        · trivial
      · trivial
    · trivial
  · trivial
end DL

set_option Elab.async false
set_option linter.all false
set_option maxRecDepth 100000
set_option maxHeartbeats 4000000
namespace DL
open PySem PySem.Spec PyProof.Rows L2
namespace Q
noncomputable def m_is_integer : SM := (sRet (eAnd (eIsa "int" (eV 0)) (eNot (eIsa "bool" (eV 0)))))
noncomputable def is_integer : List D → Sto → Out D := runM 1 m_is_integer
noncomputable def m_is_natural : SM := (sRet (eAnd (eCall 1 is_integer (aCons (eV 0) aNil)) (eOp oGe (eV 0) (eC (.int 0)))))
noncomputable def is_natural : List D → Sto → Out D := runM 1 m_is_natural
noncomputable def m_is_list : SM := (sRet (eIsaT ["list", "tuple"] (eV 0)))
noncomputable def is_list : List D → Sto → Out D := runM 1 m_is_list
noncomputable def m_is_name : SM := (sRet (eAnd (eIsa "str" (eV 0)) (eAnd (eChain oLe oLe (eC (.int 1)) (eCB lenO (aCons (eV 0) aNil)) (eC (.int 8))) (eCB (allO true) (aCons (eLc (iSq (eV 0)) (gN 1) tT (eOp (inO false) (eV 1) (eC (.str "abcdefghijklmnopqrstuvwxyz"))) [1]) aNil)))))
noncomputable def is_name : List D → Sto → Out D := runM 2 m_is_name
noncomputable def m_as_tuples (self : List D → Sto → Out D) : SM := (sRet (eIf (tOf (eCall 1 is_list (aCons (eV 0) aNil))) (eCB tupleO (aCons (eLc (iSq (eV 0)) (gN 1) tT (eCall 1 self (aCons (eV 1) aNil)) [1]) aNil)) (eV 0)))
noncomputable def as_tuples : Nat → List D → Sto → Out D
  | 0 => fun _ _ => .bad
  | n + 1 => runM 2 (m_as_tuples (as_tuples n))
noncomputable def m_first_bad_name : SM := (sSeq (sIf (bNot (tOf (eCall 1 is_list (aCons (eV 0) aNil)))) (sRet (eC (.int 0))) sNx)
    (sSeq (sFor (iEm (eV 0)) (gT 2 (gsCons (gN 1) (gsCons (gN 2) gsNil))) (sIf (bOr (bNot (tOf (eCall 1 is_name (aCons (eV 2) aNil)))) (tOf (eOp (inO false) (eV 2) (eSl (eV 0) pN (pI (eV 1)))))) (sRet (eV 1)) sNx))
    (sRet (eC .non))))
noncomputable def first_bad_name : List D → Sto → Out D := runM 3 m_first_bad_name
noncomputable def m_is_of : SM := (sRet (eAnd (eIsa "str" (eV 0)) (eOp (inO false) (eV 0) (eV 1))))
noncomputable def is_of : List D → Sto → Out D := runM 2 m_is_of
noncomputable def m_first_stranger : SM := (sSeq (sIf (bNot (tOf (eCall 1 is_list (aCons (eV 0) aNil)))) (sRet (eC (.int 0))) sNx)
    (sSeq (sFor (iEm (eV 0)) (gT 2 (gsCons (gN 2) (gsCons (gN 3) gsNil))) (sIf (bOr (bNot (tOf (eCall 2 is_of (aCons (eV 3) (aCons (eV 1) aNil))))) (tOf (eOp (inO false) (eV 3) (eSl (eV 0) pN (pI (eV 2)))))) (sRet (eV 2)) sNx))
    (sRet (eC .non))))
noncomputable def first_stranger : List D → Sto → Out D := runM 4 m_first_stranger
noncomputable def m_is_limit : SM := (sSeq (sIf (bNot (tOf (eIsa "dict" (eV 0)))) (sRet (eC (.bl false))) sNx)
    (sSeq (sForDic 0)
    (sRet (eC (.bl true)))))
noncomputable def is_limit : List D → Sto → Out D := runM 3 m_is_limit
noncomputable def m_is_arrow : SM := (sSeq (sIf (bOr (bNot (tOf (eCall 1 is_list (aCons (eV 0) aNil)))) (tOf (eOp oNe (eCB lenO (aCons (eV 0) aNil)) (eC (.int 5))))) (sRet (eC (.bl false))) sNx)
    (sSeq (sIf (bOr (bNot (tOf (eCall 2 is_of (aCons (eOp ixO (eV 0) (eC (.int 0))) (aCons (eV 1) aNil))))) (bNot (tOf (eCall 2 is_of (aCons (eOp ixO (eV 0) (eC (.int 4))) (aCons (eV 1) aNil)))))) (sRet (eC (.bl false))) sNx)
    (sSeq (sIf (bAnd (tOf (eOp oNotN (eOp ixO (eV 0) (eC (.int 1))) (eC .non))) (bNot (tOf (eCall 1 is_name (aCons (eOp ixO (eV 0) (eC (.int 1))) aNil))))) (sRet (eC (.bl false))) sNx)
    (sSeq (sIf (bOr (bNot (tOf (eCall 1 is_list (aCons (eOp ixO (eV 0) (eC (.int 2))) aNil)))) (bNot (tOf (eCB (allO true) (aCons (eLc (iSq (eOp ixO (eV 0) (eC (.int 2)))) (gN 3) tT (eCall 2 stubM (aCons (eV 3) (aCons (eV 2) aNil))) [3]) aNil))))) (sRet (eC (.bl false))) sNx)
    (sRet (eOp oIsN (eCall 2 first_stranger (aCons (eOp ixO (eV 0) (eC (.int 3))) (aCons (eV 2) aNil))) (eC .non)))))))
noncomputable def is_arrow : List D → Sto → Out D := runM 4 m_is_arrow
noncomputable def m_rule_at (self : List D → Sto → Out D) : SM := (sSeq (sIf (bOr (bNot (tOf (eCall 1 is_list (aCons (eV 0) aNil)))) (bOr (tOf (eOp oEq (eCB lenO (aCons (eV 0) aNil)) (eC (.int 0)))) (bOr (bNot (tOf (eIsa "str" (eOp ixO (eV 0) (eC (.int 0)))))) (tOf (eUn (kdIn true [("since", .int 5), ("soon", .int 5), ("not", .int 2), ("both", .int 3), ("either", .int 3)]) (eOp ixO (eV 0) (eC (.int 0)))))))) (sRaise "BadRule" "path" (eV 1)) sNx)
    (sSeq (sIf (tOf (eOp oNe (eCB lenO (aCons (eV 0) aNil)) (eUn (kdAt [("since", .int 5), ("soon", .int 5), ("not", .int 2), ("both", .int 3), ("either", .int 3)]) (eOp ixO (eV 0) (eC (.int 0)))))) (sRaise "BadRule" "path" (eV 1)) sNx)
    (sSeq (sIf (tOf (eOp (inO true) (eOp ixO (eV 0) (eC (.int 0))) (eC (.tup [.str "since", .str "soon"])))) (sSeq (sAsg (eLcR (iEm (eSl (eV 0) (pI (eC (.int 1))) pN)) (gT 2 (gsCons (gN 5) (gsCons (gN 7) gsNil))) tT (eCall 2 self (aCons (eV 7) (aCons (eTup (aStar (eV 1) (aCons (eOp oAdd (eV 5) (eC (.int 1))) aNil))) aNil))) [5, 7]) (gN 2))
    (sRet (eTup (aCons (eOp ixO (eV 0) (eC (.int 0))) (aStar (eV 2) aNil))))) sNx)
    (sSeq (sAsg (eIf (tOf (eOp oEq (eOp ixO (eV 0) (eC (.int 0))) (eC (.str "soon")))) (eC (.tup [.str "below", .str "upto"])) (eOp oAdd (eC (.tup [.str "below", .str "upto"])) (eC (.tup [.str "from", .str "above"])))) (gN 3))
    (sSeq (sAsg (eLst (aCons (eCall 1 is_name (aCons (eOp ixO (eV 0) (eC (.int 1))) aNil)) (aCons (eCall 1 is_name (aCons (eOp ixO (eV 0) (eC (.int 2))) aNil)) (aCons (eCall 2 is_of (aCons (eOp ixO (eV 0) (eC (.int 3))) (aCons (eV 3) aNil))) (aCons (eCall 1 is_natural (aCons (eOp ixO (eV 0) (eC (.int 4))) aNil)) aNil))))) (gN 4))
    (sSeq (sFor (iEm (eV 4)) (gT 2 (gsCons (gN 5) (gsCons (gN 6) gsNil))) (sIf (bNot (tOf (eV 6))) (sRaise "BadRule" "path" (eTup (aStar (eV 1) (aCons (eOp oAdd (eV 5) (eC (.int 1))) aNil)))) sNx))
    (sRet (eCB tupleO (aCons (eV 0) aNil)))))))))
noncomputable def rule_at : Nat → List D → Sto → Out D
  | 0 => fun _ _ => .bad
  | n + 1 => runM 8 (m_rule_at (rule_at n))
noncomputable def m_checked_rule : SM := (sRet (eCall 2 (rule_at 8) (aCons (eV 0) (aCons (eTup aNil) aNil))))
noncomputable def checked_rule : List D → Sto → Out D := runM 1 m_checked_rule
noncomputable def m_signs_of (self : List D → Sto → Out D) : SM := (sSeq (sIf (tOf (eOp (inO false) (eOp ixO (eV 0) (eC (.int 0))) (eC (.tup [.str "since", .str "soon"])))) (sRet (eLst (aCons (eOp ixO (eV 0) (eC (.int 1))) (aCons (eOp ixO (eV 0) (eC (.int 2))) aNil)))) sNx)
    (sSeq (sAsg (eCel aNil) (gN 1))
    (sSeq (sFor (iSq (eSl (eV 0) (pI (eC (.int 1))) pN)) (gN 2) (sExp (eBM isCel extO (eV 1) (aCons (eCall 1 self (aCons (eV 2) aNil)) aNil))))
    (sRet (eFz (eV 1))))))
noncomputable def signs_of : Nat → List D → Sto → Out D
  | 0 => fun _ _ => .bad
  | n + 1 => runM 3 (m_signs_of (signs_of n))
noncomputable def m_signals_in : SM := (sRet (eUn sortSetO (eCall 1 (signs_of 8) (aCons (eCall 1 checked_rule (aCons (eV 0) aNil)) aNil))))
noncomputable def signals_in : List D → Sto → Out D := runM 1 m_signals_in
noncomputable def m_keeps : SM := (sSeq (sAsg (eCall 1 checked_rule (aCons (eV 0) aNil)) (gN 2))
    sBad)
noncomputable def keeps : List D → Sto → Out D := runM 3 m_keeps
noncomputable def m_check_plain : SM := (sSeq (sAsg (eCall 1 checked_rule (aCons (eV 0) aNil)) (gN 1))
    sBad)
noncomputable def check_plain : List D → Sto → Out D := runM 2 m_check_plain
noncomputable def m_first_broken : SM := (sSeq (sAsg (eCall 1 check_plain (aCons (eV 0) aNil)) (gN 2))
    sBad)
noncomputable def first_broken : List D → Sto → Out D := runM 3 m_first_broken
noncomputable def m_watcher_of : SM := (sSeq (sAsg (eCall 1 checked_rule (aCons (eV 0) aNil)) (gN 2))
    sBad)
noncomputable def watcher_of : List D → Sto → Out D := runM 3 m_watcher_of
noncomputable def m_check_seen (Cw : Addr) : SM := (sFor (iEm (eMeth0 Cw "arrows" (arrowsM Cw) (eV 0))) (gT 2 (gsCons (gN 1) (gsCons (gN 2) gsNil))) (sIf (tOf (eOp oIsN (eOp ixO (eV 2) (eC (.int 1))) (eC .non))) (sRaise "Unseen" "index" (eV 1)) sNx))
noncomputable def check_seen (Cw : Addr) : List D → Sto → Out D := runM 3 (m_check_seen Cw)
noncomputable def m_keeping (Cw : Addr) : SM := (sSeq (sExp (eCall 1 (check_seen Cw) (aCons (eV 0) aNil)))
    (sRet (eCall 2 stubM (aCons (eV 0) (aCons (eCall 1 checked_rule (aCons (eV 1) aNil)) aNil)))))
noncomputable def keeping (Cw : Addr) : List D → Sto → Out D := runM 2 (m_keeping Cw)
noncomputable def m_breaking (Cw : Addr) : SM := (sSeq (sExp (eCall 1 (check_seen Cw) (aCons (eV 0) aNil)))
    (sRet (eCall 2 stubM (aCons (eV 0) (aCons (eCall 1 checked_rule (aCons (eV 1) aNil)) aNil)))))
noncomputable def breaking (Cw : Addr) : List D → Sto → Out D := runM 2 (m_breaking Cw)
noncomputable def m_judged (Cw : Addr) : SM := (sSeq (sExp (eCall 1 (check_seen Cw) (aCons (eV 0) aNil)))
    (sRet (eCall 2 stubM (aCons (eV 0) (aCons (eCall 1 checked_rule (aCons (eV 1) aNil)) aNil)))))
noncomputable def judged (Cw : Addr) : List D → Sto → Out D := runM 2 (m_judged Cw)
noncomputable def m_tightest (Cw : Addr) : SM := (sSeq (sExp (eCall 1 (check_seen Cw) (aCons (eV 0) aNil)))
    (sSeq (sAsg (eCall 1 check_plain (aCons (eV 1) aNil)) (gN 3))
    sBad))
noncomputable def tightest (Cw : Addr) : List D → Sto → Out D := runM 8 (m_tightest Cw)
noncomputable def m_L_source : SM := (sSeq (sAsg (eTup (aCons (eC (.int 0)) (aCons (eC (.int 23)) aNil))) (gT 2 (gsCons (gN 1) (gsCons (gN 2) gsNil))))
    (sSeq (sFor (iSq (eV 0)) (gN 3) (sSeq (sIf (bAnd (tOf (eOp oEq (eV 1) (eC (.int 0)))) (tOf (eOp oGe (eV 3) (eOp oPow (eC (.int 10)) (eC (.int 18)))))) (sAsg (eV 3) (gN 1)) sNx)
    (sAsg (eOp oMod (eCB intO (aCons (eOp oAdd (eOp oAdd (eOp oMul (eV 2) (eC (.int 37))) (eV 3)) (eC (.int 5))) aNil)) (eC (.int 2147483647))) (gN 2))))
    (sRet (eCel (aCons (eV 1) (aCons (eV 2) (aCons (eC (.int 0)) aNil)))))))
noncomputable def L_source : List D → Sto → Out D := runM 4 m_L_source
noncomputable def m_L_draw : SM := (sSeq (sAsg (eOp oAdd (eOp ixO (eV 0) (eC (.int 2))) (eC (.int 1))) (gS (eV 0) (eC (.int 2))))
    (sSeq (sIf (tOf (eOp oGt (eOp ixO (eV 0) (eC (.int 0))) (eC (.int 1)))) (sSeq (sAsg (eOp oMod (eCB intO (aCons (eOp ixO (eV 0) (eC (.int 0))) aNil)) (eV 1)) (gN 2))
    (sSeq (sAsg (eOp oDiv (eOp ixO (eV 0) (eC (.int 0))) (eV 1)) (gS (eV 0) (eC (.int 0))))
    (sRet (eV 2)))) sNx)
    (sSeq (sAsg (eOp oMod (eOp oPow (eOp oAdd (eOp ixO (eV 0) (eC (.int 1))) (eOp oMul (eC (.int 6997)) (eOp ixO (eV 0) (eC (.int 2))))) (eC (.int 5))) (eC (.int 2147483629))) (gN 3))
    (sRet (eOp oMod (eOp oMod (eOp oPow (eOp oAdd (eOp oAdd (eOp oMul (eV 3) (eC (.int 48271))) (eOp oMul (eOp oMul (eC (.int 16811)) (eOp ixO (eV 0) (eC (.int 2)))) (eOp ixO (eV 0) (eC (.int 2))))) (eC (.int 13))) (eC (.int 3))) (eC (.int 1000000007))) (eV 1))))))
noncomputable def L_draw : List D → Sto → Out D := runM 4 m_L_draw
noncomputable def m_L_pick : SM := (sRet (eOp ixO (eV 1) (eCall 2 L_draw (aCons (eV 0) (aCons (eCB lenO (aCons (eV 1) aNil)) aNil)))))
noncomputable def L_pick : List D → Sto → Out D := runM 2 m_L_pick
noncomputable def m_L_order : SM := (sSeq (sPar 2 3 (aCons (eCB listC (aCons (eV 1) aNil)) (aCons (eCel aNil) aNil)))
    (sSeq (sFor (iR1 (aCons (eCB lenO (aCons (eV 2) aNil)) aNil)) (gN 4) (sExp (eBM isCel appO (eV 3) (aCons (eBM isCel popO (eV 2) (aCons (eCall 2 L_draw (aCons (eV 0) (aCons (eCB lenO (aCons (eV 2) aNil)) aNil))) aNil)) aNil))))
    (sRet (eFz (eV 3)))))
noncomputable def L_order : List D → Sto → Out D := runM 5 m_L_order
noncomputable def m_L_words : SM := (sSeq (sAsg (eTup (aCons (eC (.str "abcdefghijklmnopqrstuvwxyz")) (aCons (eCel aNil) aNil))) (gT 2 (gsCons (gN 2) (gsCons (gN 3) gsNil))))
    (sSeq (sFor (iR1 (aCons (eV 1) aNil)) (gN 4) (sSeq (sAsg (eCall 2 L_pick (aCons (eV 0) (aCons (eV 2) aNil))) (gN 5))
    (sSeq (sFor (iR1 (aCons (eOp ixO (eLst (aCons (eC (.int 0)) (aCons (eC (.int 0)) (aCons (eC (.int 1)) (aCons (eC (.int 2)) (aCons (eC (.int 7)) aNil)))))) (eCall 2 L_draw (aCons (eV 0) (aCons (eC (.int 5)) aNil)))) aNil)) (gN 6) (sAsg (eOp oAdd (eV 5) (eCall 2 L_pick (aCons (eV 0) (aCons (eV 2) aNil)))) (gN 5)))
    (sSeq (sAsg (eOp oAdd (eLst (aCons (eV 5) aNil)) (eLc (iSq (eV 2)) (gN 8) tT (eOp oAdd (eOp oAdd (eV 8) (eC (.str "q"))) (eV 8)) [8])) (gN 7))
    (sExp (eBM isCel appO (eV 3) (aCons (eOp ixO (eLc (iSq (eV 7)) (gN 9) (tOf (eOp (inO true) (eV 9) (eV 3))) (eV 9) [9]) (eC (.int 0))) aNil)))))))
    (sRet (eFz (eV 3)))))
noncomputable def L_words : List D → Sto → Out D := runM 10 m_L_words
noncomputable def m_L_plain : SM := (sSeq (sPar 3 4 (aCons (eCall 2 L_pick (aCons (eV 0) (aCons (eLst (aCons (eC (.str "since")) (aCons (eC (.str "since")) (aCons (eC (.str "soon")) aNil)))) aNil))) (aCons (eLst (aCons (eCall 2 L_pick (aCons (eV 0) (aCons (eV 1) aNil))) (aCons (eCall 2 L_pick (aCons (eV 0) (aCons (eV 1) aNil))) aNil))) aNil)))
    (sSeq (sIf (bAnd (tOf (eOp oEq (eOp ixO (eV 4) (eC (.int 0))) (eOp ixO (eV 4) (eC (.int 1))))) (tOf (eOp oGt (eCall 2 L_draw (aCons (eV 0) (aCons (eC (.int 4)) aNil))) (eC (.int 0))))) (sAsg (eSl (eOp oAdd (eCall 2 L_order (aCons (eV 0) (aCons (eV 1) aNil))) (eV 1)) pN (pI (eC (.int 2)))) (gN 4)) sNx)
    (sSeq (sAsg (eCall 2 L_pick (aCons (eV 0) (aCons (eIf (tOf (eOp oEq (eV 3) (eC (.str "since")))) (eLst (aCons (eC (.str "upto")) (aCons (eC (.str "below")) (aCons (eC (.str "from")) (aCons (eC (.str "above")) aNil))))) (eLst (aCons (eC (.str "upto")) (aCons (eC (.str "below")) aNil)))) aNil))) (gN 5))
    (sRet (eTup (aCons (eV 3) (aCons (eOp ixO (eV 4) (eC (.int 0))) (aCons (eOp ixO (eV 4) (eC (.int 1))) (aCons (eV 5) (aCons (eCall 2 L_draw (aCons (eV 0) (aCons (eOp oAdd (eV 2) (eC (.int 1))) aNil))) aNil))))))))))
noncomputable def L_plain : List D → Sto → Out D := runM 6 m_L_plain
noncomputable def m_L_rule (self : List D → Sto → Out D) : SM := (sSeq (sAsg (eCall 2 L_draw (aCons (eV 0) (aCons (eC (.int 6)) aNil))) (gN 5))
    (sSeq (sIf (bOr (bAnd (tOf (eOp oLt (eV 3) (eC (.int 2)))) (tOf (eOp oGt (eV 5) (eC (.int 3))))) (bOr (tOf (eOp oLt (eV 5) (eC (.int 3)))) (tOf (eOp oEq (eV 4) (eC (.int 0)))))) (sRet (eCall 3 L_plain (aCons (eV 0) (aCons (eV 1) (aCons (eV 2) aNil))))) sNx)
    (sSeq (sIf (tOf (eOp oEq (eV 5) (eC (.int 3)))) (sRet (eTup (aCons (eC (.str "not")) (aCons (eCall 5 self (aCons (eV 0) (aCons (eV 1) (aCons (eV 2) (aCons (eV 3) (aCons (eOp oSub (eV 4) (eC (.int 1))) aNil)))))) aNil)))) sNx)
    (sSeq (sAsg (eOp oAdd (eC (.int 1)) (eCall 2 L_draw (aCons (eV 0) (aCons (eOp oSub (eV 3) (eC (.int 1))) aNil)))) (gN 6))
    (sSeq (sAsg (eCall 5 self (aCons (eV 0) (aCons (eV 1) (aCons (eV 2) (aCons (eV 6) (aCons (eOp oSub (eV 4) (eC (.int 1))) aNil)))))) (gN 7))
    (sRet (eTup (aCons (eCall 2 L_pick (aCons (eV 0) (aCons (eLst (aCons (eC (.str "both")) (aCons (eC (.str "either")) aNil))) aNil))) (aCons (eV 7) (aCons (eCall 5 self (aCons (eV 0) (aCons (eV 1) (aCons (eV 2) (aCons (eOp oSub (eV 3) (eV 6)) (aCons (eOp oSub (eV 4) (eC (.int 1))) aNil)))))) aNil))))))))))
noncomputable def L_rule : Nat → List D → Sto → Out D
  | 0 => fun _ _ => .bad
  | n + 1 => runM 8 (m_L_rule (L_rule n))
noncomputable def m_L_shown_rule (self : List D → Sto → Out D) : SM := (sSeq (sAsg (eLc (iSq (eV 1)) (gN 3) tT (eIf (tOf (eIsa "tuple" (eV 3))) (eCall 2 self (aCons (eV 0) (aCons (eV 3) aNil))) (eV 3)) [3]) (gN 2))
    (sRet (eCall 2 L_pick (aCons (eV 0) (aCons (eLst (aCons (eV 2) (aCons (eCB tupleO (aCons (eV 2) aNil)) aNil))) aNil)))))
noncomputable def L_shown_rule : Nat → List D → Sto → Out D
  | 0 => fun _ _ => .bad
  | n + 1 => runM 4 (m_L_shown_rule (L_shown_rule n))
noncomputable def m_L_names_in (self : List D → Sto → Out D) : SM := (sSeq (sIf (tOf (eOp (inO false) (eOp ixO (eV 0) (eC (.int 0))) (eTup (aCons (eC (.str "since")) (aCons (eC (.str "soon")) aNil))))) (sRet (eUn sortSetO (eSl (eV 0) (pI (eC (.int 1))) (pI (eC (.int 3)))))) sNx)
    (sSeq (sAsg (eCel aNil) (gN 1))
    (sSeq (sFor (iSq (eSl (eV 0) (pI (eC (.int 1))) pN)) (gN 2) (sExp (eBM isCel extO (eV 1) (aCons (eCall 1 self (aCons (eV 2) aNil)) aNil))))
    (sRet (eUn sortSetO (eV 1))))))
noncomputable def L_names_in : Nat → List D → Sto → Out D
  | 0 => fun _ _ => .bad
  | n + 1 => runM 3 (m_L_names_in (L_names_in n))
noncomputable def m_L_spoil (self : List D → Sto → Out D) : SM := (sSeq (sAsg (eCB listC (aCons (eV 1) aNil)) (gN 2))
    (sSeq (sAsg (eCall 2 L_draw (aCons (eV 0) (aCons (eC (.int 5)) aNil))) (gN 3))
    (sSeq (sIf (bOr (tOf (eOp oEq (eV 3) (eC (.int 0)))) (bAnd (tOf (eOp oEq (eOp ixO (eV 1) (eC (.int 0))) (eC (.str "not")))) (tOf (eOp oLt (eV 3) (eC (.int 3)))))) (sSeq (sIf (bAnd (tOf (eOp (inO false) (eOp ixO (eV 1) (eC (.int 0))) (eTup (aCons (eC (.str "not")) (aCons (eC (.str "both")) (aCons (eC (.str "either")) aNil)))))) (tOf (eOp oEq (eCall 2 L_draw (aCons (eV 0) (aCons (eC (.int 2)) aNil))) (eC (.int 0))))) (sSeq (sAsg (eOp oAdd (eC (.int 1)) (eCall 2 L_draw (aCons (eV 0) (aCons (eOp oSub (eCB lenO (aCons (eV 1) aNil)) (eC (.int 1))) aNil)))) (gN 4))
    (sSeq (sAsg (eCall 2 self (aCons (eV 0) (aCons (eOp ixO (eV 1) (eV 4)) aNil))) (gT 2 (gsCons (gN 5) (gsCons (gN 6) gsNil))))
    (sRet (eTup (aCons (eOp oAdd (eOp oAdd (eSl (eV 2) pN (pI (eV 4))) (eLst (aCons (eV 5) aNil))) (eSl (eV 2) (pI (eOp oAdd (eV 4) (eC (.int 1)))) pN)) (aCons (eOp oAdd (eTup (aCons (eV 4) aNil)) (eV 6)) aNil)))))) sNx)
    (sSeq (sAsg (eLst (aCons (eC .non) (aCons (eC (.int 5)) (aCons (eC (.str "since")) (aCons (eLst aNil) (aCons (eC .dic) (aCons (eSl (eV 2) (pI (eC (.int 1))) pN) (aCons (eOp oAdd (eV 2) (eLst (aCons (eC (.int 0)) aNil))) (aCons (eSl (eV 2) pN (pI (eUn negO (eC (.int 1))))) (aCons (eOp oAdd (eLst (aCons (eC (.str "SINCE")) aNil)) (eSl (eV 2) (pI (eC (.int 1))) pN)) (aCons (eC (.bl true)) aNil))))))))))) (gN 7))
    (sRet (eTup (aCons (eCall 2 L_pick (aCons (eV 0) (aCons (eOp oAdd (eV 7) (eLst (aCons (eOp oAdd (eLst (aCons (eLst aNil) aNil)) (eSl (eV 2) (pI (eC (.int 1))) pN)) aNil))) aNil))) (aCons (eTup aNil) aNil)))))) sNx)
    (sSeq (sIf (tOf (eOp (inO false) (eOp ixO (eV 1) (eC (.int 0))) (eTup (aCons (eC (.str "not")) (aCons (eC (.str "both")) (aCons (eC (.str "either")) aNil)))))) (sSeq (sAsg (eOp oAdd (eC (.int 1)) (eCall 2 L_draw (aCons (eV 0) (aCons (eOp oSub (eCB lenO (aCons (eV 1) aNil)) (eC (.int 1))) aNil)))) (gN 4))
    (sSeq (sAsg (eCall 2 self (aCons (eV 0) (aCons (eOp ixO (eV 1) (eV 4)) aNil))) (gT 2 (gsCons (gN 5) (gsCons (gN 6) gsNil))))
    (sRet (eTup (aCons (eOp oAdd (eOp oAdd (eSl (eV 2) pN (pI (eV 4))) (eLst (aCons (eV 5) aNil))) (eSl (eV 2) (pI (eOp oAdd (eV 4) (eC (.int 1)))) pN)) (aCons (eOp oAdd (eTup (aCons (eV 4) aNil)) (eV 6)) aNil)))))) sNx)
    (sSeq (sAsg (eOp oAdd (eLst (aCons (eC .non) (aCons (eC (.str "at")) (aCons (eC (.str "UPTO")) (aCons (eC (.int 0)) (aCons (eLst aNil) (aCons (eLst (aCons (eC (.str "upto")) aNil)) aNil))))))) (eOp oRep (eLst (aCons (eC (.str "from")) (aCons (eC (.str "above")) aNil))) (eCB intO (aCons (eOp oEq (eOp ixO (eV 1) (eC (.int 0))) (eC (.str "soon"))) aNil)))) (gN 8))
    (sSeq (sAsg (eDct [Sum.inl 1, Sum.inl 3, Sum.inl 4] [(eLst (aCons (eC .non) (aCons (eC (.str "")) (aCons (eC (.str "A")) (aCons (eC (.str "ninesigns")) (aCons (eC (.int 5)) (aCons (eLst (aCons (eC (.str "a")) aNil)) (aCons (eC .dic) aNil)))))))), (eV 8), (eLst (aCons (eUn negO (eC (.int 1))) (aCons (eC .non) (aCons (eC (.str "1")) (aCons (eC (.bl true)) (aCons (eTup (aCons (eC (.int 1)) (aCons (eC (.int 1)) aNil))) (aCons (eLst aNil) (aCons (eOp oEq (eC (.int 1)) (eC (.int 1))) aNil))))))))]) (gN 7))
    (sSeq (sAsg (eOp oAdd (eC (.int 1)) (eCall 2 L_draw (aCons (eV 0) (aCons (eC (.int 4)) aNil)))) (gN 4))
    (sSeq (sAsg (eCall 2 L_pick (aCons (eV 0) (aCons (eOp dixO (eV 7) (eIf (tOf (eOp oEq (eV 4) (eC (.int 2)))) (eC (.int 1)) (eV 4))) aNil))) (gS (eV 2) (eV 4)))
    (sSeq (sFor (iR2 (aCons (eOp oAdd (eV 4) (eC (.int 1))) (aCons (eC (.int 5)) aNil))) (gN 9) (sIf (tOf (eOp oEq (eCall 2 L_draw (aCons (eV 0) (aCons (eC (.int 3)) aNil))) (eC (.int 0)))) (sAsg (eCall 2 L_pick (aCons (eV 0) (aCons (eOp dixO (eV 7) (eIf (tOf (eOp oEq (eV 9) (eC (.int 2)))) (eC (.int 1)) (eV 9))) aNil))) (gS (eV 2) (eV 9))) sNx))
    (sRet (eTup (aCons (eFz (eV 2)) (aCons (eTup (aCons (eV 4) aNil)) aNil)))))))))))))
noncomputable def L_spoil : Nat → List D → Sto → Out D
  | 0 => fun _ _ => .bad
  | n + 1 => runM 10 (m_L_spoil (L_spoil n))
end Q
end DL

set_option Elab.async false
set_option linter.all false
set_option maxRecDepth 100000
set_option maxHeartbeats 4000000
namespace DL
open PySem PySem.Spec PyProof.Rows L2
namespace Q
/-- what the program's top gives -/
structure Fx (w : World) (K : PySem.W.Frag) (mg : Str → Option Value) (T : List (Addr × Str)) : Prop where
  z_all : mg "all" = none
  z_any : mg "any" = none
  z_bool : mg "bool" = none
  z_dict : mg "dict" = none
  z_enumerate : mg "enumerate" = none
  z_int : mg "int" = none
  z_isinstance : mg "isinstance" = none
  z_len : mg "len" = none
  z_list : mg "list" = none
  z_range : mg "range" = none
  z_set : mg "set" = none
  z_sorted : mg "sorted" = none
  z_str : mg "str" = none
  z_tuple : mg "tuple" = none
  g_LOWERS : ∃ u, mg "LOWERS" = some u ∧ KRep ⟨K, mg, T⟩ u (.tup [.str "from", .str "above"])
  g_PLAIN : ∃ u, mg "PLAIN" = some u ∧ KRep ⟨K, mg, T⟩ u (.tup [.str "since", .str "soon"])
  g_SIGNS : ∃ u, mg "SIGNS" = some u ∧ KRep ⟨K, mg, T⟩ u (.str "abcdefghijklmnopqrstuvwxyz")
  k_SIZES : KD ⟨K, mg, T⟩ w "SIZES" [("since", .int 5), ("soon", .int 5), ("not", .int 2), ("both", .int 3), ("either", .int 3)]
  g_UPPERS : ∃ u, mg "UPPERS" = some u ∧ KRep ⟨K, mg, T⟩ u (.tup [.str "below", .str "upto"])
  e_BadRule : ∀ (base : Heap) (P : Program) (w : World), ∃ (C fI : Addr) (fd : FuncData), ErrC P w K mg base "BadRule" "path" C fI fd
  e_Unseen : ∀ (base : Heap) (P : Program) (w : World), ∃ (C fI : Addr) (fd : FuncData), ErrC P w K mg base "Unseen" "index" C fI fd
section
variable {P : Program} {w : World} {K : PySem.W.Frag} {mg : Str → Option Value} {base : Heap} {T : List (Addr × Str)} {f : Addr} {fd : FuncData}
structure WatF (P : Program) (w : World) (base : Heap) (G : Gr) (Cw : Addr) : Prop where
  cls : Cls G.K Cw
  arr : MethOk P w base G Cw "arrows" 2 (arrowsM Cw)
theorem sc_is_integer : FnScope ["thing"] ["thing"] (defScope s_is_integer) := ⟨rfl, rfl, rfl, by decide +kernel, rfl, by decide +kernel, by decide +kernel⟩
theorem ok_is_integer (Z : Fx w K mg T) (F : Fun K "is_integer" "is_integer" s_is_integer f fd) (hf : mg "is_integer" = some (.ref f)) : Has P w base ⟨K, mg, T⟩ "is_integer" ["thing"] 1 is_integer :=
  ⟨f, fd, hf, F.kp, F.binds (fun _ _ _ _ _ _ us hl => match us, hl with | [_], _ => rfl), fn_ok F sc_is_integer fun cdv A outer s H E hr =>
    (dss_one (ds_ret (de_and (de_isa rfl rfl rfl Z.z_isinstance rfl Z.z_int (by decide +kernel) (de_v 0)) (de_one (de_not (de_isa rfl rfl rfl Z.z_isinstance rfl Z.z_bool (by decide +kernel) (de_v 0)))))))⟩
theorem sc_is_natural : FnScope ["thing"] ["thing"] (defScope s_is_natural) := ⟨rfl, rfl, rfl, by decide +kernel, rfl, by decide +kernel, by decide +kernel⟩
theorem ok_is_natural (Z : Fx w K mg T) (F : Fun K "is_natural" "is_natural" s_is_natural f fd) (hf : mg "is_natural" = some (.ref f)) (h_is_integer : Has P w base ⟨K, mg, T⟩ "is_integer" ["thing"] 1 is_integer) : Has P w base ⟨K, mg, T⟩ "is_natural" ["thing"] 2 is_natural :=
  ⟨f, fd, hf, F.kp, F.binds (fun _ _ _ _ _ _ us hl => match us, hl with | [_], _ => rfl), fn_ok F sc_is_natural fun cdv A outer s H E hr =>
    (dss_one (ds_ret (de_and (de_has h_is_integer rfl rfl rfl (hr.mono (by omega)) rfl (takes_of rfl rfl rfl rfl) (da_cons (de_v 0) da_nil)) (de_one (de_ge (de_v 0) de_int)))))⟩
theorem sc_is_list : FnScope ["thing"] ["thing"] (defScope s_is_list) := ⟨rfl, rfl, rfl, by decide +kernel, rfl, by decide +kernel, by decide +kernel⟩
theorem ok_is_list (Z : Fx w K mg T) (F : Fun K "is_list" "is_list" s_is_list f fd) (hf : mg "is_list" = some (.ref f)) : Has P w base ⟨K, mg, T⟩ "is_list" ["thing"] 1 is_list :=
  ⟨f, fd, hf, F.kp, F.binds (fun _ _ _ _ _ _ us hl => match us, hl with | [_], _ => rfl), fn_ok F sc_is_list fun cdv A outer s H E hr =>
    (dss_one (ds_ret (de_isa2 rfl rfl rfl rfl Z.z_isinstance rfl Z.z_list (by decide +kernel) rfl Z.z_tuple (by decide +kernel) (de_v 0))))⟩
theorem sc_is_name : FnScope ["thing", "sign"] ["thing"] (defScope s_is_name) := ⟨rfl, rfl, rfl, by decide +kernel, rfl, by decide +kernel, by decide +kernel⟩
theorem ok_is_name (Z : Fx w K mg T) (F : Fun K "is_name" "is_name" s_is_name f fd) (hf : mg "is_name" = some (.ref f)) : Has P w base ⟨K, mg, T⟩ "is_name" ["thing"] 1 is_name :=
  ⟨f, fd, hf, F.kp, F.binds (fun _ _ _ _ _ _ us hl => match us, hl with | [_], _ => rfl), fn_ok F sc_is_name fun cdv A outer s H E hr =>
    (dss_one (ds_ret (de_and (de_isa rfl rfl rfl Z.z_isinstance rfl Z.z_str (by decide +kernel) (de_v 0)) (de_and (de_lele de_int (de_len rfl rfl Z.z_len (da_cons (de_v 0) da_nil)) de_int) (de_one (de_all rfl rfl rfl Z.z_all (da_cons (de_lc [("sign", 1)] rfl sc_is_name.nd (di_seq rfl (de_v 0)) (by show BlkOk ["thing", "sign"] (defScope s_is_name) _ _; exact ⟨rfl, by decide +kernel, by decide +kernel, by decide +kernel, by decide +kernel⟩) (by decide) (fun _ _ _ _ _ => (dgv_name (i := 1) sc_is_name.nd rfl (by first | exact Or.inl rfl | exact Or.inr rfl))) (fun _ _ _ _ _ => dts_nil) (fun _ _ _ _ _ => (de_in rfl (de_v 1) (de_glob rfl Z.g_SIGNS.choose_spec.1 Z.g_SIGNS.choose_spec.2)))) da_nil)))))))⟩
theorem sc_as_tuples : FnScope ["thing", "part"] ["thing"] (defScope s_as_tuples) := ⟨rfl, rfl, rfl, by decide +kernel, rfl, by decide +kernel, by decide +kernel⟩
theorem ok_as_tuples {k : Nat} {self : List D → Sto → Out D} (hk : 1 ≤ k) (Z : Fx w K mg T) (F : Fun K "as_tuples" "as_tuples" s_as_tuples f fd) (hf : mg "as_tuples" = some (.ref f)) (hself : Has P w base ⟨K, mg, T⟩ "as_tuples" ["thing"] k self) (h_is_list : Has P w base ⟨K, mg, T⟩ "is_list" ["thing"] 1 is_list) : Has P w base ⟨K, mg, T⟩ "as_tuples" ["thing"] (k + 1) (runM 2 (m_as_tuples self)) :=
  ⟨f, fd, hf, F.kp, F.binds (fun _ _ _ _ _ _ us hl => match us, hl with | [_], _ => rfl), fn_ok F sc_as_tuples fun cdv A outer s H E hr =>
    (dss_one (ds_ret (de_if (dt_val (de_has h_is_list rfl rfl rfl (hr.mono (by omega)) rfl (takes_of rfl rfl rfl rfl) (da_cons (de_v 0) da_nil))) (de_tuple rfl rfl Z.z_tuple (da_cons (de_lc [("part", 1)] rfl sc_as_tuples.nd (di_seq rfl (de_v 0)) (by show BlkOk ["thing", "part"] (defScope s_as_tuples) _ _; exact ⟨rfl, by decide +kernel, by decide +kernel, by decide +kernel, by decide +kernel⟩) (by decide) (fun _ _ _ _ _ => (dgv_name (i := 1) sc_as_tuples.nd rfl (by first | exact Or.inl rfl | exact Or.inr rfl))) (fun _ _ _ _ _ => dts_nil) (fun _ _ _ _ _ => (de_has hself rfl rfl rfl (hr.mono (by omega)) rfl takes0 (da_cons (de_v 1) da_nil)))) da_nil)) (de_v 0))))⟩
theorem rec_as_tuples (Z : Fx w K mg T) (F : Fun K "as_tuples" "as_tuples" s_as_tuples f fd) (hf : mg "as_tuples" = some (.ref f)) (h_is_list : Has P w base ⟨K, mg, T⟩ "is_list" ["thing"] 1 is_list) : ∀ n : Nat, Has P w base ⟨K, mg, T⟩ "as_tuples" ["thing"] (1 + n) (as_tuples n)
  | 0 => Has.none hf F.kp (F.binds (fun _ _ _ _ _ _ us hl => match us, hl with | [_], _ => rfl))
  | n + 1 => ok_as_tuples (Nat.le_add_right _ _) Z F hf (rec_as_tuples Z F hf h_is_list n) h_is_list
theorem sc_first_bad_name : FnScope ["things", "index", "thing"] ["things"] (defScope s_first_bad_name) := ⟨rfl, rfl, rfl, by decide +kernel, rfl, by decide +kernel, by decide +kernel⟩
theorem ok_first_bad_name (Z : Fx w K mg T) (F : Fun K "first_bad_name" "first_bad_name" s_first_bad_name f fd) (hf : mg "first_bad_name" = some (.ref f)) (h_is_list : Has P w base ⟨K, mg, T⟩ "is_list" ["thing"] 1 is_list) (h_is_name : Has P w base ⟨K, mg, T⟩ "is_name" ["thing"] 1 is_name) : Has P w base ⟨K, mg, T⟩ "first_bad_name" ["things"] 2 first_bad_name :=
  ⟨f, fd, hf, F.kp, F.binds (fun _ _ _ _ _ _ us hl => match us, hl with | [_], _ => rfl), fn_ok F sc_first_bad_name fun cdv A outer s H E hr =>
    (dss_cons (ds_if (dt_not (dt_val (de_has h_is_list rfl rfl rfl (hr.mono (by omega)) rfl (takes_of rfl rfl rfl rfl) (da_cons (de_v 0) da_nil)))) (dss_one (ds_ret de_int)) dss_nil)
    (dss_cons (ds_for (passes_of rfl) rfl (di_enum rfl rfl Z.z_enumerate (de_v 0)) (dg_tup rfl rfl (dgs_cons (dgv_name (i := 1) sc_first_bad_name.nd rfl (by first | exact Or.inl rfl | exact Or.inr rfl)) (dgs_cons (dgv_name (i := 2) sc_first_bad_name.nd rfl (by first | exact Or.inl rfl | exact Or.inr rfl)) dgs_nil))) (dss_one (ds_if (dt_w (dw_or (dt_not (dt_val (de_has h_is_name rfl rfl rfl (hr.mono (by omega)) rfl (takes_of rfl rfl rfl rfl) (da_cons (de_v 2) da_nil)))) (dw_or1 (dt_in rfl (de_v 2) (de_slice rfl (de_v 0) do_none (do_some (de_v 1))))))) (dss_one (ds_ret (de_v 1))) dss_nil)))
    (dss_one (ds_ret de_non))))⟩
theorem sc_is_of : FnScope ["thing", "words"] ["thing", "words"] (defScope s_is_of) := ⟨rfl, rfl, rfl, by decide +kernel, rfl, by decide +kernel, by decide +kernel⟩
theorem ok_is_of (Z : Fx w K mg T) (F : Fun K "is_of" "is_of" s_is_of f fd) (hf : mg "is_of" = some (.ref f)) : Has P w base ⟨K, mg, T⟩ "is_of" ["thing", "words"] 1 is_of :=
  ⟨f, fd, hf, F.kp, F.binds (fun _ _ _ _ _ _ us hl => match us, hl with | [_, _], _ => rfl), fn_ok F sc_is_of fun cdv A outer s H E hr =>
    (dss_one (ds_ret (de_and (de_isa rfl rfl rfl Z.z_isinstance rfl Z.z_str (by decide +kernel) (de_v 0)) (de_one (de_in rfl (de_v 0) (de_v 1))))))⟩
theorem sc_first_stranger : FnScope ["things", "words", "index", "thing"] ["things", "words"] (defScope s_first_stranger) := ⟨rfl, rfl, rfl, by decide +kernel, rfl, by decide +kernel, by decide +kernel⟩
theorem ok_first_stranger (Z : Fx w K mg T) (F : Fun K "first_stranger" "first_stranger" s_first_stranger f fd) (hf : mg "first_stranger" = some (.ref f)) (h_is_list : Has P w base ⟨K, mg, T⟩ "is_list" ["thing"] 1 is_list) (h_is_of : Has P w base ⟨K, mg, T⟩ "is_of" ["thing", "words"] 1 is_of) : Has P w base ⟨K, mg, T⟩ "first_stranger" ["things", "words"] 2 first_stranger :=
  ⟨f, fd, hf, F.kp, F.binds (fun _ _ _ _ _ _ us hl => match us, hl with | [_, _], _ => rfl), fn_ok F sc_first_stranger fun cdv A outer s H E hr =>
    (dss_cons (ds_if (dt_not (dt_val (de_has h_is_list rfl rfl rfl (hr.mono (by omega)) rfl (takes_of rfl rfl rfl rfl) (da_cons (de_v 0) da_nil)))) (dss_one (ds_ret de_int)) dss_nil)
    (dss_cons (ds_for (passes_of rfl) rfl (di_enum rfl rfl Z.z_enumerate (de_v 0)) (dg_tup rfl rfl (dgs_cons (dgv_name (i := 2) sc_first_stranger.nd rfl (by first | exact Or.inl rfl | exact Or.inr rfl)) (dgs_cons (dgv_name (i := 3) sc_first_stranger.nd rfl (by first | exact Or.inl rfl | exact Or.inr rfl)) dgs_nil))) (dss_one (ds_if (dt_w (dw_or (dt_not (dt_val (de_has h_is_of rfl rfl rfl (hr.mono (by omega)) rfl (takes_of rfl rfl rfl rfl) (da_cons (de_v 3) (da_cons (de_v 1) da_nil))))) (dw_or1 (dt_in rfl (de_v 3) (de_slice rfl (de_v 0) do_none (do_some (de_v 2))))))) (dss_one (ds_ret (de_v 2))) dss_nil)))
    (dss_one (ds_ret de_non))))⟩
theorem sc_is_limit : FnScope ["thing", "clocks", "clock"] ["thing", "clocks"] (defScope s_is_limit) := ⟨rfl, rfl, rfl, by decide +kernel, rfl, by decide +kernel, by decide +kernel⟩
theorem ok_is_limit (Z : Fx w K mg T) (F : Fun K "is_limit" "is_limit" s_is_limit f fd) (hf : mg "is_limit" = some (.ref f)) : Has P w base ⟨K, mg, T⟩ "is_limit" ["thing", "clocks"] 1 is_limit :=
  ⟨f, fd, hf, F.kp, F.binds (fun _ _ _ _ _ _ us hl => match us, hl with | [_, _], _ => rfl), fn_ok F sc_is_limit fun cdv A outer s H E hr =>
    (dss_cons (ds_if (dt_not (dt_val (de_isa rfl rfl rfl Z.z_isinstance rfl Z.z_dict (by decide +kernel) (de_v 0)))) (dss_one (ds_ret de_bl)) dss_nil)
    (dss_cons (ds_forDic 0 rfl (passes_of rfl) rfl (pg_name (i := 2) sc_is_limit.nd rfl (by first | exact Or.inl rfl | exact Or.inr rfl)))
    (dss_one (ds_ret de_bl))))⟩
theorem sc_is_arrow : FnScope ["thing", "places", "clocks", "part"] ["thing", "places", "clocks"] (defScope s_is_arrow) := ⟨rfl, rfl, rfl, by decide +kernel, rfl, by decide +kernel, by decide +kernel⟩
theorem ok_is_arrow (Z : Fx w K mg T) (F : Fun K "is_arrow" "is_arrow" s_is_arrow f fd) (hf : mg "is_arrow" = some (.ref f)) (h_is_list : Has P w base ⟨K, mg, T⟩ "is_list" ["thing"] 1 is_list) (h_is_of : Has P w base ⟨K, mg, T⟩ "is_of" ["thing", "words"] 1 is_of) (h_is_name : Has P w base ⟨K, mg, T⟩ "is_name" ["thing"] 1 is_name) (h_is_cut : Has P w base ⟨K, mg, T⟩ "is_cut" ["thing", "clocks"] 0 stubM) (h_first_stranger : Has P w base ⟨K, mg, T⟩ "first_stranger" ["things", "words"] 2 first_stranger) : Has P w base ⟨K, mg, T⟩ "is_arrow" ["thing", "places", "clocks"] 3 is_arrow :=
  ⟨f, fd, hf, F.kp, F.binds (fun _ _ _ _ _ _ us hl => match us, hl with | [_, _, _], _ => rfl), fn_ok F sc_is_arrow fun cdv A outer s H E hr =>
    (dss_cons (ds_if (dt_w (dw_or (dt_not (dt_val (de_has h_is_list rfl rfl rfl (hr.mono (by omega)) rfl (takes_of rfl rfl rfl rfl) (da_cons (de_v 0) da_nil)))) (dw_or1 (dt_ne rfl hr.units (de_len rfl rfl Z.z_len (da_cons (de_v 0) da_nil)) de_int)))) (dss_one (ds_ret de_bl)) dss_nil)
    (dss_cons (ds_if (dt_w (dw_or (dt_not (dt_val (de_has h_is_of rfl rfl rfl (hr.mono (by omega)) rfl (takes_of rfl rfl rfl rfl) (da_cons (de_item rfl (de_v 0) de_int) (da_cons (de_v 1) da_nil))))) (dw_or1 (dt_not (dt_val (de_has h_is_of rfl rfl rfl (hr.mono (by omega)) rfl (takes_of rfl rfl rfl rfl) (da_cons (de_item rfl (de_v 0) de_int) (da_cons (de_v 1) da_nil)))))))) (dss_one (ds_ret de_bl)) dss_nil)
    (dss_cons (ds_if (dt_w (dw_and (dt_notN (de_item rfl (de_v 0) de_int) de_non) (dw_and1 (dt_not (dt_val (de_has h_is_name rfl rfl rfl (hr.mono (by omega)) rfl (takes_of rfl rfl rfl rfl) (da_cons (de_item rfl (de_v 0) de_int) da_nil))))))) (dss_one (ds_ret de_bl)) dss_nil)
    (dss_cons (ds_if (dt_w (dw_or (dt_not (dt_val (de_has h_is_list rfl rfl rfl (hr.mono (by omega)) rfl (takes_of rfl rfl rfl rfl) (da_cons (de_item rfl (de_v 0) de_int) da_nil)))) (dw_or1 (dt_not (dt_val (de_all rfl rfl rfl Z.z_all (da_cons (de_lc [("part", 3)] rfl sc_is_arrow.nd (di_seq rfl (de_item rfl (de_v 0) de_int)) (by show BlkOk ["thing", "places", "clocks", "part"] (defScope s_is_arrow) _ _; exact ⟨rfl, by decide +kernel, by decide +kernel, by decide +kernel, by decide +kernel⟩) (by decide) (fun _ _ _ _ _ => (dgv_name (i := 3) sc_is_arrow.nd rfl (by first | exact Or.inl rfl | exact Or.inr rfl))) (fun _ _ _ _ _ => dts_nil) (fun _ _ _ _ _ => (de_has h_is_cut rfl rfl rfl (hr.mono (by omega)) rfl takes0 (da_cons (de_v 3) (da_cons (de_v 2) da_nil))))) da_nil))))))) (dss_one (ds_ret de_bl)) dss_nil)
    (dss_one (ds_ret (de_isN (de_has h_first_stranger rfl rfl rfl (hr.mono (by omega)) rfl (takes_of rfl rfl rfl rfl) (da_cons (de_item rfl (de_v 0) de_int) (da_cons (de_v 2) da_nil))) de_non)))))))⟩
theorem sc_rule_at : FnScope ["thing", "path", "parts", "words", "are_right", "index", "is_right", "part"] ["thing", "path"] (defScope s_rule_at) := ⟨rfl, rfl, rfl, by decide +kernel, rfl, by decide +kernel, by decide +kernel⟩
theorem ok_rule_at {k : Nat} {self : List D → Sto → Out D} (hk : 2 ≤ k) (Z : Fx w K mg T) (F : Fun K "rule_at" "rule_at" s_rule_at f fd) (hf : mg "rule_at" = some (.ref f)) (hself : Has P w base ⟨K, mg, T⟩ "rule_at" ["thing", "path"] k self) (h_is_list : Has P w base ⟨K, mg, T⟩ "is_list" ["thing"] 1 is_list) (h_is_natural : Has P w base ⟨K, mg, T⟩ "is_natural" ["thing"] 2 is_natural) (h_is_of : Has P w base ⟨K, mg, T⟩ "is_of" ["thing", "words"] 1 is_of) (h_is_name : Has P w base ⟨K, mg, T⟩ "is_name" ["thing"] 1 is_name) : Has P w base ⟨K, mg, T⟩ "rule_at" ["thing", "path"] (k + 1) (runM 8 (m_rule_at self)) :=
  ⟨f, fd, hf, F.kp, F.binds (fun _ _ _ _ _ _ us hl => match us, hl with | [_, _], _ => rfl), fn_ok F sc_rule_at fun cdv A outer s H E hr =>
    (dss_cons (ds_if (dt_w (dw_or (dt_not (dt_val (de_has h_is_list rfl rfl rfl (hr.mono (by omega)) rfl (takes_of rfl rfl rfl rfl) (da_cons (de_v 0) da_nil)))) (dw_or (dt_eq rfl hr.units (de_len rfl rfl Z.z_len (da_cons (de_v 0) da_nil)) de_int) (dw_or (dt_not (dt_val (de_isa rfl rfl rfl Z.z_isinstance rfl Z.z_str (by decide +kernel) (de_item rfl (de_v 0) de_int)))) (dw_or1 (dt_knin rfl rfl Z.k_SIZES rfl (de_item rfl (de_v 0) de_int))))))) (dss_one (ds_raise (Z.e_BadRule base P w).choose_spec.choose_spec.choose_spec rfl rfl (takes_of rfl rfl rfl rfl) (hr.mono (by omega)) rfl (de_v 1))) dss_nil)
    (dss_cons (ds_if (dt_ne rfl hr.units (de_len rfl rfl Z.z_len (da_cons (de_v 0) da_nil)) (de_kat rfl rfl Z.k_SIZES rfl (de_item rfl (de_v 0) de_int))) (dss_one (ds_raise (Z.e_BadRule base P w).choose_spec.choose_spec.choose_spec rfl rfl (takes_of rfl rfl rfl rfl) (hr.mono (by omega)) rfl (de_v 1))) dss_nil)
    (dss_cons (ds_if (dt_nin rfl (de_item rfl (de_v 0) de_int) (de_glob rfl Z.g_PLAIN.choose_spec.1 Z.g_PLAIN.choose_spec.2)) (dss_cons (ds_setLcR (i := 2) [("index", 5), ("part", 7)] (takes_of rfl rfl rfl rfl) rfl rfl rfl sc_rule_at.nd rfl rfl rfl (di_enum rfl rfl Z.z_enumerate (de_slice rfl (de_v 0) (do_some de_int) do_none)) (by show BlkOk ["thing", "path", "parts", "words", "are_right", "index", "is_right", "part"] (defScope s_rule_at) _ _; exact ⟨rfl, by decide +kernel, by decide +kernel, by decide +kernel, by decide +kernel⟩) (by decide) (fun _ _ _ _ _ => (dgv_tup rfl rfl (dgs_cons (dgv_name (i := 5) sc_rule_at.nd rfl (by first | exact Or.inl rfl | exact Or.inr rfl)) (dgs_cons (dgv_name (i := 7) sc_rule_at.nd rfl (by first | exact Or.inl rfl | exact Or.inr rfl)) dgs_nil)))) (fun _ _ _ _ _ => dts_nil) (fun _ _ _ _ _ _ => (de_hasO rfl hself rfl rfl rfl (hr.mono (by omega)) rfl (da_cons (de_v 7) (da_cons (de_tup (da_star rfl (de_v 1) (da_cons (de_add rfl (de_v 5) de_int) da_nil))) da_nil)))))
    (dss_one (ds_ret (de_tup (da_cons (de_item rfl (de_v 0) de_int) (da_star rfl (de_v 2) da_nil)))))) dss_nil)
    (dss_cons (ds_asg (de_if (dt_eq rfl hr.units (de_item rfl (de_v 0) de_int) de_str) (de_glob rfl Z.g_UPPERS.choose_spec.1 Z.g_UPPERS.choose_spec.2) (de_add rfl (de_glob rfl Z.g_UPPERS.choose_spec.1 Z.g_UPPERS.choose_spec.2) (de_glob rfl Z.g_LOWERS.choose_spec.1 Z.g_LOWERS.choose_spec.2))) (dg_name (i := 3) sc_rule_at.nd rfl (by first | exact Or.inl rfl | exact Or.inr rfl)))
    (dss_cons (ds_asg (de_lst (da_cons (de_has h_is_name rfl rfl rfl (hr.mono (by omega)) rfl (takes_of rfl rfl rfl rfl) (da_cons (de_item rfl (de_v 0) de_int) da_nil)) (da_cons (de_has h_is_name rfl rfl rfl (hr.mono (by omega)) rfl (takes_of rfl rfl rfl rfl) (da_cons (de_item rfl (de_v 0) de_int) da_nil)) (da_cons (de_has h_is_of rfl rfl rfl (hr.mono (by omega)) rfl (takes_of rfl rfl rfl rfl) (da_cons (de_item rfl (de_v 0) de_int) (da_cons (de_v 3) da_nil))) (da_cons (de_has h_is_natural rfl rfl rfl (hr.mono (by omega)) rfl (takes_of rfl rfl rfl rfl) (da_cons (de_item rfl (de_v 0) de_int) da_nil)) da_nil))))) (dg_name (i := 4) sc_rule_at.nd rfl (by first | exact Or.inl rfl | exact Or.inr rfl)))
    (dss_cons (ds_for (passes_of rfl) rfl (di_enum rfl rfl Z.z_enumerate (de_v 4)) (dg_tup rfl rfl (dgs_cons (dgv_name (i := 5) sc_rule_at.nd rfl (by first | exact Or.inl rfl | exact Or.inr rfl)) (dgs_cons (dgv_name (i := 6) sc_rule_at.nd rfl (by first | exact Or.inl rfl | exact Or.inr rfl)) dgs_nil))) (dss_one (ds_if (dt_not (dt_val (de_v 6))) (dss_one (ds_raise (Z.e_BadRule base P w).choose_spec.choose_spec.choose_spec rfl rfl (takes_of rfl rfl rfl rfl) (hr.mono (by omega)) rfl (de_tup (da_star rfl (de_v 1) (da_cons (de_add rfl (de_v 5) de_int) da_nil))))) dss_nil)))
    (dss_one (ds_ret (de_tuple rfl rfl Z.z_tuple (da_cons (de_v 0) da_nil))))))))))⟩
theorem rec_rule_at (Z : Fx w K mg T) (F : Fun K "rule_at" "rule_at" s_rule_at f fd) (hf : mg "rule_at" = some (.ref f)) (h_is_list : Has P w base ⟨K, mg, T⟩ "is_list" ["thing"] 1 is_list) (h_is_natural : Has P w base ⟨K, mg, T⟩ "is_natural" ["thing"] 2 is_natural) (h_is_of : Has P w base ⟨K, mg, T⟩ "is_of" ["thing", "words"] 1 is_of) (h_is_name : Has P w base ⟨K, mg, T⟩ "is_name" ["thing"] 1 is_name) : ∀ n : Nat, Has P w base ⟨K, mg, T⟩ "rule_at" ["thing", "path"] (2 + n) (rule_at n)
  | 0 => Has.none hf F.kp (F.binds (fun _ _ _ _ _ _ us hl => match us, hl with | [_, _], _ => rfl))
  | n + 1 => ok_rule_at (Nat.le_add_right _ _) Z F hf (rec_rule_at Z F hf h_is_list h_is_natural h_is_of h_is_name n) h_is_list h_is_natural h_is_of h_is_name
theorem sc_checked_rule : FnScope ["thing"] ["thing"] (defScope s_checked_rule) := ⟨rfl, rfl, rfl, by decide +kernel, rfl, by decide +kernel, by decide +kernel⟩
theorem ok_checked_rule (Z : Fx w K mg T) (F : Fun K "checked_rule" "checked_rule" s_checked_rule f fd) (hf : mg "checked_rule" = some (.ref f)) (h_rule_at : Has P w base ⟨K, mg, T⟩ "rule_at" ["thing", "path"] 10 (rule_at 8)) : Has P w base ⟨K, mg, T⟩ "checked_rule" ["thing"] 11 checked_rule :=
  ⟨f, fd, hf, F.kp, F.binds (fun _ _ _ _ _ _ us hl => match us, hl with | [_], _ => rfl), fn_ok F sc_checked_rule fun cdv A outer s H E hr =>
    (dss_one (ds_ret (de_has h_rule_at rfl rfl rfl (hr.mono (by omega)) rfl (takes_of rfl rfl rfl rfl) (da_cons (de_v 0) (da_cons (de_tup da_nil) da_nil)))))⟩
theorem sc_signs_of : FnScope ["rule", "found", "part"] ["rule"] (defScope s_signs_of) := ⟨rfl, rfl, rfl, by decide +kernel, rfl, by decide +kernel, by decide +kernel⟩
theorem ok_signs_of {k : Nat} {self : List D → Sto → Out D} (hk : 0 ≤ k) (Z : Fx w K mg T) (F : Fun K "signs_of" "signs_of" s_signs_of f fd) (hf : mg "signs_of" = some (.ref f)) (hself : Has P w base ⟨K, mg, T⟩ "signs_of" ["rule"] k self) : Has P w base ⟨K, mg, T⟩ "signs_of" ["rule"] (k + 1) (runM 3 (m_signs_of self)) :=
  ⟨f, fd, hf, F.kp, F.binds (fun _ _ _ _ _ _ us hl => match us, hl with | [_], _ => rfl), fn_ok F sc_signs_of fun cdv A outer s H E hr =>
    (dss_cons (ds_if (dt_in rfl (de_item rfl (de_v 0) de_int) (de_glob rfl Z.g_PLAIN.choose_spec.1 Z.g_PLAIN.choose_spec.2)) (dss_one (ds_ret (de_lst (da_cons (de_item rfl (de_v 0) de_int) (da_cons (de_item rfl (de_v 0) de_int) da_nil))))) dss_nil)
    (dss_cons (ds_asg (de_cel da_nil) (dg_name (i := 1) sc_signs_of.nd rfl (by first | exact Or.inl rfl | exact Or.inr rfl)))
    (dss_cons (ds_for (passes_of rfl) rfl (di_seq rfl (de_slice rfl (de_v 0) (do_some de_int) do_none)) (dg_name (i := 2) sc_signs_of.nd rfl (by first | exact Or.inl rfl | exact Or.inr rfl)) (dss_one (ds_exp (de_extend rfl (de_v 1) (da_cons (de_has hself rfl rfl rfl (hr.mono (by omega)) rfl (takes_of rfl rfl rfl rfl) (da_cons (de_v 2) da_nil)) da_nil)))))
    (dss_one (ds_ret (de_fz (de_v 1)))))))⟩
theorem rec_signs_of (Z : Fx w K mg T) (F : Fun K "signs_of" "signs_of" s_signs_of f fd) (hf : mg "signs_of" = some (.ref f)) : ∀ n : Nat, Has P w base ⟨K, mg, T⟩ "signs_of" ["rule"] (0 + n) (signs_of n)
  | 0 => Has.none hf F.kp (F.binds (fun _ _ _ _ _ _ us hl => match us, hl with | [_], _ => rfl))
  | n + 1 => ok_signs_of (Nat.le_add_right _ _) Z F hf (rec_signs_of Z F hf  n) 
theorem sc_signals_in : FnScope ["rule"] ["rule"] (defScope s_signals_in) := ⟨rfl, rfl, rfl, by decide +kernel, rfl, by decide +kernel, by decide +kernel⟩
theorem ok_signals_in (Z : Fx w K mg T) (F : Fun K "signals_in" "signals_in" s_signals_in f fd) (hf : mg "signals_in" = some (.ref f)) (h_checked_rule : Has P w base ⟨K, mg, T⟩ "checked_rule" ["thing"] 11 checked_rule) (h_signs_of : Has P w base ⟨K, mg, T⟩ "signs_of" ["rule"] 8 (signs_of 8)) : Has P w base ⟨K, mg, T⟩ "signals_in" ["rule"] 12 signals_in :=
  ⟨f, fd, hf, F.kp, F.binds (fun _ _ _ _ _ _ us hl => match us, hl with | [_], _ => rfl), fn_ok F sc_signals_in fun cdv A outer s H E hr =>
    (dss_one (ds_ret (de_sortset rfl rfl rfl Z.z_sorted rfl Z.z_set (de_has h_signs_of rfl rfl rfl (hr.mono (by omega)) rfl (takes_of rfl rfl rfl rfl) (da_cons (de_has h_checked_rule rfl rfl rfl (hr.mono (by omega)) rfl (takes_of rfl rfl rfl rfl) (da_cons (de_v 0) da_nil)) da_nil)))))⟩
theorem sc_keeps : FnScope ["rule", "row", "right_rule"] ["rule", "row"] (defScope s_keeps) := ⟨rfl, rfl, rfl, by decide +kernel, rfl, by decide +kernel, by decide +kernel⟩
theorem ok_keeps (Z : Fx w K mg T) (F : Fun K "keeps" "keeps" s_keeps f fd) (hf : mg "keeps" = some (.ref f)) (h_checked_rule : Has P w base ⟨K, mg, T⟩ "checked_rule" ["thing"] 11 checked_rule) : Has P w base ⟨K, mg, T⟩ "keeps" ["rule", "row"] 12 keeps :=
  ⟨f, fd, hf, F.kp, F.binds (fun _ _ _ _ _ _ us hl => match us, hl with | [_, _], _ => rfl), fn_ok F sc_keeps fun cdv A outer s H E hr =>
    (dss_cons (ds_asg (de_has h_checked_rule rfl rfl rfl (hr.mono (by omega)) rfl (takes_of rfl rfl rfl rfl) (da_cons (de_v 0) da_nil)) (dg_name (i := 2) sc_keeps.nd rfl (by first | exact Or.inl rfl | exact Or.inr rfl)))
    dss_bad)⟩
theorem sc_check_plain : FnScope ["rule", "right_rule"] ["rule"] (defScope s_check_plain) := ⟨rfl, rfl, rfl, by decide +kernel, rfl, by decide +kernel, by decide +kernel⟩
theorem ok_check_plain (Z : Fx w K mg T) (F : Fun K "check_plain" "check_plain" s_check_plain f fd) (hf : mg "check_plain" = some (.ref f)) (h_checked_rule : Has P w base ⟨K, mg, T⟩ "checked_rule" ["thing"] 11 checked_rule) : Has P w base ⟨K, mg, T⟩ "check_plain" ["rule"] 12 check_plain :=
  ⟨f, fd, hf, F.kp, F.binds (fun _ _ _ _ _ _ us hl => match us, hl with | [_], _ => rfl), fn_ok F sc_check_plain fun cdv A outer s H E hr =>
    (dss_cons (ds_asg (de_has h_checked_rule rfl rfl rfl (hr.mono (by omega)) rfl (takes_of rfl rfl rfl rfl) (da_cons (de_v 0) da_nil)) (dg_name (i := 1) sc_check_plain.nd rfl (by first | exact Or.inl rfl | exact Or.inr rfl)))
    dss_bad)⟩
theorem sc_first_broken : FnScope ["rule", "row", "right_rule"] ["rule", "row"] (defScope s_first_broken) := ⟨rfl, rfl, rfl, by decide +kernel, rfl, by decide +kernel, by decide +kernel⟩
theorem ok_first_broken (Z : Fx w K mg T) (F : Fun K "first_broken" "first_broken" s_first_broken f fd) (hf : mg "first_broken" = some (.ref f)) (h_check_plain : Has P w base ⟨K, mg, T⟩ "check_plain" ["rule"] 12 check_plain) : Has P w base ⟨K, mg, T⟩ "first_broken" ["rule", "row"] 13 first_broken :=
  ⟨f, fd, hf, F.kp, F.binds (fun _ _ _ _ _ _ us hl => match us, hl with | [_, _], _ => rfl), fn_ok F sc_first_broken fun cdv A outer s H E hr =>
    (dss_cons (ds_asg (de_has h_check_plain rfl rfl rfl (hr.mono (by omega)) rfl (takes_of rfl rfl rfl rfl) (da_cons (de_v 0) da_nil)) (dg_name (i := 2) sc_first_broken.nd rfl (by first | exact Or.inl rfl | exact Or.inr rfl)))
    dss_bad)⟩
theorem sc_watcher_of : FnScope ["rule", "signals", "right_rule"] ["rule", "signals"] (defScope s_watcher_of) := ⟨rfl, rfl, rfl, by decide +kernel, rfl, by decide +kernel, by decide +kernel⟩
theorem ok_watcher_of (Z : Fx w K mg T) (F : Fun K "watcher_of" "watcher_of" s_watcher_of f fd) (hf : mg "watcher_of" = some (.ref f)) (h_checked_rule : Has P w base ⟨K, mg, T⟩ "checked_rule" ["thing"] 11 checked_rule) : Has P w base ⟨K, mg, T⟩ "watcher_of" ["rule", "signals"] 12 watcher_of :=
  ⟨f, fd, hf, F.kp, F.binds (fun _ _ _ _ _ _ us hl => match us, hl with | [_, _], _ => rfl), fn_ok F sc_watcher_of fun cdv A outer s H E hr =>
    (dss_cons (ds_asg (de_has h_checked_rule rfl rfl rfl (hr.mono (by omega)) rfl (takes_of rfl rfl rfl rfl) (da_cons (de_v 0) da_nil)) (dg_name (i := 2) sc_watcher_of.nd rfl (by first | exact Or.inl rfl | exact Or.inr rfl)))
    dss_bad)⟩
theorem sc_check_seen : FnScope ["watcher", "number", "arrow"] ["watcher"] (defScope s_check_seen) := ⟨rfl, rfl, rfl, by decide +kernel, rfl, by decide +kernel, by decide +kernel⟩
theorem ok_check_seen (Z : Fx w K mg T) (F : Fun K "check_seen" "check_seen" s_check_seen f fd) (hf : mg "check_seen" = some (.ref f)) {Cw : Addr} (hW : WatF P w base ⟨K, mg, T⟩ Cw) : Has P w base ⟨K, mg, T⟩ "check_seen" ["watcher"] 3 (check_seen Cw) :=
  ⟨f, fd, hf, F.kp, F.binds (fun _ _ _ _ _ _ us hl => match us, hl with | [_], _ => rfl), fn_ok F sc_check_seen fun cdv A outer s H E hr =>
    (dss_one (ds_for (passes_of rfl) rfl (di_enum rfl rfl Z.z_enumerate (de_meth0 hW.arr rfl rfl hW.cls (hr.mono (by omega)) (arrowsM_calm Cw) (de_v 0))) (dg_tup rfl rfl (dgs_cons (dgv_name (i := 1) sc_check_seen.nd rfl (by first | exact Or.inl rfl | exact Or.inr rfl)) (dgs_cons (dgv_name (i := 2) sc_check_seen.nd rfl (by first | exact Or.inl rfl | exact Or.inr rfl)) dgs_nil))) (dss_one (ds_if (dt_isN (de_item rfl (de_v 2) de_int) de_non) (dss_one (ds_raise (Z.e_Unseen base P w).choose_spec.choose_spec.choose_spec rfl rfl (takes_of rfl rfl rfl rfl) (hr.mono (by omega)) rfl (de_v 1))) dss_nil))))⟩
theorem sc_keeping : FnScope ["watcher", "rule"] ["watcher", "rule"] (defScope s_keeping) := ⟨rfl, rfl, rfl, by decide +kernel, rfl, by decide +kernel, by decide +kernel⟩
theorem ok_keeping (Z : Fx w K mg T) (F : Fun K "keeping" "keeping" s_keeping f fd) (hf : mg "keeping" = some (.ref f)) {Cw : Addr} (hW : WatF P w base ⟨K, mg, T⟩ Cw) (h_check_seen : Has P w base ⟨K, mg, T⟩ "check_seen" ["watcher"] 3 (check_seen Cw)) (h_checked_rule : Has P w base ⟨K, mg, T⟩ "checked_rule" ["thing"] 11 checked_rule) (h_kept_run : Has P w base ⟨K, mg, T⟩ "kept_run" ["watcher", "rule"] 0 stubM) : Has P w base ⟨K, mg, T⟩ "keeping" ["watcher", "rule"] 12 (keeping Cw) :=
  ⟨f, fd, hf, F.kp, F.binds (fun _ _ _ _ _ _ us hl => match us, hl with | [_, _], _ => rfl), fn_ok F sc_keeping fun cdv A outer s H E hr =>
    (dss_cons (ds_exp (de_has h_check_seen rfl rfl rfl (hr.mono (by omega)) rfl (takes_of rfl rfl rfl rfl) (da_cons (de_v 0) da_nil)))
    (dss_one (ds_ret (de_has h_kept_run rfl rfl rfl (hr.mono (by omega)) rfl (takes_of rfl rfl rfl rfl) (da_cons (de_v 0) (da_cons (de_has h_checked_rule rfl rfl rfl (hr.mono (by omega)) rfl (takes_of rfl rfl rfl rfl) (da_cons (de_v 1) da_nil)) da_nil))))))⟩
theorem sc_breaking : FnScope ["watcher", "rule"] ["watcher", "rule"] (defScope s_breaking) := ⟨rfl, rfl, rfl, by decide +kernel, rfl, by decide +kernel, by decide +kernel⟩
theorem ok_breaking (Z : Fx w K mg T) (F : Fun K "breaking" "breaking" s_breaking f fd) (hf : mg "breaking" = some (.ref f)) {Cw : Addr} (hW : WatF P w base ⟨K, mg, T⟩ Cw) (h_check_seen : Has P w base ⟨K, mg, T⟩ "check_seen" ["watcher"] 3 (check_seen Cw)) (h_checked_rule : Has P w base ⟨K, mg, T⟩ "checked_rule" ["thing"] 11 checked_rule) (h_broken_run : Has P w base ⟨K, mg, T⟩ "broken_run" ["watcher", "rule"] 0 stubM) : Has P w base ⟨K, mg, T⟩ "breaking" ["watcher", "rule"] 12 (breaking Cw) :=
  ⟨f, fd, hf, F.kp, F.binds (fun _ _ _ _ _ _ us hl => match us, hl with | [_, _], _ => rfl), fn_ok F sc_breaking fun cdv A outer s H E hr =>
    (dss_cons (ds_exp (de_has h_check_seen rfl rfl rfl (hr.mono (by omega)) rfl (takes_of rfl rfl rfl rfl) (da_cons (de_v 0) da_nil)))
    (dss_one (ds_ret (de_has h_broken_run rfl rfl rfl (hr.mono (by omega)) rfl (takes_of rfl rfl rfl rfl) (da_cons (de_v 0) (da_cons (de_has h_checked_rule rfl rfl rfl (hr.mono (by omega)) rfl (takes_of rfl rfl rfl rfl) (da_cons (de_v 1) da_nil)) da_nil))))))⟩
theorem sc_judged : FnScope ["watcher", "rule"] ["watcher", "rule"] (defScope s_judged) := ⟨rfl, rfl, rfl, by decide +kernel, rfl, by decide +kernel, by decide +kernel⟩
theorem ok_judged (Z : Fx w K mg T) (F : Fun K "judged" "judged" s_judged f fd) (hf : mg "judged" = some (.ref f)) {Cw : Addr} (hW : WatF P w base ⟨K, mg, T⟩ Cw) (h_check_seen : Has P w base ⟨K, mg, T⟩ "check_seen" ["watcher"] 3 (check_seen Cw)) (h_checked_rule : Has P w base ⟨K, mg, T⟩ "checked_rule" ["thing"] 11 checked_rule) (h_verdict_on : Has P w base ⟨K, mg, T⟩ "verdict_on" ["watcher", "rule"] 0 stubM) : Has P w base ⟨K, mg, T⟩ "judged" ["watcher", "rule"] 12 (judged Cw) :=
  ⟨f, fd, hf, F.kp, F.binds (fun _ _ _ _ _ _ us hl => match us, hl with | [_, _], _ => rfl), fn_ok F sc_judged fun cdv A outer s H E hr =>
    (dss_cons (ds_exp (de_has h_check_seen rfl rfl rfl (hr.mono (by omega)) rfl (takes_of rfl rfl rfl rfl) (da_cons (de_v 0) da_nil)))
    (dss_one (ds_ret (de_has h_verdict_on rfl rfl rfl (hr.mono (by omega)) rfl (takes_of rfl rfl rfl rfl) (da_cons (de_v 0) (da_cons (de_has h_checked_rule rfl rfl rfl (hr.mono (by omega)) rfl (takes_of rfl rfl rfl rfl) (da_cons (de_v 1) da_nil)) da_nil))))))⟩
theorem sc_tightest : FnScope ["watcher", "rule", "most", "right_rule", "bounds", "low", "high", "mid"] ["watcher", "rule", "most"] (defScope s_tightest) := ⟨rfl, rfl, rfl, by decide +kernel, rfl, by decide +kernel, by decide +kernel⟩
theorem ok_tightest (Z : Fx w K mg T) (F : Fun K "tightest" "tightest" s_tightest f fd) (hf : mg "tightest" = some (.ref f)) {Cw : Addr} (hW : WatF P w base ⟨K, mg, T⟩ Cw) (h_check_seen : Has P w base ⟨K, mg, T⟩ "check_seen" ["watcher"] 3 (check_seen Cw)) (h_check_plain : Has P w base ⟨K, mg, T⟩ "check_plain" ["rule"] 12 check_plain) : Has P w base ⟨K, mg, T⟩ "tightest" ["watcher", "rule", "most"] 13 (tightest Cw) :=
  ⟨f, fd, hf, F.kp, F.binds (fun _ _ _ _ _ _ us hl => match us, hl with | [_, _, _], _ => rfl), fn_ok F sc_tightest fun cdv A outer s H E hr =>
    (dss_cons (ds_exp (de_has h_check_seen rfl rfl rfl (hr.mono (by omega)) rfl (takes_of rfl rfl rfl rfl) (da_cons (de_v 0) da_nil)))
    (dss_cons (ds_asg (de_has h_check_plain rfl rfl rfl (hr.mono (by omega)) rfl (takes_of rfl rfl rfl rfl) (da_cons (de_v 1) da_nil)) (dg_name (i := 3) sc_tightest.nd rfl (by first | exact Or.inl rfl | exact Or.inr rfl)))
    dss_bad))⟩
theorem sc_L_source : FnScope ["_law_script", "_law_great", "_law_seed", "_law_cell"] ["_law_script"] (defScope s_L_source) := ⟨rfl, rfl, rfl, by decide +kernel, rfl, by decide +kernel, by decide +kernel⟩
theorem ok_L_source (Z : Fx w K mg T) (F : Fun K "_law_source" "_law_source" s_L_source f fd) (hf : mg "_law_source" = some (.ref f)) : Has P w base ⟨K, mg, T⟩ "_law_source" ["_law_script"] 1 L_source :=
  ⟨f, fd, hf, F.kp, F.binds (fun _ _ _ _ _ _ us hl => match us, hl with | [_], _ => rfl), fn_ok F sc_L_source fun cdv A outer s H E hr =>
    (dss_cons (ds_asg (de_tup (da_cons de_int (da_cons de_int da_nil))) (dg_tup rfl rfl (dgs_cons (dgv_name (i := 1) sc_L_source.nd rfl (by first | exact Or.inl rfl | exact Or.inr rfl)) (dgs_cons (dgv_name (i := 2) sc_L_source.nd rfl (by first | exact Or.inl rfl | exact Or.inr rfl)) dgs_nil))))
    (dss_cons (ds_for (passes_of rfl) rfl (di_seq rfl (de_v 0)) (dg_name (i := 3) sc_L_source.nd rfl (by first | exact Or.inl rfl | exact Or.inr rfl)) (dss_cons (ds_if (dt_w (dw_and (dt_eq rfl hr.units (de_v 1) de_int) (dw_and1 (dt_ge (de_v 3) (de_pow de_int de_int))))) (dss_one (ds_asg (de_v 3) (dg_name (i := 1) sc_L_source.nd rfl (by first | exact Or.inl rfl | exact Or.inr rfl)))) dss_nil)
    (dss_one (ds_asg (de_mod (de_int1 rfl Z.z_int (da_cons (de_add rfl (de_add rfl (de_mul (de_v 2) de_int) (de_v 3)) de_int) da_nil)) de_int) (dg_name (i := 2) sc_L_source.nd rfl (by first | exact Or.inl rfl | exact Or.inr rfl))))))
    (dss_one (ds_ret (de_cel (da_cons (de_v 1) (da_cons (de_v 2) (da_cons de_int da_nil))))))))⟩
theorem sc_L_draw : FnScope ["_law_source_here", "_law_many", "_law_digit", "_law_mixed"] ["_law_source_here", "_law_many"] (defScope s_L_draw) := ⟨rfl, rfl, rfl, by decide +kernel, rfl, by decide +kernel, by decide +kernel⟩
theorem ok_L_draw (Z : Fx w K mg T) (F : Fun K "_law_draw" "_law_draw" s_L_draw f fd) (hf : mg "_law_draw" = some (.ref f)) : Has P w base ⟨K, mg, T⟩ "_law_draw" ["_law_source_here", "_law_many"] 1 L_draw :=
  ⟨f, fd, hf, F.kp, F.binds (fun _ _ _ _ _ _ us hl => match us, hl with | [_, _], _ => rfl), fn_ok F sc_L_draw fun cdv A outer s H E hr =>
    (dss_cons (ds_asg (de_add rfl (de_item rfl (de_v 0) de_int) de_int) (dg_sub (W := WF) (de_v 0) de_int (fun _ => rfl)))
    (dss_cons (ds_if (dt_gt (de_item rfl (de_v 0) de_int) de_int) (dss_cons (ds_asg (de_mod (de_int1 rfl Z.z_int (da_cons (de_item rfl (de_v 0) de_int) da_nil)) (de_v 1)) (dg_name (i := 2) sc_L_draw.nd rfl (by first | exact Or.inl rfl | exact Or.inr rfl)))
    (dss_cons (ds_asg (de_div (de_item rfl (de_v 0) de_int) (de_v 1)) (dg_sub (W := WF) (de_v 0) de_int (fun _ => rfl)))
    (dss_one (ds_ret (de_v 2))))) dss_nil)
    (dss_cons (ds_asg (de_mod (de_pow (de_add rfl (de_item rfl (de_v 0) de_int) (de_mul de_int (de_item rfl (de_v 0) de_int))) de_int) de_int) (dg_name (i := 3) sc_L_draw.nd rfl (by first | exact Or.inl rfl | exact Or.inr rfl)))
    (dss_one (ds_ret (de_mod (de_mod (de_pow (de_add rfl (de_add rfl (de_mul (de_v 3) de_int) (de_mul (de_mul de_int (de_item rfl (de_v 0) de_int)) (de_item rfl (de_v 0) de_int))) de_int) de_int) de_int) (de_v 1)))))))⟩
theorem sc_L_pick : FnScope ["_law_source_here", "_law_things"] ["_law_source_here", "_law_things"] (defScope s_L_pick) := ⟨rfl, rfl, rfl, by decide +kernel, rfl, by decide +kernel, by decide +kernel⟩
theorem ok_L_pick (Z : Fx w K mg T) (F : Fun K "_law_pick" "_law_pick" s_L_pick f fd) (hf : mg "_law_pick" = some (.ref f)) (h_L_draw : Has P w base ⟨K, mg, T⟩ "_law_draw" ["_law_source_here", "_law_many"] 1 L_draw) : Has P w base ⟨K, mg, T⟩ "_law_pick" ["_law_source_here", "_law_things"] 2 L_pick :=
  ⟨f, fd, hf, F.kp, F.binds (fun _ _ _ _ _ _ us hl => match us, hl with | [_, _], _ => rfl), fn_ok F sc_L_pick fun cdv A outer s H E hr =>
    (dss_one (ds_ret (de_item rfl (de_v 1) (de_has h_L_draw rfl rfl rfl (hr.mono (by omega)) rfl (takes_of rfl rfl rfl rfl) (da_cons (de_v 0) (da_cons (de_len rfl rfl Z.z_len (da_cons (de_v 1) da_nil)) da_nil))))))⟩
theorem sc_L_order : FnScope ["_law_source_here", "_law_things", "_law_left", "_law_found", "_law_k"] ["_law_source_here", "_law_things"] (defScope s_L_order) := ⟨rfl, rfl, rfl, by decide +kernel, rfl, by decide +kernel, by decide +kernel⟩
theorem ok_L_order (Z : Fx w K mg T) (F : Fun K "_law_order" "_law_order" s_L_order f fd) (hf : mg "_law_order" = some (.ref f)) (h_L_draw : Has P w base ⟨K, mg, T⟩ "_law_draw" ["_law_source_here", "_law_many"] 1 L_draw) : Has P w base ⟨K, mg, T⟩ "_law_order" ["_law_source_here", "_law_things"] 2 L_order :=
  ⟨f, fd, hf, F.kp, F.binds (fun _ _ _ _ _ _ us hl => match us, hl with | [_, _], _ => rfl), fn_ok F sc_L_order fun cdv A outer s H E hr =>
    (dss_cons (ds_par (k := 2) (j := 3) rfl sc_L_order.nd rfl rfl (by decide) rfl rfl (da_cons (de_listC rfl rfl Z.z_list (da_cons (de_v 1) da_nil)) (da_cons (de_cel da_nil) da_nil)) rfl)
    (dss_cons (ds_for (passes_of rfl) rfl (di_range1 rfl Z.z_range (da_cons (de_len rfl rfl Z.z_len (da_cons (de_v 2) da_nil)) da_nil)) (dg_name (i := 4) sc_L_order.nd rfl (by first | exact Or.inl rfl | exact Or.inr rfl)) (dss_one (ds_exp (de_append rfl (de_v 3) (da_cons (de_pop rfl (de_v 2) (da_cons (de_has h_L_draw rfl rfl rfl (hr.mono (by omega)) rfl (takes_of rfl rfl rfl rfl) (da_cons (de_v 0) (da_cons (de_len rfl rfl Z.z_len (da_cons (de_v 2) da_nil)) da_nil))) da_nil)) da_nil)))))
    (dss_one (ds_ret (de_fz (de_v 3))))))⟩
theorem sc_L_words : FnScope ["_law_source_here", "_law_many", "_law_letters", "_law_found", "_law_k", "_law_word", "_law_j", "_law_spare", "_law_sign", "_law_one"] ["_law_source_here", "_law_many"] (defScope s_L_words) := ⟨rfl, rfl, rfl, by decide +kernel, rfl, by decide +kernel, by decide +kernel⟩
theorem ok_L_words (Z : Fx w K mg T) (F : Fun K "_law_words" "_law_words" s_L_words f fd) (hf : mg "_law_words" = some (.ref f)) (h_L_pick : Has P w base ⟨K, mg, T⟩ "_law_pick" ["_law_source_here", "_law_things"] 2 L_pick) (h_L_draw : Has P w base ⟨K, mg, T⟩ "_law_draw" ["_law_source_here", "_law_many"] 1 L_draw) : Has P w base ⟨K, mg, T⟩ "_law_words" ["_law_source_here", "_law_many"] 3 L_words :=
  ⟨f, fd, hf, F.kp, F.binds (fun _ _ _ _ _ _ us hl => match us, hl with | [_, _], _ => rfl), fn_ok F sc_L_words fun cdv A outer s H E hr =>
    (dss_cons (ds_asg (de_tup (da_cons de_str (da_cons (de_cel da_nil) da_nil))) (dg_tup rfl rfl (dgs_cons (dgv_name (i := 2) sc_L_words.nd rfl (by first | exact Or.inl rfl | exact Or.inr rfl)) (dgs_cons (dgv_name (i := 3) sc_L_words.nd rfl (by first | exact Or.inl rfl | exact Or.inr rfl)) dgs_nil))))
    (dss_cons (ds_for (passes_of rfl) rfl (di_range1 rfl Z.z_range (da_cons (de_v 1) da_nil)) (dg_name (i := 4) sc_L_words.nd rfl (by first | exact Or.inl rfl | exact Or.inr rfl)) (dss_cons (ds_asg (de_has h_L_pick rfl rfl rfl (hr.mono (by omega)) rfl (takes_of rfl rfl rfl rfl) (da_cons (de_v 0) (da_cons (de_v 2) da_nil))) (dg_name (i := 5) sc_L_words.nd rfl (by first | exact Or.inl rfl | exact Or.inr rfl)))
    (dss_cons (ds_for (passes_of rfl) rfl (di_range1 rfl Z.z_range (da_cons (de_item rfl (de_lst (da_cons de_int (da_cons de_int (da_cons de_int (da_cons de_int (da_cons de_int da_nil)))))) (de_has h_L_draw rfl rfl rfl (hr.mono (by omega)) rfl (takes_of rfl rfl rfl rfl) (da_cons (de_v 0) (da_cons de_int da_nil)))) da_nil)) (dg_name (i := 6) sc_L_words.nd rfl (by first | exact Or.inl rfl | exact Or.inr rfl)) (dss_one (ds_asg (de_add rfl (de_v 5) (de_has h_L_pick rfl rfl rfl (hr.mono (by omega)) rfl (takes_of rfl rfl rfl rfl) (da_cons (de_v 0) (da_cons (de_v 2) da_nil)))) (dg_name (i := 5) sc_L_words.nd rfl (by first | exact Or.inl rfl | exact Or.inr rfl)))))
    (dss_cons (ds_asg (de_add rfl (de_lst (da_cons (de_v 5) da_nil)) (de_lc [("_law_sign", 8)] rfl sc_L_words.nd (di_seq rfl (de_v 2)) (by show BlkOk ["_law_source_here", "_law_many", "_law_letters", "_law_found", "_law_k", "_law_word", "_law_j", "_law_spare", "_law_sign", "_law_one"] (defScope s_L_words) _ _; exact ⟨rfl, by decide +kernel, by decide +kernel, by decide +kernel, by decide +kernel⟩) (by decide) (fun _ _ _ _ _ => (dgv_name (i := 8) sc_L_words.nd rfl (by first | exact Or.inl rfl | exact Or.inr rfl))) (fun _ _ _ _ _ => dts_nil) (fun _ _ _ _ _ => (de_add rfl (de_add rfl (de_v 8) de_str) (de_v 8))))) (dg_name (i := 7) sc_L_words.nd rfl (by first | exact Or.inl rfl | exact Or.inr rfl)))
    (dss_one (ds_exp (de_append rfl (de_v 3) (da_cons (de_item rfl (de_lc [("_law_one", 9)] rfl sc_L_words.nd (di_seq rfl (de_v 7)) (by show BlkOk ["_law_source_here", "_law_many", "_law_letters", "_law_found", "_law_k", "_law_word", "_law_j", "_law_spare", "_law_sign", "_law_one"] (defScope s_L_words) _ _; exact ⟨rfl, by decide +kernel, by decide +kernel, by decide +kernel, by decide +kernel⟩) (by decide) (fun _ _ _ _ _ => (dgv_name (i := 9) sc_L_words.nd rfl (by first | exact Or.inl rfl | exact Or.inr rfl))) (fun _ _ _ _ _ => (dts_one (dt_nin rfl (de_v 9) (de_v 3)))) (fun _ _ _ _ _ => (de_v 9))) de_int) da_nil))))))))
    (dss_one (ds_ret (de_fz (de_v 3))))))⟩
theorem sc_L_plain : FnScope ["_law_source_here", "_law_signs", "_law_most", "_law_kind", "_law_pair", "_law_word"] ["_law_source_here", "_law_signs", "_law_most"] (defScope s_L_plain) := ⟨rfl, rfl, rfl, by decide +kernel, rfl, by decide +kernel, by decide +kernel⟩
theorem ok_L_plain (Z : Fx w K mg T) (F : Fun K "_law_plain" "_law_plain" s_L_plain f fd) (hf : mg "_law_plain" = some (.ref f)) (h_L_pick : Has P w base ⟨K, mg, T⟩ "_law_pick" ["_law_source_here", "_law_things"] 2 L_pick) (h_L_draw : Has P w base ⟨K, mg, T⟩ "_law_draw" ["_law_source_here", "_law_many"] 1 L_draw) (h_L_order : Has P w base ⟨K, mg, T⟩ "_law_order" ["_law_source_here", "_law_things"] 2 L_order) : Has P w base ⟨K, mg, T⟩ "_law_plain" ["_law_source_here", "_law_signs", "_law_most"] 3 L_plain :=
  ⟨f, fd, hf, F.kp, F.binds (fun _ _ _ _ _ _ us hl => match us, hl with | [_, _, _], _ => rfl), fn_ok F sc_L_plain fun cdv A outer s H E hr =>
    (dss_cons (ds_par (k := 3) (j := 4) rfl sc_L_plain.nd rfl rfl (by decide) rfl rfl (da_cons (de_has h_L_pick rfl rfl rfl (hr.mono (by omega)) rfl (takes_of rfl rfl rfl rfl) (da_cons (de_v 0) (da_cons (de_lst (da_cons de_str (da_cons de_str (da_cons de_str da_nil)))) da_nil))) (da_cons (de_lst (da_cons (de_has h_L_pick rfl rfl rfl (hr.mono (by omega)) rfl (takes_of rfl rfl rfl rfl) (da_cons (de_v 0) (da_cons (de_v 1) da_nil))) (da_cons (de_has h_L_pick rfl rfl rfl (hr.mono (by omega)) rfl (takes_of rfl rfl rfl rfl) (da_cons (de_v 0) (da_cons (de_v 1) da_nil))) da_nil))) da_nil)) rfl)
    (dss_cons (ds_if (dt_w (dw_and (dt_eq rfl hr.units (de_item rfl (de_v 4) de_int) (de_item rfl (de_v 4) de_int)) (dw_and1 (dt_gt (de_has h_L_draw rfl rfl rfl (hr.mono (by omega)) rfl (takes_of rfl rfl rfl rfl) (da_cons (de_v 0) (da_cons de_int da_nil))) de_int)))) (dss_one (ds_asg (de_slice rfl (de_add rfl (de_has h_L_order rfl rfl rfl (hr.mono (by omega)) rfl (takes_of rfl rfl rfl rfl) (da_cons (de_v 0) (da_cons (de_v 1) da_nil))) (de_v 1)) do_none (do_some de_int)) (dg_name (i := 4) sc_L_plain.nd rfl (by first | exact Or.inl rfl | exact Or.inr rfl)))) dss_nil)
    (dss_cons (ds_asg (de_has h_L_pick rfl rfl rfl (hr.mono (by omega)) rfl (takes_of rfl rfl rfl rfl) (da_cons (de_v 0) (da_cons (de_if (dt_eq rfl hr.units (de_v 3) de_str) (de_lst (da_cons de_str (da_cons de_str (da_cons de_str (da_cons de_str da_nil))))) (de_lst (da_cons de_str (da_cons de_str da_nil)))) da_nil))) (dg_name (i := 5) sc_L_plain.nd rfl (by first | exact Or.inl rfl | exact Or.inr rfl)))
    (dss_one (ds_ret (de_tup (da_cons (de_v 3) (da_cons (de_item rfl (de_v 4) de_int) (da_cons (de_item rfl (de_v 4) de_int) (da_cons (de_v 5) (da_cons (de_has h_L_draw rfl rfl rfl (hr.mono (by omega)) rfl (takes_of rfl rfl rfl rfl) (da_cons (de_v 0) (da_cons (de_add rfl (de_v 2) de_int) da_nil))) da_nil)))))))))))⟩
theorem sc_L_rule : FnScope ["_law_source_here", "_law_signs", "_law_most", "_law_many", "_law_deep", "_law_way", "_law_few", "_law_one"] ["_law_source_here", "_law_signs", "_law_most", "_law_many", "_law_deep"] (defScope s_L_rule) := ⟨rfl, rfl, rfl, by decide +kernel, rfl, by decide +kernel, by decide +kernel⟩
theorem ok_L_rule {k : Nat} {self : List D → Sto → Out D} (hk : 3 ≤ k) (Z : Fx w K mg T) (F : Fun K "_law_rule" "_law_rule" s_L_rule f fd) (hf : mg "_law_rule" = some (.ref f)) (hself : Has P w base ⟨K, mg, T⟩ "_law_rule" ["_law_source_here", "_law_signs", "_law_most", "_law_many", "_law_deep"] k self) (h_L_draw : Has P w base ⟨K, mg, T⟩ "_law_draw" ["_law_source_here", "_law_many"] 1 L_draw) (h_L_plain : Has P w base ⟨K, mg, T⟩ "_law_plain" ["_law_source_here", "_law_signs", "_law_most"] 3 L_plain) (h_L_pick : Has P w base ⟨K, mg, T⟩ "_law_pick" ["_law_source_here", "_law_things"] 2 L_pick) : Has P w base ⟨K, mg, T⟩ "_law_rule" ["_law_source_here", "_law_signs", "_law_most", "_law_many", "_law_deep"] (k + 1) (runM 8 (m_L_rule self)) :=
  ⟨f, fd, hf, F.kp, F.binds (fun _ _ _ _ _ _ us hl => match us, hl with | [_, _, _, _, _], _ => rfl), fn_ok F sc_L_rule fun cdv A outer s H E hr =>
    (dss_cons (ds_asg (de_has h_L_draw rfl rfl rfl (hr.mono (by omega)) rfl (takes_of rfl rfl rfl rfl) (da_cons (de_v 0) (da_cons de_int da_nil))) (dg_name (i := 5) sc_L_rule.nd rfl (by first | exact Or.inl rfl | exact Or.inr rfl)))
    (dss_cons (ds_if (dt_w (dw_or (dt_w (dw_and (dt_lt (de_v 3) de_int) (dw_and1 (dt_gt (de_v 5) de_int)))) (dw_or (dt_lt (de_v 5) de_int) (dw_or1 (dt_eq rfl hr.units (de_v 4) de_int))))) (dss_one (ds_ret (de_has h_L_plain rfl rfl rfl (hr.mono (by omega)) rfl (takes_of rfl rfl rfl rfl) (da_cons (de_v 0) (da_cons (de_v 1) (da_cons (de_v 2) da_nil)))))) dss_nil)
    (dss_cons (ds_if (dt_eq rfl hr.units (de_v 5) de_int) (dss_one (ds_ret (de_tup (da_cons de_str (da_cons (de_has hself rfl rfl rfl (hr.mono (by omega)) rfl (takes_of rfl rfl rfl rfl) (da_cons (de_v 0) (da_cons (de_v 1) (da_cons (de_v 2) (da_cons (de_v 3) (da_cons (de_sub (de_v 4) de_int) da_nil)))))) da_nil))))) dss_nil)
    (dss_cons (ds_asg (de_add rfl de_int (de_has h_L_draw rfl rfl rfl (hr.mono (by omega)) rfl (takes_of rfl rfl rfl rfl) (da_cons (de_v 0) (da_cons (de_sub (de_v 3) de_int) da_nil)))) (dg_name (i := 6) sc_L_rule.nd rfl (by first | exact Or.inl rfl | exact Or.inr rfl)))
    (dss_cons (ds_asg (de_has hself rfl rfl rfl (hr.mono (by omega)) rfl (takes_of rfl rfl rfl rfl) (da_cons (de_v 0) (da_cons (de_v 1) (da_cons (de_v 2) (da_cons (de_v 6) (da_cons (de_sub (de_v 4) de_int) da_nil)))))) (dg_name (i := 7) sc_L_rule.nd rfl (by first | exact Or.inl rfl | exact Or.inr rfl)))
    (dss_one (ds_ret (de_tup (da_cons (de_has h_L_pick rfl rfl rfl (hr.mono (by omega)) rfl (takes_of rfl rfl rfl rfl) (da_cons (de_v 0) (da_cons (de_lst (da_cons de_str (da_cons de_str da_nil))) da_nil))) (da_cons (de_v 7) (da_cons (de_has hself rfl rfl rfl (hr.mono (by omega)) rfl (takes_of rfl rfl rfl rfl) (da_cons (de_v 0) (da_cons (de_v 1) (da_cons (de_v 2) (da_cons (de_sub (de_v 3) (de_v 6)) (da_cons (de_sub (de_v 4) de_int) da_nil)))))) da_nil)))))))))))⟩
theorem rec_L_rule (Z : Fx w K mg T) (F : Fun K "_law_rule" "_law_rule" s_L_rule f fd) (hf : mg "_law_rule" = some (.ref f)) (h_L_draw : Has P w base ⟨K, mg, T⟩ "_law_draw" ["_law_source_here", "_law_many"] 1 L_draw) (h_L_plain : Has P w base ⟨K, mg, T⟩ "_law_plain" ["_law_source_here", "_law_signs", "_law_most"] 3 L_plain) (h_L_pick : Has P w base ⟨K, mg, T⟩ "_law_pick" ["_law_source_here", "_law_things"] 2 L_pick) : ∀ n : Nat, Has P w base ⟨K, mg, T⟩ "_law_rule" ["_law_source_here", "_law_signs", "_law_most", "_law_many", "_law_deep"] (3 + n) (L_rule n)
  | 0 => Has.none hf F.kp (F.binds (fun _ _ _ _ _ _ us hl => match us, hl with | [_, _, _, _, _], _ => rfl))
  | n + 1 => ok_L_rule (Nat.le_add_right _ _) Z F hf (rec_L_rule Z F hf h_L_draw h_L_plain h_L_pick n) h_L_draw h_L_plain h_L_pick
theorem sc_L_shown_rule : FnScope ["_law_source_here", "_law_rule_here", "_law_parts", "_law_part"] ["_law_source_here", "_law_rule_here"] (defScope s_L_shown_rule) := ⟨rfl, rfl, rfl, by decide +kernel, rfl, by decide +kernel, by decide +kernel⟩
theorem ok_L_shown_rule {k : Nat} {self : List D → Sto → Out D} (hk : 2 ≤ k) (Z : Fx w K mg T) (F : Fun K "_law_shown_rule" "_law_shown_rule" s_L_shown_rule f fd) (hf : mg "_law_shown_rule" = some (.ref f)) (hself : Has P w base ⟨K, mg, T⟩ "_law_shown_rule" ["_law_source_here", "_law_rule_here"] k self) (h_L_pick : Has P w base ⟨K, mg, T⟩ "_law_pick" ["_law_source_here", "_law_things"] 2 L_pick) : Has P w base ⟨K, mg, T⟩ "_law_shown_rule" ["_law_source_here", "_law_rule_here"] (k + 1) (runM 4 (m_L_shown_rule self)) :=
  ⟨f, fd, hf, F.kp, F.binds (fun _ _ _ _ _ _ us hl => match us, hl with | [_, _], _ => rfl), fn_ok F sc_L_shown_rule fun cdv A outer s H E hr =>
    (dss_cons (ds_setLc (i := 2) [("_law_part", 3)] rfl sc_L_shown_rule.nd rfl rfl rfl (di_seq rfl (de_v 1)) (by show BlkOk ["_law_source_here", "_law_rule_here", "_law_parts", "_law_part"] (defScope s_L_shown_rule) _ _; exact ⟨rfl, by decide +kernel, by decide +kernel, by decide +kernel, by decide +kernel⟩) (by decide) (fun _ _ _ _ _ => (dgv_name (i := 3) sc_L_shown_rule.nd rfl (by first | exact Or.inl rfl | exact Or.inr rfl))) (fun _ _ _ _ _ => dts_nil) (fun _ _ _ _ _ => (de_if (dt_val (de_isa rfl rfl rfl Z.z_isinstance rfl Z.z_tuple (by decide +kernel) (de_v 3))) (de_has hself rfl rfl rfl (hr.mono (by omega)) rfl takes0 (da_cons (de_v 0) (da_cons (de_v 3) da_nil))) (de_v 3))))
    (dss_one (ds_ret (de_has h_L_pick rfl rfl rfl (hr.mono (by omega)) rfl (takes_of rfl rfl rfl rfl) (da_cons (de_v 0) (da_cons (de_lst (da_cons (de_v 2) (da_cons (de_tuple rfl rfl Z.z_tuple (da_cons (de_v 2) da_nil)) da_nil))) da_nil))))))⟩
theorem rec_L_shown_rule (Z : Fx w K mg T) (F : Fun K "_law_shown_rule" "_law_shown_rule" s_L_shown_rule f fd) (hf : mg "_law_shown_rule" = some (.ref f)) (h_L_pick : Has P w base ⟨K, mg, T⟩ "_law_pick" ["_law_source_here", "_law_things"] 2 L_pick) : ∀ n : Nat, Has P w base ⟨K, mg, T⟩ "_law_shown_rule" ["_law_source_here", "_law_rule_here"] (2 + n) (L_shown_rule n)
  | 0 => Has.none hf F.kp (F.binds (fun _ _ _ _ _ _ us hl => match us, hl with | [_, _], _ => rfl))
  | n + 1 => ok_L_shown_rule (Nat.le_add_right _ _) Z F hf (rec_L_shown_rule Z F hf h_L_pick n) h_L_pick
theorem sc_L_names_in : FnScope ["_law_rule_here", "_law_found", "_law_part"] ["_law_rule_here"] (defScope s_L_names_in) := ⟨rfl, rfl, rfl, by decide +kernel, rfl, by decide +kernel, by decide +kernel⟩
theorem ok_L_names_in {k : Nat} {self : List D → Sto → Out D} (hk : 0 ≤ k) (Z : Fx w K mg T) (F : Fun K "_law_names_in" "_law_names_in" s_L_names_in f fd) (hf : mg "_law_names_in" = some (.ref f)) (hself : Has P w base ⟨K, mg, T⟩ "_law_names_in" ["_law_rule_here"] k self) : Has P w base ⟨K, mg, T⟩ "_law_names_in" ["_law_rule_here"] (k + 1) (runM 3 (m_L_names_in self)) :=
  ⟨f, fd, hf, F.kp, F.binds (fun _ _ _ _ _ _ us hl => match us, hl with | [_], _ => rfl), fn_ok F sc_L_names_in fun cdv A outer s H E hr =>
    (dss_cons (ds_if (dt_in rfl (de_item rfl (de_v 0) de_int) (de_tup (da_cons de_str (da_cons de_str da_nil)))) (dss_one (ds_ret (de_sortset rfl rfl rfl Z.z_sorted rfl Z.z_set (de_slice rfl (de_v 0) (do_some de_int) (do_some de_int))))) dss_nil)
    (dss_cons (ds_asg (de_cel da_nil) (dg_name (i := 1) sc_L_names_in.nd rfl (by first | exact Or.inl rfl | exact Or.inr rfl)))
    (dss_cons (ds_for (passes_of rfl) rfl (di_seq rfl (de_slice rfl (de_v 0) (do_some de_int) do_none)) (dg_name (i := 2) sc_L_names_in.nd rfl (by first | exact Or.inl rfl | exact Or.inr rfl)) (dss_one (ds_exp (de_extend rfl (de_v 1) (da_cons (de_has hself rfl rfl rfl (hr.mono (by omega)) rfl (takes_of rfl rfl rfl rfl) (da_cons (de_v 2) da_nil)) da_nil)))))
    (dss_one (ds_ret (de_sortset rfl rfl rfl Z.z_sorted rfl Z.z_set (de_v 1)))))))⟩
theorem rec_L_names_in (Z : Fx w K mg T) (F : Fun K "_law_names_in" "_law_names_in" s_L_names_in f fd) (hf : mg "_law_names_in" = some (.ref f)) : ∀ n : Nat, Has P w base ⟨K, mg, T⟩ "_law_names_in" ["_law_rule_here"] (0 + n) (L_names_in n)
  | 0 => Has.none hf F.kp (F.binds (fun _ _ _ _ _ _ us hl => match us, hl with | [_], _ => rfl))
  | n + 1 => ok_L_names_in (Nat.le_add_right _ _) Z F hf (rec_L_names_in Z F hf  n) 
theorem sc_L_spoil : FnScope ["_law_source_here", "_law_rule_here", "_law_parts", "_law_way", "_law_k", "_law_spoilt", "_law_path_here", "_law_odd", "_law_words_here", "_law_later"] ["_law_source_here", "_law_rule_here"] (defScope s_L_spoil) := ⟨rfl, rfl, rfl, by decide +kernel, rfl, by decide +kernel, by decide +kernel⟩
theorem ok_L_spoil {k : Nat} {self : List D → Sto → Out D} (hk : 2 ≤ k) (Z : Fx w K mg T) (F : Fun K "_law_spoil" "_law_spoil" s_L_spoil f fd) (hf : mg "_law_spoil" = some (.ref f)) (hself : Has P w base ⟨K, mg, T⟩ "_law_spoil" ["_law_source_here", "_law_rule_here"] k self) (h_L_draw : Has P w base ⟨K, mg, T⟩ "_law_draw" ["_law_source_here", "_law_many"] 1 L_draw) (h_L_pick : Has P w base ⟨K, mg, T⟩ "_law_pick" ["_law_source_here", "_law_things"] 2 L_pick) : Has P w base ⟨K, mg, T⟩ "_law_spoil" ["_law_source_here", "_law_rule_here"] (k + 1) (runM 10 (m_L_spoil self)) :=
  ⟨f, fd, hf, F.kp, F.binds (fun _ _ _ _ _ _ us hl => match us, hl with | [_, _], _ => rfl), fn_ok F sc_L_spoil fun cdv A outer s H E hr =>
    (dss_cons (ds_asg (de_listC rfl rfl Z.z_list (da_cons (de_v 1) da_nil)) (dg_name (i := 2) sc_L_spoil.nd rfl (by first | exact Or.inl rfl | exact Or.inr rfl)))
    (dss_cons (ds_asg (de_has h_L_draw rfl rfl rfl (hr.mono (by omega)) rfl (takes_of rfl rfl rfl rfl) (da_cons (de_v 0) (da_cons de_int da_nil))) (dg_name (i := 3) sc_L_spoil.nd rfl (by first | exact Or.inl rfl | exact Or.inr rfl)))
    (dss_cons (ds_if (dt_w (dw_or (dt_eq rfl hr.units (de_v 3) de_int) (dw_or1 (dt_w (dw_and (dt_eq rfl hr.units (de_item rfl (de_v 1) de_int) de_str) (dw_and1 (dt_lt (de_v 3) de_int))))))) (dss_cons (ds_if (dt_w (dw_and (dt_in rfl (de_item rfl (de_v 1) de_int) (de_tup (da_cons de_str (da_cons de_str (da_cons de_str da_nil))))) (dw_and1 (dt_eq rfl hr.units (de_has h_L_draw rfl rfl rfl (hr.mono (by omega)) rfl (takes_of rfl rfl rfl rfl) (da_cons (de_v 0) (da_cons de_int da_nil))) de_int)))) (dss_cons (ds_asg (de_add rfl de_int (de_has h_L_draw rfl rfl rfl (hr.mono (by omega)) rfl (takes_of rfl rfl rfl rfl) (da_cons (de_v 0) (da_cons (de_sub (de_len rfl rfl Z.z_len (da_cons (de_v 1) da_nil)) de_int) da_nil)))) (dg_name (i := 4) sc_L_spoil.nd rfl (by first | exact Or.inl rfl | exact Or.inr rfl)))
    (dss_cons (ds_asg (de_has hself rfl rfl rfl (hr.mono (by omega)) rfl (takes_of rfl rfl rfl rfl) (da_cons (de_v 0) (da_cons (de_item rfl (de_v 1) (de_v 4)) da_nil))) (dg_tup rfl rfl (dgs_cons (dgv_name (i := 5) sc_L_spoil.nd rfl (by first | exact Or.inl rfl | exact Or.inr rfl)) (dgs_cons (dgv_name (i := 6) sc_L_spoil.nd rfl (by first | exact Or.inl rfl | exact Or.inr rfl)) dgs_nil))))
    (dss_one (ds_ret (de_tup (da_cons (de_add rfl (de_add rfl (de_slice rfl (de_v 2) do_none (do_some (de_v 4))) (de_lst (da_cons (de_v 5) da_nil))) (de_slice rfl (de_v 2) (do_some (de_add rfl (de_v 4) de_int)) do_none)) (da_cons (de_add rfl (de_tup (da_cons (de_v 4) da_nil)) (de_v 6)) da_nil))))))) dss_nil)
    (dss_cons (ds_asg (de_lst (da_cons de_non (da_cons de_int (da_cons de_str (da_cons (de_lst da_nil) (da_cons de_dic (da_cons (de_slice rfl (de_v 2) (do_some de_int) do_none) (da_cons (de_add rfl (de_v 2) (de_lst (da_cons de_int da_nil))) (da_cons (de_slice rfl (de_v 2) do_none (do_some (de_neg de_int))) (da_cons (de_add rfl (de_lst (da_cons de_str da_nil)) (de_slice rfl (de_v 2) (do_some de_int) do_none)) (da_cons de_bl da_nil))))))))))) (dg_name (i := 7) sc_L_spoil.nd rfl (by first | exact Or.inl rfl | exact Or.inr rfl)))
    (dss_one (ds_ret (de_tup (da_cons (de_has h_L_pick rfl rfl rfl (hr.mono (by omega)) rfl (takes_of rfl rfl rfl rfl) (da_cons (de_v 0) (da_cons (de_add rfl (de_v 7) (de_lst (da_cons (de_add rfl (de_lst (da_cons (de_lst da_nil) da_nil)) (de_slice rfl (de_v 2) (do_some de_int) do_none)) da_nil))) da_nil))) (da_cons (de_tup da_nil) da_nil))))))) dss_nil)
    (dss_cons (ds_if (dt_in rfl (de_item rfl (de_v 1) de_int) (de_tup (da_cons de_str (da_cons de_str (da_cons de_str da_nil))))) (dss_cons (ds_asg (de_add rfl de_int (de_has h_L_draw rfl rfl rfl (hr.mono (by omega)) rfl (takes_of rfl rfl rfl rfl) (da_cons (de_v 0) (da_cons (de_sub (de_len rfl rfl Z.z_len (da_cons (de_v 1) da_nil)) de_int) da_nil)))) (dg_name (i := 4) sc_L_spoil.nd rfl (by first | exact Or.inl rfl | exact Or.inr rfl)))
    (dss_cons (ds_asg (de_has hself rfl rfl rfl (hr.mono (by omega)) rfl (takes_of rfl rfl rfl rfl) (da_cons (de_v 0) (da_cons (de_item rfl (de_v 1) (de_v 4)) da_nil))) (dg_tup rfl rfl (dgs_cons (dgv_name (i := 5) sc_L_spoil.nd rfl (by first | exact Or.inl rfl | exact Or.inr rfl)) (dgs_cons (dgv_name (i := 6) sc_L_spoil.nd rfl (by first | exact Or.inl rfl | exact Or.inr rfl)) dgs_nil))))
    (dss_one (ds_ret (de_tup (da_cons (de_add rfl (de_add rfl (de_slice rfl (de_v 2) do_none (do_some (de_v 4))) (de_lst (da_cons (de_v 5) da_nil))) (de_slice rfl (de_v 2) (do_some (de_add rfl (de_v 4) de_int)) do_none)) (da_cons (de_add rfl (de_tup (da_cons (de_v 4) da_nil)) (de_v 6)) da_nil))))))) dss_nil)
    (dss_cons (ds_asg (de_add rfl (de_lst (da_cons de_non (da_cons de_str (da_cons de_str (da_cons de_int (da_cons (de_lst da_nil) (da_cons (de_lst (da_cons de_str da_nil)) da_nil))))))) (de_rep (de_lst (da_cons de_str (da_cons de_str da_nil))) (de_int1 rfl Z.z_int (da_cons (de_eq rfl hr.units (de_item rfl (de_v 1) de_int) de_str) da_nil)))) (dg_name (i := 8) sc_L_spoil.nd rfl (by first | exact Or.inl rfl | exact Or.inr rfl)))
    (dss_cons (ds_asg (de_dct [Sum.inl 1, Sum.inl 3, Sum.inl 4] [(eLst (aCons (eC .non) (aCons (eC (.str "")) (aCons (eC (.str "A")) (aCons (eC (.str "ninesigns")) (aCons (eC (.int 5)) (aCons (eLst (aCons (eC (.str "a")) aNil)) (aCons (eC .dic) aNil)))))))), (eV 8), (eLst (aCons (eUn negO (eC (.int 1))) (aCons (eC .non) (aCons (eC (.str "1")) (aCons (eC (.bl true)) (aCons (eTup (aCons (eC (.int 1)) (aCons (eC (.int 1)) aNil))) (aCons (eLst aNil) (aCons (eOp oEq (eC (.int 1)) (eC (.int 1))) aNil))))))))] rfl (by decide) (pps_cons pe_int (de_lst (da_cons de_non (da_cons de_str (da_cons de_str (da_cons de_str (da_cons de_int (da_cons (de_lst (da_cons de_str da_nil)) (da_cons de_dic da_nil)))))))) (pps_cons pe_int (de_v 8) (pps_cons pe_int (de_lst (da_cons (de_neg de_int) (da_cons de_non (da_cons de_str (da_cons de_bl (da_cons (de_tup (da_cons de_int (da_cons de_int da_nil))) (da_cons (de_lst da_nil) (da_cons (de_eq rfl hr.units de_int de_int) da_nil)))))))) pps_nil))) rfl rfl (by simp) (by decide) rfl) (dg_name (i := 7) sc_L_spoil.nd rfl (by first | exact Or.inl rfl | exact Or.inr rfl)))
    (dss_cons (ds_asg (de_add rfl de_int (de_has h_L_draw rfl rfl rfl (hr.mono (by omega)) rfl (takes_of rfl rfl rfl rfl) (da_cons (de_v 0) (da_cons de_int da_nil)))) (dg_name (i := 4) sc_L_spoil.nd rfl (by first | exact Or.inl rfl | exact Or.inr rfl)))
    (dss_cons (ds_asg (de_has h_L_pick rfl rfl rfl (hr.mono (by omega)) rfl (takes_of rfl rfl rfl rfl) (da_cons (de_v 0) (da_cons (de_dix (hu_of hr) (de_v 7) (de_if (dt_eq rfl hr.units (de_v 4) de_int) de_int (de_v 4))) da_nil))) (dg_sub (W := WF) (de_v 2) (de_v 4) (fun _ => rfl)))
    (dss_cons (ds_for (passes_of rfl) rfl (di_range2 rfl Z.z_range (da_cons (de_add rfl (de_v 4) de_int) (da_cons de_int da_nil))) (dg_name (i := 9) sc_L_spoil.nd rfl (by first | exact Or.inl rfl | exact Or.inr rfl)) (dss_one (ds_if (dt_eq rfl hr.units (de_has h_L_draw rfl rfl rfl (hr.mono (by omega)) rfl (takes_of rfl rfl rfl rfl) (da_cons (de_v 0) (da_cons de_int da_nil))) de_int) (dss_one (ds_asg (de_has h_L_pick rfl rfl rfl (hr.mono (by omega)) rfl (takes_of rfl rfl rfl rfl) (da_cons (de_v 0) (da_cons (de_dix (hu_of hr) (de_v 7) (de_if (dt_eq rfl hr.units (de_v 9) de_int) de_int (de_v 9))) da_nil))) (dg_sub (W := WF) (de_v 2) (de_v 9) (fun _ => rfl)))) dss_nil)))
    (dss_one (ds_ret (de_tup (da_cons (de_fz (de_v 2)) (da_cons (de_tup (da_cons (de_v 4) da_nil)) da_nil))))))))))))))⟩
theorem rec_L_spoil (Z : Fx w K mg T) (F : Fun K "_law_spoil" "_law_spoil" s_L_spoil f fd) (hf : mg "_law_spoil" = some (.ref f)) (h_L_draw : Has P w base ⟨K, mg, T⟩ "_law_draw" ["_law_source_here", "_law_many"] 1 L_draw) (h_L_pick : Has P w base ⟨K, mg, T⟩ "_law_pick" ["_law_source_here", "_law_things"] 2 L_pick) : ∀ n : Nat, Has P w base ⟨K, mg, T⟩ "_law_spoil" ["_law_source_here", "_law_rule_here"] (2 + n) (L_spoil n)
  | 0 => Has.none hf F.kp (F.binds (fun _ _ _ _ _ _ us hl => match us, hl with | [_, _], _ => rfl))
  | n + 1 => ok_L_spoil (Nat.le_add_right _ _) Z F hf (rec_L_spoil Z F hf h_L_draw h_L_pick n) h_L_draw h_L_pick
end
end Q
end DL

set_option Elab.async false
set_option linter.all false
set_option maxRecDepth 100000
set_option maxHeartbeats 4000000
namespace DL
open PySem PySem.Spec PyProof.Rows L2
namespace Q
theorem sc_L_path : FnScope ["_law_job", "e"] ["_law_job"] (defScope s_L_path) := ⟨rfl, rfl, rfl, by decide +kernel, rfl, by decide +kernel, by decide +kernel⟩
def knownE : List Str := ["BadRule"]
def hsP : List Hd := [("BadRule", 1, .val "path")]
noncomputable def mP (d : D) (job : Sto → Out D) : SM := sSeq (sTry knownE hsP (sExp (eJob d job))) (sRet (eC .non))
def handlersOf : Stmt → List ExceptHandler
  | .Try _ hs _ _ _ => hs
  | _ => []
/-- what _law_path makes of a job -/
def pathO (job : Sto → Out D) (st : Sto) : Out D := match job st with
  | .ok _ st' => .ok .non st'
  | .err c fs st' => if c = "BadRule" then (match fs.lookup ("path" : Str) with
      | some d => .ok d st'
      | none => .bad) else .bad
  | .bad => .bad
theorem pathO_calm (job : Sto → Out D) (st : Sto) : Calm (pathO job st) := by
  unfold pathO
  split
  · trivial
  · split
    · split <;> trivial
    · trivial
  · trivial
theorem mP_sem (d : D) (job : Sto → Out D) (st : Sto) : outOf (mP d job (startE 2 [d]) st) = pathO job st := by
  have e2 : eJob d job (startE 2 [d]) st = job st := by simp [eJob, startE]
  unfold mP sSeq sTry sExp
  simp only [e2]
  unfold pathO
  cases q : job st with
  | ok x st' => rfl
  | bad => rfl
  | err c fs st' =>
    simp only [bndS]
    by_cases h1 : c = "BadRule"
    · subst h1
      rw [if_pos (by decide), if_pos rfl]
      unfold hsP runH
      rw [if_pos rfl]
      cases fs.lookup ("path" : Str) <;> rfl
    · rw [if_neg h1, if_neg (by simp [knownE, h1])]
      rfl
section
variable {X : Cx} {T : List (Addr × Str)} {k : Nat} {g : Addr} {cdg : Value}
theorem gives_path (Z : Fx X.w X.K X.mg T) (ex : ExmK X.K X.mg knownE) : GivesD X ⟨X.K, X.mg, T⟩ k ["_law_job", "e"] "_law_path" (defScope s_L_path) g cdg (defBody s_L_path) "_law_job" mP := by
  intro s H d job hr hjob
  obtain ⟨C1, f1, fd1, E1⟩ := Z.e_BadRule X.base X.prog X.w
  have hd : ∃ l, HdOk (cxOf CX0 X.prog X.w X.K X.mg X.base ["_law_job", "e"] "_law_path" (defScope s_L_path) g cdg X.A X.stack s H E0).nox knownE (handlersOf ((defBody s_L_path).getD 0 (.Pass ⟨0, 0, 0, 0⟩))) hsP l :=
    ⟨_, .cons (i := 1) (by decide) E1.g (cl_val (i := 1) rfl E1.g E1.X E1.no rfl rfl .nil) (by show 1 < 2; omega) (fun y k f h => by cases h) .nil⟩
  obtain ⟨l, hd⟩ := hd
  refine dss_cons (ds_try (known := knownE) (hs := hsP) (l := l) rfl rfl ex rfl rfl sc_L_path.nd takes0 (fun W' pn xe tk po => dss_one (ds_exp (hjob W' pn xe _ _ tk))) hd ?_) (dss_one (ds_ret de_non))
  intro env st c fs env' st' h hl
  unfold sExp bndS at h
  split at h
  · cases h
  · cases h; exact hl
  · cases h
end
end Q
end DL

set_option Elab.async false
set_option linter.all false
set_option maxRecDepth 100000
set_option maxHeartbeats 4000000
namespace DL
open PySem PySem.Spec PyProof.Rows L2
namespace Q
theorem sc_init : FnScope ["self", "clocks", "limits", "arrows", "ends", "wrong", "name", "index", "arrow", "each"] ["self", "clocks", "limits", "arrows", "ends"] (defScope s_init) := ⟨rfl, rfl, rfl, by decide +kernel, rfl, by decide +kernel, by decide +kernel⟩
theorem sc_arrows : FnScope ["self"] ["self"] (defScope s_arrows) := ⟨rfl, rfl, rfl, by decide +kernel, rfl, by decide +kernel, by decide +kernel⟩
section
variable {P : Program} {w : World} {K : PySem.W.Frag} {mg : Str → Option Value} {base : Heap} {T : List (Addr × Str)} {f : Addr} {fd : FuncData} {Cw : Addr}
theorem ok_arrows (Z : Fx w K mg T) (F : Fun K "arrows" "Watcher.arrows" s_arrows f fd) (hm : Meth K Cw "arrows" f) (c : Cls K Cw) (n : NoAttr K Cw "tracks") : MethOk P w base ⟨K, mg, T⟩ Cw "arrows" 2 (arrowsM Cw) :=
  ⟨f, fd, hm, F.binds (fun _ _ _ _ _ _ us hl => match us, hl with | [_], _ => rfl), fn_ok F sc_arrows fun cdv A outer s H E hr =>
    dss_one (ds_ret (de_list rfl rfl Z.z_list (da_cons (de_fld rfl c n (de_v 0)) da_nil)))⟩
end
end Q
end DL

set_option Elab.async false
set_option linter.all false
set_option maxRecDepth 100000
set_option maxHeartbeats 4000000
namespace DL
open PySem PySem.Spec PyProof.Rows L2
namespace Q
/-! ### what stands when nothing of the store is looked at -/
theorem tabs_upd {T : List (Addr × Str)} {H : Hp} {q : Addr} {o : HO} (t : LamX.Tabs T H) (h : ∀ u, H q = some u → (∀ ps, u ≠ .tbl ps) ∧ ∀ c s, u ≠ LamX.CodeO c s) : LamX.Tabs T (upd H q o) := fun r hr => by
  obtain ⟨ps, h1, h2, h3⟩ := t r hr
  have ne : r.1 ≠ q := fun z => (h _ (z ▸ h1)).1 ps rfl
  refine ⟨ps, by rw [upd_ne ne]; exact h1, h2, fun pos cv hc => ?_⟩
  obtain ⟨c, e1, e2⟩ := h3 pos cv hc
  have ne2 : c ≠ q := fun z => by subst z; exact (h _ e2).2 _ _ rfl
  exact ⟨c, e1, by rw [upd_ne ne2]; exact e2⟩
def plainO : HO → Prop
  | .tbl _ => False
  | .ext _ => False
  | _ => True
theorem plainO_tab {u : HO} (h : plainO u) : (∀ ps, u ≠ .tbl ps) ∧ ∀ c s, u ≠ LamX.CodeO c s :=
  ⟨fun ps z => by subst z; exact h, fun c s z => by subst z; exact h⟩
theorem rst0_upd {K : PySem.W.Frag} {T : List (Addr × Str)} {w : Wo} {H : Hp} {q : Addr} {o : HO} (rs : RSt K T w [] H) (nl : ¬ w.liv q) (h : ∀ u, H q = some u → plainO u) : RSt K T w [] (upd H q o) := by
  refine ⟨rs.len, rs.nd, fun a l => ?_, fun n a ds h1 h2 => by simp at h2, fun n a ds h1 h2 => by simp at h2, fun n a c h1 h2 => by simp at h2, tabs_upd rs.tab fun u hu => plainO_tab (h u hu)⟩
  obtain ⟨u, hu, m⟩ := rs.livH a l
  exact ⟨u, by rw [upd_ne (fun z : a = q => nl (z ▸ l))]; exact hu, m⟩
/-- what stood, but at p, stands -/
def KB (p : Addr) (wA : Wo) (HA : Hp) (w : Wo) (H : Hp) : Prop := ∀ b o, b ≠ p → HA b = some o → ¬ wA.liv b → (∀ ps, o ≠ .tbl ps) → H b = some o ∧ ¬ w.liv b
theorem KB.ext {p : Addr} {wA w w' : Wo} {HA H H' : Hp} (k : KB p wA HA w H) (e : Ext0 w H w' H') : KB p wA HA w' H' := fun b o ne h nl nt => let ⟨h1, n1⟩ := k b o ne h nl nt; e.keep b o h1 n1 nt
theorem KB.upd {p q : Addr} {wA w : Wo} {HA H : Hp} {o' : HO} (k : KB p wA HA w H) (hq : q = p ∨ HA q = none) : KB p wA HA w (L2.upd H q o') := fun b o ne h nl nt => by
  obtain ⟨h1, n1⟩ := k b o ne h nl nt
  have nq : b ≠ q := fun z => hq.elim (fun e => ne (z.trans e)) fun e => by rw [z, e] at h; cases h
  exact ⟨by rw [upd_ne nq]; exact h1, n1⟩
mutual
def okD : D → Bool
  | .lst ds => okDs ds
  | .tup ds => okDs ds
  | .dct _ ds => okDs ds
  | .non => true
  | .bl _ => true
  | .int _ => true
  | .str _ => true
  | .dic => true
  | .adr _ => true
  | .any => true
  | _ => false
def okDs : List D → Bool
  | [] => true
  | d :: ds => okD d && okDs ds
end
mutual
theorem rep_kb {K : PySem.W.Frag} {p : Addr} {wA w : Wo} {HA H : Hp} {C dx : Addr} {fs : List (Str × V)} (k : KB p wA HA w H) (hp : HA p = some (.ins C dx fs)) : ∀ {v : V} {d : D}, Rep K wA HA v d → okD d = true → Rep K w H v d
  | _, _, .non, _ => .non
  | _, _, .bl b, _ => .bl b
  | _, _, .int i, _ => .int i
  | _, _, .str x, _ => .str x
  | _, _, .adr a, _ => .adr a
  | _, _, .any a, _ => .any a
  | _, _, .lst ⟨h, n⟩ r, ok => by
    have q := k _ _ (fun z => by rw [z, hp] at h; cases h) h n fun ps z => by cases z
    exact .lst ⟨q.1, q.2⟩ (reps_kb k hp r ok)
  | _, _, .tup f r, ok => by
    rcases f with ⟨h, n⟩ | f
    · have q := k _ _ (fun z => by rw [z, hp] at h; cases h) h n fun ps z => by cases z
      exact .tup (.inl ⟨q.1, q.2⟩) (reps_kb k hp r ok)
    · exact .tup (.inr f) (reps_kb k hp r ok)
  | _, _, .dct h n e r, ok => by
    have q := k _ _ (fun z => by rw [z, hp] at h; cases h) h n fun ps z => by cases z
    exact .dct q.1 q.2 e (reps_kb k hp r ok)
  | _, _, .dic h n, ok => by
    have q := k _ _ (fun z => by rw [z, hp] at h; cases h) h n fun ps z => by cases z
    exact .dic q.1 q.2
  | _, _, .cel _, ok => by simp [okD] at ok
  | _, _, .scr _, ok => by simp [okD] at ok
  | _, _, .fn _ _ _, ok => by simp [okD] at ok
  | _, _, .ins _ _ _ _, ok => by simp [okD] at ok
  | _, _, .clo _ _ _ _, ok => by simp [okD] at ok
  | _, _, .dcl _ _ _ _, ok => by simp [okD] at ok
theorem reps_kb {K : PySem.W.Frag} {p : Addr} {wA w : Wo} {HA H : Hp} {C dx : Addr} {fs : List (Str × V)} (k : KB p wA HA w H) (hp : HA p = some (.ins C dx fs)) : ∀ {vs : List V} {ds : List D}, Reps K wA HA vs ds → okDs ds = true → Reps K w H vs ds
  | _, _, .nil, _ => .nil
  | _, d :: ds, .cons r t, ok => by
    have ok' : okD d = true ∧ okDs ds = true := by simpa [okDs] using ok
    exact .cons (rep_kb k hp r ok'.1) (reps_kb k hp t ok'.2)
end
/-! ### the data -/
abbrev arrD : D := .tup [.str "p", .str "a", .lst [], .lst [], .str "p"]
abbrev trkD : D := .tup [.tup [.str "p", .str "a", .tup [], .tup [], .str "p"]]
abbrev limD : D := .dct [Sum.inr "p"] [.dic]
def envI (p : Addr) (a b c d : Option D) : Env' := [some (.adr p), some (.lst []), some limD, some (.lst [arrD]), some (.lst [.str "p"]), a, b, c, d, none]
noncomputable def m0 : SM := sAsg (eCall 1 first_bad_name (aCons (eV 1) aNil)) (gN 5)
def m1 : SM := sIf (tOf (eOp oNotN (eV 5) (eC .non))) sBad sNx
noncomputable def m2 : SM := sIf (bOr (bNot (tOf (eIsa "dict" (eV 2)))) (tOf (eOp oEq (eCB lenDO (aCons (eV 2) aNil)) (eC (.int 0))))) sBad sNx
noncomputable def tB : EM Bool := bOr (bNot (tOf (eCall 1 is_name (aCons (eV 6) aNil)))) (bNot (tOf (eCall 2 is_limit (aCons (eOp dixL (eV 2) (eV 6)) (aCons (eV 1) aNil)))))
noncomputable def m4 : SM := sIf (bNot (tOf (eCall 1 is_list (aCons (eV 3) aNil)))) sBad sNx
noncomputable def m5 : SM := sFor (iEm (eV 3)) (gT 2 (gsCons (gN 7) (gsCons (gN 8) gsNil))) (sIf (bNot (tOf (eCall 3 is_arrow (aCons (eV 8) (aCons (eCB listDO (aCons (eV 2) aNil)) (aCons (eV 1) aNil)))))) sBad sNx)
noncomputable def m6 : SM := sAsg (eCall 2 first_stranger (aCons (eV 4) (aCons (eCB listDO (aCons (eV 2) aNil)) aNil))) (gN 5)
theorem run0 (p : Addr) : m0 (envI p none none none none) [] = .nx (envI p (some .non) none none none) [] := rfl
theorem run1 (p : Addr) (b c d : Option D) : m1 (envI p (some .non) b c d) [] = .nx (envI p (some .non) b c d) [] := rfl
theorem run2 (p : Addr) : m2 (envI p (some .non) none none none) [] = .nx (envI p (some .non) none none none) [] := rfl
theorem runB : tB [none, some (.lst []), some (.dcl [Sum.inr "p"] [.dic]), none, none, none, some (.str "p"), none, none, none] [] = .ok false [] := rfl
theorem run4 (p : Addr) : m4 (envI p (some .non) (some (.str "p")) none none) [] = .nx (envI p (some .non) (some (.str "p")) none none) [] := rfl
theorem run5 (p : Addr) : m5 (envI p (some .non) (some (.str "p")) none none) [] = .nx (envI p (some .non) (some (.str "p")) (some (.int 0)) (some arrD)) [] := rfl
theorem run6 (p : Addr) : m6 (envI p (some .non) (some (.str "p")) (some (.int 0)) (some arrD)) [] = .nx (envI p (some .non) (some (.str "p")) (some (.int 0)) (some arrD)) [] := rfl
theorem runT : as_tuples 8 [.lst [arrD]] [] = .ok trkD [] := rfl
/-! ### the maker -/
def argD : List D := [.lst [], limD, .lst [arrD], .lst [.str "p"]]
abbrev wE : Wo := ⟨[], fun _ => False⟩
def spI (G : Gr) (Cw : Addr) : Sp := fun vs H Q E => ∃ (p dx : Addr) (us : List V), vs = .ref p :: us ∧ H p = some (.ins Cw dx []) ∧ Reps G.K wE H us argD ∧ LamX.Tabs G.T H ∧
  ∀ (w' : Wo) (H' : Hp) (fs : List (Str × V)), (∀ b o, b ≠ p → H b = some o → (∀ ps, o ≠ .tbl ps) → H' b = some o) → LamX.Tabs G.T H' → H' p = some (.ins Cw dx fs) → fs.map (·.1) = (["hands", "held", "tracks", "last_ones"] : List Str) →
    (∃ (u1 u2 u4 : Addr) (v : V), fs.map (·.2) = [.ref u1, .ref u2, v, .ref u4] ∧ Rep G.K w' H' v trkD) → Q .non H'
/-- between the statements -/
structure ISt (G : Gr) (p dx Cw : Addr) (H0 : Hp) (fs : List (Str × V)) (env : Env') (w : Wo) (H : Hp) (σ : L2.St) : Prop where
  rs : RSt G.K G.T w [] H
  re : REnv G.K w H env σ
  kb : KB p ⟨[], fun _ => False⟩ H0 w H
  me : H p = some (.ins Cw dx fs)
  nl : ¬ w.liv p
theorem ISt.ext0 {G : Gr} {p dx Cw : Addr} {H0 : Hp} {fs : List (Str × V)} {env : Env'} {w w' : Wo} {H H' : Hp} {σ : L2.St} (i : ISt G p dx Cw H0 fs env w H σ) (rs : RSt G.K G.T w' [] H') (e : Ext0 w H w' H') : ISt G p dx Cw H0 fs env w' H' σ :=
  ⟨rs, ⟨i.re.1, fun j d h => let ⟨v, h1, h2⟩ := i.re.2 j d h; ⟨v, h1, h2.ext0 e⟩⟩, i.kb.ext e, (e.keep p _ i.me i.nl fun ps z => by cases z).1, (e.keep p _ i.me i.nl fun ps z => by cases z).2⟩
theorem ISt.run {G : Gr} {W : WX} {p dx Cw : Addr} {H0 : Hp} {fs : List (Str × V)} {env env' : Env'} {w : Wo} {H : Hp} {σ : L2.St} {m : SM} {Dn : Ends} (i : ISt G p dx Cw H0 fs env w H σ) (hm : m env [] = .nx env' []) (h : ∀ w' H' σ', ISt G p dx Cw H0 fs env' w' H' σ' → Dn.nx σ' H') : dS G W m Dn σ H := by
  refine ⟨w, env, [], i.rs, i.re, ?_⟩
  rw [hm]
  intro w' H' σ' rs' ex re'
  have e := ex.toExt0
  exact h w' H' σ' ⟨rs', re', i.kb.ext e, (e.keep p _ i.me i.nl fun ps z => by cases z).1, (e.keep p _ i.me i.nl fun ps z => by cases z).2⟩
/-- from the fields on: the anchor A -/
structure JSt (G : Gr) (p dx Cw : Addr) (wA : Wo) (HA : Hp) (σA : L2.St) (fs : List (Str × V)) (w : Wo) (H : Hp) (σ : L2.St) : Prop where
  rs : RSt G.K G.T w [] H
  kb : KB p wA HA w H
  me : H p = some (.ins Cw dx fs)
  nl : ¬ w.liv p
  sl : ∀ i, i ≠ 6 → σ[i]? = σA[i]?
  ln : σ.length = σA.length
theorem KB.updQ {p q : Addr} {wA w : Wo} {HA H : Hp} {o' : HO} (k : KB p wA HA w H) (hz : ∀ o, HA q = some o → ¬ wA.liv q → (∀ ps, o ≠ .tbl ps) → False) : KB p wA HA w (L2.upd H q o') := fun b o ne h nl nt => by
  obtain ⟨h1, n1⟩ := k b o ne h nl nt
  have nq : b ≠ q := fun z => by subst z; exact hz o h nl nt
  exact ⟨by rw [upd_ne nq]; exact h1, n1⟩
theorem JSt.setF {G : Gr} {p dx Cw : Addr} {wA : Wo} {HA : Hp} {σA : L2.St} {fs : List (Str × V)} {w : Wo} {H : Hp} {σ : L2.St} (j : JSt G p dx Cw wA HA σA fs w H σ) (fs' : List (Str × V)) : JSt G p dx Cw wA HA σA fs' w (upd H p (.ins Cw dx fs')) σ :=
  ⟨rst0_upd j.rs j.nl fun u hu => by rw [j.me] at hu; cases hu; trivial, j.kb.upd (.inl rfl), upd_same, j.nl, j.sl, j.ln⟩
theorem JSt.ext {G : Gr} {p dx Cw : Addr} {wA : Wo} {HA : Hp} {σA : L2.St} {fs : List (Str × V)} {w w' : Wo} {H H' : Hp} {σ : L2.St} (j : JSt G p dx Cw wA HA σA fs w H σ) (rs : RSt G.K G.T w' [] H') (e : Ext0 w H w' H') : JSt G p dx Cw wA HA σA fs w' H' σ :=
  ⟨rs, j.kb.ext e, (e.keep p _ j.me j.nl fun ps z => by cases z).1, (e.keep p _ j.me j.nl fun ps z => by cases z).2, j.sl, j.ln⟩
theorem JSt.slot {G : Gr} {p dx Cw : Addr} {wA : Wo} {HA : Hp} {σA : L2.St} {fs fsA : List (Str × V)} {w : Wo} {H : Hp} {σ : L2.St} (j : JSt G p dx Cw wA HA σA fs w H σ) {env : Env'} (reA : REnv G.K wA HA env σA) (hp : HA p = some (.ins Cw dx fsA)) (ok : ∀ (i : Nat) (d : D), env[i]? = some (some d) → okD d = true) :
    REnv G.K w H (env.set 6 none) σ := by
  refine ⟨by rw [List.length_set, reA.1, j.ln], fun i d h => ?_⟩
  have ne : i ≠ 6 := fun z => by
    subst z
    by_cases hl : 6 < env.length
    · rw [List.getElem?_set_self hl] at h; cases h
    · rw [List.getElem?_eq_none (by simpa using Nat.le_of_not_lt hl)] at h; cases h
  rw [List.getElem?_set_ne (Ne.symm ne)] at h
  obtain ⟨v, h1, h2⟩ := reA.2 i d h
  exact ⟨v, by rw [j.sl i ne]; exact h1, rep_kb j.kb hp h2 (ok i d h)⟩
theorem JSt.ev {G : Gr} {W : WX} {p dx Cw : Addr} {wA : Wo} {HA : Hp} {σA : L2.St} {fs fsA : List (Str × V)} {w : Wo} {H : Hp} {σ : L2.St} {m : EM D} {d : D} {Q : VK} (j : JSt G p dx Cw wA HA σA fs w H σ) {env : Env'} (reA : REnv G.K wA HA env σA) (hp : HA p = some (.ins Cw dx fsA)) (ok : ∀ (i : Nat) (d : D), env[i]? = some (some d) → okD d = true)
    (hm : m (env.set 6 none) [] = .ok d []) (h : ∀ w' H' v, JSt G p dx Cw wA HA σA fs w' H' σ → Ext w H w' H' → Rep G.K w' H' v d → Q v H') : dE G W m σ H Q := by
  refine ⟨w, _, [], j.rs, j.slot reA hp ok, ?_⟩
  rw [hm]
  intro w' H' v rs' ex rv
  exact h w' H' v (j.ext rs' ex.toExt0) ex rv
end Q
end DL

set_option Elab.async false
set_option linter.all false
set_option maxRecDepth 100000
set_option maxHeartbeats 4000000
namespace DL
open PySem PySem.Spec PyProof.Rows L2
namespace Q
section
variable {P : Program} {w : World} {K : PySem.W.Frag} {mg : Str → Option Value} {base : Heap} {T : List (Addr × Str)} {f : Addr} {fd : FuncData} {Cw : Addr}
abbrev kp0 : L2.Key := Sum.inr "p"
theorem ok_envI (p : Addr) : ∀ (i : Nat) (d : D), (envI p (some .non) (some (.str "p")) (some (.int 0)) (some arrD))[i]? = some (some d) → okD d = true := by
  intro i d h
  match i, h with
  | 0, h => cases h; rfl
  | 1, h => cases h; rfl
  | 2, h => cases h; rfl
  | 3, h => cases h; rfl
  | 4, h => cases h; rfl
  | 5, h => cases h; rfl
  | 6, h => cases h; rfl
  | 7, h => cases h; rfl
  | 8, h => cases h; rfl
  | 9, h => cases h
  | i + 10, h => simp [envI] at h
theorem init_ok (Z : Fx w K mg T) (F : Fun K "__init__" "Watcher.__init__" s_init f fd) (zd : mg "dict" = none) (c : Cls K Cw) (n1 : NoAttr K Cw "hands") (n2 : NoAttr K Cw "held") (n3 : NoAttr K Cw "tracks") (n4 : NoAttr K Cw "last_ones")
    (h_fb : Has P w base ⟨K, mg, T⟩ "first_bad_name" ["things"] 2 first_bad_name) (h_in : Has P w base ⟨K, mg, T⟩ "is_name" ["thing"] 1 is_name) (h_il : Has P w base ⟨K, mg, T⟩ "is_limit" ["thing", "clocks"] 1 is_limit) (h_ls : Has P w base ⟨K, mg, T⟩ "is_list" ["thing"] 1 is_list)
    (h_ia : Has P w base ⟨K, mg, T⟩ "is_arrow" ["thing", "places", "clocks"] 3 is_arrow) (h_fs : Has P w base ⟨K, mg, T⟩ "first_stranger" ["things", "words"] 2 first_stranger) (h_at : Has P w base ⟨K, mg, T⟩ "as_tuples" ["thing"] 9 (as_tuples 8)) :
    FnOk P w K mg base (L2.CX P w) 10 f fd ["self", "clocks", "limits", "arrows", "ends"] (spI ⟨K, mg, T⟩ Cw) := by
  refine F.okX (k := 9) sc_init (fun vs H Q E h => by obtain ⟨_, _, us, rfl, _, r, _⟩ := h; show us.length + 1 = 5; rw [r.length]; rfl) fun cdv A outer s H0 vs Q E hr h => ?_
  refine ⟨_, pss_cons (t := dS ⟨K, mg, T⟩ (fun c d _ H' => E c d H') m0) (ds_asg (de_has h_fb rfl rfl rfl (hr.mono (by omega)) rfl (takes_of rfl rfl rfl rfl) (da_cons (de_v 1) da_nil)) (dg_name (i := 5) sc_init.nd rfl (by first | exact Or.inl rfl | exact Or.inr rfl)))
    (pss_cons (t := dS ⟨K, mg, T⟩ (fun c d _ H' => E c d H') m1) (ds_if (dt_notN (de_v 5) de_non) dss_bad dss_nil)
    (pss_cons (t := dS ⟨K, mg, T⟩ (fun c d _ H' => E c d H') m2) (ds_if (dt_w (dw_or (dt_not (dt_val (de_isa rfl rfl rfl Z.z_isinstance rfl zd (by decide +kernel) (de_v 2)))) (dw_or1 (dt_eq rfl hr.units (de_lenD rfl Z.z_len (da_cons (de_v 2) da_nil)) de_int)))) dss_bad dss_nil)
    (pss_cons (ps_lock (ps_for (passes_of rfl) rfl (pi_keys (pe_var (i := 2) rfl (by first | exact Or.inl rfl | exact Or.inr (Or.inl rfl)))) (pg_name (i := 6) sc_init.nd rfl (by first | exact Or.inl rfl | exact Or.inr rfl)) (pss_one (ps_if (tc := dT ⟨K, mg, T⟩ (fun c d _ H' => E c d H') tB) (dt_w (dw_or (dt_not (dt_val (de_has h_in rfl rfl rfl (hr.mono (by omega)) rfl (takes_of rfl rfl rfl rfl) (da_cons (de_v 6) da_nil)))) (dw_or1 (dt_not (dt_val (de_has h_il rfl rfl rfl (hr.mono (by omega)) rfl (takes_of rfl rfl rfl rfl) (da_cons (de_dixL (hu_of hr) (de_v 2) (de_v 6)) (da_cons (de_v 1) da_nil)))))))) (t := fun _ _ _ => False) ⟨fun _ _ _ _ _ _ h => h.elim⟩ pss_nil))))
    (pss_cons (t := dS ⟨K, mg, T⟩ (fun c d _ H' => E c d H') m4) (ds_if (dt_not (dt_val (de_has h_ls rfl rfl rfl (hr.mono (by omega)) rfl (takes_of rfl rfl rfl rfl) (da_cons (de_v 3) da_nil)))) dss_bad dss_nil)
    (pss_cons (t := dS ⟨K, mg, T⟩ (fun c d _ H' => E c d H') m5) (ds_for (passes_of rfl) rfl (di_enum rfl rfl Z.z_enumerate (de_v 3)) (dg_tup rfl rfl (dgs_cons (dgv_name (i := 7) sc_init.nd rfl (by first | exact Or.inl rfl | exact Or.inr rfl)) (dgs_cons (dgv_name (i := 8) sc_init.nd rfl (by first | exact Or.inl rfl | exact Or.inr rfl)) dgs_nil)))
      (dss_one (ds_if (dt_not (dt_val (de_has h_ia rfl rfl rfl (hr.mono (by omega)) rfl (takes_of rfl rfl rfl rfl) (da_cons (de_v 8) (da_cons (de_listD rfl rfl Z.z_list (da_cons (de_v 2) da_nil)) (da_cons (de_v 1) da_nil)))))) dss_bad dss_nil)))
    (pss_cons (t := dS ⟨K, mg, T⟩ (fun c d _ H' => E c d H') m6) (ds_asg (de_has h_fs rfl rfl rfl (hr.mono (by omega)) rfl (takes_of rfl rfl rfl rfl) (da_cons (de_v 4) (da_cons (de_listD rfl rfl Z.z_list (da_cons (de_v 2) da_nil)) da_nil))) (dg_name (i := 5) sc_init.nd rfl (by first | exact Or.inl rfl | exact Or.inr rfl)))
    (pss_cons (t := dS ⟨K, mg, T⟩ (fun c d _ H' => E c d H') m1) (ds_if (dt_notN (de_v 5) de_non) dss_bad dss_nil)
    (pss_cons (ps_fld (pe_var (i := 0) rfl (Or.inl rfl)) (de_tuple (G := ⟨K, mg, T⟩) (W := fun c d _ H' => E c d H') rfl rfl Z.z_tuple (da_cons (de_v 1) da_nil)) rfl)
    (pss_cons (ps_fld (pe_var (i := 0) rfl (Or.inl rfl)) pe_dnewK rfl)
    (pss_cons (ps_lock (ps_for (passes_of rfl) rfl (pi_keys (pe_var (i := 2) rfl (by first | exact Or.inl rfl | exact Or.inr (Or.inl rfl)))) (pg_name (i := 6) sc_init.nd rfl (by first | exact Or.inl rfl | exact Or.inr rfl))
      (pss_one (ps_dput (hu_of hr) (pe_fld (pe_var (i := 0) rfl (Or.inl rfl)) rfl) (pe_var (i := 6) rfl (by first | exact Or.inl rfl | exact Or.inr (Or.inl rfl)))
        (pe_dc (own := [("each", 9)]) rfl sc_init.nd (pi_list (pe_var (i := 1) rfl (by first | exact Or.inl rfl | exact Or.inr (Or.inl rfl)))) (by show BlkOk ["self", "clocks", "limits", "arrows", "ends", "wrong", "name", "index", "arrow", "each"] (defScope s_init) _ _; exact ⟨rfl, by decide +kernel, by decide +kernel, by decide +kernel, by decide +kernel⟩)
          (fun _ _ _ _ _ => pg_name (i := 9) sc_init.nd rfl (by first | exact Or.inl rfl | exact Or.inr rfl)) (tt := fun _ _ _ => False) (fun _ _ _ _ _ => ⟨fun _ _ _ _ _ _ h => h.elim⟩) (tk := fun _ _ _ => False) (fun _ _ _ _ _ => ⟨fun _ _ _ _ _ _ h => h.elim⟩) (tv := fun _ _ _ => False) (fun _ _ _ _ _ => ⟨fun _ _ _ _ _ _ h => h.elim⟩)) rfl))))
    (pss_cons (ps_fld (pe_var (i := 0) rfl (Or.inl rfl)) (de_has (G := ⟨K, mg, T⟩) (W := fun c d _ H' => E c d H') h_at rfl rfl rfl (hr.mono (by omega)) rfl (takes_of rfl rfl rfl rfl) (da_cons (de_v 3) da_nil)) rfl)
    (pss_one (ps_fld (pe_var (i := 0) rfl (Or.inl rfl)) (de_tuple (G := ⟨K, mg, T⟩) (W := fun c d _ H' => E c d H') rfl rfl Z.z_tuple (da_cons (de_v 4) da_nil)) rfl))))))))))))), ?_⟩
  obtain ⟨p, dx, us, rfl, hp, rus, tab, fin⟩ := h
  have i0 : ISt ⟨K, mg, T⟩ p dx Cw H0 [] (envI p none none none none) ⟨[], fun _ => False⟩ H0 (L2.start ["self", "clocks", "limits", "arrows", "ends", "wrong", "name", "index", "arrow", "each"] (.ref p :: us)) := by
    refine ⟨⟨rfl, by simp, fun a l => l.elim, fun n a ds q1 q2 => by simp at q2, fun n a ds q1 q2 => by simp at q2, fun n a c q1 q2 => by simp at q2, tab⟩, ?_, fun b o _ h n _ => ⟨h, n⟩, hp, fun z => z⟩
    exact renv_start (K := K) (N := ["self", "clocks", "limits", "arrows", "ends", "wrong", "name", "index", "arrow", "each"]) (w := ⟨[], fun _ => False⟩) (.cons (.adr p) rus)
  refine i0.run (run0 p) fun w1 H1 σ1 i1 => ?_
  refine i1.run (run1 p none none none) fun w2 H2 σ2 i2 => ?_
  refine i2.run (run2 p) fun w3 H3 σ3 i3 => ?_
  obtain ⟨v2, hσ2, r2⟩ := i3.re.2 2 limD rfl
  obtain ⟨v1, hσ1, r1⟩ := i3.re.2 1 (.lst []) rfl
  cases r2 with
  | dct ha nla ek rr =>
  rename_i a kvs
  cases r1 with
  | lst fz rr1 =>
  rename_i b1 xs1
  cases rr1
  obtain ⟨hb1, nb1⟩ := fz
  match kvs, ek, rr, ha with
  | [(k0, v0)], ek, .cons rv0 .nil, ha =>
  obtain rfl : k0 = kp0 := by simpa using ek
  cases rv0 with
  | dic he0 ne0 =>
  rename_i e0
  have nbe : b1 ≠ a := ne_of hb1 ha (by intro z; cases z)
  have nee : e0 ≠ a := fun z => by
    rw [z, ha] at he0
    cases he0
  refine ⟨a, _, ha, trivial, fun od => ⟨.ref a, hσ2, a, od, rfl, .inl ⟨[(kp0, .ref e0)], upd_same, fun i m σ' H' => (i = 0 ∧ m = 1 ∧ σ' = σ3 ∧ H' = upd H3 a (.frz od (.dK [(kp0, .ref e0)]))) ∨ (i = 1 ∧ m = 0 ∧ σ' = σ3.set 6 (some (.str "p")) ∧ ∃ w', RSt K T w' [] H' ∧ Ext w3 (upd H3 a (.frz od (.dK [(kp0, .ref e0)]))) w' H'), ⟨1, .inl ⟨rfl, rfl, rfl, rfl⟩⟩, ?_⟩⟩⟩
  have rs3 : RSt K T w3 [] (upd H3 a (.frz od (.dK [(kp0, .ref e0)]))) := rst0_upd i3.rs nla fun u hu => by rw [ha] at hu; cases hu; trivial
  rintro i m σ' H' (⟨rfl, rfl, hs, hH⟩ | ⟨rfl, rfl, hs, w4, rs4, ex4⟩)
  · replace hs := hs.symm
    subst hs
    subst hH
    refine .inr ⟨⟨upd_same, by show 0 < 1; omega⟩, fun σ' H' => σ' = σ3.set 6 (some (.str "p")) ∧ ∃ w', RSt K T w' [] H' ∧ Ext w3 (upd H3 a (.frz od (.dK [(kp0, .ref e0)]))) w' H', fun σ' H' h => ⟨0, by omega, .inr ⟨rfl, rfl, h.1, h.2⟩⟩, fun x H' y => ?_⟩
    obtain ⟨rfl, k, v, hk, rfl⟩ := y
    cases hk
    have len3 : σ3.length = 10 := by rw [← i3.re.1]; rfl
    refine ⟨w3, [none, some (.lst []), some (.dcl [kp0] [.dic]), none, none, none, some (.str "p"), none, none, none], [], rs3, ⟨by rw [List.length_set, len3]; rfl, fun i d h => ?_⟩, ?_⟩
    · match i, h with
      | 0, h => cases h
      | 1, h =>
        cases h
        exact ⟨.ref b1, by rw [List.getElem?_set_ne (by omega)]; exact hσ1, .lst ⟨by rw [upd_ne nbe]; exact hb1, nb1⟩ .nil⟩
      | 2, h =>
        cases h
        exact ⟨.ref a, by rw [List.getElem?_set_ne (by omega)]; exact hσ2, .dcl upd_same nla rfl (.cons (.dic (by rw [upd_ne nee]; exact he0) ne0) .nil)⟩
      | 3, h => cases h
      | 4, h => cases h
      | 5, h => cases h
      | 6, h =>
        cases h
        exact ⟨.str "p", List.getElem?_set_self (by rw [len3]; omega), .str _⟩
      | 7, h => cases h
      | 8, h => cases h
      | 9, h => cases h
      | i + 10, h => simp at h
    · rw [runB]
      intro w5 H5 b rs5 ex5 eb
      subst eb
      exact ⟨rfl, w5, rs5, ex5⟩
  · subst hs
    have ha4 : H' a = some (.frz od (.dK [(kp0, .ref e0)])) ∧ ¬ w4.liv a := ex4.keep a _ upd_same nla fun ps z => by cases z
    refine .inl ⟨⟨ha4.1, by show 1 ≤ 1; omega⟩, ha4.1, ?_⟩
    have e0x : Ext0 w3 H3 w4 (upd H' a (.dK [(kp0, .ref e0)])) := by
      refine ⟨fun n b q => ?_, fun b o q nl nt => ?_⟩
      · have : w3.adr.length = 0 := i3.rs.len
        rw [List.getElem?_eq_none (by omega)] at q
        cases q
      · by_cases z : b = a
        · subst z
          rw [ha] at q
          cases q
          exact ⟨upd_same, ha4.2⟩
        · obtain ⟨q1, q2⟩ := ex4.keep b o (by rw [upd_ne z]; exact q) nl nt
          exact ⟨by rw [upd_ne z]; exact q1, q2⟩
    have rs4' : RSt K T w4 [] (upd H' a (.dK [(kp0, .ref e0)])) := rst0_upd rs4 ha4.2 fun u hu => by rw [ha4.1] at hu; cases hu; trivial
    have i4 := i3.ext0 rs4' e0x
    have i4' : ISt ⟨K, mg, T⟩ p dx Cw H0 [] (envI p (some .non) (some (.str "p")) none none) w4 (upd H' a (.dK [(kp0, .ref e0)])) (σ3.set 6 (some (.str "p"))) := ⟨i4.rs, i4.re.set 6 (.str "p"), i4.kb, i4.me, i4.nl⟩
    refine i4'.run (run4 p) fun w5 H5 σ5 i5 => ?_
    refine i5.run (run5 p) fun w6 H6 σ6 i6 => ?_
    refine i6.run (run6 p) fun w7 H7 σ7 i7 => ?_
    refine i7.run (run1 p _ _ _) fun wA HA σA iA => ?_
    have reA := iA.re
    have okA := ok_envI p
    have j8 : JSt ⟨K, mg, T⟩ p dx Cw wA HA σA [] wA HA σA := ⟨iA.rs, fun b o _ h n _ => ⟨h, n⟩, iA.me, iA.nl, fun _ _ => rfl, rfl⟩
    obtain ⟨v0, hA0, r0⟩ := reA.2 0 (.adr p) rfl
    cases r0
    obtain ⟨v1, hA1, r1⟩ := reA.2 1 (.lst []) rfl
    obtain ⟨v2, hA2, r2⟩ := reA.2 2 limD rfl
    show dE ⟨K, mg, T⟩ (fun c d _ H' => E c d H') (eCB tupleO (aCons (eV 1) aNil)) σA HA _
    refine j8.ev (d := .tup []) reA iA.me okA rfl fun wB HB u1 jB _ ru1 => ⟨.ref p, hA0, p, Cw, dx, [], rfl, jB.me, c, n1, by show 0 < 1000; omega, ?_⟩
    have jC := jB.setF (putF "hands" u1 [])
    generalize hHC : upd HB p (.ins Cw dx (putF "hands" u1 [])) = HC at jC
    show ∀ q, HC q = none → _
    intro q hq
    have npq : p ≠ q := fun z => by rw [← z, jC.me] at hq; cases hq
    have nlq : ¬ wB.liv q := jC.rs.notLive hq
    have hzq : ∀ o, HA q = some o → ¬ wA.liv q → (∀ ps, o ≠ .tbl ps) → False := fun o h nl nt => by
      have := (jC.kb q o (Ne.symm npq) h nl nt).1
      rw [hq] at this
      cases this
    have jC2 := jC.ext (jC.rs.new (o := .dK []) hq) (Ext.new hq).toExt0
    refine ⟨.ref p, hA0, p, Cw, dx, putF "hands" u1 [], rfl, jC2.me, c, n2, by show 1 < 1000; omega, ?_⟩
    have jD := jC2.setF (putF "held" (.ref q) (putF "hands" u1 []))
    have hqD : upd (upd HC q (.dK [])) p (.ins Cw dx (putF "held" (.ref q) (putF "hands" u1 []))) q = some (.dK []) := by rw [upd_ne (Ne.symm npq), upd_same]
    generalize hHD : upd (upd HC q (.dK [])) p (.ins Cw dx (putF "held" (.ref q) (putF "hands" u1 []))) = HD at jD hqD
    cases r2 with
    | dct ha nla ek rr =>
    rename_i a kvs
    cases r1 with
    | lst fz rr1 =>
    rename_i b1 xs1
    cases rr1
    obtain ⟨hb1, nb1⟩ := fz
    have npa : a ≠ p := ne_of ha iA.me (by intro z; cases z)
    have npb : b1 ≠ p := ne_of hb1 iA.me (by intro z; cases z)
    obtain ⟨haD, nlD⟩ := jD.kb a _ npa ha nla fun ps z => by cases z
    obtain ⟨hbD, _⟩ := jD.kb b1 _ npb hb1 nb1 fun ps z => by cases z
    have naq : a ≠ q := fun z => hzq _ (z ▸ ha) (z ▸ nla) fun ps z => by cases z
    have nbq : b1 ≠ q := fun z => hzq _ (z ▸ hb1) (z ▸ nb1) fun ps z => by cases z
    have nab : b1 ≠ a := ne_of hb1 ha (by intro z; cases z)
    match kvs, ek, ha, haD with
    | [(k0, v0)], ek, ha, haD =>
    obtain rfl : k0 = kp0 := by simpa using ek
    have lenA : σA.length = 10 := by rw [← reA.1]; rfl
    refine ⟨a, _, haD, trivial, fun od => ⟨.ref a, hA2, a, od, rfl, .inl ⟨[(kp0, v0)], upd_same, fun i m σ' H' => (i = 0 ∧ m = 1 ∧ σ' = σA ∧ H' = upd HD a (.frz od (.dK [(kp0, v0)]))) ∨ (i = 1 ∧ m = 0 ∧ σ' = σA.set 6 (some (.str "p")) ∧ ∃ (N : Addr) (vs : List (L2.Key × V)), HD N = none ∧ H' = upd (upd (upd HD a (.frz od (.dK [(kp0, v0)]))) N (.dK [])) q (.dK vs)), ⟨1, .inl ⟨rfl, rfl, rfl, rfl⟩⟩, ?_⟩⟩⟩
    rintro i m σ' H'' (⟨rfl, rfl, hs, hH⟩ | ⟨rfl, rfl, hs, N, vs, hN, hH⟩)
    · replace hs := hs.symm
      subst hs
      subst hH
      refine .inr ⟨⟨upd_same, by show 0 < 1; omega⟩, fun σ' H' => σ' = σA.set 6 (some (.str "p")) ∧ ∃ (N : Addr) (vs : List (L2.Key × V)), HD N = none ∧ H' = upd (upd (upd HD a (.frz od (.dK [(kp0, v0)]))) N (.dK [])) q (.dK vs), fun σ' H' h => ⟨0, by omega, .inr ⟨rfl, rfl, h.1, h.2⟩⟩, fun x H' y => ?_⟩
      obtain ⟨rfl, k, v, hk, rfl⟩ := y
      cases hk
      refine ⟨.ref b1, by rw [List.getElem?_set_ne (by omega)]; exact hA1, b1, rfl, ⟨[], SqL.of (by rw [upd_ne nab]; exact hbD)⟩, fun N hN => ?_⟩
      have nNa : a ≠ N := fun z => by rw [← z, upd_same] at hN; cases hN
      have hN' : HD N = none := by rw [upd_ne (Ne.symm nNa)] at hN; exact hN
      have nNb : b1 ≠ N := ne_of_none hbD hN'
      have nNp : p ≠ N := ne_of_none jD.me hN'
      have nNq : q ≠ N := ne_of_none hqD hN'
      refine ⟨fun i m H => i = 0 ∧ H = upd (upd HD a (.frz od (.dK [(kp0, v0)]))) N (.dK []), ⟨0, rfl, rfl⟩, ?_⟩
      rintro i m H ⟨rfl, rfl⟩
      refine .inl ⟨⟨[], SqL.of (by rw [upd_ne nNb, upd_ne nab]; exact hbD), Nat.le_refl _⟩, ?_⟩
      refine ⟨.ref p, by rw [List.getElem?_set_ne (by omega)]; exact hA0, p, Cw, dx, _, .ref q, rfl, by rw [upd_ne nNp, upd_ne (Ne.symm npa)]; exact jD.me, c, n2, by rfl, ?_⟩
      refine ⟨.str "p", List.getElem?_set_self (by rw [lenA]; omega), q, _, rfl, DPut.k (k := kp0) (by rw [upd_ne nNq, upd_ne (Ne.symm naq)]; exact hqD) (by show 0 < sizeLine; rw [sizeLine_eq]; omega), rfl, N, _, hN', rfl⟩
    · subst hs
      have nNa : a ≠ N := ne_of_none haD hN
      have nNp : p ≠ N := ne_of_none jD.me hN
      have haE : H'' a = some (.frz od (.dK [(kp0, v0)])) := by rw [hH, upd_ne naq, upd_ne nNa, upd_same]
      refine .inl ⟨⟨haE, by show 1 ≤ 1; omega⟩, haE, ?_⟩
      have nlN : ¬ wB.liv N := jD.rs.notLive hN
      have rE : RSt K T wB [] (upd H'' a (.dK [(kp0, v0)])) := by
        refine rst0_upd ?_ nlD fun u hu => by rw [haE] at hu; cases hu; trivial
        rw [hH]
        refine rst0_upd (rst0_upd (rst0_upd jD.rs nlD fun u hu => by rw [haD] at hu; cases hu; trivial) nlN fun u hu => by rw [upd_ne (Ne.symm nNa), hN] at hu; cases hu) nlq fun u hu => ?_
        rw [upd_ne (ne_of_none hqD hN), upd_ne (Ne.symm naq), hqD] at hu
        cases hu
        trivial
      have jE : JSt ⟨K, mg, T⟩ p dx Cw wA HA σA (putF "held" (.ref q) (putF "hands" u1 [])) wB (upd H'' a (.dK [(kp0, v0)])) (σA.set 6 (some (.str "p"))) := by
        refine ⟨rE, fun b o ne h nl nt => ?_, ?_, jD.nl, fun i hi => List.getElem?_set_ne (Ne.symm hi), List.length_set⟩
        · obtain ⟨y1, y2⟩ := jD.kb b o ne h nl nt
          refine ⟨?_, y2⟩
          by_cases z : b = a
          · subst z
            rw [upd_same]
            rw [ha] at h
            exact h
          · have nbq' : b ≠ q := fun z => hzq o (z ▸ h) (z ▸ nl) nt
            rw [upd_ne z, hH, upd_ne nbq', upd_ne (ne_of_none y1 hN), upd_ne z]
            exact y1
        · rw [upd_ne (Ne.symm npa), hH, upd_ne npq, upd_ne nNp, upd_ne (Ne.symm npa)]
          exact jD.me
      have sl0 : (σA.set 6 (some (V.str "p")))[0]? = some (some (.ref p)) := by rw [List.getElem?_set_ne (by omega)]; exact hA0
      show dE ⟨K, mg, T⟩ (fun c d _ H' => E c d H') (eCall 1 (as_tuples 8) (aCons (eV 3) aNil)) (σA.set 6 (some (.str "p"))) (upd H'' a (.dK [(kp0, v0)])) _
      refine jE.ev (d := trkD) reA iA.me okA rfl fun wF HF u3 jF _ ru3 => ⟨.ref p, sl0, p, Cw, dx, _, rfl, jF.me, c, n3, by show 2 < 1000; omega, ?_⟩
      have jG := jF.setF (putF "tracks" u3 (putF "held" (.ref q) (putF "hands" u1 [])))
      have ru3G : Rep K wF (upd HF p (.ins Cw dx (putF "tracks" u3 (putF "held" (.ref q) (putF "hands" u1 []))))) u3 trkD := rep_kb (p := p) (fun b o ne h nl nt => ⟨by rw [upd_ne ne]; exact h, nl⟩) jF.me ru3 rfl
      show dE ⟨K, mg, T⟩ (fun c d _ H' => E c d H') (eCB tupleO (aCons (eV 4) aNil)) (σA.set 6 (some (.str "p"))) _ _
      refine jG.ev (d := .tup [.str "p"]) reA iA.me okA rfl fun wI HI u4 jI eI ru4 => ⟨.ref p, sl0, p, Cw, dx, _, rfl, jI.me, c, n4, by show 3 < 1000; omega, ?_⟩
      have jK := jI.setF (putF "last_ones" u4 (putF "tracks" u3 (putF "held" (.ref q) (putF "hands" u1 []))))
      have ru3K : Rep K wI (upd HI p (.ins Cw dx (putF "last_ones" u4 (putF "tracks" u3 (putF "held" (.ref q) (putF "hands" u1 [])))))) u3 trkD := rep_kb (p := p) (fun b o ne h nl nt => ⟨by rw [upd_ne ne]; exact h, nl⟩) jI.me (ru3G.ext eI) rfl
      cases ru1 with
      | tup _ _ =>
      cases ru4 with
      | tup _ _ =>
      refine fin wI _ _ (fun b o ne h nt => ?_) jK.rs.tab jK.me rfl ⟨_, _, _, u3, rfl, ru3K⟩
      obtain ⟨y1, y2⟩ := iA.kb b o ne h (fun z => z) nt
      exact (jK.kb b o ne y1 y2 nt).1
end
end Q
end DL

set_option Elab.async false
set_option linter.all false
set_option maxRecDepth 100000
set_option maxHeartbeats 4000000
namespace DL
open PySem PySem.Spec PyProof.Rows L2
namespace Q
mutual
def tupD : D → Bool
  | .tup ds => tupDs ds
  | .str _ => true
  | _ => false
def tupDs : List D → Bool
  | [] => true
  | d :: ds => tupD d && tupDs ds
end
mutual
theorem rep_view {K : PySem.W.Frag} {w w' : Wo} {H : Hp} (hw : ∀ a, w.liv a → ∀ xs, H a ≠ some (.tup xs)) : ∀ {v : V} {d : D}, Rep K w' H v d → tupD d = true → Rep K w H v d
  | _, _, .str x, _ => .str x
  | _, _, .tup f r, ok => by
    rcases f with ⟨h, n⟩ | f
    · exact .tup (.inl ⟨h, fun l => hw _ l _ h⟩) (reps_view hw r ok)
    · exact .tup (.inr f) (reps_view hw r ok)
  | _, _, .non, ok => by simp [tupD] at ok
  | _, _, .bl _, ok => by simp [tupD] at ok
  | _, _, .int _, ok => by simp [tupD] at ok
  | _, _, .lst _ _, ok => by simp [tupD] at ok
  | _, _, .cel _, ok => by simp [tupD] at ok
  | _, _, .scr _, ok => by simp [tupD] at ok
  | _, _, .dic _ _, ok => by simp [tupD] at ok
  | _, _, .fn _ _ _, ok => by simp [tupD] at ok
  | _, _, .dct _ _ _ _, ok => by simp [tupD] at ok
  | _, _, .ins _ _ _ _, ok => by simp [tupD] at ok
  | _, _, .clo _ _ _ _, ok => by simp [tupD] at ok
  | _, _, .adr _, ok => by simp [tupD] at ok
  | _, _, .any _, ok => by simp [tupD] at ok
  | _, _, .dcl _ _ _ _, ok => by simp [tupD] at ok
theorem reps_view {K : PySem.W.Frag} {w w' : Wo} {H : Hp} (hw : ∀ a, w.liv a → ∀ xs, H a ≠ some (.tup xs)) : ∀ {vs : List V} {ds : List D}, Reps K w' H vs ds → tupDs ds = true → Reps K w H vs ds
  | _, _, .nil, _ => .nil
  | _, d :: ds, .cons r t, ok => by
    have ok' : tupD d = true ∧ tupDs ds = true := by simpa [tupDs] using ok
    exact .cons (rep_view hw r ok'.1) (reps_view hw t ok'.2)
end
/-- the class of watchers -/
structure WatI (P : Program) (w : World) (base : Heap) (G : Gr) (Cw : Addr) : Prop where
  fl : WatF P w base G Cw
  mak : ∃ (fI : Addr) (fd : FuncData), G.mg "Watcher" = some (.ref Cw) ∧ Mk G.K Cw fI ∧ Binds G.K fd ["self", "clocks", "limits", "arrows", "ends"] [] ∧ FnOk P w G.K G.mg base (L2.CX P w) 10 fI fd ["self", "clocks", "limits", "arrows", "ends"] (spI G Cw)
theorem made {X : Cx} {G : Gr} {W : WX} {Cw : Addr} {e : Expr} {es : List Expr} {pos p : Pos} {mr : EM (List D)} (hI : WatI X.prog X.w X.base G Cw) (hK : G.K = X.K) (hM : G.mg = X.mg) (hr : Room 11 X.A) (hg : Gl X "Watcher") (hmr : ∀ env st, mr env st = .ok argD st) (ha : PA X (e :: es) (dA G W mr))
    (he : starEach (e :: es) X.env = (false, eval e X.env) :: starEach es X.env := by rfl) (hpl : (backTo pos (starEach es X.env)).any (·.1) = false := by rfl) : PE X (.Call (.Name "Watcher" p) (e :: es) [] pos) (dE G W (eC (watD Cw))) := by
  obtain ⟨fI, fd, h1, h2, h3, h4⟩ := hI.mak
  rw [hM] at h1
  rw [hK] at h2 h3
  rw [hK, hM] at h4
  refine PE.imp (pe_make h2 h4 hr hg h1 h3 (dvs := []) .nil (E := E0) (fun pins σ H s e s' I cx => by
    obtain ⟨_, _, _, _, _, _, _, _, _, _, _, _, z⟩ := cx
    exact z.elim) ha (he := he) (hpl := hpl)) fun σ H Q ⟨w, env, st, rs, re, h⟩ => ?_
  refine ⟨w, env, st, rs, re, ?_⟩
  rw [hmr]
  intro w1 H1 vs rs1 e1 rvs
  intro x dx nx ndx ne
  have e2 : Ext w1 H1 w1 (upd (upd H1 dx (.own x)) x (.ins Cw dx [])) := (Ext.new (o := .own x) ndx).trans (Ext.new (by rw [upd_ne (Ne.symm ne)]; exact nx))
  have rv2 : Reps G.K wE (upd (upd H1 dx (.own x)) x (.ins Cw dx [])) vs argD := reps_kb (p := x) (wA := w1) (fun b o _ h _ _ => ⟨h, fun z => z⟩) upd_same (rvs.ext e2) rfl
  have tab2 : LamX.Tabs G.T (upd (upd H1 dx (.own x)) x (.ins Cw dx [])) := rs1.tab.ext fun b u hb => by rw [upd_ne (ne_of_none hb nx), upd_ne (ne_of_none hb ndx)]; exact hb
  refine ⟨x, dx, vs ++ [], rfl, upd_same, by rw [List.append_nil]; exact rv2, tab2, fun w' H' fs keep tab me names vals => ⟨rfl, ?_⟩⟩
  obtain ⟨u1, u2, u4, v, hv, rv⟩ := vals
  have eN : LamX.ExtN H1 H' := fun b o hb nt => keep b o (ne_of_none hb nx) (by rw [upd_ne (ne_of_none hb nx), upd_ne (ne_of_none hb ndx)]; exact hb) nt
  obtain ⟨rs', ex'⟩ := rs1.extN eN tab
  refine h w1 H' (.ref x) rs' (e1.trans ex') (.ins me (rs1.notLive nx) names ?_)
  rw [hv]
  exact .cons (.any u1) (.cons (.any u2) (.cons (rep_view (fun a l xs hx => by
    obtain ⟨o, ho, m⟩ := rs'.livH a l
    rw [hx] at ho
    cases ho
    exact m) rv rfl) (.cons (.any u4) .nil)))
end Q
end DL

set_option Elab.async false
set_option linter.all false
set_option maxRecDepth 100000
set_option maxHeartbeats 4000000
namespace DL
open PySem PySem.Spec PyProof.Rows L2
namespace Q
section
variable {P : Program} {w : World} {K : PySem.W.Frag} {mg : Str → Option Value} {base : Heap} {T : List (Addr × Str)} {f : Addr} {fd : FuncData}
theorem sc_law : FnScope ["_law_script", "_law_source_here", "_law_watcher", "_law_turn", "_law_rule_here", "_law_shown", "_law_odd", "_law_path_here", "_law_jobs", "_law_job"] ["_law_script"] (defScope s_law) := ⟨rfl, rfl, rfl, by decide +kernel, rfl, by decide +kernel, by decide +kernel⟩
def forB : List Stmt := match (defBody s_law).getD 2 (.Pass ⟨0, 0, 0, 0⟩) with
  | .For _ _ b _ _ => b
  | _ => []
def lamOf : Stmt → LamT
  | .Assign _ (.List [.Lambda p b sc _] _) _ => ⟨("law" : Str) ++ ".<locals>." ++ "<lambda>", p, b, sc⟩
  | .Expr (.Call _ [.Lambda p b sc _] _ _) _ => ⟨("law" : Str) ++ ".<locals>." ++ "<lambda>", p, b, sc⟩
  | _ => ⟨"", defArgs s_law, .Constant .none 0 ⟨0, 0, 0, 0⟩, defScope s_law⟩
def lamT (i : Nat) : LamT := lamOf (forB.getD (5 + i) (.Pass ⟨0, 0, 0, 0⟩))
noncomputable def bodiesL (Cw : Addr) : List (LamT × EM D) := [(lamT 0, (eCall 1 checked_rule (aCons (eV 6) aNil))), (lamT 1, (eCall 1 signals_in (aCons (eV 6) aNil))), (lamT 2, (eCall 2 keeps (aCons (eV 6) (aCons (eC .non) aNil)))), (lamT 3, (eCall 2 first_broken (aCons (eV 6) (aCons (eC (.int 5)) aNil)))), (lamT 4, (eCall 2 watcher_of (aCons (eV 6) (aCons (eC .non) aNil)))), (lamT 5, (eCall 2 (judged Cw) (aCons (eV 2) (aCons (eV 6) aNil)))), (lamT 6, (eCall 2 (keeping Cw) (aCons (eV 2) (aCons (eV 6) aNil)))), (lamT 7, (eCall 2 (breaking Cw) (aCons (eV 2) (aCons (eV 6) aNil)))), (lamT 8, (eCall 3 (tightest Cw) (aCons (eV 2) (aCons (eV 6) (aCons (eC .non) aNil)))))]
noncomputable def m_law (Cw : Addr) (cells : List (Str × Addr)) : SM := (sSeq (sAsg (eCall 1 L_source (aCons (eV 0) aNil)) (gN 1))
    (sSeq (sAsg (eC (watD Cw)) (gN 2))
    (sSeq (sFor (iR1 (aCons (eC (.int 4)) aNil)) (gN 3) (sSeq (sAsg (eCall 5 (L_rule 8) (aCons (eV 1) (aCons (eCall 2 L_words (aCons (eV 1) (aCons (eC (.int 3)) aNil))) (aCons (eC (.int 6)) (aCons (eC (.int 3)) (aCons (eC (.int 3)) aNil)))))) (gN 4))
    (sSeq (sAsg (eCall 2 (L_shown_rule 8) (aCons (eV 1) (aCons (eV 4) aNil))) (gN 5))
    (sSeq (sIf (bOr (tOf (eOp oNe (eCall 1 checked_rule (aCons (eV 5) aNil)) (eV 4))) (tOf (eOp oNe (eCall 1 signals_in (aCons (eV 5) aNil)) (eCall 1 (L_names_in 8) (aCons (eV 4) aNil))))) (sRet (eC (.bl false))) sNx)
    (sSeq (sAsg (eCall 2 (L_spoil 8) (aCons (eV 1) (aCons (eV 4) aNil))) (gT 2 (gsCons (gN 6) (gsCons (gN 7) gsNil))))
    (sSeq (sAsg (eCall 2 L_pick (aCons (eV 1) (aCons (eLst (aCons (eV 6) (aCons (eIf (tOf (eIsa "list" (eV 6))) (eCB tupleO (aCons (eV 6) aNil)) (eV 6)) aNil))) aNil))) (gN 6))
    (sSeq (sAsg (eCel (aCons (eC (.clo 0 (lamT 0) (cloFrom cells (lamT 0).scope.names []))) aNil)) (gN 8))
    (sSeq (sExp (eBM isCel appO (eV 8) (aCons (eC (.clo 1 (lamT 1) (cloFrom cells (lamT 1).scope.names []))) aNil)))
    (sSeq (sExp (eBM isCel appO (eV 8) (aCons (eC (.clo 2 (lamT 2) (cloFrom cells (lamT 2).scope.names []))) aNil)))
    (sSeq (sExp (eBM isCel appO (eV 8) (aCons (eC (.clo 3 (lamT 3) (cloFrom cells (lamT 3).scope.names []))) aNil)))
    (sSeq (sExp (eBM isCel appO (eV 8) (aCons (eC (.clo 4 (lamT 4) (cloFrom cells (lamT 4).scope.names []))) aNil)))
    (sSeq (sExp (eBM isCel appO (eV 8) (aCons (eC (.clo 5 (lamT 5) (cloFrom cells (lamT 5).scope.names []))) aNil)))
    (sSeq (sExp (eBM isCel appO (eV 8) (aCons (eC (.clo 6 (lamT 6) (cloFrom cells (lamT 6).scope.names []))) aNil)))
    (sSeq (sExp (eBM isCel appO (eV 8) (aCons (eC (.clo 7 (lamT 7) (cloFrom cells (lamT 7).scope.names []))) aNil)))
    (sSeq (sExp (eBM isCel appO (eV 8) (aCons (eC (.clo 8 (lamT 8) (cloFrom cells (lamT 8).scope.names []))) aNil)))
    (sIf (tOf (eCB (allO false) (aCons (eLcR (iSq (eFz (eV 8))) (gN 9) tT (eOp oNe (eJobB 9 cells (bodiesL Cw) [9] pathO) (eV 7)) [9]) aNil))) (sRet (eC (.bl false))) sNx))))))))))))))))
    (sRet (eC (.bl true))))))
noncomputable def law (Cw : Addr) (cells : List (Str × Addr)) : List D → Sto → Out D := runM 10 (m_law Cw cells)
theorem ok_law {g c Pt : Addr} {gd : FuncData} {oc kV doc pm ct : Value} {an od : Option Addr} {osl : Array (Option Value)} (Z : Fx w K mg T) (hmT : (Pt, ("law" : Str) ++ ".<locals>." ++ "<lambda>") ∈ T) (hu : ∀ p ∈ T, p.1 = Pt → p.2 = ("law" : Str) ++ ".<locals>." ++ "<lambda>") (TB : LamX.TabB base mg c Pt) (FT : Fun K "_law_path" "_law_path" s_L_path g gd) (hgT : mg "_law_path" = some (.ref g)) (ex : ExmK K mg knownE) {Cw : Addr} (hI : WatI P w base ⟨K, mg, T⟩ Cw) (lk : K.lookup f = some ⟨oc, od, .func (PySem.W.fnOf "law" "law" (defArgs s_law) (defBody s_law) (defScope s_law) .none kV doc pm an (.ref c) ct), osl⟩) (hcd : PySem.W.codeIn K (.ref c) "law" = true) (h_L_source : Has P w base ⟨K, mg, T⟩ "_law_source" ["_law_script"] 1 L_source) (h_L_words : Has P w base ⟨K, mg, T⟩ "_law_words" ["_law_source_here", "_law_many"] 3 L_words) (h_L_rule : Has P w base ⟨K, mg, T⟩ "_law_rule" ["_law_source_here", "_law_signs", "_law_most", "_law_many", "_law_deep"] 11 (L_rule 8)) (h_L_shown_rule : Has P w base ⟨K, mg, T⟩ "_law_shown_rule" ["_law_source_here", "_law_rule_here"] 10 (L_shown_rule 8)) (h_checked_rule : Has P w base ⟨K, mg, T⟩ "checked_rule" ["thing"] 11 checked_rule) (h_signals_in : Has P w base ⟨K, mg, T⟩ "signals_in" ["rule"] 12 signals_in) (h_L_names_in : Has P w base ⟨K, mg, T⟩ "_law_names_in" ["_law_rule_here"] 8 (L_names_in 8)) (h_L_spoil : Has P w base ⟨K, mg, T⟩ "_law_spoil" ["_law_source_here", "_law_rule_here"] 10 (L_spoil 8)) (h_L_pick : Has P w base ⟨K, mg, T⟩ "_law_pick" ["_law_source_here", "_law_things"] 2 L_pick) (h_keeps : Has P w base ⟨K, mg, T⟩ "keeps" ["rule", "row"] 12 keeps) (h_first_broken : Has P w base ⟨K, mg, T⟩ "first_broken" ["rule", "row"] 13 first_broken) (h_watcher_of : Has P w base ⟨K, mg, T⟩ "watcher_of" ["rule", "signals"] 12 watcher_of) (h_judged : Has P w base ⟨K, mg, T⟩ "judged" ["watcher", "rule"] 12 (judged Cw)) (h_keeping : Has P w base ⟨K, mg, T⟩ "keeping" ["watcher", "rule"] 12 (keeping Cw)) (h_breaking : Has P w base ⟨K, mg, T⟩ "breaking" ["watcher", "rule"] 12 (breaking Cw)) (h_tightest : Has P w base ⟨K, mg, T⟩ "tightest" ["watcher", "rule", "most"] 13 (tightest Cw)) :
    FnOk P w K mg base (L2.CX P w) 16 f (PySem.W.fnOf "law" "law" (defArgs s_law) (defBody s_law) (defScope s_law) .none kV doc pm an (.ref c) ct) ["_law_script"] (spC ⟨K, mg, T⟩ 1 (law Cw)) := by
  have FTb := FT.binds (ps := ["_law_job"]) (fun _ _ _ _ _ _ us hl => match us, hl with | [_], _ => rfl)
  obtain ⟨_, _, _, _, _, _, _, _, _, rfl, FTlk, FTcd⟩ := FT.ex
  refine fn_of lk hcd sc_law (fun vs H Q E h => h.1) fun A outer s H vs Q E hr h => ⟨_, (?_ : PSs _ _ (dS ⟨K, mg, T⟩ (fun c d _ H' => E c d H') (m_law Cw (cxOf (L2.CX P w) P w K mg base ["_law_script", "_law_source_here", "_law_watcher", "_law_turn", "_law_rule_here", "_law_shown", "_law_odd", "_law_path_here", "_law_jobs", "_law_job"] "law" (defScope s_law) f (.ref c) A outer s H E).env.cells))), ?_⟩
  · exact
    (dss_cons (ds_asg (de_has h_L_source rfl rfl rfl (hr.mono (by omega)) rfl (takes_of rfl rfl rfl rfl) (da_cons (de_v 0) da_nil)) (dg_name (i := 1) sc_law.nd rfl (by first | exact Or.inl rfl | exact Or.inr rfl)))
    (dss_cons (ds_asg (made hI rfl rfl (hr.mono (by omega)) rfl (fun _ _ => rfl) (da_cons (de_lst da_nil) (da_cons (de_dct [Sum.inr "p"] [(eC .dic)] rfl (by decide) (pps_cons pe_str de_dic pps_nil) rfl rfl (by simp) (by decide) rfl) (da_cons (de_lst (da_cons (de_tup (da_cons de_str (da_cons de_str (da_cons (de_lst da_nil) (da_cons (de_lst da_nil) (da_cons de_str da_nil)))))) da_nil)) (da_cons (de_lst (da_cons de_str da_nil)) da_nil))))) (dg_name (i := 2) sc_law.nd rfl (by first | exact Or.inl rfl | exact Or.inr rfl)))
    (dss_cons (ds_for (passes_of rfl) rfl (di_range1 rfl Z.z_range (da_cons de_int da_nil)) (dg_name (i := 3) sc_law.nd rfl (by first | exact Or.inl rfl | exact Or.inr rfl)) (dss_cons (ds_asg (de_has h_L_rule rfl rfl rfl (hr.mono (by omega)) rfl (takes_of rfl rfl rfl rfl) (da_cons (de_v 1) (da_cons (de_has h_L_words rfl rfl rfl (hr.mono (by omega)) rfl (takes_of rfl rfl rfl rfl) (da_cons (de_v 1) (da_cons de_int da_nil))) (da_cons de_int (da_cons de_int (da_cons de_int da_nil)))))) (dg_name (i := 4) sc_law.nd rfl (by first | exact Or.inl rfl | exact Or.inr rfl)))
    (dss_cons (ds_asg (de_has h_L_shown_rule rfl rfl rfl (hr.mono (by omega)) rfl (takes_of rfl rfl rfl rfl) (da_cons (de_v 1) (da_cons (de_v 4) da_nil))) (dg_name (i := 5) sc_law.nd rfl (by first | exact Or.inl rfl | exact Or.inr rfl)))
    (dss_cons (ds_if (dt_w (dw_or (dt_ne rfl hr.units (de_has h_checked_rule rfl rfl rfl (hr.mono (by omega)) rfl (takes_of rfl rfl rfl rfl) (da_cons (de_v 5) da_nil)) (de_v 4)) (dw_or1 (dt_ne rfl hr.units (de_has h_signals_in rfl rfl rfl (hr.mono (by omega)) rfl (takes_of rfl rfl rfl rfl) (da_cons (de_v 5) da_nil)) (de_has h_L_names_in rfl rfl rfl (hr.mono (by omega)) rfl (takes_of rfl rfl rfl rfl) (da_cons (de_v 4) da_nil)))))) (dss_one (ds_ret de_bl)) dss_nil)
    (dss_cons (ds_asg (de_has h_L_spoil rfl rfl rfl (hr.mono (by omega)) rfl (takes_of rfl rfl rfl rfl) (da_cons (de_v 1) (da_cons (de_v 4) da_nil))) (dg_tup rfl rfl (dgs_cons (dgv_name (i := 6) sc_law.nd rfl (by first | exact Or.inl rfl | exact Or.inr rfl)) (dgs_cons (dgv_name (i := 7) sc_law.nd rfl (by first | exact Or.inl rfl | exact Or.inr rfl)) dgs_nil))))
    (dss_cons (ds_asg (de_has h_L_pick rfl rfl rfl (hr.mono (by omega)) rfl (takes_of rfl rfl rfl rfl) (da_cons (de_v 1) (da_cons (de_lst (da_cons (de_v 6) (da_cons (de_if (dt_val (de_isa rfl rfl rfl Z.z_isinstance rfl Z.z_list (by decide +kernel) (de_v 6))) (de_tuple rfl rfl Z.z_tuple (da_cons (de_v 6) da_nil)) (de_v 6)) da_nil))) da_nil))) (dg_name (i := 6) sc_law.nd rfl (by first | exact Or.inl rfl | exact Or.inr rfl)))
    (dss_cons (ds_asg (de_cel (da_cons (de_clo 0 TB rfl hmT hu (by show LamX.LamS (defScope s_law) _; exact LamX.lamS_by (by decide +kernel)) rfl) da_nil)) (dg_name (i := 8) sc_law.nd rfl (by first | exact Or.inl rfl | exact Or.inr rfl)))
    (dss_cons (ds_exp (de_append rfl (de_v 8) (da_cons (de_clo 1 TB rfl hmT hu (by show LamX.LamS (defScope s_law) _; exact LamX.lamS_by (by decide +kernel)) rfl) da_nil)))
    (dss_cons (ds_exp (de_append rfl (de_v 8) (da_cons (de_clo 2 TB rfl hmT hu (by show LamX.LamS (defScope s_law) _; exact LamX.lamS_by (by decide +kernel)) rfl) da_nil)))
    (dss_cons (ds_exp (de_append rfl (de_v 8) (da_cons (de_clo 3 TB rfl hmT hu (by show LamX.LamS (defScope s_law) _; exact LamX.lamS_by (by decide +kernel)) rfl) da_nil)))
    (dss_cons (ds_exp (de_append rfl (de_v 8) (da_cons (de_clo 4 TB rfl hmT hu (by show LamX.LamS (defScope s_law) _; exact LamX.lamS_by (by decide +kernel)) rfl) da_nil)))
    (dss_cons (ds_exp (de_append rfl (de_v 8) (da_cons (de_clo 5 TB rfl hmT hu (by show LamX.LamS (defScope s_law) _; exact LamX.lamS_by (by decide +kernel)) rfl) da_nil)))
    (dss_cons (ds_exp (de_append rfl (de_v 8) (da_cons (de_clo 6 TB rfl hmT hu (by show LamX.LamS (defScope s_law) _; exact LamX.lamS_by (by decide +kernel)) rfl) da_nil)))
    (dss_cons (ds_exp (de_append rfl (de_v 8) (da_cons (de_clo 7 TB rfl hmT hu (by show LamX.LamS (defScope s_law) _; exact LamX.lamS_by (by decide +kernel)) rfl) da_nil)))
    (dss_cons (ds_exp (de_append rfl (de_v 8) (da_cons (de_clo 8 TB rfl hmT hu (by show LamX.LamS (defScope s_law) _; exact LamX.lamS_by (by decide +kernel)) rfl) da_nil)))
    (dss_one (ds_if (dt_val (de_any rfl rfl rfl Z.z_any (da_cons (de_jobs (iz := 0) (iy := 0) (k := 13) [("_law_job", 9)] rfl (takes_of rfl rfl rfl rfl) rfl rfl rfl sc_law.nd (di_seq rfl (de_fz (de_v 8))) (by show BlkOk ["_law_script", "_law_source_here", "_law_watcher", "_law_turn", "_law_rule_here", "_law_shown", "_law_odd", "_law_path_here", "_law_jobs", "_law_job"] (defScope s_law) _ _; exact ⟨rfl, by decide +kernel, by decide +kernel, by decide +kernel, by decide +kernel⟩) (by decide) (fun _ _ _ _ _ => (dgv_name (i := 9) sc_law.nd rfl (by first | exact Or.inl rfl | exact Or.inr rfl))) (fun _ _ _ _ _ _ _ => (de_v 7)) (fun _ _ _ _ _ _ => rfl) hgT FT.kp FTlk FTcd FTb sc_L_path rfl (Or.inl rfl) (gives_path Z ex) (fun d job st => mP_sem d job st) pathO_calm (hr.mono (by omega)) hr.units (by
      intro q hq
      simp only [bodiesL, List.mem_cons, List.not_mem_nil, or_false] at hq
      rcases hq with rfl | rfl | rfl | rfl | rfl | rfl | rfl | rfl | rfl
      · exact ⟨rfl, (by show LamX.LamS (defScope s_law) (lamT 0).scope; exact LamX.lamS_by (by decide +kernel)), fun _ _ _ _ => rfl, fun A outer s H E f c1 hrL => (de_has h_checked_rule rfl rfl rfl (hrL.mono (by omega)) rfl (takes_of rfl rfl rfl rfl) (da_cons (de_v 6) da_nil))⟩
      · exact ⟨rfl, (by show LamX.LamS (defScope s_law) (lamT 1).scope; exact LamX.lamS_by (by decide +kernel)), fun _ _ _ _ => rfl, fun A outer s H E f c1 hrL => (de_has h_signals_in rfl rfl rfl (hrL.mono (by omega)) rfl (takes_of rfl rfl rfl rfl) (da_cons (de_v 6) da_nil))⟩
      · exact ⟨rfl, (by show LamX.LamS (defScope s_law) (lamT 2).scope; exact LamX.lamS_by (by decide +kernel)), fun _ _ _ _ => rfl, fun A outer s H E f c1 hrL => (de_has h_keeps rfl rfl rfl (hrL.mono (by omega)) rfl (takes_of rfl rfl rfl rfl) (da_cons (de_v 6) (da_cons de_non da_nil)))⟩
      · exact ⟨rfl, (by show LamX.LamS (defScope s_law) (lamT 3).scope; exact LamX.lamS_by (by decide +kernel)), fun _ _ _ _ => rfl, fun A outer s H E f c1 hrL => (de_has h_first_broken rfl rfl rfl (hrL.mono (by omega)) rfl (takes_of rfl rfl rfl rfl) (da_cons (de_v 6) (da_cons de_int da_nil)))⟩
      · exact ⟨rfl, (by show LamX.LamS (defScope s_law) (lamT 4).scope; exact LamX.lamS_by (by decide +kernel)), fun _ _ _ _ => rfl, fun A outer s H E f c1 hrL => (de_has h_watcher_of rfl rfl rfl (hrL.mono (by omega)) rfl (takes_of rfl rfl rfl rfl) (da_cons (de_v 6) (da_cons de_non da_nil)))⟩
      · exact ⟨rfl, (by show LamX.LamS (defScope s_law) (lamT 5).scope; exact LamX.lamS_by (by decide +kernel)), fun _ _ _ _ => rfl, fun A outer s H E f c1 hrL => (de_has h_judged rfl rfl rfl (hrL.mono (by omega)) rfl (takes_of rfl rfl rfl rfl) (da_cons (de_v 2) (da_cons (de_v 6) da_nil)))⟩
      · exact ⟨rfl, (by show LamX.LamS (defScope s_law) (lamT 6).scope; exact LamX.lamS_by (by decide +kernel)), fun _ _ _ _ => rfl, fun A outer s H E f c1 hrL => (de_has h_keeping rfl rfl rfl (hrL.mono (by omega)) rfl (takes_of rfl rfl rfl rfl) (da_cons (de_v 2) (da_cons (de_v 6) da_nil)))⟩
      · exact ⟨rfl, (by show LamX.LamS (defScope s_law) (lamT 7).scope; exact LamX.lamS_by (by decide +kernel)), fun _ _ _ _ => rfl, fun A outer s H E f c1 hrL => (de_has h_breaking rfl rfl rfl (hrL.mono (by omega)) rfl (takes_of rfl rfl rfl rfl) (da_cons (de_v 2) (da_cons (de_v 6) da_nil)))⟩
      · exact ⟨rfl, (by show LamX.LamS (defScope s_law) (lamT 8).scope; exact LamX.lamS_by (by decide +kernel)), fun _ _ _ _ => rfl, fun A outer s H E f c1 hrL => (de_has h_tightest rfl rfl rfl (hrL.mono (by omega)) rfl (takes_of rfl rfl rfl rfl) (da_cons (de_v 2) (da_cons (de_v 6) (da_cons de_non da_nil))))⟩
    ) rfl (fun _ _ => Or.inl rfl)) da_nil))) (dss_one (ds_ret de_bl)) dss_nil)))))))))))))))))
    (dss_one (ds_ret de_bl)))))
  · obtain ⟨_, w1, ds, st, rs, rv, h⟩ := h
    exact ⟨w1, _, st, rs, renv_start rv, fit_run (h _)⟩
end
end Q
end DL

set_option Elab.async false
set_option linter.all false
set_option maxRecDepth 100000
set_option maxHeartbeats 1000000
namespace DL
open PySem PySem.Spec PyProof.Rows L2
section
variable {st : Sto}
@[simp] theorem isFn_non : isFn .non = false := by simp [isFn]
@[simp] theorem isFn_bl (b : Bool) : isFn (.bl b) = false := by simp [isFn]
@[simp] theorem isFn_int (b : Int) : isFn (.int b) = false := by simp [isFn]
@[simp] theorem isFn_str (b : Str) : isFn (.str b) = false := by simp [isFn]
@[simp] theorem isFn_lst (b : List D) : isFn (.lst b) = false := by simp [isFn]
@[simp] theorem isFn_tup (b : List D) : isFn (.tup b) = false := by simp [isFn]
@[simp] theorem isFn_cel (b : Nat) : isFn (.cel b) = false := by simp [isFn]
@[simp] theorem isFn_scr (b : List Int) : isFn (.scr b) = false := by simp [isFn]
@[simp] theorem isFn_dic : isFn .dic = false := by simp [isFn]
theorem beq_dec {α : Type} [BEq α] [LawfulBEq α] [DecidableEq α] (a b : α) : (a == b) = decide (a = b) := by
  by_cases h : a = b
  · simp [h]
  · simp [h]
@[simp] theorem oGe_ii (a b : Int) : oGe (.int a) (.int b) st = .ok (.bl (decide (b ≤ a))) st := rfl
@[simp] theorem oGt_ii (a b : Int) : oGt (.int a) (.int b) st = .ok (.bl (decide (b < a))) st := rfl
@[simp] theorem oLe_ii (a b : Int) : oLe (.int a) (.int b) st = .ok (.bl (decide (a ≤ b))) st := rfl
@[simp] theorem oLt_ii (a b : Int) : oLt (.int a) (.int b) st = .ok (.bl (decide (a < b))) st := rfl
@[simp] theorem oSub_ii (a b : Int) : oSub (.int a) (.int b) st = .ok (.int (a - b)) st := rfl
@[simp] theorem oAdd_ii (a b : Int) : oAdd (.int a) (.int b) st = .ok (.int (a + b)) st := rfl
theorem oMul_ii {a b : Int} (h : cMul a b = true) : oMul (.int a) (.int b) st = .ok (.int (a * b)) st := by
  unfold oMul iiO; simp [h]
theorem oDiv_ii {a b : Int} (h : cDiv a b = true) : oDiv (.int a) (.int b) st = .ok (.int (a / b)) st := by
  unfold oDiv iiO; simp [h]
theorem oMod_ii {a b : Int} (h : 0 < b) : oMod (.int a) (.int b) st = .ok (.int (a % b)) st := by
  unfold oMod iiO cMod; simp [h]
theorem oPow_ii {a b : Int} (h : cPow a b = true) : oPow (.int a) (.int b) st = .ok (.int (a ^ b.toNat)) st := by
  unfold oPow iiO; simp [h]
@[simp] theorem fineD_int (a : Int) : fineD (.int a) = true := by simp [fineD, plainD, pyD, SeqAt.shaped, PyData.canLay0, PyData.depth]
@[simp] theorem fineD_str (a : Str) : fineD (.str a) = PyData.strOk a := by simp [fineD, plainD, pyD, SeqAt.shaped, PyData.canLay0, PyData.depth]
@[simp] theorem fineD_bl (a : Bool) : fineD (.bl a) = true := by simp [fineD, plainD, pyD, SeqAt.shaped, PyData.canLay0, PyData.depth]
@[simp] theorem fineD_non : fineD .non = true := by simp [fineD, plainD, pyD, SeqAt.shaped, PyData.canLay0, PyData.depth]
@[simp] theorem oEq_ii (a b : Int) : oEq (.int a) (.int b) st = .ok (.bl (decide (a = b))) st := by
  unfold oEq; simp [pyD, PyData.eqv]; exact beq_dec _ _
@[simp] theorem oNe_ii (a b : Int) : oNe (.int a) (.int b) st = .ok (.bl (!decide (a = b))) st := by
  unfold oNe; simp [pyD, PyData.eqv]; exact beq_dec _ _
@[simp] theorem oEq_ss {a b : Str} (ha : PyData.strOk a = true) (hb : PyData.strOk b = true) : oEq (.str a) (.str b) st = .ok (.bl (decide (a = b))) st := by
  unfold oEq; simp [pyD, PyData.eqv, ha, hb]; exact beq_dec _ _
@[simp] theorem oEq_bb (a b : Bool) : oEq (.bl a) (.bl b) st = .ok (.bl (decide (a = b))) st := by
  unfold oEq; simp [pyD, PyData.eqv]; exact beq_dec _ _
@[simp] theorem oNe_bb (a b : Bool) : oNe (.bl a) (.bl b) st = .ok (.bl (!decide (a = b))) st := by
  unfold oNe; simp [pyD, PyData.eqv]; exact beq_dec _ _
@[simp] theorem oIsN_non : oIsN .non .non st = .ok (.bl true) st := rfl
theorem ixO_lst {ds : List D} {i : Nat} {d : D} (h : ds[i]? = some d) : ixO (.lst ds) (.int i) st = .ok d st := by
  unfold ixO seqOf; simp [atI_nat h]
theorem ixO_tup {ds : List D} {i : Nat} {d : D} (h : ds[i]? = some d) : ixO (.tup ds) (.int i) st = .ok d st := by
  unfold ixO seqOf; simp [atI_nat h]
@[simp] theorem short1 (ds : List D) (h : ds.length ≤ 100000) : short ds = true := by simp [short, h]
@[simp] theorem startE1 (a : D) (n : Nat) : startE (n + 1) [a] = some a :: List.replicate n none := rfl
@[simp] theorem startE2 (a b : D) (n : Nat) : startE (n + 2) [a, b] = some a :: some b :: List.replicate n none := by simp [startE]
@[simp] theorem startE3 (a b c : D) (n : Nat) : startE (n + 3) [a, b, c] = some a :: some b :: some c :: List.replicate n none := by simp [startE]
end
namespace Q
variable {st : Sto}
def isI (d : D) : Bool := match d with
  | .int _ => true
  | _ => false
def isL (d : D) : Bool := match d with
  | .lst _ => true
  | .tup _ => true
  | .cel _ => true
  | .scr _ => true
  | _ => false
def isS (d : D) : Bool := match d with
  | .str _ => true
  | _ => false
def isNat (d : D) : Bool := match d with
  | .int i => decide (0 ≤ i)
  | _ => false
@[simp] theorem is_integer_eq {d : D} (h : isFn d = false) : is_integer [d] st = .ok (.bl (isI d)) st := by
  apply Wp.eq
  cases d <;> first | (cases h; done) | simp [h, is_integer, m_is_integer, startE, tyN, isaB, isI]
@[simp] theorem is_list_eq {d : D} (h : isFn d = false) : is_list [d] st = .ok (.bl (isL d)) st := by
  apply Wp.eq
  cases d <;> first | (cases h; done) | simp [h, is_list, m_is_list, startE, tyN, isaB, isL]
@[simp] theorem is_natural_eq {d : D} (h : isFn d = false) : is_natural [d] st = .ok (.bl (isNat d)) st := by
  apply Wp.eq
  cases d <;> first | (cases h; done) | simp [h, is_natural, m_is_natural, startE, isI, isNat]
def its (d : D) : Option (List D) := match d with
  | .lst ds => some ds
  | .tup ds => some ds
  | _ => none
def plainL (d : D) : Bool := match d with
  | .cel _ => false
  | .scr _ => false
  | .fn _ _ _ _ _ => false
  | _ => true
def letters : Str := "abcdefghijklmnopqrstuvwxyz"
def nameS (s : Str) : Bool := decide (1 ≤ s.length) && decide (s.length ≤ 8) && s.cps.toList.all fun c => decide (c ∈ letters.cps.toList)
def nameD (d : D) : Bool := match d with
  | .str s => nameS s
  | _ => false
theorem lc_map {me : EM D} {env0 : Env'} {i : Nat} (f : D → D) (hm : ∀ d, me (env0.set i (some d)) st = .ok (f d) st) : ∀ (ds acc : List D), acc.length + ds.length ≤ 100000 → lcM (gN i) tT me env0 ds acc st = .ok (.lst (acc ++ ds.map f)) st
  | [], acc, _ => by simp [lcM]
  | d :: ds, acc, h => by
    have h' : acc.length + (ds.length + 1) ≤ 100000 := h
    unfold lcM
    simp only [gN_eq, tT, hm d, if_true]
    rw [if_pos (by omega), lc_map f hm ds (acc ++ [f d]) (by simp; omega)]
    simp
theorem lc_mapM {me : EM D} {env0 : Env'} {i : Nat} (f : D → D) : ∀ (ds acc : List D), (∀ d ∈ ds, me (env0.set i (some d)) st = .ok (f d) st) → acc.length + ds.length ≤ 100000 → lcM (gN i) tT me env0 ds acc st = .ok (.lst (acc ++ ds.map f)) st
  | [], acc, _, _ => by simp [lcM]
  | d :: ds, acc, hm, h => by
    have h' : acc.length + (ds.length + 1) ≤ 100000 := h
    unfold lcM
    simp only [gN_eq, tT, hm d (List.mem_cons_self ..), if_true]
    rw [if_pos (by omega), lc_mapM f ds (acc ++ [f d]) (fun e he => hm e (List.mem_cons_of_mem _ he)) (by simp; omega)]
    simp
theorem bls_map {α : Type} (f : α → Bool) : ∀ l : List α, bls (l.map fun a => D.bl (f a)) = some (l.map f)
  | [] => rfl
  | a :: l => by simp [bls, bls_map f l]
theorem lenO_str {s : Str} (hb : s.length ≤ 100000) : lenO [.str s] st = .ok (.int s.length) st := by unfold lenO; simp [hb]
theorem inO_sign (c : Nat) (z : Str) : inO false (.str ⟨#[c]⟩) (.str z) st = .ok (.bl (decide (c ∈ z.cps.toList))) st := by
  unfold inO; simp
def signD (z : Str) (d : D) : D := match d with
  | .str s => .bl (decide (s.cps.toList.headD 0 ∈ z.cps.toList))
  | d => d
theorem is_name_str {s : Str} (hb : s.length ≤ 100000) : is_name [.str s] st = .ok (.bl (nameS s)) st := by
  have hlc : ∀ env0 : Env', lcM (gN 1) tT (eOp (inO false) (eV 1) (eC (.str "abcdefghijklmnopqrstuvwxyz"))) (some (.str s) :: [none]) (s.cps.toList.map fun c => D.str ⟨#[c]⟩) [] st = .ok (.lst ((s.cps.toList.map fun c => D.str ⟨#[c]⟩).map (signD letters))) st := fun env0 => by
    refine lc_mapM (signD letters) _ _ (fun d hd => ?_) ?_
    · obtain ⟨c, _, rfl⟩ := List.mem_map.mp hd
      apply Wp.eq
      simp [inO_sign, signD, letters]
    · have : s.cps.size = s.length := rfl
      simp; omega
  apply Wp.eq
  by_cases h1 : 1 ≤ s.length
  · by_cases h2 : s.length ≤ 8
    · have e1 : (1 : Int) ≤ (s.length : Int) := by omega
      have e2 : (s.length : Int) ≤ 8 := by omega
      simp [is_name, m_is_name, tyN, isaB, Wp_eLc, lenO_str hb, e1, e2, itemsOf, wipeE, hlc [], allO, lstOf]
      rw [show ((signD letters) ∘ fun c => D.str ⟨#[c]⟩) = fun c => D.bl (decide (c ∈ letters.cps.toList)) from rfl, bls_map]
      simp [nameS, h1, h2]
    · have e1 : (1 : Int) ≤ (s.length : Int) := by omega
      have e2 : ¬ (s.length : Int) ≤ 8 := by omega
      simp [is_name, m_is_name, tyN, isaB, lenO_str hb, e1, e2, nameS, h2]
  · have e1 : ¬ (1 : Int) ≤ (s.length : Int) := by omega
    simp [is_name, m_is_name, tyN, isaB, lenO_str hb, e1, nameS, h1]
theorem is_name_eq {d : D} (h : isFn d = false) (hb : ∀ s, d = .str s → s.length ≤ 100000) : is_name [d] st = .ok (.bl (nameD d)) st := by
  cases d with
  | str s => exact is_name_str (hb s rfl)
  | fn _ _ _ _ _ => cases h
  | _ =>
    apply Wp.eq
    simp [h, is_name, m_is_name, tyN, isaB, nameD]
@[simp] theorem absO_i (a : Int) : absO [.int a] st = .ok (.int a.natAbs) st := by
  simp [absO]; split <;> omega
@[simp] theorem intO_i (a : Int) : intO [.int a] st = .ok (.int a) st := rfl
theorem cDiv_small {a b : Int} (h : 0 < b) (h2 : b < 2 ^ 200) : cDiv a b = true := by
  unfold cDiv
  have : b.natAbs.log2 < 9000 := by
    have h1 : b.natAbs < 2 ^ 200 := by omega
    by_cases hz : b.natAbs = 0
    · rw [hz]; decide
    · exact Nat.lt_trans ((Nat.log2_lt hz).mpr h1) (by omega)
  simp [h, this]
theorem cMul_l {a b : Int} (h1 : -(2 ^ 64) < a) (h2 : a < 2 ^ 64) : cMul a b = true := by
  unfold cMul
  rw [decide_eq_true (⟨h1, h2⟩ : -(2 ^ 64) < a ∧ a < 2 ^ 64), Bool.true_or, Bool.true_or]
theorem cMul_r {a b : Int} (h1 : -(2 ^ 64) < b) (h2 : b < 2 ^ 64) : cMul a b = true := by
  unfold cMul
  rw [decide_eq_true (⟨h1, h2⟩ : -(2 ^ 64) < b ∧ b < 2 ^ 64), Bool.or_true, Bool.true_or]
theorem ix0 {a b : D} : ixO (.tup [a, b]) (.int 0) st = .ok a st := ixO_tup (i := 0) rfl
theorem ix1 {a b : D} : ixO (.tup [a, b]) (.int 1) st = .ok b st := ixO_tup (i := 1) rfl
theorem so_upto : PyData.strOk "upto" = true := by decide +kernel
theorem so_below : PyData.strOk "below" = true := by decide +kernel
theorem so_from : PyData.strOk "from" = true := by decide +kernel
theorem so_above : PyData.strOk "above" = true := by decide +kernel
theorem so_since : PyData.strOk "since" = true := by decide +kernel
theorem so_soon : PyData.strOk "soon" = true := by decide +kernel
theorem so_not : PyData.strOk "not" = true := by decide +kernel
theorem so_both : PyData.strOk "both" = true := by decide +kernel
theorem so_either : PyData.strOk "either" = true := by decide +kernel
theorem inV2 (a b c : Str) : inV (.str a) [.str b, .str c] = (decide (a = b) || decide (a = c)) := by
  have sw : ∀ x y : Str, (x == y) = decide (y = x) := fun x y => by rw [beq_dec]; exact decide_eq_decide.mpr ⟨Eq.symm, Eq.symm⟩
  simp only [inV, List.any_cons, List.any_nil, Bool.or_false]
  show ((b == a) || (c == a)) = _
  rw [sw, sw]
def isWord (w : Str) : Prop := w = "upto" ∨ w = "below" ∨ w = "from" ∨ w = "above"
structure PR where
  kind : Str
  a : Str
  b : Str
  w : Str
  n : Int
def PR.d (p : PR) : D := .tup [.str p.kind, .str p.a, .str p.b, .str p.w, .int p.n]
structure PR.Ok (p : PR) : Prop where
  k : p.kind = "since" ∨ p.kind = "soon"
  a : PyData.strOk p.a = true
  b : PyData.strOk p.b = true
  w : isWord p.w
  n0 : 0 ≤ p.n
  n1 : p.n < 1000
inductive Rl where
  | pl (p : PR) | no (r : Rl) | two (b : Bool) (r s : Rl)
def Rl.d : Rl → D
  | .pl p => p.d
  | .no r => .tup [.str "not", r.d]
  | .two true r s => .tup [.str "both", r.d, s.d]
  | .two false r s => .tup [.str "either", r.d, s.d]
def Rl.Ok : Rl → Prop
  | .pl p => p.Ok
  | .no r => r.Ok
  | .two _ r s => r.Ok ∧ s.Ok
def Rl.dep : Rl → Nat
  | .pl _ => 1
  | .no r => r.dep + 1
  | .two _ r s => max r.dep s.dep + 1
theorem cut1_2 (a b : D) : cutD [a, b] (some 1) none = [b] := rfl
theorem cut1_3 (a b c : D) : cutD [a, b, c] (some 1) none = [b, c] := rfl
theorem lcM_one {me : EM D} {env0 : Env'} {i : Nat} {a x : D} (h : me (env0.set i (some a)) st = .ok x st) : lcM (gN i) tT me env0 [a] [] st = .ok (.lst [x]) st := by
  simp [lcM, tT, h]
theorem lcM_two {me : EM D} {env0 : Env'} {i : Nat} {a b x y : D} (h : me (env0.set i (some a)) st = .ok x st) (h2 : me (env0.set i (some b)) st = .ok y st) : lcM (gN i) tT me env0 [a, b] [] st = .ok (.lst [x, y]) st := by
  simp [lcM, tT, h, h2]
theorem lx0 {a : D} {r : List D} : ixO (.lst (a :: r)) (.int 0) st = .ok a st := ixO_lst (i := 0) rfl
theorem lx1 {a b : D} {r : List D} : ixO (.lst (a :: b :: r)) (.int 1) st = .ok b st := ixO_lst (i := 1) rfl
theorem tx0 {a : D} {r : List D} : ixO (.tup (a :: r)) (.int 0) st = .ok a st := ixO_tup (i := 0) rfl
end Q
end DL

set_option Elab.async false
set_option linter.all false
set_option maxRecDepth 100000
set_option maxHeartbeats 1000000
namespace DL
open PySem PySem.Spec PyProof.Rows L2
namespace Q
variable {st : Sto}
theorem Wp_eLcR {mi : EM (List D)} {g : GM} {mt : EM Bool} {me : EM D} {vs : List Nat} {env : Env'} {P : D → Sto → Prop} {E : EK} : Wp (eLcR mi g mt me vs env st) P E = Wp (mi env st) (fun ds s => Wp (lcMR g mt me (wipeE env vs) ds [] s) P E) E := by unfold eLcR; rw [Wp_bnd]
theorem Wp_lcMR {g : GM} {mt : EM Bool} {me : EM D} {env0 : Env'} {P : D → Sto → Prop} {E : EK} (I : List D → List D → Sto → Prop) (step : ∀ d ds acc st, I (d :: ds) acc st → WG (g d env0 st) fun e s => Wp (mt e s) (fun b s => if b then Wp (me e s) (fun y s => acc.length < 100000 ∧ I ds (acc ++ [y]) s) E else I ds acc s) E_) (fin : ∀ acc st, I [] acc st → P (.lst acc) st) :
    ∀ (ds acc : List D) (st : Sto), I ds acc st → Wp (lcMR g mt me env0 ds acc st) P E
  | [], acc, st, h => fin acc st h
  | d :: ds, acc, st, h => by
    have h1 := step d ds acc st h
    unfold lcMR
    cases q : g d env0 st with
    | none => rw [q] at h1; exact h1.elim
    | some p =>
      obtain ⟨e, s⟩ := p
      rw [q] at h1
      have h2 : Wp (mt e s) (fun b s => if b then Wp (me e s) (fun y s => acc.length < 100000 ∧ I ds (acc ++ [y]) s) E else I ds acc s) E_ := h1
      dsimp only
      cases q2 : mt e s with
      | err _ _ _ => rw [q2] at h2; exact h2.elim
      | bad => rw [q2] at h2; exact h2.elim
      | ok b s3 =>
        rw [q2] at h2
        dsimp only
        cases b with
        | false => exact Wp_lcMR I step fin ds acc s3 h2
        | true =>
          have h3 : Wp (me e s3) (fun y s => acc.length < 100000 ∧ I ds (acc ++ [y]) s) E := h2
          simp only [if_true]
          cases q3 : me e s3 with
          | bad => rw [q3] at h3; exact h3.elim
          | err c fs s4 => rw [q3] at h3; exact h3
          | ok y s4 =>
            rw [q3] at h3
            obtain ⟨h4, h5⟩ := (show acc.length < 100000 ∧ I ds (acc ++ [y]) s4 from h3)
            simp only [if_pos h4]
            exact Wp_lcMR I step fin ds (acc ++ [y]) s4 h5
def mk (t : Bool) (xs : List D) : D := if t then .tup xs else .lst xs
@[simp] theorem mk_fn (t : Bool) (xs : List D) : isFn (mk t xs) = false := by cases t <;> simp [mk]
@[simp] theorem mk_plainL (t : Bool) (xs : List D) : plainL (mk t xs) = true := by cases t <;> simp [mk, plainL]
@[simp] theorem mk_isL (t : Bool) (xs : List D) : isL (mk t xs) = true := by cases t <;> simp [mk, isL]
@[simp] theorem mk_its (t : Bool) (xs : List D) : its (mk t xs) = some xs := by cases t <;> simp [mk, its]
@[simp] theorem mk_len (t : Bool) (xs : List D) : lenO [mk t xs] st = .ok (.int xs.length) st := by cases t <;> simp [mk, lenO, seqOf]
theorem mk_ix {t : Bool} {xs : List D} {i : Nat} {d : D} (h : xs[i]? = some d) : ixO (mk t xs) (.int i) st = .ok d st := by
  cases t
  · exact ixO_lst h
  · exact ixO_tup h
theorem mk_ix0 (t : Bool) (a : D) (r : List D) : ixO (mk t (a :: r)) (.int 0) st = .ok a st := mk_ix (i := 0) rfl
theorem mk_ix1 (t : Bool) (a b : D) (r : List D) : ixO (mk t (a :: b :: r)) (.int 1) st = .ok b st := mk_ix (i := 1) rfl
theorem mk_ix2 (t : Bool) (a b c : D) (r : List D) : ixO (mk t (a :: b :: c :: r)) (.int 2) st = .ok c st := mk_ix (i := 2) rfl
theorem mk_ix3 (t : Bool) (a b c d : D) (r : List D) : ixO (mk t (a :: b :: c :: d :: r)) (.int 3) st = .ok d st := mk_ix (i := 3) rfl
theorem mk_ix4 (t : Bool) (a b c d e : D) (r : List D) : ixO (mk t (a :: b :: c :: d :: e :: r)) (.int 4) st = .ok e st := mk_ix (i := 4) rfl
theorem mk_sl (t : Bool) (xs : List D) (l h : Option Int) : slO (mk t xs) l h st = .ok (mk t (cutD xs l h)) st := by cases t <;> simp [mk, slO, seqOf]
theorem mk_enum (t : Bool) (xs : List D) : enumD (mk t xs) st = .ok (xs.zipIdx.map fun q => .tup [.int (q.2 : Nat), q.1]) st := by cases t <;> simp [mk, enumD]
theorem mk_tuple (t : Bool) (xs : List D) : tupleO [mk t xs] st = .ok (.tup xs) st := by cases t <;> simp [mk, tupleO, seqOf]
theorem nameS_ok {s : Str} (h : nameS s = true) : PyData.strOk s = true := by
  have key : ∀ c ∈ letters.cps.toList, c < 0x110000 := by decide +kernel
  unfold nameS at h
  simp only [Bool.and_eq_true, List.all_eq_true, decide_eq_true_eq] at h
  unfold PyData.strOk
  rw [Array.all_eq_true']
  intro c hc
  simpa using key c (h.2 c (by simpa using hc))
theorem nameS_len {s : Str} (h : nameS s = true) : s.length ≤ 100000 := by
  unfold nameS at h
  simp only [Bool.and_eq_true, decide_eq_true_eq] at h
  omega
structure PR.Good (p : PR) : Prop extends p.Ok where
  na : nameS p.a = true
  nb : nameS p.b = true
  sw : p.kind = "soon" → p.w = "upto" ∨ p.w = "below"
def Rl.Good : Rl → Prop
  | .pl p => p.Good
  | .no r => r.Good
  | .two _ r s => r.Good ∧ s.Good
theorem Rl.Good.ok : ∀ {a : Rl}, a.Good → a.Ok
  | .pl p, h => PR.Good.toOk h
  | .no r, h => Rl.Good.ok (a := r) h
  | .two _ r s, h => ⟨Rl.Good.ok (a := r) h.1, Rl.Good.ok (a := s) h.2⟩
def PR.l (p : PR) : List D := [.str p.kind, .str p.a, .str p.b, .str p.w, .int p.n]
def twoW (b : Bool) : Str := if b then "both" else "either"
inductive ShR : Rl → D → Prop
  | pl (t : Bool) (p : PR) : ShR (.pl p) (mk t p.l)
  | no (t : Bool) {r : Rl} {d : D} : ShR r d → ShR (.no r) (mk t [.str "not", d])
  | two (t b : Bool) {r s : Rl} {d e : D} : ShR r d → ShR s e → ShR (.two b r s) (mk t [.str (twoW b), d, e])
def kvs5 : List (Str × D) := [("since", .int 5), ("soon", .int 5), ("not", .int 2), ("both", .int 3), ("either", .int 3)]
theorem kd_since : kvs5.lookup ("since" : Str) = some (D.int 5) := by rfl
theorem kd_soon : kvs5.lookup ("soon" : Str) = some (D.int 5) := by rfl
theorem kd_not : kvs5.lookup ("not" : Str) = some (D.int 2) := by rfl
theorem kd_both : kvs5.lookup ("both" : Str) = some (D.int 3) := by rfl
theorem kd_either : kvs5.lookup ("either" : Str) = some (D.int 3) := by rfl
theorem kdI {z : Str} {d : D} (h : kvs5.lookup z = some d) : kdIn true [("since", .int 5), ("soon", .int 5), ("not", .int 2), ("both", .int 3), ("either", .int 3)] (.str z) st = .ok (.bl false) st := by
  have h' : ([("since", .int 5), ("soon", .int 5), ("not", .int 2), ("both", .int 3), ("either", .int 3)] : List (Str × D)).lookup z = some d := h
  unfold kdIn
  dsimp only
  rw [h']
  rfl
theorem kdA {z : Str} {d : D} (h : kvs5.lookup z = some d) : kdAt [("since", .int 5), ("soon", .int 5), ("not", .int 2), ("both", .int 3), ("either", .int 3)] (.str z) st = .ok d st := by
  have h' : ([("since", .int 5), ("soon", .int 5), ("not", .int 2), ("both", .int 3), ("either", .int 3)] : List (Str × D)).lookup z = some d := h
  unfold kdAt
  dsimp only
  rw [h']
theorem inV4 (a b c d e : Str) : inV (.str a) [.str b, .str c, .str d, .str e] = (decide (a = b) || (decide (a = c) || (decide (a = d) || decide (a = e)))) := by
  have sw : ∀ x y : Str, (x == y) = decide (y = x) := fun x y => by rw [beq_dec]; exact decide_eq_decide.mpr ⟨Eq.symm, Eq.symm⟩
  simp only [inV, List.any_cons, List.any_nil, Bool.or_false]
  show ((b == a) || ((c == a) || ((d == a) || (e == a)))) = _
  rw [sw, sw, sw, sw]
theorem is_of2 (w a b : Str) : is_of [.str w, .tup [.str a, .str b]] st = .ok (.bl (decide (w = a) || decide (w = b))) st := by
  apply Wp.eq
  simp [is_of, m_is_of, tyN, isaB, inO, seqOf, fv, fvs, inV2]
theorem is_of4 (w a b c d : Str) : is_of [.str w, .tup [.str a, .str b, .str c, .str d]] st = .ok (.bl (decide (w = a) || (decide (w = b) || (decide (w = c) || decide (w = d))))) st := by
  apply Wp.eq
  simp [is_of, m_is_of, tyN, isaB, inO, seqOf, fv, fvs, inV4]
theorem WS_cons {N : Env' → Sto → Prop} {R : D → Sto → Prop} {E : EK} {g : GM} {mb : SM} {d : D} {ds : List D} {env : Env'} (h : WG (g d env st) fun e s => WS (mb e s) (fun e s => WS (forM g mb ds e s) N R E) R E) : WS (forM g mb (d :: ds) env st) N R E := by
  unfold forM
  cases q : g d env st with
  | none => rw [q] at h; exact h.elim
  | some p =>
    obtain ⟨e, s⟩ := p
    rw [q] at h
    have h2 : WS (mb e s) (fun e s => WS (forM g mb ds e s) N R E) R E := h
    dsimp only
    cases q2 : mb e s with
    | nx e2 s2 => rw [q2] at h2; exact h2
    | rt d s2 => rw [q2] at h2; exact h2
    | err c fs e2 s2 => rw [q2] at h2; exact h2
    | bk _ _ => rw [q2] at h2; exact h2.elim
    | ct _ _ => rw [q2] at h2; exact h2.elim
    | bad => rw [q2] at h2; exact h2.elim
theorem rule_pl {n : Nat} {p : PR} {t : Bool} {q : D} (hp : p.Good) : rule_at (n + 1) [mk t p.l, q] st = .ok p.d st := by
  apply Wp.eq
  have n1 := is_name_str (st := st) (nameS_len hp.na)
  have n2 := is_name_str (st := st) (nameS_len hp.nb)
  rw [hp.na] at n1
  rw [hp.nb] at n2
  have h0 := hp.n0
  have na : is_natural [.int p.n] st = .ok (.bl true) st := by
    rw [is_natural_eq (by simp)]
    simp [isNat, h0]
  have tup : oAdd (.tup [.str "below", .str "upto"]) (.tup [.str "from", .str "above"]) st = .ok (.tup [.str "below", .str "upto", .str "from", .str "above"]) st := by
    simp [oAdd]
  have e1 : ([D.bl true, D.bl true, D.bl true, D.bl true].zipIdx.map fun q => D.tup [.int (q.2 : Nat), q.1]) = [D.tup [.int (0 : Nat), .bl true], D.tup [.int (1 : Nat), .bl true], D.tup [.int (2 : Nat), .bl true], D.tup [.int (3 : Nat), .bl true]] := rfl
  rcases hp.k with hk | hk
  · have ow : (decide (p.w = "below") || (decide (p.w = "upto") || (decide (p.w = "from") || decide (p.w = "above")))) = true := by
      rcases hp.w with h | h | h | h <;> simp [h]
    simp (decide := true) [rule_at, m_rule_at, PR.l, hk, mk_ix0, mk_ix1, mk_ix2, mk_ix3, mk_ix4, tyN, isaB, kdI kd_since, kdA kd_since, inO, seqOf, fv, fvs, inV2, so_since, so_soon, n1, n2, na, tup, is_of4, ow, WS_for, enumD, isNat, h0]
    iterate 4 (refine WS_cons ?_; simp [gT, gsCons, gsNil])
    simp [forM, mk_tuple, PR.d, hk]
  · have ow : (decide (p.w = "below") || decide (p.w = "upto")) = true := by
      rcases hp.sw hk with h | h <;> simp [h]
    simp (decide := true) [rule_at, m_rule_at, PR.l, hk, mk_ix0, mk_ix1, mk_ix2, mk_ix3, mk_ix4, tyN, isaB, kdI kd_soon, kdA kd_soon, inO, seqOf, fv, fvs, inV2, so_since, so_soon, n1, n2, na, is_of2, ow, WS_for, enumD, isNat, h0]
    iterate 4 (refine WS_cons ?_; simp [gT, gsCons, gsNil])
    simp [forM, mk_tuple, PR.d, hk]

theorem rule_eq : ∀ (n : Nat) {a : Rl} {d : D} (ps : List D), ShR a d → a.Good → a.dep ≤ n → ps.length + n ≤ 1000 → rule_at n [d, .tup ps] st = .ok a.d st
  | 0, a, _, _, _, _, h, _ => by cases a <;> simp [Rl.dep] at h
  | n + 1, _, _, ps, .pl t p, hg, _, _ => rule_pl hg
  | n + 1, .no r, _, ps, .no t (d := d) hs, hg, h, hl => by
    apply Wp.eq
    have ih := rule_eq n (ps ++ [.int 1]) hs hg (by simp [Rl.dep] at h; omega) (by simp; omega)
    have hz : ps.length + 1 ≤ 100000 := by omega
    have hlc : lcMR (gT 2 (gsCons (gN 5) (gsCons (gN 7) gsNil))) tT (eCall 2 (rule_at n) (aCons (eV 7) (aCons (eTup (aStar (eV 1) (aCons (eOp oAdd (eV 5) (eC (.int 1))) aNil))) aNil))) [some (mk t [.str "not", d]), some (.tup ps), none, none, none, none, none, none] [.tup [.int 0, d]] [] st = .ok (.lst [r.d]) st := by
      apply Wp.eq
      refine Wp_lcMR (fun ds acc s => s = st ∧ ((ds = [.tup [.int 0, d]] ∧ acc = []) ∨ (ds = [] ∧ acc = [r.d]))) (fun x ds acc s hI => ?_) (fun acc s hI => ?_) _ _ _ ⟨rfl, .inl ⟨rfl, rfl⟩⟩
      · obtain ⟨rfl, ⟨h1, rfl⟩ | ⟨h1, _⟩⟩ := hI
        · cases h1
          simp [gT, gsCons, gsNil, seqOf, hz, ih]
        · cases h1
      · obtain ⟨rfl, ⟨h1, _⟩ | ⟨_, rfl⟩⟩ := hI
        · cases h1
        · exact ⟨rfl, rfl⟩
    simp (decide := true) [rule_at, m_rule_at, mk_ix0, tyN, isaB, kdI kd_not, kdA kd_not, inO, seqOf, fv, fvs, inV2, Wp_eLcR, mk_sl, cut1_2, mk_enum, wipeE, hlc, Rl.d]
  | n + 1, .two b r r2, _, ps, .two t _ (d := d) (e := e) hs hs2, hg, h, hl => by
    apply Wp.eq
    have ih := rule_eq n (ps ++ [.int 1]) hs hg.1 (by simp [Rl.dep] at h; omega) (by simp; omega)
    have ih2 := rule_eq n (ps ++ [.int 2]) hs2 hg.2 (by simp [Rl.dep] at h; omega) (by simp; omega)
    have hz : ps.length + 1 ≤ 100000 := by omega
    have hlc : lcMR (gT 2 (gsCons (gN 5) (gsCons (gN 7) gsNil))) tT (eCall 2 (rule_at n) (aCons (eV 7) (aCons (eTup (aStar (eV 1) (aCons (eOp oAdd (eV 5) (eC (.int 1))) aNil))) aNil))) [some (mk t [.str (twoW b), d, e]), some (.tup ps), none, none, none, none, none, none] [.tup [.int 0, d], .tup [.int 1, e]] [] st = .ok (.lst [r.d, r2.d]) st := by
      apply Wp.eq
      refine Wp_lcMR (fun ds acc s => s = st ∧ ((ds = [.tup [.int 0, d], .tup [.int 1, e]] ∧ acc = []) ∨ (ds = [.tup [.int 1, e]] ∧ acc = [r.d]) ∨ (ds = [] ∧ acc = [r.d, r2.d]))) (fun x ds acc s hI => ?_) (fun acc s hI => ?_) _ _ _ ⟨rfl, .inl ⟨rfl, rfl⟩⟩
      · obtain ⟨rfl, ⟨h1, rfl⟩ | ⟨h1, rfl⟩ | ⟨h1, _⟩⟩ := hI
        · cases h1
          simp [gT, gsCons, gsNil, seqOf, hz, ih]
        · cases h1
          simp [gT, gsCons, gsNil, seqOf, hz, ih2]
        · cases h1
      · obtain ⟨rfl, ⟨h1, _⟩ | ⟨h1, _⟩ | ⟨_, rfl⟩⟩ := hI
        · cases h1
        · cases h1
        · exact ⟨rfl, rfl⟩
    cases b with
    | true =>
      rw [show twoW true = "both" from rfl] at hlc ⊢
      simp (decide := true) [rule_at, m_rule_at, mk_ix0, tyN, isaB, kdI kd_both, kdA kd_both, inO, seqOf, fv, fvs, inV2, Wp_eLcR, mk_sl, cut1_3, mk_enum, wipeE, hlc, Rl.d]
    | false =>
      rw [show twoW false = "either" from rfl] at hlc ⊢
      simp (decide := true) [rule_at, m_rule_at, mk_ix0, tyN, isaB, kdI kd_either, kdA kd_either, inO, seqOf, fv, fvs, inV2, Wp_eLcR, mk_sl, cut1_3, mk_enum, wipeE, hlc, Rl.d]
theorem checked_rule_eq {a : Rl} {d : D} (hs : ShR a d) (hg : a.Good) (h : a.dep ≤ 8) : checked_rule [d] st = .ok a.d st := by
  apply Wp.eq
  have := rule_eq (st := st) 8 [] hs hg h (by simp)
  simp [checked_rule, m_checked_rule, this]
end Q
end DL

set_option Elab.async false
set_option linter.all false
set_option maxRecDepth 100000
set_option maxHeartbeats 1000000
namespace DL
open PySem PySem.Spec PyProof.Rows L2
namespace Q
variable {st : Sto}
theorem err_of {α : Type} {x : Out α} {c : Str} {fs : List (Str × D)} {s : Sto} (h : Wp x (fun _ _ => False) (fun c' fs' s' => c' = c ∧ fs' = fs ∧ s' = s)) : x = .err c fs s := by
  cases x with
  | ok a s => exact h.elim
  | bad => exact h.elim
  | err c' fs' s' => obtain ⟨rfl, rfl, rfl⟩ := (show c' = c ∧ fs' = fs ∧ s' = s from h); rfl
def Src (n b : Nat) (st : Sto) : Prop := ∃ g s c : Int, st[n]? = some (.lst [.int g, .int s, .int c]) ∧ -(2 ^ 31) < s ∧ s < 2 ^ 31 ∧ 0 ≤ c ∧ c ≤ b
def Keep (n : Nat) (st st' : Sto) : Prop := st.length ≤ st'.length ∧ ∀ i, i < st.length → i ≠ n → st'[i]? = st[i]?
theorem Keep.refl (n : Nat) (st : Sto) : Keep n st st := ⟨Nat.le_refl _, fun _ _ _ => rfl⟩
theorem Keep.trans {n : Nat} {a b c : Sto} (h : Keep n a b) (h2 : Keep n b c) : Keep n a c := ⟨Nat.le_trans h.1 h2.1, fun i hi hn => by rw [h2.2 i (by have := h.1; omega) hn, h.2 i hi hn]⟩
theorem Keep.app (n : Nat) (st ext : Sto) : Keep n st (st ++ ext) := ⟨by simp, fun i hi _ => List.getElem?_append_left hi⟩
theorem Src.lt {n b : Nat} (h : Src n b st) : n < st.length := by
  obtain ⟨g, s, c, h, _⟩ := h
  exact (List.getElem?_eq_some_iff.mp h).1
theorem Src.app {n b : Nat} {ext : Sto} (h : Src n b st) : Src n b (st ++ ext) := by
  have hl := h.lt
  obtain ⟨g, s, c, h, r⟩ := h
  exact ⟨g, s, c, by rw [List.getElem?_append_left hl]; exact h, r⟩
theorem Src.mono {n b b' : Nat} (h : Src n b st) (hb : b ≤ b') : Src n b' st := by
  obtain ⟨g, s, c, h, h1, h2, h3, h4⟩ := h
  exact ⟨g, s, c, h, h1, h2, h3, by omega⟩
theorem cx {ds : List D} {n i : Nat} {d : D} (h : st[n]? = some (.lst ds)) (hi : ds[i]? = some d) : ixO (.cel n) (.int i) st = .ok d st := by
  unfold ixO seqOf
  simp [h, Cell.get, atI_nat hi]
theorem put {ds : List D} {n i : Nat} {v : D} (h : st[n]? = some (.lst ds)) (hi : i < ds.length) : putAt (.cel n) (.int i) v st = some (st.set n (.lst (ds.set i v))) := by
  have : ixN ds.length (i : Int) = some i := by
    unfold ixN
    rw [if_pos (by omega), if_pos (by omega)]
    simp
  unfold putAt
  simp [h, this]
theorem Keep.set {n : Nat} {c : Cell} : Keep n st (st.set n c) := ⟨by simp, fun i _ hn => List.getElem?_set_ne (Ne.symm hn)⟩
theorem pow_lt64 {a : Int} (h1 : -(2 ^ 63) < a) (h2 : a < 2 ^ 63) (j : Int) (h3 : 0 ≤ j) (h4 : j ≤ 1000) : cPow a j = true := by
  unfold cPow
  have : a.natAbs < 2 ^ 64 := by omega
  simp [h3, this]
  omega
theorem pow_ex {a : Int} (j : Int) (h1 : -(2 ^ 63) < a) (h2 : a < 2 ^ 63) (h3 : 0 ≤ j) (h4 : j ≤ 1000) : ∃ x, oPow (.int a) (.int j) st = .ok (.int x) st := ⟨_, oPow_ii (pow_lt64 h1 h2 j h3 h4)⟩
theorem mod_ex (a : Int) {m : Int} (h : 0 < m) : ∃ x, oMod (.int a) (.int m) st = .ok (.int x) st ∧ 0 ≤ x ∧ x < m := ⟨_, oMod_ii h, Int.emod_nonneg a (by omega), Int.emod_lt_of_pos a h⟩
theorem mul_ex {a b : Int} (h : cMul a b = true) : ∃ x, oMul (.int a) (.int b) st = .ok (.int x) st ∧ x = a * b := ⟨_, oMul_ii h, rfl⟩
theorem draw_ok {n b : Nat} {m : Int} (hS : Src n b st) (hb : b ≤ 1000000) (hm : 0 < m) (hm2 : m < 1000000) : Wp (L_draw [.cel n, .int m] st) (fun d s => (∃ v : Nat, d = .int v ∧ (v : Int) < m) ∧ Keep n st s ∧ Src n (b + 1) s) E_ := by
  have hl := hS.lt
  obtain ⟨g, s, c, h, s1, s2, c1, c2⟩ := hS
  have i2 : ixO (.cel n) (.int 2) st = .ok (.int c) st := cx (i := 2) h rfl
  have hp : putAt (.cel n) (.int 2) (.int (c + 1)) st = some (st.set n (.lst [.int g, .int s, .int (c + 1)])) := put (i := 2) h (by simp)
  have h' : (st.set n (.lst [.int g, .int s, .int (c + 1)]))[n]? = some (.lst [.int g, .int s, .int (c + 1)]) := List.getElem?_set_self hl
  generalize hst : st.set n (.lst [.int g, .int s, .int (c + 1)]) = st1 at hp h'
  have k1 : Keep n st st1 := by rw [← hst]; exact Keep.set
  have j0 : ixO (.cel n) (.int 0) st1 = .ok (.int g) st1 := cx (i := 0) h' rfl
  have j1 : ixO (.cel n) (.int 1) st1 = .ok (.int s) st1 := cx (i := 1) h' rfl
  have j2 : ixO (.cel n) (.int 2) st1 = .ok (.int (c + 1)) st1 := cx (i := 2) h' rfl
  by_cases hg : 1 < g
  · obtain ⟨w, hw⟩ : ∃ w, oDiv (.int g) (.int m) st1 = .ok (.int w) st1 := ⟨_, oDiv_ii (cDiv_small hm (by omega))⟩
    obtain ⟨v, q3, v0, v1⟩ := mod_ex (st := st1) g hm
    have hp2 : putAt (.cel n) (.int 0) (.int w) st1 = some (st1.set n (.lst [.int w, .int s, .int (c + 1)])) := put (i := 0) h' (by simp)
    simp only [L_draw, m_L_draw, Wp_run, WS_seq, WS_asg, WS_if, WS_ret, Wp_eOp, Wp_eV, Wp_eC, Wp_tOf, startE2]
    simp [i2, gS, eV, eC, hp, j0, hg, q3, hw, hp2]
    exact ⟨⟨v.toNat, by omega, by omega⟩, k1.trans Keep.set, w, s, c + 1, List.getElem?_set_self (by have := k1.1; omega), s1, s2, by omega, by omega⟩
  · have m1 : oMul (.int 6997) (.int (c + 1)) st1 = .ok (.int (6997 * (c + 1))) st1 := oMul_ii (cMul_l (by omega) (by omega))
    obtain ⟨w, p1⟩ := pow_ex (st := st1) (a := s + 6997 * (c + 1)) 5 (by omega) (by omega) (by omega) (by omega)
    obtain ⟨x, q1, x0, x1⟩ := mod_ex (st := st1) w (m := 2147483629) (by omega)
    obtain ⟨x2, m2, e2⟩ := mul_ex (st := st1) (a := x) (b := 48271) (cMul_r (by omega) (by omega))
    obtain ⟨x3, m3, e3⟩ := mul_ex (st := st1) (a := 16811) (b := c + 1) (cMul_l (by omega) (by omega))
    obtain ⟨y, m4, e4⟩ := mul_ex (st := st1) (a := x3) (b := c + 1) (cMul_r (by omega) (by omega))
    have cc : 0 ≤ y ∧ y < 2 ^ 62 := by
      have a1 : 0 ≤ x3 := by omega
      rw [e4]
      refine ⟨Int.mul_nonneg a1 (by omega), ?_⟩
      have : x3 * (c + 1) ≤ (16811 * 1000002) * 1000002 := Int.mul_le_mul (by omega) (by omega) (by omega) (by omega)
      omega
    obtain ⟨w2, p2⟩ := pow_ex (st := st1) (a := x2 + y + 13) 3 (by omega) (by omega) (by omega) (by omega)
    obtain ⟨z, q2, _, _⟩ := mod_ex (st := st1) w2 (m := 1000000007) (by omega)
    obtain ⟨v, q3, v0, v1⟩ := mod_ex (st := st1) z hm
    simp only [L_draw, m_L_draw, Wp_run, WS_seq, WS_asg, WS_if, WS_ret, Wp_eOp, Wp_eV, Wp_eC, Wp_tOf, startE2]
    simp [i2, gS, eV, eC, hp, j0, hg, j1, j2, m1, p1, q1, m2, m3, m4, p2, q2, q3]
    exact ⟨⟨v.toNat, by omega, by omega⟩, k1, g, s, c + 1, h', s1, s2, by omega, by omega⟩
def Gn (n k b : Nat) (st : Sto) (x : Out D) (P : D → Prop) : Prop := Wp x (fun d s => P d ∧ Keep n st s ∧ Src n (b + k) s) E_
theorem draw_gn {n b : Nat} {m : Int} (hS : Src n b st) (hb : b ≤ 1000000) (hm : 0 < m) (hm2 : m < 1000000) : Gn n 1 b st (L_draw [.cel n, .int m] st) (fun d => ∃ v : Nat, d = .int v ∧ (v : Int) < m) := draw_ok hS hb hm hm2
theorem Gn.imp {n k b : Nat} {x : Out D} {P Q : D → Prop} (h : Gn n k b st x P) (hq : ∀ d, P d → Q d) : Gn n k b st x Q := Wp.imp h (fun d s ⟨h1, h2⟩ => ⟨hq d h1, h2⟩) fun _ _ _ z => z
theorem Gn.use {n k b : Nat} {x : Out D} {P : D → Prop} {Q : D → Sto → Prop} {E : EK} (h : Gn n k b st x P) (hq : ∀ d s, P d → Keep n st s → Src n (b + k) s → Q d s) : Wp x Q E := Wp.imp h (fun d s ⟨h1, h2, h3⟩ => hq d s h1 h2 h3) fun _ _ _ z => z.elim
theorem pick_mk {n b : Nat} {t : Bool} {xs : List D} (hS : Src n b st) (hb : b ≤ 1000000) (h0 : xs ≠ []) (h1 : xs.length < 1000000) : Gn n 1 b st (L_pick [.cel n, mk t xs] st) (fun d => d ∈ xs) := by
  have hl : 0 < xs.length := List.length_pos_iff.mpr h0
  unfold Gn
  simp only [L_pick, m_L_pick, Wp_run, WS_ret, Wp_eOp, Wp_eV, Wp_eCall, Wp_aCons, Wp_aNil, Wp_eCB, startE2]
  simp
  refine (draw_gn hS hb (m := (xs.length : Int)) (by omega) (by omega)).use fun d s hd hk hs => ?_
  obtain ⟨v, rfl, hv⟩ := hd
  have hv' : v < xs.length := by omega
  rw [mk_ix (List.getElem?_eq_getElem hv')]
  exact ⟨List.getElem_mem hv', hk, hs⟩
theorem pick_str {n b : Nat} {z : Str} (hS : Src n b st) (hb : b ≤ 1000000) (h0 : 0 < z.length) (h1 : z.length ≤ 1000) : Gn n 1 b st (L_pick [.cel n, .str z] st) (fun d => ∃ c ∈ z.cps.toList, d = .str ⟨#[c]⟩) := by
  unfold Gn
  have hl : lenO [.str z] st = .ok (.int z.length) st := lenO_str (by omega)
  simp only [L_pick, m_L_pick, Wp_run, WS_ret, Wp_eOp, Wp_eV, Wp_eCall, Wp_aCons, Wp_aNil, Wp_eCB, startE2]
  simp [hl]
  refine (draw_gn hS hb (m := (z.length : Int)) (by omega) (by omega)).use fun d s hd hk hs => ?_
  obtain ⟨v, rfl, hv⟩ := hd
  have hz : z.cps.toList.length = z.length := by simp [Str.length]
  have hv' : v < z.cps.toList.length := by omega
  have e : ixO (.str z) (.int v) s = .ok (.str ⟨#[z.cps.toList[v]]⟩) s := by
    unfold ixO
    simp only [if_pos (show z.length ≤ 100000 by omega), atI_nat (List.getElem?_eq_getElem hv')]
  rw [e]
  exact ⟨⟨_, by simpa using List.getElem_mem hv', rfl⟩, hk, hs⟩
theorem Keep.cell {n i : Nat} {st s : Sto} {c : Cell} (h : Keep n st s) (hi : st[i]? = some c) (hn : i ≠ n) : s[i]? = some c := by
  rw [h.2 i (List.getElem?_eq_some_iff.mp hi).1 hn]
  exact hi
theorem Src.setNe {n b i : Nat} {c : Cell} (h : Src n b st) (hn : i ≠ n) : Src n b (st.set i c) := by
  obtain ⟨g, s, c', h, r⟩ := h
  exact ⟨g, s, c', by rw [List.getElem?_set_ne hn]; exact h, r⟩
theorem app_ok {i : Nat} {ds : List D} {d : D} (h : st[i]? = some (.lst ds)) (hl : ds.length < 100000) : appO (.cel i) [d] st = .ok .non (st.set i (.lst (ds ++ [d]))) := by
  simp [appO, celAt, h, hl]
theorem isCel_ok {i : Nat} {c : Cell} (h : st[i]? = some c) : isCel (.cel i) st = true := by simp [isCel, h]
theorem Keep.setHi {n i : Nat} {st0 s : Sto} {c : Cell} (h : Keep n st0 s) (hi : st0.length ≤ i) : Keep n st0 (s.set i c) := ⟨by simpa using h.1, fun j hj hn => by rw [List.getElem?_set_ne (by omega)]; exact h.2 j hj hn⟩
theorem pop_ok {i v : Nat} {ds : List D} {d : D} (h : st[i]? = some (.lst ds)) (hv : ds[v]? = some d) (hl : ds.length < 1000000) : popO (.cel i) [.int v] st = .ok d (st.set i (.lst (ds.eraseIdx v))) := by
  have hv' : v < ds.length := (List.getElem?_eq_some_iff.mp hv).1
  have e : seqIndex? (v : Int) ds.length = some v := by
    have : ixN ds.length (v : Int) = some v := by
      unfold ixN
      rw [if_pos (by omega), if_pos (by omega)]
      simp
    exact (ixN_seq this).1
  have h2 : -(2 ^ 63) ≤ (v : Int) ∧ (v : Int) < 2 ^ 63 := by omega
  simp only [popO, celAt, h, if_pos h2, e, hv]
theorem len_cel {i : Nat} {ds : List D} (h : st[i]? = some (.lst ds)) : lenO [.cel i] st = .ok (.int ds.length) st := by simp [lenO, seqOf, h, Cell.get]
theorem fz_cel {i : Nat} {ds : List D} (h : st[i]? = some (.lst ds)) : fzD (.cel i) st = .ok (.lst ds) (st.set i (.fz ds)) := by simp [fzD, h]
theorem range_ok {j : Nat} (h : j ≤ 1000) : rangeD1 [.int j] st = .ok ((List.range j).map fun (k : Nat) => .int (0 + (k : Int))) st := by
  unfold rangeD1
  simp only [if_pos (show -(2 ^ 62) ≤ (j : Int) ∧ (j : Int) < 2 ^ 62 by omega), Int.toNat_natCast]
def OI (n b : Nat) (st : Sto) (xs ds : List D) (env : Env') (s : Sto) : Prop := ∃ (k : Nat) (left found : List D) (x : Option D), ds.length + k = xs.length ∧ left.length = ds.length ∧ found.length = k ∧ (∀ y ∈ left, y ∈ xs) ∧ (∀ y ∈ found, y ∈ xs) ∧ env = [some (.cel n), some (.lst xs), some (.cel st.length), some (.cel (st.length + 1)), x] ∧ s[st.length]? = some (.lst left) ∧ s[st.length + 1]? = some (.lst found) ∧ Keep n st s ∧ Src n (b + k) s
theorem order_gn {n b : Nat} {xs : List D} (hS : Src n b st) (hx : xs.length ≤ 10) (hb : b + xs.length ≤ 1000000) : Gn n xs.length b st (L_order [.cel n, .lst xs] st) (fun d => ∃ ys, d = .lst ys ∧ ys.length = xs.length ∧ ∀ y ∈ ys, y ∈ xs) := by
  have hn := hS.lt
  unfold Gn
  have e1 : listC [.lst xs] st = .ok (.cel st.length) (st ++ [.lst xs]) := by simp [listC, seqOf]
  simp only [L_order, m_L_order, Wp_run, WS_seq, WS_par, Wp_eCB, Wp_aCons, Wp_aNil, Wp_eV, Wp_eCel, WS_for, Wp_iR1, startE2]
  have g0 : (st ++ [Cell.lst xs] ++ [Cell.lst []])[st.length]? = some (.lst xs) := by simp
  have g1 : (st ++ [Cell.lst xs] ++ [Cell.lst []])[st.length + 1]? = some (.lst []) := by
    rw [List.getElem?_append_right (by simp)]; simp
  simp [e1]
  have g0' : (st ++ [Cell.lst xs, Cell.lst []])[st.length]? = some (.lst xs) := by simp
  rw [len_cel g0', Wp_ok, range_ok (by omega), Wp_ok]
  refine WS_forM (OI n b st xs)
    (fun d ds env s hI => ?_) (fun env s hI => ?_) _ _ _ ?_
  · obtain ⟨k, left, found, x, h1, h2, h3, h4, h5, rfl, h6, h7, h8, h9⟩ := hI
    have h1' : ds.length + 1 + k = xs.length := h1
    have h2' : left.length = ds.length + 1 := h2
    simp only [gN_eq, List.set_cons_succ, List.set_cons_zero, WG_some, WS_exp, Wp_eBM, Wp_eV, Wp_aCons, Wp_aNil, Wp_eCall, Wp_eCB]
    simp [isCel_ok h6, isCel_ok h7, len_cel h6]
    refine (draw_gn h9 (by omega) (m := (left.length : Int)) (by omega) (by omega)).use fun d s2 hd hk hs => ?_
    obtain ⟨v, rfl, hv⟩ := hd
    have hv' : v < left.length := by omega
    have c6 := hk.cell h6 (by omega)
    have c7 := hk.cell h7 (by omega)
    rw [pop_ok c6 (List.getElem?_eq_getElem hv') (by omega), Wp_ok]
    have c7' : (s2.set st.length (.lst (left.eraseIdx v)))[st.length + 1]? = some (.lst found) := by rw [List.getElem?_set_ne (by omega)]; exact c7
    rw [app_ok c7' (by omega), Wp_ok]
    have hlen2 : st.length + 1 < s2.length := (List.getElem?_eq_some_iff.mp c7).1
    refine ⟨k + 1, left.eraseIdx v, found ++ [left[v]], _, by omega, by rw [List.length_eraseIdx_of_lt hv']; omega, by simp [h3], fun y hy => h4 y (List.mem_of_mem_eraseIdx hy), ?_, rfl, ?_, ?_, ?_, ?_⟩
    · intro y hy
      rcases List.mem_append.mp hy with hy | hy
      · exact h5 y hy
      · rw [List.mem_singleton.mp hy]; exact h4 _ (List.getElem_mem hv')
    · rw [List.getElem?_set_ne (by omega), List.getElem?_set_self (by omega)]
    · rw [List.getElem?_set_self (by simp; omega)]
    · exact ((h8.trans hk).setHi (Nat.le_refl _)).setHi (by omega)
    · exact ((hs.mono (by omega)).setNe (by omega)).setNe (by omega)
  · obtain ⟨k, left, found, x, h1, h2, h3, h4, h5, rfl, h6, h7, h8, h9⟩ := hI
    have h1' : 0 + k = xs.length := h1
    simp [fz_cel h7]
    exact ⟨⟨by omega, h5⟩, h8.setHi (by omega), (h9.mono (by omega)).setNe (by omega)⟩
  · exact ⟨0, xs, [], none, by simp, by simp, rfl, fun y hy => hy, fun y hy => by simp at hy, rfl, g0', by simpa using g1, Keep.app _ _ _, hS.app⟩
end Q
end DL

set_option Elab.async false
set_option linter.all false
set_option maxRecDepth 100000
set_option maxHeartbeats 1000000
namespace DL
open PySem PySem.Spec PyProof.Rows L2
namespace Q
variable {st : Sto}
def lets (s : Str) : Bool := s.cps.toList.all fun c => decide (c ∈ letters.cps.toList)
theorem app_len (a b : Str) : (a ++ b).length = a.length + b.length := by
  show (a.cps ++ b.cps).size = a.cps.size + b.cps.size
  exact Array.size_append
theorem app_lets (a b : Str) : lets (a ++ b) = (lets a && lets b) := by
  show ((a.cps ++ b.cps).toList.all _) = _
  rw [Array.toList_append, List.all_append]
  rfl
theorem nameS_of {s : Str} (h1 : 1 ≤ s.length) (h2 : s.length ≤ 8) (h3 : lets s = true) : nameS s = true := by
  unfold nameS
  unfold lets at h3
  simp only [h3, decide_eq_true h1, decide_eq_true h2, Bool.and_self]
theorem fvs_strs : ∀ l : List Str, fvs (l.map D.str) = some (l.map V.str)
  | [] => rfl
  | a :: l => by simp [fvs, fv, fvs_strs l]
theorem inV_strs (x : Str) : ∀ l : List Str, inV (.str x) (l.map V.str) = decide (x ∈ l)
  | [] => rfl
  | a :: l => by
    have ih := inV_strs x l
    unfold inV at ih ⊢
    rw [List.map_cons, List.any_cons, ih]
    show ((a == x) || decide (x ∈ l)) = _
    rw [beq_dec]
    by_cases h : a = x
    · simp [h]
    · have h' : ¬ x = a := fun z => h z.symm
      simp [h, h']
theorem nin_cel {i : Nat} {l : List Str} {x : Str} (h : st[i]? = some (.lst (l.map D.str))) : inO true (.str x) (.cel i) st = .ok (.bl (!decide (x ∈ l))) st := by
  simp [inO, seqOf, h, Cell.get, fv, fvs_strs, inV_strs]
theorem lc_filter {env0 : Env'} {i c : Nat} {l : List Str} (hc : ∀ d : D, (env0.set i (some d))[c]? = some (some (.cel c))) : True := trivial
theorem lc_notin {env0 : Env'} {i j c : Nat} {l : List Str} (hi : i < env0.length) (hij : j ≠ i) (hj : env0[j]? = some (some (.cel c))) (hc : st[c]? = some (.lst (l.map D.str))) : ∀ (xs acc : List Str), acc.length + xs.length ≤ 1000 → lcM (gN i) (tOf (eOp (inO true) (eV i) (eV j))) (eV i) env0 (xs.map D.str) (acc.map D.str) st = .ok (.lst ((acc ++ xs.filter fun x => !decide (x ∈ l)).map D.str)) st
  | [], acc, _ => by simp [lcM]
  | x :: xs, acc, h => by
    have h' : acc.length + (xs.length + 1) ≤ 1000 := h
    have e1 : eV i (env0.set i (some (.str x))) st = .ok (.str x) st := by simp [eV, List.getElem?_set_self hi]
    have e2 : eV j (env0.set i (some (.str x))) st = .ok (.cel c) st := by simp [eV, List.getElem?_set_ne (Ne.symm hij), hj]
    have et : tOf (eOp (inO true) (eV i) (eV j)) (env0.set i (some (.str x))) st = .ok (!decide (x ∈ l)) st := by
      simp [tOf, eOp, e1, e2, nin_cel hc, toB]
    rw [List.map_cons]
    unfold lcM
    simp only [gN_eq, et, e1]
    by_cases hx : x ∈ l
    · rw [if_neg (by simp [hx]), lc_notin hi hij hj hc xs acc (by omega), List.filter_cons_of_neg (by simp [hx])]
    · rw [if_pos (by simp [hx]), if_pos (by simp; omega)]
      have := lc_notin hi hij hj hc xs (acc ++ [x]) (by simp; omega)
      rw [List.map_append] at this
      rw [List.filter_cons_of_pos (by simp [hx])]
      simpa using this
def sqs (c : Nat) : Str := (⟨#[c]⟩ : Str) ++ "q" ++ ⟨#[c]⟩
def three : List Str := ["aqa", "bqb", "cqc"]
theorem three_in : ∀ x ∈ three, x ∈ letters.cps.toList.map sqs := by decide +kernel
theorem sqs_name : ∀ x ∈ letters.cps.toList.map sqs, nameS x = true := by decide +kernel
theorem one_free {fs : List Str} (h : fs.length ≤ 2) : ∃ x ∈ three, x ∉ fs := by
  have h12 : ("aqa" : Str) ≠ "bqb" := by decide
  have h13 : ("aqa" : Str) ≠ "cqc" := by decide
  have h23 : ("bqb" : Str) ≠ "cqc" := by decide
  by_cases a : ("aqa" : Str) ∈ fs
  · by_cases b : ("bqb" : Str) ∈ fs
    · by_cases c : ("cqc" : Str) ∈ fs
      · exfalso
        match fs, h with
        | [], _ => simp at a
        | [x], _ =>
          simp only [List.mem_singleton] at a b
          exact h12 (a.trans b.symm)
        | [x, y], _ =>
          simp only [List.mem_cons, List.not_mem_nil, or_false] at a b c
          rcases a with a | a <;> rcases b with b | b <;> rcases c with c | c
          · exact h12 (a.trans b.symm)
          · exact h12 (a.trans b.symm)
          · exact h13 (a.trans c.symm)
          · exact h23 (b.trans c.symm)
          · exact h23 (b.trans c.symm)
          · exact h13 (a.trans c.symm)
          · exact h12 (a.trans b.symm)
          · exact h12 (a.trans b.symm)
      · exact ⟨_, by simp [three], c⟩
    · exact ⟨_, by simp [three], b⟩
  · exact ⟨_, by simp [three], a⟩
def WIn (n b c : Nat) (m : Int) (fs : List Str) (st : Sto) (ds : List D) (env : Env') (s : Sto) : Prop := ∃ (w : Str) (k : Nat) (x4 x6 x7 x8 x9 : Option D), env = [some (.cel n), some (.int m), some (.str letters), some (.cel c), x4, some (.str w), x6, x7, x8, x9] ∧ lets w = true ∧ 1 ≤ w.length ∧ w.length + ds.length ≤ 8 ∧ s[c]? = some (.lst (fs.map D.str)) ∧ Keep n st s ∧ k + ds.length ≤ 7 ∧ Src n (b + k) s
def WOut (n b c m : Nat) (st : Sto) (ds : List D) (env : Env') (s : Sto) : Prop := ∃ (fs : List Str) (x4 x5 x6 x7 x8 x9 : Option D), env = [some (.cel n), some (.int (m : Nat)), some (.str letters), some (.cel c), x4, x5, x6, x7, x8, x9] ∧ ds.length + fs.length = m ∧ (∀ x ∈ fs, nameS x = true) ∧ s[c]? = some (.lst (fs.map D.str)) ∧ Keep n st s ∧ Src n (b + 9 * fs.length) s
theorem pick_let {n b : Nat} (hS : Src n b st) (hb : b ≤ 1000000) : Gn n 1 b st (L_pick [.cel n, .str letters] st) (fun d => ∃ w, d = .str w ∧ lets w = true ∧ w.length = 1) :=
  (pick_str hS hb (by decide +kernel) (by decide +kernel)).imp fun d ⟨c, hc, e⟩ => ⟨_, e, by simp only [lets, List.all_cons, List.all_nil, Bool.and_true]; exact decide_eq_true hc, rfl⟩
theorem five {v : Nat} (h : v < 5) : ∃ r : Nat, r ≤ 7 ∧ ixO (.lst [.int 0, .int 0, .int 1, .int 2, .int 7]) (.int v) st = .ok (.int r) st := by
  match v, h with
  | 0, _ => exact ⟨0, by omega, ixO_lst (i := 0) rfl⟩
  | 1, _ => exact ⟨0, by omega, ixO_lst (i := 1) rfl⟩
  | 2, _ => exact ⟨1, by omega, ixO_lst (i := 2) rfl⟩
  | 3, _ => exact ⟨2, by omega, ixO_lst (i := 3) rfl⟩
  | 4, _ => exact ⟨7, by omega, ixO_lst (i := 4) rfl⟩
theorem add_str {a b : Str} (h : a.length + b.length ≤ 100000) : oAdd (.str a) (.str b) st = .ok (.str (a ++ b)) st := by simp [oAdd, h]
def sqD (d : D) : D := match d with
  | .str s => .str (s ++ "q" ++ s)
  | d => d
theorem spare_lc {env0 : Env'} (hl : env0.length = 10) : lcM (gN 8) tT (eOp oAdd (eOp oAdd (eV 8) (eC (.str "q"))) (eV 8)) env0 (letters.cps.toList.map fun c => D.str ⟨#[c]⟩) [] st = .ok (.lst ((letters.cps.toList.map sqs).map D.str)) st := by
  have key := lc_mapM (st := st) (me := eOp oAdd (eOp oAdd (eV 8) (eC (.str "q"))) (eV 8)) (env0 := env0) (i := 8) sqD (letters.cps.toList.map fun c => D.str ⟨#[c]⟩) [] (fun d hd => ?_) (by decide +kernel)
  · rw [key, List.map_map, List.map_map]
    rfl
  · obtain ⟨c, _, rfl⟩ := List.mem_map.mp hd
    have e1 : eV 8 (env0.set 8 (some (.str ⟨#[c]⟩))) st = .ok (.str ⟨#[c]⟩) st := by simp [eV, List.getElem?_set_self (show 8 < env0.length by omega)]
    have l1 : (⟨#[c]⟩ : Str).length = 1 := rfl
    have l2 : ("q" : Str).length = 1 := by decide +kernel
    simp only [eOp, e1, eC, bnd_ok, add_str (show (⟨#[c]⟩ : Str).length + ("q" : Str).length ≤ 100000 by omega), add_str (show ((⟨#[c]⟩ : Str) ++ "q").length + (⟨#[c]⟩ : Str).length ≤ 100000 by rw [app_len]; omega), sqD]
noncomputable def mWin : SM := sAsg (eOp oAdd (eV 5) (eCall 2 L_pick (aCons (eV 0) (aCons (eV 2) aNil)))) (gN 5)
noncomputable def mWbd : SM := (sSeq (sAsg (eCall 2 L_pick (aCons (eV 0) (aCons (eV 2) aNil))) (gN 5))
    (sSeq (sFor (iR1 (aCons (eOp ixO (eLst (aCons (eC (.int 0)) (aCons (eC (.int 0)) (aCons (eC (.int 1)) (aCons (eC (.int 2)) (aCons (eC (.int 7)) aNil)))))) (eCall 2 L_draw (aCons (eV 0) (aCons (eC (.int 5)) aNil)))) aNil)) (gN 6) mWin)
    (sSeq (sAsg (eOp oAdd (eLst (aCons (eV 5) aNil)) (eLc (iSq (eV 2)) (gN 8) tT (eOp oAdd (eOp oAdd (eV 8) (eC (.str "q"))) (eV 8)) [8])) (gN 7))
    (sExp (eBM isCel appO (eV 3) (aCons (eOp ixO (eLc (iSq (eV 7)) (gN 9) (tOf (eOp (inO true) (eV 9) (eV 3))) (eV 9) [9]) (eC (.int 0))) aNil))))))
theorem m_words : m_L_words = (sSeq (sAsg (eTup (aCons (eC (.str "abcdefghijklmnopqrstuvwxyz")) (aCons (eCel aNil) aNil))) (gT 2 (gsCons (gN 2) (gsCons (gN 3) gsNil))))
    (sSeq (sFor (iR1 (aCons (eV 1) aNil)) (gN 4) mWbd) (sRet (eFz (eV 3))))) := rfl
theorem win_ok {N : Env' → Sto → Prop} {R : D → Sto → Prop} {E : EK} {n b c : Nat} {m : Int} {fs : List Str} {st0 : Sto} (hc : c ≠ n) (hb : b + 7 ≤ 100000) {ds : List D} {env : Env'} {s : Sto} (h : WIn n b c m fs st0 ds env s) (hN : ∀ env s, WIn n b c m fs st0 [] env s → N env s) : WS (forM (gN 6) mWin ds env s) N R E := by
  refine WS_forM (WIn n b c m fs st0) (fun d ds env s hI => ?_) hN _ _ _ h
  obtain ⟨w, k, x4, x6, x7, x8, x9, rfl, h1, h2, h3, h4, h5, h6, h7⟩ := hI
  have h3' : w.length + (ds.length + 1) ≤ 8 := h3
  have h6' : k + (ds.length + 1) ≤ 7 := h6
  simp only [gN_eq, List.set_cons_succ, List.set_cons_zero, WG_some, mWin, WS_asg, Wp_eOp, Wp_eV, Wp_eCall, Wp_aCons, Wp_aNil]
  simp
  refine (pick_let h7 (by omega)).use fun d s2 hd hk hs => ?_
  obtain ⟨w2, rfl, l2, e2⟩ := hd
  rw [add_str (by omega), Wp_ok]
  exact ⟨w ++ w2, k + 1, _, _, _, _, _, rfl, by rw [app_lets, h1, l2]; rfl, by rw [app_len]; omega, by rw [app_len]; omega, hk.cell h4 hc, h5.trans hk, by omega, hs⟩
theorem wbd_ok {n b c m : Nat} {st0 : Sto} (hc : st0.length = c) (hn : n < c) (hb : b + 9 * m ≤ 100000) (hm : m ≤ 3) {R : D → Sto → Prop} {E : EK} {d : D} {ds : List D} {env : Env'} {s : Sto} (h : WOut n b c m st0 (d :: ds) env s) : WG (gN 4 d env s) fun e s => WS (mWbd e s) (fun e s => WOut n b c m st0 ds e s) R E := by
  obtain ⟨fs, x4, x5, x6, x7, x8, x9, rfl, h1, h2, h3, h4, h5⟩ := h
  have h1' : ds.length + 1 + fs.length = m := h1
  simp only [gN_eq, List.set_cons_succ, List.set_cons_zero, WG_some, mWbd, WS_seq, WS_asg, Wp_eV, Wp_eCall, Wp_aCons, Wp_aNil]
  simp
  refine (pick_let h5 (by omega)).use fun d1 s1 hd hk hs => ?_
  obtain ⟨w, rfl, l1, e1⟩ := hd
  simp only [List.set_cons_succ, List.set_cons_zero, WS_for, Wp_iR1, Wp_aCons, Wp_aNil, Wp_eOp, Wp_eLst, Wp_eC, Wp_eCall, Wp_eV]
  simp
  refine (draw_gn hs (by omega) (m := 5) (by omega) (by omega)).use fun d2 s2 hd2 hk2 hs2 => ?_
  obtain ⟨v, rfl, hv⟩ := hd2
  obtain ⟨r, hr, er⟩ := five (st := s2) (v := v) (by omega)
  rw [er, Wp_ok, range_ok (by omega), Wp_ok]
  have c2 := hk2.cell (hk.cell h3 (by omega)) (by omega)
  refine win_ok (b := b + 9 * fs.length + 1 + 1) (c := c) (m := (m : Int)) (fs := fs) (st0 := st0) (by omega) (by omega) ⟨w, 0, _, _, _, _, _, rfl, l1, by omega, by simp; omega, c2, (h4.trans hk).trans hk2, by simp; omega, hs2⟩ fun env s3 hw => ?_
  obtain ⟨w3, k, y4, y6, y7, y8, y9, rfl, g1, g2, g3, g4, g5, g6, g7⟩ := hw
  have g3' : w3.length + 0 ≤ 8 := g3
  have g6' : k + 0 ≤ 7 := g6
  have hi : itemsOf (.str letters) = some (letters.cps.toList.map fun c => D.str ⟨#[c]⟩) := rfl
  have hsp := spare_lc (st := s3) (env0 := [some (.cel n), some (.int (m : Nat)), some (.str letters), some (.cel c), y4, some (.str w3), y6, y7, none, y9]) rfl
  have hadd : oAdd (.lst [.str w3]) (.lst ((letters.cps.toList.map sqs).map D.str)) s3 = .ok (.lst ((w3 :: letters.cps.toList.map sqs).map D.str)) s3 := by
    unfold oAdd
    simp only [lstOf]
    rw [if_pos (by simp; have : letters.cps.size = 26 := by decide +kernel
                   omega)]
    rfl
  simp only [Wp_eLc, Wp_iSq, Wp_eV, List.getElem?_cons_succ, List.getElem?_cons_zero, Option.some.injEq, exists_eq_left']
  refine ⟨_, hi, ?_⟩
  rw [show wipeE [some (D.cel n), some (D.int (m : Nat)), some (.str letters), some (.cel c), y4, some (.str w3), y6, y7, y8, y9] [8] = [some (.cel n), some (.int (m : Nat)), some (.str letters), some (.cel c), y4, some (.str w3), y6, y7, none, y9] from rfl, hsp, Wp_ok, hadd, Wp_ok]
  simp only [gN_eq, List.set_cons_succ, List.set_cons_zero, WG_some, WS_exp, Wp_eBM, Wp_eV, Wp_aCons, Wp_aNil, Wp_eOp, Wp_eLc, Wp_iSq, Wp_eC, List.getElem?_cons_succ, List.getElem?_cons_zero, Option.some.injEq, exists_eq_left']
  refine ⟨isCel_ok g4, _, rfl, ?_⟩
  generalize hsl : w3 :: letters.cps.toList.map sqs = sl
  have hll : sl.length ≤ 1000 := by rw [← hsl]; simp; decide +kernel
  have hf := lc_notin (st := s3) (env0 := [some (.cel n), some (.int (m : Nat)), some (.str letters), some (.cel c), y4, some (.str w3), y6, some (.lst (sl.map D.str)), y8, none]) (i := 9) (j := 3) (c := c) (l := fs) (by simp) (by omega) rfl g4 sl [] (by simpa using hll)
  have hf' : lcM (gN 9) (tOf (eOp (inO true) (eV 9) (eV 3))) (eV 9) (wipeE [some (.cel n), some (.int (m : Nat)), some (.str letters), some (.cel c), y4, some (.str w3), y6, some (.lst (sl.map D.str)), y8, y9] [9]) (sl.map D.str) [] s3 = .ok (.lst ((sl.filter fun x => !decide (x ∈ fs)).map D.str)) s3 := hf
  rw [hf', Wp_ok]
  obtain ⟨x, hx, hxn⟩ := one_free (fs := fs) (by omega)
  have hxs : x ∈ sl := by rw [← hsl]; exact List.mem_cons_of_mem _ (three_in x hx)
  have hxf : x ∈ sl.filter fun x => !decide (x ∈ fs) := List.mem_filter.mpr ⟨hxs, by simp [hxn]⟩
  cases hq : sl.filter (fun x => !decide (x ∈ fs)) with
  | nil => rw [hq] at hxf; simp at hxf
  | cons y ys =>
    have hy : y ∈ sl := (List.mem_filter.mp (show y ∈ sl.filter fun x => !decide (x ∈ fs) by rw [hq]; exact List.mem_cons_self ..)).1
    have hyn : nameS y = true := by
      rw [← hsl] at hy
      rcases List.mem_cons.mp hy with rfl | hy
      · exact nameS_of g2 (by omega) g1
      · exact sqs_name y hy
    rw [List.map_cons, lx0, Wp_ok, app_ok g4 (by simp; omega), Wp_ok]
    refine ⟨fs ++ [y], _, _, _, _, _, _, rfl, by simp; omega, fun z hz => ?_, ?_, g5.setHi (by omega), ?_⟩
    · rcases List.mem_append.mp hz with hz | hz
      · exact h2 z hz
      · rw [List.mem_singleton.mp hz]; exact hyn
    · rw [List.getElem?_set_self (List.getElem?_eq_some_iff.mp g4).1]
      simp
    · refine (g7.mono ?_).setNe (by omega)
      simp; omega
theorem words_gn {n b m : Nat} (hS : Src n b st) (hm : m ≤ 3) (hb : b + 9 * m ≤ 100000) : ∃ d s, L_words [.cel n, .int m] st = .ok d s ∧ (∃ fs : List Str, d = .lst (fs.map D.str) ∧ fs.length = m ∧ ∀ x ∈ fs, nameS x = true) ∧ Keep n st s ∧ Src n (b + 9 * m) s := by
  have hn := hS.lt
  apply Wp.ok_of
  rw [L_words, m_words]
  simp only [Wp_run, WS_seq, WS_asg, Wp_eTup, Wp_aCons, Wp_aNil, Wp_eC, Wp_eCel, WS_for, Wp_iR1, Wp_eV, startE2]
  simp [gT, gsCons, gsNil]
  rw [range_ok (by omega), Wp_ok]
  refine WS_forM (WOut n b st.length m st) (fun d ds env s hI => wbd_ok rfl hn hb hm hI) (fun env s hI => ?_) _ _ _ ?_
  · obtain ⟨fs, x4, x5, x6, x7, x8, x9, rfl, h1, h2, h3, h4, h5⟩ := hI
    have h1' : 0 + fs.length = m := h1
    simp [fz_cel h3]
    exact ⟨⟨fs, rfl, by omega, h2⟩, h4.setHi (Nat.le_refl _), (h5.mono (by omega)).setNe (by omega)⟩
  · exact ⟨[], _, _, _, _, _, _, rfl, by simp, fun x hx => by simp at hx, by simp, Keep.app _ _ _, hS.app⟩
end Q
end DL

set_option Elab.async false
set_option linter.all false
set_option maxRecDepth 100000
set_option maxHeartbeats 1000000
namespace DL
open PySem PySem.Spec PyProof.Rows L2
namespace Q
variable {st : Sto}
theorem cut_to2 {a b : D} {r : List D} : cutD (a :: b :: r) none (some 2) = [a, b] := by
  unfold cutD HT.sIx
  simp
def Pair2 (fs : List Str) (d : D) : Prop := ∃ a b : Str, a ∈ fs ∧ b ∈ fs ∧ d = .lst [.str a, .str b]
noncomputable def mPend : SM := (sSeq (sAsg (eCall 2 L_pick (aCons (eV 0) (aCons (eIf (tOf (eOp oEq (eV 3) (eC (.str "since")))) (eLst (aCons (eC (.str "upto")) (aCons (eC (.str "below")) (aCons (eC (.str "from")) (aCons (eC (.str "above")) aNil))))) (eLst (aCons (eC (.str "upto")) (aCons (eC (.str "below")) aNil)))) aNil))) (gN 5))
    (sRet (eTup (aCons (eV 3) (aCons (eOp ixO (eV 4) (eC (.int 0))) (aCons (eOp ixO (eV 4) (eC (.int 1))) (aCons (eV 5) (aCons (eCall 2 L_draw (aCons (eV 0) (aCons (eOp oAdd (eV 2) (eC (.int 1))) aNil))) aNil))))))))
theorem m_plain : m_L_plain = (sSeq (sPar 3 4 (aCons (eCall 2 L_pick (aCons (eV 0) (aCons (eLst (aCons (eC (.str "since")) (aCons (eC (.str "since")) (aCons (eC (.str "soon")) aNil)))) aNil))) (aCons (eLst (aCons (eCall 2 L_pick (aCons (eV 0) (aCons (eV 1) aNil))) (aCons (eCall 2 L_pick (aCons (eV 0) (aCons (eV 1) aNil))) aNil))) aNil)))
    (sSeq (sIf (bAnd (tOf (eOp oEq (eOp ixO (eV 4) (eC (.int 0))) (eOp ixO (eV 4) (eC (.int 1))))) (tOf (eOp oGt (eCall 2 L_draw (aCons (eV 0) (aCons (eC (.int 4)) aNil))) (eC (.int 0))))) (sAsg (eSl (eOp oAdd (eCall 2 L_order (aCons (eV 0) (aCons (eV 1) aNil))) (eV 1)) pN (pI (eC (.int 2)))) (gN 4)) sNx) mPend)) := rfl
theorem pend_ok {n b : Nat} {fs : List Str} {st0 s : Sto} {k : Str} {q x5 : Option D} {P : D → Sto → Prop} {N : Env' → Sto → Prop} {E : EK} {dp : D} (hk : k = "since" ∨ k = "soon") (hp : Pair2 fs dp) (hf : ∀ x ∈ fs, nameS x = true) (hS : Src n b s) (hb : b + 2 ≤ 100000) (hkp : Keep n st0 s)
    (h : ∀ (p : PR) (s : Sto), p.Good → Keep n st0 s → Src n (b + 2) s → P p.d s) : WS (mPend [some (.cel n), q, some (.int 6), some (.str k), some dp, x5] s) N P E := by
  obtain ⟨a, c, ha, hc, rfl⟩ := hp
  have na := hf a ha
  have nc := hf c hc
  have hw : Wp (eCall 2 L_pick (aCons (eV 0) (aCons (eIf (tOf (eOp oEq (eV 3) (eC (.str "since")))) (eLst (aCons (eC (.str "upto")) (aCons (eC (.str "below")) (aCons (eC (.str "from")) (aCons (eC (.str "above")) aNil))))) (eLst (aCons (eC (.str "upto")) (aCons (eC (.str "below")) aNil)))) aNil)) [some (.cel n), q, some (.int 6), some (.str k), some (.lst [.str a, .str c]), x5] s) (fun d s2 => (∃ w, d = .str w ∧ isWord w ∧ (k = "soon" → w = "upto" ∨ w = "below")) ∧ Keep n s s2 ∧ Src n (b + 1) s2) E := by
    rcases hk with rfl | rfl
    · simp only [Wp_eCall, Wp_aCons, Wp_aNil, Wp_eV, Wp_eIf, Wp_tOf, Wp_eOp, Wp_eC, Wp_eLst, List.getElem?_cons_succ, List.getElem?_cons_zero, Option.some.injEq, exists_eq_left', oEq_ss so_since so_since, Wp_ok]
      simp
      refine (pick_mk (t := false) (xs := [.str "upto", .str "below", .str "from", .str "above"]) hS (by omega) (by simp) (by simp)).use fun d s2 hd hk hs => ⟨?_, hk, hs⟩
      simp only [List.mem_cons, List.not_mem_nil, or_false] at hd
      rcases hd with rfl | rfl | rfl | rfl
      · exact ⟨_, rfl, .inl rfl, fun z => .inl rfl⟩
      · exact ⟨_, rfl, .inr (.inl rfl), fun z => .inr rfl⟩
      · exact ⟨_, rfl, .inr (.inr (.inl rfl)), fun z => absurd z (by decide)⟩
      · exact ⟨_, rfl, .inr (.inr (.inr rfl)), fun z => absurd z (by decide)⟩
    · simp only [Wp_eCall, Wp_aCons, Wp_aNil, Wp_eV, Wp_eIf, Wp_tOf, Wp_eOp, Wp_eC, Wp_eLst, List.getElem?_cons_succ, List.getElem?_cons_zero, Option.some.injEq, exists_eq_left', oEq_ss so_soon so_since, Wp_ok]
      simp (decide := true)
      refine (pick_mk (t := false) (xs := [.str "upto", .str "below"]) hS (by omega) (by simp) (by simp)).use fun d s2 hd hk hs => ⟨?_, hk, hs⟩
      simp only [List.mem_cons, List.not_mem_nil, or_false] at hd
      rcases hd with rfl | rfl
      · exact ⟨_, rfl, .inl rfl, .inl rfl⟩
      · exact ⟨_, rfl, .inr (.inl rfl), .inr rfl⟩
  rw [mPend, WS_seq, WS_asg]
  refine hw.imp (fun d s2 hd => ?_) fun _ _ _ z => z
  obtain ⟨⟨w, rfl, w1, w2⟩, k2, hs2⟩ := hd
  simp only [gN_eq, WG_some, List.set_cons_succ, List.set_cons_zero, WS_ret, Wp_eTup, Wp_aCons, Wp_aNil, Wp_eV, Wp_eOp, Wp_eC, Wp_eCall, List.getElem?_cons_succ, List.getElem?_cons_zero, Option.some.injEq, exists_eq_left', lx0, lx1, Wp_ok, oAdd_ii]
  refine ⟨rfl, (draw_gn hs2 (by omega) (m := 7) (by omega) (by omega)).use fun d s3 hd hk3 hs3 => ?_⟩
  obtain ⟨v, rfl, hv⟩ := hd
  refine ⟨by simp, h ⟨k, a, c, w, v⟩ s3 ⟨⟨hk, nameS_ok na, nameS_ok nc, w1, by show (0 : Int) ≤ v; omega, by show (v : Int) < 1000; omega⟩, na, nc, w2⟩ ((hkp.trans k2).trans hk3) hs3⟩
theorem plain_gn {n b : Nat} {fs : List Str} (hS : Src n b st) (hb : b + 9 ≤ 100000) (h2 : 2 ≤ fs.length) (h3 : fs.length ≤ 3) (hf : ∀ x ∈ fs, nameS x = true) : Gn n 9 b st (L_plain [.cel n, .lst (fs.map D.str), .int 6] st) (fun d => ∃ p : PR, d = p.d ∧ p.Good) := by
  have hn := hS.lt
  have hne : fs.map D.str ≠ [] := by intro z; rw [List.map_eq_nil_iff] at z; rw [z] at h2; simp at h2
  have hlen : (fs.map D.str).length < 1000000 := by simp; omega
  unfold Gn
  rw [L_plain, m_plain]
  simp only [Wp_run, WS_seq, WS_par, Wp_eCall, Wp_aCons, Wp_aNil, Wp_eV, Wp_eLst, Wp_eC, startE3]
  simp
  refine (pick_mk (t := false) (xs := [.str "since", .str "since", .str "soon"]) hS (by omega) (by simp) (by simp)).use fun d s1 hd hk1 hs1 => ?_
  have hkd : ∃ k : Str, d = .str k ∧ (k = "since" ∨ k = "soon") := by
    simp only [List.mem_cons, List.not_mem_nil, or_false] at hd
    rcases hd with rfl | rfl | rfl
    · exact ⟨_, rfl, .inl rfl⟩
    · exact ⟨_, rfl, .inl rfl⟩
    · exact ⟨_, rfl, .inr rfl⟩
  obtain ⟨k, rfl, hk⟩ := hkd
  refine (pick_mk (t := false) (xs := fs.map D.str) hs1 (by omega) hne hlen).use fun d s2 hd hk2 hs2 => ?_
  obtain ⟨a, ha, rfl⟩ := List.mem_map.mp hd
  refine (pick_mk (t := false) (xs := fs.map D.str) hs2 (by omega) hne hlen).use fun d s3 hd hk3 hs3 => ?_
  obtain ⟨c, hc, rfl⟩ := List.mem_map.mp hd
  have sa := nameS_ok (hf a ha)
  have sc := nameS_ok (hf c hc)
  have kp3 : Keep n st s3 := (hk1.trans hk2).trans hk3
  simp only [List.set_cons_succ, List.set_cons_zero, WS_if, Wp_bAnd, Wp_tOf, Wp_eOp, Wp_eV, Wp_eC, Wp_eCall, Wp_aCons, Wp_aNil, List.getElem?_cons_succ, List.getElem?_cons_zero, Option.some.injEq, exists_eq_left', lx0, lx1, Wp_ok, oEq_ss sa sc, D.bl.injEq]
  have fin : ∀ (p : PR) (s : Sto), p.Good → Keep n st s → Src n (b + 9) s → (fun d s => (∃ p : PR, d = p.d ∧ p.Good) ∧ Keep n st s ∧ Src n (b + 9) s) p.d s := fun p s hp hkk hss => ⟨⟨p, rfl, hp⟩, hkk, hss⟩
  by_cases hac : a = c
  · simp [hac]
    refine (draw_gn hs3 (by omega) (m := 4) (by omega) (by omega)).use fun d s4 hd hk4 hs4 => ?_
    obtain ⟨v, rfl, hv⟩ := hd
    simp only [oGt_ii, Wp_ok, D.bl.injEq, exists_eq_left']
    by_cases hv0 : 0 < v
    · simp
      refine .inr ⟨hv0, ?_⟩
      refine (order_gn (xs := fs.map D.str) hs4 (by simp; omega) (by simp; omega)).use fun d s5 hd hk5 hs5 => ?_
      obtain ⟨ys, rfl, hy1, hy2⟩ := hd
      rw [List.length_map] at hy1
      have hadd : oAdd (.lst ys) (.lst (fs.map D.str)) s5 = .ok (.lst (ys ++ fs.map D.str)) s5 := by
        simp [oAdd, lstOf]
        omega
      rw [hadd, Wp_ok]
      match ys, hy1, hy2 with
      | y1 :: y2 :: yr, hy1, hy2 =>
        obtain ⟨a', ha', rfl⟩ := List.mem_map.mp (hy2 y1 (by simp))
        obtain ⟨c', hc', rfl⟩ := List.mem_map.mp (hy2 y2 (by simp))
        simp [slO, seqOf, cut_to2]
        rw [List.length_map] at hs5
        exact pend_ok hk ⟨a', c', ha', hc', rfl⟩ hf hs5 (by omega) ((kp3.trans hk4).trans hk5) fun p s hp hkk hss => fin p s hp hkk (hss.mono (by omega))
      | [], hy1, _ => simp at hy1; omega
      | [_], hy1, _ => simp at hy1; omega
    · simp
      refine .inl ⟨by omega, ?_⟩
      exact pend_ok hk ⟨c, c, hc, hc, rfl⟩ hf hs4 (by omega) (kp3.trans hk4) fun p s hp hkk hss => fin p s hp hkk (hss.mono (by omega))
  · simp [hac]
    exact pend_ok hk ⟨a, c, ha, hc, rfl⟩ hf hs3 (by omega) kp3 fun p s hp hkk hss => fin p s hp hkk (hss.mono (by omega))
def cR : Nat → Nat
  | 0 => 10
  | d + 1 => 2 * cR d + 10
theorem cR_ge (d : Nat) : 10 ≤ cR d := by cases d <;> simp [cR]
@[simp] theorem startE5 (a b c d e : D) (n : Nat) : startE (n + 5) [a, b, c, d, e] = some a :: some b :: some c :: some d :: some e :: List.replicate n none := by simp [startE]
def RuleIs (d : Nat) (x : D) : Prop := ∃ a : Rl, x = a.d ∧ a.Good ∧ a.dep ≤ d + 1
noncomputable def mRend (self : List D → Sto → Out D) : SM := (sSeq (sAsg (eOp oAdd (eC (.int 1)) (eCall 2 L_draw (aCons (eV 0) (aCons (eOp oSub (eV 3) (eC (.int 1))) aNil)))) (gN 6))
    (sSeq (sAsg (eCall 5 self (aCons (eV 0) (aCons (eV 1) (aCons (eV 2) (aCons (eV 6) (aCons (eOp oSub (eV 4) (eC (.int 1))) aNil)))))) (gN 7))
    (sRet (eTup (aCons (eCall 2 L_pick (aCons (eV 0) (aCons (eLst (aCons (eC (.str "both")) (aCons (eC (.str "either")) aNil))) aNil))) (aCons (eV 7) (aCons (eCall 5 self (aCons (eV 0) (aCons (eV 1) (aCons (eV 2) (aCons (eOp oSub (eV 3) (eV 6)) (aCons (eOp oSub (eV 4) (eC (.int 1))) aNil)))))) aNil)))))))
noncomputable def mRmid (self : List D → Sto → Out D) : SM := (sSeq (sIf (bOr (bAnd (tOf (eOp oLt (eV 3) (eC (.int 2)))) (tOf (eOp oGt (eV 5) (eC (.int 3))))) (bOr (tOf (eOp oLt (eV 5) (eC (.int 3)))) (tOf (eOp oEq (eV 4) (eC (.int 0)))))) (sRet (eCall 3 L_plain (aCons (eV 0) (aCons (eV 1) (aCons (eV 2) aNil))))) sNx)
    (sSeq (sIf (tOf (eOp oEq (eV 5) (eC (.int 3)))) (sRet (eTup (aCons (eC (.str "not")) (aCons (eCall 5 self (aCons (eV 0) (aCons (eV 1) (aCons (eV 2) (aCons (eV 3) (aCons (eOp oSub (eV 4) (eC (.int 1))) aNil)))))) aNil)))) sNx) (mRend self)))
theorem m_rule (self : List D → Sto → Out D) : m_L_rule self = (sSeq (sAsg (eCall 2 L_draw (aCons (eV 0) (aCons (eC (.int 6)) aNil))) (gN 5)) (mRmid self)) := rfl
theorem four_tests {A B C E : EM Bool} {env : Env'} {a b c d : Bool} (hA : A env st = .ok a st) (hB : B env st = .ok b st) (hC : C env st = .ok c st) (hD : E env st = .ok d st) : (bOr (bAnd A B) (bOr C E)) env st = .ok ((a && b) || (c || d)) st := by
  unfold bOr bAnd
  cases a <;> cases b <;> cases c <;> cases d <;> simp [hA, hB, hC, hD]
theorem rule_gn {n : Nat} {fs : List Str} (h2 : 2 ≤ fs.length) (h3 : fs.length ≤ 3) (hf : ∀ x ∈ fs, nameS x = true) : ∀ (k dd mm b : Nat) (st : Sto), dd < k → 1 ≤ mm → mm ≤ 3 → Src n b st → b + cR dd ≤ 100000 → Gn n (cR dd) b st (L_rule k [.cel n, .lst (fs.map D.str), .int 6, .int mm, .int dd] st) (RuleIs dd)
  | 0, dd, mm, b, st, h, _, _, _, _ => by omega
  | k + 1, dd, mm, b, st, h, m1, m3, hS, hb => by
    have hcg := cR_ge dd
    unfold Gn
    rw [L_rule, m_rule]
    simp only [Wp_run, WS_seq, WS_asg, Wp_eCall, Wp_aCons, Wp_aNil, Wp_eV, Wp_eC, startE5]
    simp
    refine (draw_gn hS (by omega) (m := 6) (by omega) (by omega)).use fun d s1 hd hk1 hs1 => ?_
    obtain ⟨v, rfl, hv⟩ := hd
    have hplain : Wp (L_plain [.cel n, .lst (fs.map D.str), .int 6] s1) (fun d s => RuleIs dd d ∧ Keep n st s ∧ Src n (b + cR dd) s) E_ :=
      (plain_gn hs1 (by omega) h2 h3 hf).use fun d s hd hk hs => by
        obtain ⟨p, rfl, hp⟩ := hd
        exact ⟨⟨.pl p, rfl, hp, by simp [Rl.dep]⟩, hk1.trans hk, hs.mono (by omega)⟩
    rw [mRmid]
    simp only [WS_seq, WS_if]
    have ht : (bOr (bAnd (tOf (eOp oLt (eV 3) (eC (.int 2)))) (tOf (eOp oGt (eV 5) (eC (.int 3))))) (bOr (tOf (eOp oLt (eV 5) (eC (.int 3)))) (tOf (eOp oEq (eV 4) (eC (.int 0)))))) [some (.cel n), some (.lst (fs.map D.str)), some (.int 6), some (.int mm), some (.int dd), some (.int v), none, none] s1 = .ok ((decide ((mm : Int) < 2) && decide ((3 : Int) < v)) || (decide ((v : Int) < 3) || decide ((dd : Int) = 0))) s1 := four_tests rfl rfl rfl (by simp [tOf, eOp, eV, eC, toB])
    rw [ht, Wp_ok]
    by_cases c : (mm < 2 ∧ 3 < v) ∨ v < 3 ∨ dd = 0
    · have hc : ((decide ((mm : Int) < 2) && decide ((3 : Int) < v)) || (decide ((v : Int) < 3) || decide ((dd : Int) = 0))) = true := by
        rcases c with ⟨c1, c2⟩ | c | c
        · rw [decide_eq_true (show (mm : Int) < 2 by omega), decide_eq_true (show (3 : Int) < v by omega)]; rfl
        · rw [decide_eq_true (show (v : Int) < 3 by omega)]; simp
        · rw [decide_eq_true (show (dd : Int) = 0 by omega)]; simp
      rw [if_pos hc]
      simp only [WS_ret, Wp_eCall, Wp_aCons, Wp_aNil, Wp_eV, List.getElem?_cons_succ, List.getElem?_cons_zero, Option.some.injEq, exists_eq_left']
      exact ⟨rfl, hplain⟩
    · have hc : ¬ ((decide ((mm : Int) < 2) && decide ((3 : Int) < v)) || (decide ((v : Int) < 3) || decide ((dd : Int) = 0))) = true := by
        intro z
        simp only [Bool.or_eq_true, Bool.and_eq_true, decide_eq_true_eq] at z
        exact c (by omega)
      rw [if_neg hc]
      obtain ⟨e, rfl⟩ : ∃ e, dd = e + 1 := ⟨dd - 1, by omega⟩
      have hce := cR_ge e
      have hcr : cR (e + 1) = 2 * cR e + 10 := rfl
      have ed : ∀ s : Sto, oSub (.int ((e + 1 : Nat) : Int)) (.int 1) s = .ok (.int (e : Nat)) s := by
        intro s
        rw [oSub_ii, show (((e + 1 : Nat) : Int) - 1) = ((e : Nat) : Int) by omega]
      have ht2 : tOf (eOp oEq (eV 5) (eC (.int 3))) [some (.cel n), some (.lst (fs.map D.str)), some (.int 6), some (.int mm), some (.int ((e + 1 : Nat) : Int)), some (.int v), none, none] s1 = .ok (decide ((v : Int) = 3)) s1 := by simp [tOf, eOp, eV, eC, toB]
      rw [WS_sNx, ht2, Wp_ok]
      by_cases a5 : v = 3
      · rw [if_pos (decide_eq_true (show (v : Int) = 3 by omega))]
        simp only [WS_ret, Wp_eTup, Wp_eCall, Wp_aCons, Wp_aNil, Wp_eV, Wp_eOp, Wp_eC, List.getElem?_cons_succ, List.getElem?_cons_zero, Option.some.injEq, exists_eq_left', ed, Wp_ok]
        refine ⟨rfl, ?_⟩
        refine (rule_gn h2 h3 hf k e mm (b + 1) s1 (by omega) m1 m3 hs1 (by omega)).use fun d s hd hk hs => ?_
        obtain ⟨a, rfl, ga, da⟩ := hd
        exact ⟨by simp, ⟨.no a, rfl, ga, by simp [Rl.dep]; omega⟩, hk1.trans hk, hs.mono (by omega)⟩
      · rw [if_neg (by rw [decide_eq_true_eq]; omega)]
        have em : oSub (.int (mm : Int)) (.int 1) s1 = .ok (.int ((mm - 1 : Nat) : Int)) s1 := by
          rw [oSub_ii, show ((mm : Int) - 1) = ((mm - 1 : Nat) : Int) by omega]
        simp only [WS_sNx, mRend, WS_seq, WS_asg, WS_ret, Wp_eOp, Wp_eTup, Wp_aCons, Wp_aNil, Wp_eCall, Wp_eV, Wp_eC, Wp_eLst, List.getElem?_cons_succ, List.getElem?_cons_zero, Option.some.injEq, exists_eq_left', em, Wp_ok, ed]
        refine ⟨rfl, (draw_gn hs1 (by omega) (m := ((mm - 1 : Nat) : Int)) (by omega) (by omega)).use fun d s2 hd hk2 hs2 => ?_⟩
        obtain ⟨u, rfl, hu⟩ := hd
        simp only [ed, oAdd_ii, Wp_ok, gN_eq, WG_some, List.set_cons_succ, List.set_cons_zero, List.getElem?_cons_succ, List.getElem?_cons_zero, Option.some.injEq, exists_eq_left', show (1 + (u : Int)) = ((1 + u : Nat) : Int) by omega]
        refine ⟨rfl, (rule_gn h2 h3 hf k e (1 + u) (b + 1 + 1) s2 (by omega) (by omega) (by omega) hs2 (by omega)).use fun d s3 hd hk3 hs3 => ?_⟩
        obtain ⟨a, rfl, ga, da⟩ := hd
        refine ⟨by simp, rfl, (pick_mk (t := false) (xs := [.str "both", .str "either"]) hs3 (by omega) (by simp) (by simp)).use fun d s4 hd hk4 hs4 => ?_⟩
        have es : oSub (.int (mm : Int)) (.int ((1 + u : Nat) : Int)) s4 = .ok (.int ((mm - (1 + u) : Nat) : Int)) s4 := by
          rw [oSub_ii, show ((mm : Int) - ((1 + u : Nat) : Int)) = ((mm - (1 + u) : Nat) : Int) by omega]
        rw [es, Wp_ok]
        refine ⟨rfl, (rule_gn h2 h3 hf k e (mm - (1 + u)) _ s4 (by omega) (by omega) (by omega) hs4 (by omega)).use fun d5 s5 hd5 hk5 hs5 => ?_⟩
        obtain ⟨a2, rfl, ga2, da2⟩ := hd5
        refine ⟨by simp, ?_, (((hk1.trans hk2).trans hk3).trans hk4).trans hk5, hs5.mono (by omega)⟩
        simp only [List.mem_cons, List.not_mem_nil, or_false] at hd
        rcases hd with rfl | rfl
        · exact ⟨.two true a a2, rfl, ⟨ga, ga2⟩, by simp [Rl.dep]; omega⟩
        · exact ⟨.two false a a2, rfl, ⟨ga, ga2⟩, by simp [Rl.dep]; omega⟩
end Q
end DL

set_option Elab.async false
set_option linter.all false
set_option maxRecDepth 100000
set_option maxHeartbeats 1000000
namespace DL
open PySem PySem.Spec PyProof.Rows L2
namespace Q
variable {st : Sto}
def cS : Rl → Nat
  | .pl _ => 1
  | .no r => 1 + cS r
  | .two _ r s => 1 + cS r + cS s
theorem cS_le : ∀ a : Rl, cS a + 1 ≤ 2 ^ a.dep
  | .pl _ => by simp [cS, Rl.dep]
  | .no r => by
    have := cS_le r
    simp only [cS, Rl.dep, Nat.pow_succ]
    omega
  | .two _ r s => by
    have h1 := cS_le r
    have h2 := cS_le s
    have e1 : 2 ^ r.dep ≤ 2 ^ max r.dep s.dep := Nat.pow_le_pow_right (by omega) (by omega)
    have e2 : 2 ^ s.dep ≤ 2 ^ max r.dep s.dep := Nat.pow_le_pow_right (by omega) (by omega)
    simp only [cS, Rl.dep, Nat.pow_succ]
    omega
theorem Wp_lc1 {P : D → Sto → Prop} {E : EK} {me : EM D} {env0 : Env'} {i : Nat} {d : D} {ds acc : List D} (h : Wp (me (env0.set i (some d)) st) (fun y s => acc.length < 100000 ∧ Wp (lcM (gN i) tT me env0 ds (acc ++ [y]) s) P E) E_) : Wp (lcM (gN i) tT me env0 (d :: ds) acc st) P E := by
  unfold lcM
  simp only [gN_eq, tT, if_true]
  cases q : me (env0.set i (some d)) st with
  | err c fs s => rw [q] at h; exact h.elim
  | bad => rw [q] at h; exact h.elim
  | ok y s =>
    rw [q] at h
    obtain ⟨h1, h2⟩ := (show acc.length < 100000 ∧ Wp (lcM (gN i) tT me env0 ds (acc ++ [y]) s) P E from h)
    show Wp (if acc.length < 100000 then _ else _) P E
    rw [if_pos h1]
    exact h2
theorem Wp_lc0 {P : D → Sto → Prop} {E : EK} {me : EM D} {env0 : Env'} {i : Nat} {acc : List D} (h : P (.lst acc) st) : Wp (lcM (gN i) tT me env0 [] acc st) P E := h
noncomputable def meS (self : List D → Sto → Out D) : EM D := (eIf (tOf (eIsa "tuple" (eV 3))) (eCall 2 self (aCons (eV 0) (aCons (eV 3) aNil))) (eV 3))
theorem m_shown (self : List D → Sto → Out D) : m_L_shown_rule self = (sSeq (sAsg (eLc (iSq (eV 1)) (gN 3) tT (meS self) [3]) (gN 2))
    (sRet (eCall 2 L_pick (aCons (eV 0) (aCons (eLst (aCons (eV 2) (aCons (eCB tupleO (aCons (eV 2) aNil)) aNil))) aNil))))) := rfl
theorem Rl.dtup (a : Rl) : ∃ xs, a.d = .tup xs := by
  cases a with
  | pl p => exact ⟨_, rfl⟩
  | no r => exact ⟨_, rfl⟩
  | two b r s => cases b <;> exact ⟨_, rfl⟩
theorem meS_str {self : List D → Sto → Out D} {n : Nat} {a : D} {s : Str} {P : D → Sto → Prop} (h : P (.str s) st) : Wp (meS self ([some (.cel n), some a, none, none].set 3 (some (.str s))) st) P E_ := by
  simp [meS, tyN, isaB]
  exact h
theorem meS_int {self : List D → Sto → Out D} {n : Nat} {a : D} {s : Int} {P : D → Sto → Prop} (h : P (.int s) st) : Wp (meS self ([some (.cel n), some a, none, none].set 3 (some (.int s))) st) P E_ := by
  simp [meS, tyN, isaB]
  exact h
theorem meS_rl {self : List D → Sto → Out D} {n : Nat} {a : D} {r : Rl} {P : D → Sto → Prop} (h : Wp (self [.cel n, r.d] st) P E_) : Wp (meS self ([some (.cel n), some a, none, none].set 3 (some r.d)) st) P E_ := by
  obtain ⟨xs, e⟩ := r.dtup
  rw [e] at h ⊢
  simp [meS, tyN, isaB]
  exact h
theorem shown_end {n b : Nat} {q x3 : Option D} {xs : List D} {P : D → Sto → Prop} {N : Env' → Sto → Prop} {st0 : Sto} (hS : Src n b st) (hb : b + 1 ≤ 100000) (hk : Keep n st0 st) (h : ∀ (t : Bool) (s : Sto), Keep n st0 s → Src n (b + 1) s → P (mk t xs) s) :
    WS (sRet (eCall 2 L_pick (aCons (eV 0) (aCons (eLst (aCons (eV 2) (aCons (eCB tupleO (aCons (eV 2) aNil)) aNil))) aNil))) [some (.cel n), q, some (.lst xs), x3] st) N P E_ := by
  have e1 : tupleO [.lst xs] st = .ok (.tup xs) st := mk_tuple false xs
  simp only [WS_ret, Wp_eCall, Wp_aCons, Wp_aNil, Wp_eV, Wp_eLst, Wp_eCB, List.getElem?_cons_succ, List.getElem?_cons_zero, Option.some.injEq, exists_eq_left', e1, Wp_ok]
  refine ⟨by simp, rfl, (pick_mk (t := false) (xs := [.lst xs, .tup xs]) hS (by omega) (by simp) (by simp)).use fun d s hd hk2 hs => ?_⟩
  simp only [List.mem_cons, List.not_mem_nil, or_false] at hd
  rcases hd with rfl | rfl
  · exact h false s (hk.trans hk2) hs
  · exact h true s (hk.trans hk2) hs
theorem shown_gn {n : Nat} : ∀ (k : Nat) (a : Rl) (b : Nat) (st : Sto), a.dep ≤ k → Src n b st → b + cS a ≤ 100000 → Gn n (cS a) b st (L_shown_rule k [.cel n, a.d] st) (ShR a)
  | 0, a, b, st, h, _, _ => by cases a <;> simp [Rl.dep] at h
  | k + 1, .pl p, b, st, h, hS, hb => by
    unfold Gn
    rw [L_shown_rule, m_shown]
    simp only [Wp_run, WS_seq, WS_asg, Wp_eLc, Wp_iSq, Wp_eV, startE2]
    refine ⟨_, rfl, _, rfl, ?_⟩
    refine Wp_lc1 (meS_str ⟨by simp, ?_⟩)
    refine Wp_lc1 (meS_str ⟨by simp, ?_⟩)
    refine Wp_lc1 (meS_str ⟨by simp, ?_⟩)
    refine Wp_lc1 (meS_str ⟨by simp, ?_⟩)
    refine Wp_lc1 (meS_int ⟨by simp, ?_⟩)
    refine Wp_lc0 ?_
    exact shown_end (xs := p.l) hS hb (Keep.refl _ _) fun t s hk hs => ⟨.pl t p, hk, hs⟩
  | k + 1, .no r, b, st, h, hS, hb => by
    have hb' : b + (1 + cS r) ≤ 100000 := hb
    unfold Gn
    rw [L_shown_rule, m_shown]
    simp only [Wp_run, WS_seq, WS_asg, Wp_eLc, Wp_iSq, Wp_eV, startE2]
    refine ⟨_, rfl, _, rfl, ?_⟩
    refine Wp_lc1 (meS_str ⟨by simp, ?_⟩)
    refine Wp_lc1 (meS_rl ?_)
    refine (shown_gn k r b st (by simp [Rl.dep] at h; omega) hS (by omega)).use fun d s hd hk hs => ⟨by simp, Wp_lc0 ?_⟩
    exact shown_end (xs := [.str "not", d]) hs (by omega) hk fun t s hk hs => ⟨.no t hd, hk, hs.mono (by simp only [cS]; omega)⟩
  | k + 1, .two w r r2, b, st, h, hS, hb => by
    have hb' : b + (1 + cS r + cS r2) ≤ 100000 := hb
    unfold Gn
    rw [L_shown_rule, m_shown]
    simp only [Wp_run, WS_seq, WS_asg, Wp_eLc, Wp_iSq, Wp_eV, startE2]
    have ed : Rl.d (.two w r r2) = .tup [.str (twoW w), r.d, r2.d] := by cases w <;> rfl
    refine ⟨_, rfl, [.str (twoW w), r.d, r2.d], by rw [ed]; rfl, ?_⟩
    refine Wp_lc1 (meS_str ⟨by simp, ?_⟩)
    refine Wp_lc1 (meS_rl ?_)
    refine (shown_gn k r b st (by simp [Rl.dep] at h; omega) hS (by omega)).use fun d s hd hk hs => ⟨by simp, ?_⟩
    refine Wp_lc1 (meS_rl ?_)
    refine (shown_gn k r2 (b + cS r) s (by simp [Rl.dep] at h; omega) hs (by omega)).use fun d2 s2 hd2 hk2 hs2 => ⟨by simp, Wp_lc0 ?_⟩
    exact shown_end (xs := [.str (twoW w), d, d2]) hs2 (by omega) (hk.trans hk2) fun t s hk hs => ⟨.two t w hd hd2, hk, hs.mono (by simp only [cS]; omega)⟩
end Q
end DL

set_option Elab.async false
set_option linter.all false
set_option maxRecDepth 100000
set_option maxHeartbeats 1000000
namespace DL
open PySem PySem.Spec PyProof.Rows L2
namespace Q
variable {st : Sto}
def SI (ns : List Int) (ds : List D) (env : Env') (s : Sto) : Prop := ∃ (g sd : Int) (x : Option D) (zs : List Int), ds = zs.map D.int ∧ env = [some (.scr ns), some (.int g), some (.int sd), x] ∧ 0 ≤ sd ∧ sd < 2147483647 ∧ s = []
def bdSrc : SM := (sSeq (sIf (bAnd (tOf (eOp oEq (eV 1) (eC (.int 0)))) (tOf (eOp oGe (eV 3) (eOp oPow (eC (.int 10)) (eC (.int 18)))))) (sAsg (eV 3) (gN 1)) sNx)
    (sAsg (eOp oMod (eCB intO (aCons (eOp oAdd (eOp oAdd (eOp oMul (eV 2) (eC (.int 37))) (eV 3)) (eC (.int 5))) aNil)) (eC (.int 2147483647))) (gN 2)))
theorem m_src : m_L_source = (sSeq (sAsg (eTup (aCons (eC (.int 0)) (aCons (eC (.int 23)) aNil))) (gT 2 (gsCons (gN 1) (gsCons (gN 2) gsNil))))
    (sSeq (sFor (iSq (eV 0)) (gN 3) bdSrc) (sRet (eCel (aCons (eV 1) (aCons (eV 2) (aCons (eC (.int 0)) aNil))))))) := rfl
theorem src_tail {S : D} {g sd z : Int} {N : Env' → Sto → Prop} {R : D → Sto → Prop} {E : EK} (h0 : 0 ≤ sd) (h1 : sd < 2147483647) (h : ∀ sd', 0 ≤ sd' → sd' < 2147483647 → N [some S, some (.int g), some (.int sd'), some (.int z)] st) :
    WS (sAsg (eOp oMod (eCB intO (aCons (eOp oAdd (eOp oAdd (eOp oMul (eV 2) (eC (.int 37))) (eV 3)) (eC (.int 5))) aNil)) (eC (.int 2147483647))) (gN 2) [some S, some (.int g), some (.int sd), some (.int z)] st) N R E := by
  obtain ⟨m, hm, _⟩ := mul_ex (st := st) (a := sd) (b := 37) (cMul_r (by omega) (by omega))
  obtain ⟨x, hx, x0, x1⟩ := mod_ex (st := st) (m + z + 5) (m := 2147483647) (by omega)
  simp only [WS_asg, Wp_eOp, Wp_eCB, Wp_aCons, Wp_aNil, Wp_eV, Wp_eC, List.getElem?_cons_succ, List.getElem?_cons_zero, Option.some.injEq, exists_eq_left', hm, Wp_ok, oAdd_ii, intO_i, hx, gN_eq, WG_some, List.set_cons_succ, List.set_cons_zero]
  exact h x x0 x1
theorem source_ok (ns : List Int) : Wp (L_source [.scr ns] []) (fun d s => d = .cel 0 ∧ Src 0 0 s) E_ := by
  rw [L_source, m_src]
  simp only [Wp_run, WS_seq, WS_asg, Wp_eTup, Wp_aCons, Wp_aNil, Wp_eC, gT, gsCons, gsNil, startE1, List.replicate, List.length_cons, List.length_nil, gN_eq, List.set_cons_succ, List.set_cons_zero, WG_some, if_true, WS_for, Wp_iSq, Wp_eV, List.getElem?_cons_zero, Option.some.injEq, exists_eq_left']
  refine ⟨by simp, _, rfl, ?_⟩
  refine WS_forM (SI ns) (fun d ds env s hI => ?_) (fun env s hI => ?_) _ _ _ ⟨0, 23, _, ns, rfl, rfl, by omega, by omega, rfl⟩
  · obtain ⟨g, sd, x, zs, hds, rfl, h0, h1, rfl⟩ := hI
    cases zs with
    | nil => cases hds
    | cons z zs =>
      rw [List.map_cons] at hds
      obtain ⟨rfl, rfl⟩ := List.cons.inj hds
      obtain ⟨w, hw⟩ := pow_ex (st := []) (a := 10) 18 (by omega) (by omega) (by omega) (by omega)
      simp only [gN_eq, WG_some, List.set_cons_succ, List.set_cons_zero, bdSrc, WS_seq, WS_if, Wp_bAnd, Wp_tOf, Wp_eOp, Wp_eV, Wp_eC, List.getElem?_cons_succ, List.getElem?_cons_zero, Option.some.injEq, exists_eq_left', oEq_ii, Wp_ok, D.bl.injEq, hw, oGe_ii]
      have fin : ∀ g' : Int, WS (sAsg (eOp oMod (eCB intO (aCons (eOp oAdd (eOp oAdd (eOp oMul (eV 2) (eC (.int 37))) (eV 3)) (eC (.int 5))) aNil)) (eC (.int 2147483647))) (gN 2) [some (.scr ns), some (.int g'), some (.int sd), some (.int z)] []) (fun e s => SI ns (zs.map D.int) e s) (fun d s => d = .cel 0 ∧ Src 0 0 s) E_ := fun g' => src_tail h0 h1 fun sd' a b => ⟨g', sd', _, zs, rfl, rfl, a, b, rfl⟩
      by_cases c1 : g = 0
      · rw [if_pos (decide_eq_true c1)]
        by_cases c2 : w ≤ z
        · rw [if_pos (decide_eq_true c2)]
          rw [WS_asg, Wp_eV]
          exact ⟨_, rfl, fin z⟩
        · rw [if_neg (by rw [decide_eq_true_eq]; exact c2), WS_sNx]
          exact fin g
      · rw [if_neg (by rw [decide_eq_true_eq]; exact c1)]
        simp only [Bool.false_eq_true, if_false, WS_sNx]
        exact fin g
  · obtain ⟨g, sd, x, zs, hds, rfl, h0, h1, rfl⟩ := hI
    simp only [WS_ret, Wp_eCel, Wp_aCons, Wp_aNil, Wp_eV, Wp_eC, List.getElem?_cons_succ, List.getElem?_cons_zero, Option.some.injEq, exists_eq_left']
    exact ⟨by simp, rfl, g, sd, 0, rfl, by omega, by omega, by omega, by omega⟩
mutual
theorem eqv_refl : ∀ x : PyData, PyData.canLay0 x = true → PyData.eqv x x = true
  | .none, _ => by simp [PyData.eqv]
  | .bool b, _ => by simp [PyData.eqv]
  | .int i, _ => by simp [PyData.eqv]
  | .str s, _ => by simp [PyData.eqv]
  | .list xs, h => by
    simp only [PyData.eqv]
    exact eqvAll_refl xs (by simpa [PyData.canLay0] using h)
  | .tuple xs, h => by
    simp only [PyData.eqv]
    exact eqvAll_refl xs (by simpa [PyData.canLay0] using h)
  | .dict _, h => by simp [PyData.canLay0] at h
theorem eqvAll_refl : ∀ xs : List PyData, PyData.canLayAll0 xs = true → PyData.eqvAll xs xs = true
  | [], _ => by simp [PyData.eqvAll]
  | x :: xs, h => by
    simp only [PyData.canLayAll0, Bool.and_eq_true] at h
    simp only [PyData.eqvAll, eqv_refl x h.1, eqvAll_refl xs h.2, Bool.and_self]
end
theorem ne_self {d : D} (h : fineD d = true) : oNe d d st = .ok (.bl false) st := by
  unfold oNe
  rw [h]
  have h2 : PyData.canLay0 (pyD d) = true := by
    unfold fineD at h
    simp only [Bool.and_eq_true] at h
    have := h.2
    unfold SeqAt.shaped at this
    simp only [Bool.and_eq_true] at this
    exact this.1
  simp [eqv_refl _ h2]
theorem so_plain : PyData.strOk "plain" = true := by decide +kernel
theorem mk_py (t : Bool) (xs : List D) : plainD (mk t xs) = plainDs xs ∧ PyData.canLay0 (pyD (mk t xs)) = PyData.canLayAll0 (pyDs xs) ∧ PyData.depth (pyD (mk t xs)) = PyData.depthAll (pyDs xs) + 1 := by
  cases t <;> simp [mk, plainD, pyD, PyData.canLay0, PyData.depth]
theorem sh_py : ∀ {a : Rl} {d : D}, ShR a d → a.Good → plainD d = true ∧ PyData.canLay0 (pyD d) = true ∧ PyData.depth (pyD d) ≤ a.dep
  | _, _, .pl t p, h => by
    obtain ⟨h1, h2, h3⟩ := mk_py t p.l
    have hk : PyData.strOk p.kind = true := by rcases (PR.Good.toOk h).k with q | q <;> rw [q] <;> first | exact so_since | exact so_soon
    have hw : PyData.strOk p.w = true := by rcases (PR.Good.toOk h).w with q | q | q | q <;> rw [q] <;> first | exact so_upto | exact so_below | exact so_from | exact so_above
    rw [h1, h2, h3]
    refine ⟨by simp [PR.l, plainDs, plainD], by simp [PR.l, pyDs, pyD, PyData.canLayAll0, PyData.canLay0, hk, hw, (PR.Good.toOk h).a, (PR.Good.toOk h).b], by simp [PR.l, pyDs, pyD, PyData.depthAll, PyData.depth, Rl.dep]⟩
  | .no r, _, .no t (d := d) hs, h => by
    obtain ⟨g1, g2, g3⟩ := sh_py hs h
    obtain ⟨h1, h2, h3⟩ := mk_py t [.str "not", d]
    rw [h1, h2, h3]
    refine ⟨by simp [plainDs, plainD, g1], by simp [pyDs, pyD, PyData.canLayAll0, PyData.canLay0, so_not, g2], by simp [pyDs, pyD, PyData.depthAll, PyData.depth, Rl.dep]; omega⟩
  | .two b r r2, _, .two t _ (d := d) (e := e) hs hs2, h => by
    obtain ⟨g1, g2, g3⟩ := sh_py hs h.1
    obtain ⟨k1, k2, k3⟩ := sh_py hs2 h.2
    obtain ⟨h1, h2, h3⟩ := mk_py t [.str (twoW b), d, e]
    have hb : PyData.strOk (twoW b) = true := by cases b <;> first | exact so_both | exact so_either
    rw [h1, h2, h3]
    refine ⟨by simp [plainDs, plainD, g1, k1], by simp [pyDs, pyD, PyData.canLayAll0, PyData.canLay0, hb, g2, k2], by simp [pyDs, pyD, PyData.depthAll, PyData.depth, Rl.dep]; omega⟩
end Q
end DL

set_option Elab.async false
set_option linter.all false
set_option maxRecDepth 100000
set_option maxHeartbeats 1000000
namespace DL
open PySem PySem.Spec PyProof.Rows L2
namespace Q
variable {st : Sto}
/-! ### rules that are refused -/
abbrev pF (ps : List D) : List (Str × D) := [(("path" : Str), D.tup ps)]
/-- refused at the path, from the depth k on -/
def BadAt (k : Nat) (d : D) (path : List D) : Prop := ∀ (n : Nat) (ps : List D) (st : Sto), k ≤ n → ps.length + n ≤ 1000 → rule_at n [d, .tup ps] st = .err "BadRule" (pF (ps ++ path)) st
theorem BadAt.mono {k k' : Nat} {d : D} {path : List D} (h : BadAt k d path) (hk : k ≤ k') : BadAt k' d path := fun n ps st h1 h2 => h n ps st (by omega) h2
theorem bad_notlist {d : D} (h : isFn d = false) (hl : isL d = false) : BadAt 1 d [] := by
  intro n ps st hn _
  match n, hn with
  | n + 1, _ =>
    apply err_of
    simp [rule_at, m_rule_at, is_list_eq h, hl]
theorem bad_empty (t : Bool) : BadAt 1 (mk t []) [] := by
  intro n ps st hn _
  match n, hn with
  | n + 1, _ =>
    apply err_of
    simp [rule_at, m_rule_at]
theorem bad_first {x : D} {r : List D} (t : Bool) (h : isFn x = false) (hs : isaB (tyN x) "str" = false) : BadAt 1 (mk t (x :: r)) [] := by
  intro n ps st hn _
  match n, hn with
  | n + 1, _ =>
    apply err_of
    have e : ¬ ((r.length : Int) + 1 = 0) := by omega
    simp [rule_at, m_rule_at, mk_ix0, h, hs, e]
theorem kdN {z : Str} (h : kvs5.lookup z = none) : kdIn true [("since", .int 5), ("soon", .int 5), ("not", .int 2), ("both", .int 3), ("either", .int 3)] (.str z) st = .ok (.bl true) st := by
  have h' : ([("since", .int 5), ("soon", .int 5), ("not", .int 2), ("both", .int 3), ("either", .int 3)] : List (Str × D)).lookup z = none := h
  unfold kdIn
  dsimp only
  rw [h']
  rfl
theorem bad_word {z : Str} {r : List D} (t : Bool) (h : kvs5.lookup z = none) : BadAt 1 (mk t (.str z :: r)) [] := by
  intro n ps st hn _
  match n, hn with
  | n + 1, _ =>
    apply err_of
    have e : ¬ ((r.length : Int) + 1 = 0) := by omega
    simp [rule_at, m_rule_at, mk_ix0, e, kdN h, tyN, isaB]
theorem bad_len {z : Str} {r : List D} {m : Int} (t : Bool) (h : kvs5.lookup z = some (.int m)) (hm : ¬ (r.length : Int) + 1 = m) : BadAt 1 (mk t (.str z :: r)) [] := by
  intro n ps st hn _
  match n, hn with
  | n + 1, _ =>
    apply err_of
    have e : ¬ ((r.length : Int) + 1 = 0) := by omega
    simp [rule_at, m_rule_at, mk_ix0, e, kdI h, kdA h, tyN, isaB, hm]
/-- a list whose first is a text that is no name of a kind with that length -/
theorem bad_any {z : Str} {r : List D} (t : Bool) (hm : ∀ m : Int, kvs5.lookup z = some (.int m) → ¬ (r.length : Int) + 1 = m) : BadAt 1 (mk t (.str z :: r)) [] := by
  cases h : kvs5.lookup z with
  | none => exact bad_word t h
  | some d =>
    have key : ∃ m : Int, d = .int m := by
      unfold kvs5 at h
      simp only [List.lookup] at h
      repeat' split at h
      all_goals first | (cases h; exact ⟨_, rfl⟩) | cases h
    obtain ⟨m, rfl⟩ := key
    exact bad_len t h (hm m h)
theorem lcR_bad {n : Nat} {q d : D} {ps path : List D} {k : Nat} {rest acc : List D} {i j : Int} (hb : BadAt k d path) (hk : k ≤ n) (hl : ps.length + n + 1 ≤ 1000) (hj : i + 1 = j) : lcMR (gT 2 (gsCons (gN 5) (gsCons (gN 7) gsNil))) tT (eCall 2 (rule_at n) (aCons (eV 7) (aCons (eTup (aStar (eV 1) (aCons (eOp oAdd (eV 5) (eC (.int 1))) aNil))) aNil))) [some q, some (.tup ps), none, none, none, none, none, none] (.tup [.int i, d] :: rest) acc st = .err "BadRule" (pF (ps ++ .int j :: path)) st := by
  subst hj
  have h1 := hb n (ps ++ [.int (i + 1)]) st hk (by simp; omega)
  have e : (eCall 2 (rule_at n) (aCons (eV 7) (aCons (eTup (aStar (eV 1) (aCons (eOp oAdd (eV 5) (eC (.int 1))) aNil))) aNil))) [some q, some (.tup ps), none, none, none, some (.int i), none, some d] st = .err "BadRule" (pF (ps ++ .int (i + 1) :: path)) st := by
    apply err_of
    have hz : ps.length + 1 ≤ 100000 := by omega
    simp [seqOf, hz, h1]
  unfold lcMR
  simp [gT, gsCons, gsNil, tT, e]
theorem lcR_good {n : Nat} {q d : D} {ps : List D} {a : Rl} {rest acc : List D} {i : Int} (hs : ShR a d) (hg : a.Good) (hd : a.dep ≤ n) (hl : ps.length + n + 1 ≤ 1000) (ha : acc.length < 100000) : lcMR (gT 2 (gsCons (gN 5) (gsCons (gN 7) gsNil))) tT (eCall 2 (rule_at n) (aCons (eV 7) (aCons (eTup (aStar (eV 1) (aCons (eOp oAdd (eV 5) (eC (.int 1))) aNil))) aNil))) [some q, some (.tup ps), none, none, none, none, none, none] (.tup [.int i, d] :: rest) acc st = lcMR (gT 2 (gsCons (gN 5) (gsCons (gN 7) gsNil))) tT (eCall 2 (rule_at n) (aCons (eV 7) (aCons (eTup (aStar (eV 1) (aCons (eOp oAdd (eV 5) (eC (.int 1))) aNil))) aNil))) [some q, some (.tup ps), none, none, none, none, none, none] rest (acc ++ [a.d]) st := by
  have h1 := rule_eq (st := st) n (ps ++ [.int (i + 1)]) hs hg hd (by simp; omega)
  have e : (eCall 2 (rule_at n) (aCons (eV 7) (aCons (eTup (aStar (eV 1) (aCons (eOp oAdd (eV 5) (eC (.int 1))) aNil))) aNil))) [some q, some (.tup ps), none, none, none, some (.int i), none, some d] st = .ok a.d st := by
    apply Wp.eq
    have hz : ps.length + 1 ≤ 100000 := by omega
    simp [seqOf, hz, h1]
  rw [lcMR]
  simp [gT, gsCons, gsNil, tT, e, ha]
theorem bad_no {k : Nat} {d : D} {path : List D} (t : Bool) (h : BadAt k d path) : BadAt (k + 1) (mk t [.str "not", d]) (.int 1 :: path) := by
  intro n ps st hn hl
  match n, hn with
  | n + 1, hn =>
    apply err_of
    have hlc := lcR_bad (st := st) (n := n) (q := mk t [.str "not", d]) (i := 0) (j := 1) (rest := []) (acc := []) h (by omega) (by omega : ps.length + n + 1 ≤ 1000) rfl
    simp (decide := true) [rule_at, m_rule_at, mk_ix0, tyN, isaB, kdI kd_not, kdA kd_not, inO, seqOf, fv, fvs, inV2, Wp_eLcR, mk_sl, cut1_2, mk_enum, wipeE, hlc]
theorem kd_two (b : Bool) : kvs5.lookup (twoW b) = some (D.int 3) := by cases b <;> rfl
theorem two_ns (b : Bool) : (decide (twoW b = "since") || decide (twoW b = "soon")) = false := by cases b <;> decide
theorem bad_two1 {k : Nat} {d e : D} {path : List D} (t b : Bool) (h : BadAt k d path) : BadAt (k + 1) (mk t [.str (twoW b), d, e]) (.int 1 :: path) := by
  intro n ps st hn hl
  match n, hn with
  | n + 1, hn =>
    apply err_of
    have hlc := lcR_bad (st := st) (n := n) (q := mk t [.str (twoW b), d, e]) (i := 0) (j := 1) (rest := [.tup [.int 1, e]]) (acc := []) h (by omega) (by omega : ps.length + n + 1 ≤ 1000) rfl
    simp [rule_at, m_rule_at, mk_ix0, tyN, isaB, kdI (kd_two b), kdA (kd_two b), inO, seqOf, fv, fvs, inV2, two_ns b, Wp_eLcR, mk_sl, cut1_3, mk_enum, wipeE, hlc]
theorem bad_two2 {k : Nat} {d e : D} {path : List D} {a : Rl} (t b : Bool) (hs : ShR a d) (hg : a.Good) (hd : a.dep ≤ k) (h : BadAt k e path) : BadAt (k + 1) (mk t [.str (twoW b), d, e]) (.int 2 :: path) := by
  intro n ps st hn hl
  match n, hn with
  | n + 1, hn =>
    apply err_of
    have hlc := lcR_bad (st := st) (n := n) (q := mk t [.str (twoW b), d, e]) (i := 1) (j := 2) (rest := []) (acc := [a.d]) h (by omega) (by omega : ps.length + n + 1 ≤ 1000) rfl
    have hg2 := lcR_good (st := st) (n := n) (q := mk t [.str (twoW b), d, e]) (i := 0) (rest := [.tup [.int 1, e]]) (acc := []) hs hg (by omega) (by omega : ps.length + n + 1 ≤ 1000) (by simp)
    simp only [List.nil_append] at hg2
    rw [hlc] at hg2
    simp [rule_at, m_rule_at, mk_ix0, tyN, isaB, kdI (kd_two b), kdA (kd_two b), inO, seqOf, fv, fvs, inV2, two_ns b, Wp_eLcR, mk_sl, cut1_3, mk_enum, wipeE, hg2]
/-! ### a wrong field -/
def wordD (kind : Str) (d : D) : Bool := match d with
  | .str w => if kind = "soon" then (decide (w = "below") || decide (w = "upto")) else (decide (w = "below") || (decide (w = "upto") || (decide (w = "from") || decide (w = "above"))))
  | _ => false
theorem of_soon {d : D} (h : isFn d = false) : is_of [d, .tup [.str "below", .str "upto"]] st = .ok (.bl (wordD "soon" d)) st := by
  cases d with
  | str w => rw [is_of2]; simp [wordD]
  | _ =>
    apply Wp.eq
    simp [h, is_of, m_is_of, tyN, isaB, wordD]
theorem of_since {d : D} (h : isFn d = false) : is_of [d, .tup [.str "below", .str "upto", .str "from", .str "above"]] st = .ok (.bl (wordD "since" d)) st := by
  cases d with
  | str w => rw [is_of4]; simp (decide := true) [wordD]
  | _ =>
    apply Wp.eq
    simp [h, is_of, m_is_of, tyN, isaB, wordD]
structure Flds (x1 x2 x3 x4 : D) : Prop where
  f1 : isFn x1 = false
  f2 : isFn x2 = false
  f3 : isFn x3 = false
  f4 : isFn x4 = false
  s1 : ∀ s, x1 = .str s → s.length ≤ 100000
  s2 : ∀ s, x2 = .str s → s.length ≤ 100000
/-- the first that is false -/
def firstF : List Bool → Option Nat
  | [] => none
  | false :: _ => some 0
  | true :: r => (firstF r).map (· + 1)
theorem bad_pl {kind : Str} {x1 x2 x3 x4 : D} {i : Nat} (t : Bool) (hk : kind = "since" ∨ kind = "soon") (hf : Flds x1 x2 x3 x4) (h : firstF [nameD x1, nameD x2, wordD kind x3, isNat x4] = some i) : BadAt 1 (mk t [.str kind, x1, x2, x3, x4]) [.int ((i : Int) + 1)] := by
  intro n ps st hn hl
  match n, hn with
  | n + 1, hn =>
    apply err_of
    have n1 := is_name_eq (st := st) hf.f1 hf.s1
    have n2 := is_name_eq (st := st) hf.f2 hf.s2
    have na := is_natural_eq (st := st) hf.f4
    have o1 := of_since (st := st) hf.f3
    have o2 := of_soon (st := st) hf.f3
    have tup : oAdd (.tup [.str "below", .str "upto"]) (.tup [.str "from", .str "above"]) st = .ok (.tup [.str "below", .str "upto", .str "from", .str "above"]) st := by
      simp [oAdd]
    have hz : ps.length + 1 ≤ 100000 := by omega
    generalize nameD x1 = b1 at n1 h
    generalize nameD x2 = b2 at n2 h
    generalize isNat x4 = b4 at na h
    rcases hk with rfl | rfl
    · generalize wordD "since" x3 = b3 at o1 h
      simp (decide := true) [rule_at, m_rule_at, mk_ix0, mk_ix1, mk_ix2, mk_ix3, mk_ix4, tyN, isaB, kdI kd_since, kdA kd_since, inO, seqOf, fv, fvs, inV2, so_since, so_soon, n1, n2, na, tup, o1, WS_for, enumD]
      cases b1
      · simp only [firstF, Option.some.injEq] at h
        subst h
        refine WS_cons ?_; simp [gT, gsCons, gsNil, seqOf, hz]
      · refine WS_cons ?_; simp [gT, gsCons, gsNil]
        cases b2
        · simp only [firstF, Option.some.injEq, Option.map_some] at h
          subst h
          refine WS_cons ?_; simp [gT, gsCons, gsNil, seqOf, hz]
        · refine WS_cons ?_; simp [gT, gsCons, gsNil]
          cases b3
          · simp only [firstF, Option.some.injEq, Option.map_some] at h
            subst h
            refine WS_cons ?_; simp [gT, gsCons, gsNil, seqOf, hz]
          · refine WS_cons ?_; simp [gT, gsCons, gsNil]
            cases b4
            · simp only [firstF, Option.some.injEq, Option.map_some] at h
              subst h
              refine WS_cons ?_; simp [gT, gsCons, gsNil, seqOf, hz]
            · simp [firstF] at h
    · generalize wordD "soon" x3 = b3 at o2 h
      simp (decide := true) [rule_at, m_rule_at, mk_ix0, mk_ix1, mk_ix2, mk_ix3, mk_ix4, tyN, isaB, kdI kd_soon, kdA kd_soon, inO, seqOf, fv, fvs, inV2, so_since, so_soon, n1, n2, na, o2, WS_for, enumD]
      cases b1
      · simp only [firstF, Option.some.injEq] at h
        subst h
        refine WS_cons ?_; simp [gT, gsCons, gsNil, seqOf, hz]
      · refine WS_cons ?_; simp [gT, gsCons, gsNil]
        cases b2
        · simp only [firstF, Option.some.injEq, Option.map_some] at h
          subst h
          refine WS_cons ?_; simp [gT, gsCons, gsNil, seqOf, hz]
        · refine WS_cons ?_; simp [gT, gsCons, gsNil]
          cases b3
          · simp only [firstF, Option.some.injEq, Option.map_some] at h
            subst h
            refine WS_cons ?_; simp [gT, gsCons, gsNil, seqOf, hz]
          · refine WS_cons ?_; simp [gT, gsCons, gsNil]
            cases b4
            · simp only [firstF, Option.some.injEq, Option.map_some] at h
              subst h
              refine WS_cons ?_; simp [gT, gsCons, gsNil, seqOf, hz]
            · simp [firstF] at h
end Q
end DL

set_option Elab.async false
set_option linter.all false
set_option maxRecDepth 100000
set_option maxHeartbeats 1000000
namespace DL
open PySem PySem.Spec PyProof.Rows L2
namespace Q
variable {st : Sto}
/-! ### spoiled rules -/
def Rl.xs : Rl → List D
  | .pl p => p.l
  | .no r => [.str "not", r.d]
  | .two b r s => [.str (twoW b), r.d, s.d]
theorem Rl.dxs (a : Rl) : a.d = .tup a.xs := by
  cases a with
  | pl p => rfl
  | no r => rfl
  | two b r s => cases b <;> rfl
theorem shR_self : ∀ a : Rl, ShR a a.d
  | .pl p => .pl true p
  | .no r => .no true (shR_self r)
  | .two b r s => by
    rw [Rl.dxs]
    exact .two true b (shR_self r) (shR_self s)
/-- refused as it is and as a tuple -/
structure BadF (k : Nat) (odd : D) (qs : List Int) : Prop where
  f : isFn odd = false
  a : BadAt k odd (qs.map D.int)
  t : ∀ xs, odd = .lst xs → BadAt k (.tup xs) (qs.map D.int)
  l : isL odd = true → ∃ xs, odd = .lst xs
theorem BadF.ls (k : Nat) {xs : List D} {qs : List Int} (h : ∀ t, BadAt k (Q.mk t xs) (qs.map D.int)) : BadF k (.lst xs) qs := ⟨rfl, h false, fun ys e => (by cases e; exact h true), fun _ => ⟨xs, rfl⟩⟩
theorem BadF.no {d : D} (h : isFn d = false) (hl : isL d = false) : BadF 1 d [] := ⟨h, bad_notlist h hl, fun xs e => (by subst e; cases hl), fun z => (by rw [hl] at z; cases z)⟩
def SpOk (k : Nat) (d : D) : Prop := ∃ (odd : D) (qs : List Int), d = .tup [odd, .tup (qs.map D.int)] ∧ qs.length ≤ k ∧ BadF k odd qs
theorem BadF.mono {k k' : Nat} {d : D} {qs : List Int} (h : BadF k d qs) (hk : k ≤ k') : BadF k' d qs := ⟨h.f, h.a.mono hk, fun xs e => (h.t xs e).mono hk, h.l⟩
/-! ### odd things in the rule's place -/
def odds (xs : List D) : List D := [.non, .int 5, .str "since", .lst [], .dic, .lst (cutD xs (some 1) none), .lst (xs ++ [.int 0]), .lst (cutD xs none (some (-1))), .lst (.str "SINCE" :: cutD xs (some 1) none), .bl true, .lst (.lst [] :: cutD xs (some 1) none)]
theorem kd_SINCE : kvs5.lookup ("SINCE" : Str) = none := by rfl
theorem no_len {z : Str} {m : Int} (h : kvs5.lookup z = some (.int m)) : m = 5 ∨ m = 2 ∨ m = 3 := by
  unfold kvs5 at h
  simp only [List.lookup] at h
  repeat' split at h
  all_goals first | (cases h; omega) | cases h
theorem isFn_tupd (a : Rl) : isFn a.d = false := by rw [Rl.dxs]; rfl
theorem tyN_d (a : Rl) : isaB (tyN a.d) "str" = false := by rw [Rl.dxs]; rfl
theorem odds_ok (a : Rl) (hg : a.Good) : ∀ d ∈ odds a.xs, BadF 1 d [] := by
  intro d hd
  have hw : kvs5.lookup ("not" : Str) = some (.int 2) := kd_not
  simp only [odds, List.mem_cons, List.not_mem_nil, or_false] at hd
  rcases hd with rfl | rfl | rfl | rfl | rfl | rfl | rfl | rfl | rfl | rfl | rfl
  · exact .no rfl rfl
  · exact .no rfl rfl
  · exact .no rfl rfl
  · exact .ls 1 fun t => bad_empty t
  · exact .no rfl rfl
  · refine .ls 1 fun t => ?_
    cases a with
    | pl p =>
      show BadAt 1 (mk t [.str p.a, .str p.b, .str p.w, .int p.n]) []
      refine bad_any t fun m hm => ?_
      have := no_len hm
      simp; omega
    | no r => exact bad_first t (isFn_tupd r) (tyN_d r)
    | two b r s => exact bad_first t (isFn_tupd r) (tyN_d r)
  · refine .ls 1 fun t => ?_
    cases a with
    | pl p =>
      show BadAt 1 (mk t [.str p.kind, .str p.a, .str p.b, .str p.w, .int p.n, .int 0]) []
      refine bad_any t fun m hm => ?_
      have := no_len hm
      simp; omega
    | no r => exact bad_len t kd_not (by simp)
    | two b r s => exact bad_len t (kd_two b) (by simp)
  · refine .ls 1 fun t => ?_
    cases a with
    | pl p =>
      show BadAt 1 (mk t [.str p.kind, .str p.a, .str p.b, .str p.w]) []
      refine bad_any t fun m hm => ?_
      have := no_len hm
      simp; omega
    | no r => exact bad_len (r := []) t kd_not (by simp)
    | two b r s => exact bad_len (r := [r.d]) t (kd_two b) (by simp)
  · exact .ls 1 fun t => bad_word t kd_SINCE
  · exact .no rfl rfl
  · exact .ls 1 fun t => bad_first t rfl rfl
/-! ### wrong fields -/
def tab (kind : Str) (j : Nat) : List D := match j with
  | 1 => [.non, .str "", .str "A", .str "ninesigns", .int 5, .lst [.str "a"], .dic]
  | 2 => [.non, .str "", .str "A", .str "ninesigns", .int 5, .lst [.str "a"], .dic]
  | 3 => [.non, .str "at", .str "UPTO", .int 0, .lst [], .lst [.str "upto"]] ++ (if kind = "soon" then [.str "from", .str "above"] else [])
  | _ => [.int (-1), .non, .str "1", .bl true, .tup [.int 1, .int 1], .lst [], .bl true]
theorem tab1 {d : D} {kind : Str} (h : d ∈ tab kind 1) : nameD d = false ∧ isFn d = false ∧ ∀ s, d = .str s → s.length ≤ 100000 := by
  simp only [tab, List.mem_cons, List.not_mem_nil, or_false] at h
  rcases h with rfl | rfl | rfl | rfl | rfl | rfl | rfl
  all_goals refine ⟨by decide +kernel, rfl, fun s e => ?_⟩
  all_goals first | (cases e; done) | (cases e; decide +kernel)
theorem tab3 {d : D} {kind : Str} (hk : kind = "since" ∨ kind = "soon") (h : d ∈ tab kind 3) : wordD kind d = false ∧ isFn d = false := by
  rcases hk with rfl | rfl
  · simp (decide := true) only [tab, if_false, List.append_nil, List.mem_cons, List.not_mem_nil, or_false] at h
    rcases h with rfl | rfl | rfl | rfl | rfl | rfl
    all_goals exact ⟨by decide +kernel, rfl⟩
  · simp (decide := true) only [tab, if_true, List.cons_append, List.nil_append, List.mem_cons, List.not_mem_nil, or_false] at h
    rcases h with rfl | rfl | rfl | rfl | rfl | rfl | rfl | rfl
    all_goals exact ⟨by decide +kernel, rfl⟩
theorem tab4 {d : D} {kind : Str} (h : d ∈ tab kind 4) : isNat d = false ∧ isFn d = false := by
  simp only [tab, List.mem_cons, List.not_mem_nil, or_false] at h
  rcases h with rfl | rfl | rfl | rfl | rfl | rfl | rfl
  all_goals exact ⟨by decide +kernel, rfl⟩
def tabD (kind : Str) : D := .dct [Sum.inl 1, Sum.inl 3, Sum.inl 4] [.lst (tab kind 1), .lst (tab kind 3), .lst (tab kind 4)]
theorem tab_len (kind : Str) (j : Nat) : tab kind j ≠ [] ∧ (tab kind j).length < 1000000 := by
  unfold tab
  split
  · simp
  · simp
  · by_cases h : kind = "soon" <;> simp [h]
  · simp
/-- the fields as they stand -/
structure FI (kind : Str) (v : Nat) (ds : List D) : Prop where
  ex : ∃ y1 y2 y3 y4, ds = [.str kind, y1, y2, y3, y4] ∧ Flds y1 y2 y3 y4 ∧ firstF [nameD y1, nameD y2, wordD kind y3, isNat y4] = some v
theorem ff0 (b1 b2 b3 b4 : Bool) : firstF [false, b2, b3, b4] = some 0 := rfl
theorem FI.first {p : PR} (hp : p.Good) {v : Nat} (hv : v < 4) {d : D} (hd : d ∈ tab p.kind (v + 1)) : FI p.kind v (p.l.set (v + 1) d) := by
  have n1 : nameD (.str p.a) = true := hp.na
  have n2 : nameD (.str p.b) = true := hp.nb
  have hw : wordD p.kind (.str p.w) = true := by
    rcases hp.k with hk | hk
    · rw [hk]
      rcases hp.w with h | h | h | h <;> rw [h] <;> decide +kernel
    · rw [hk]
      rcases hp.sw hk with h | h <;> rw [h] <;> decide +kernel
  have nn : isNat (.int p.n) = true := by simp [isNat, hp.n0]
  have la : ∀ s, D.str p.a = .str s → s.length ≤ 100000 := fun s e => by cases e; exact nameS_len hp.na
  have lb : ∀ s, D.str p.b = .str s → s.length ≤ 100000 := fun s e => by cases e; exact nameS_len hp.nb
  match v, hv with
  | 0, _ =>
    obtain ⟨h1, h2, h3⟩ := tab1 hd
    exact ⟨_, _, _, _, rfl, ⟨h2, rfl, rfl, rfl, h3, lb⟩, by simp [firstF, h1]⟩
  | 1, _ =>
    obtain ⟨h1, h2, h3⟩ := tab1 (show d ∈ tab p.kind 1 from hd)
    exact ⟨_, _, _, _, rfl, ⟨rfl, h2, rfl, rfl, la, h3⟩, by simp [firstF, h1, n1]⟩
  | 2, _ =>
    obtain ⟨h1, h2⟩ := tab3 hp.k hd
    exact ⟨_, _, _, _, rfl, ⟨rfl, rfl, h2, rfl, la, lb⟩, by simp [firstF, h1, n1, n2]⟩
  | 3, _ =>
    obtain ⟨h1, h2⟩ := tab4 hd
    exact ⟨_, _, _, _, rfl, ⟨rfl, rfl, rfl, h2, la, lb⟩, by simp [firstF, h1, n1, n2, hw]⟩
theorem ffs {b1 b2 b3 b4 : Bool} {v : Nat} (h : firstF [b1, b2, b3, b4] = some v) : (v < 1 → firstF [b1, false, b3, b4] = some v) ∧ (v < 2 → firstF [b1, b2, false, b4] = some v) ∧ (v < 3 → firstF [b1, b2, b3, false] = some v) := by
  cases b1 <;> cases b2 <;> cases b3 <;> cases b4 <;> simp [firstF] at h ⊢ <;> omega
theorem FI.next {kind : Str} {v j : Nat} {ds : List D} {d : D} (hk : kind = "since" ∨ kind = "soon") (h : FI kind v ds) (h1 : v + 1 < j) (h2 : j ≤ 4) (hd : d ∈ tab kind j) : FI kind v (ds.set j d) := by
  obtain ⟨y1, y2, y3, y4, rfl, hf, hv⟩ := h.ex
  have hs := ffs hv
  match j, h1, h2 with
  | 2, h1, _ =>
    obtain ⟨g1, g2, g3⟩ := tab1 (show d ∈ tab kind 1 from hd)
    exact ⟨_, _, _, _, rfl, ⟨hf.f1, g2, hf.f3, hf.f4, hf.s1, g3⟩, by rw [g1]; exact hs.1 (by omega)⟩
  | 3, h1, _ =>
    obtain ⟨g1, g2⟩ := tab3 hk hd
    exact ⟨_, _, _, _, rfl, ⟨hf.f1, hf.f2, g2, hf.f4, hf.s1, hf.s2⟩, by rw [g1]; exact hs.2.1 (by omega)⟩
  | 4, h1, _ =>
    obtain ⟨g1, g2⟩ := tab4 hd
    exact ⟨_, _, _, _, rfl, ⟨hf.f1, hf.f2, hf.f3, g2, hf.s1, hf.s2⟩, by rw [g1]; exact hs.2.2 (by omega)⟩
theorem FI.bad {kind : Str} {v : Nat} {ds : List D} (hk : kind = "since" ∨ kind = "soon") (h : FI kind v ds) : BadF 1 (.lst ds) [(v : Int) + 1] := by
  obtain ⟨y1, y2, y3, y4, rfl, hf, hv⟩ := h.ex
  exact .ls 1 fun t => bad_pl t hk hf hv
theorem FI.len {kind : Str} {v : Nat} {ds : List D} (h : FI kind v ds) : ds.length = 5 := by
  obtain ⟨y1, y2, y3, y4, rfl, hf, hv⟩ := h.ex
  rfl
end Q
end DL

set_option Elab.async false
set_option linter.all false
set_option maxRecDepth 100000
set_option maxHeartbeats 1000000
namespace DL
open PySem PySem.Spec PyProof.Rows L2
namespace Q
variable {st : Sto}
noncomputable def mSpB (self : List D → Sto → Out D) : SM := (sSeq (sAsg (eOp oAdd (eC (.int 1)) (eCall 2 L_draw (aCons (eV 0) (aCons (eOp oSub (eCB lenO (aCons (eV 1) aNil)) (eC (.int 1))) aNil)))) (gN 4))
    (sSeq (sAsg (eCall 2 self (aCons (eV 0) (aCons (eOp ixO (eV 1) (eV 4)) aNil))) (gT 2 (gsCons (gN 5) (gsCons (gN 6) gsNil))))
    (sRet (eTup (aCons (eOp oAdd (eOp oAdd (eSl (eV 2) pN (pI (eV 4))) (eLst (aCons (eV 5) aNil))) (eSl (eV 2) (pI (eOp oAdd (eV 4) (eC (.int 1)))) pN)) (aCons (eOp oAdd (eTup (aCons (eV 4) aNil)) (eV 6)) aNil))))))
noncomputable def mSpO : SM := (sSeq (sAsg (eLst (aCons (eC .non) (aCons (eC (.int 5)) (aCons (eC (.str "since")) (aCons (eLst aNil) (aCons (eC .dic) (aCons (eSl (eV 2) (pI (eC (.int 1))) pN) (aCons (eOp oAdd (eV 2) (eLst (aCons (eC (.int 0)) aNil))) (aCons (eSl (eV 2) pN (pI (eUn negO (eC (.int 1))))) (aCons (eOp oAdd (eLst (aCons (eC (.str "SINCE")) aNil)) (eSl (eV 2) (pI (eC (.int 1))) pN)) (aCons (eC (.bl true)) aNil))))))))))) (gN 7))
    (sRet (eTup (aCons (eCall 2 L_pick (aCons (eV 0) (aCons (eOp oAdd (eV 7) (eLst (aCons (eOp oAdd (eLst (aCons (eLst aNil) aNil)) (eSl (eV 2) (pI (eC (.int 1))) pN)) aNil))) aNil))) (aCons (eTup aNil) aNil)))))
noncomputable def mSpS (i : Nat) : SM := (sAsg (eCall 2 L_pick (aCons (eV 0) (aCons (eOp dixO (eV 7) (eIf (tOf (eOp oEq (eV i) (eC (.int 2)))) (eC (.int 1)) (eV i))) aNil))) (gS (eV 2) (eV i)))
noncomputable def mSpC : SM := (sSeq (sAsg (eOp oAdd (eLst (aCons (eC .non) (aCons (eC (.str "at")) (aCons (eC (.str "UPTO")) (aCons (eC (.int 0)) (aCons (eLst aNil) (aCons (eLst (aCons (eC (.str "upto")) aNil)) aNil))))))) (eOp oRep (eLst (aCons (eC (.str "from")) (aCons (eC (.str "above")) aNil))) (eCB intO (aCons (eOp oEq (eOp ixO (eV 1) (eC (.int 0))) (eC (.str "soon"))) aNil)))) (gN 8))
    (sSeq (sAsg (eDct [Sum.inl 1, Sum.inl 3, Sum.inl 4] [(eLst (aCons (eC .non) (aCons (eC (.str "")) (aCons (eC (.str "A")) (aCons (eC (.str "ninesigns")) (aCons (eC (.int 5)) (aCons (eLst (aCons (eC (.str "a")) aNil)) (aCons (eC .dic) aNil)))))))), (eV 8), (eLst (aCons (eUn negO (eC (.int 1))) (aCons (eC .non) (aCons (eC (.str "1")) (aCons (eC (.bl true)) (aCons (eTup (aCons (eC (.int 1)) (aCons (eC (.int 1)) aNil))) (aCons (eLst aNil) (aCons (eOp oEq (eC (.int 1)) (eC (.int 1))) aNil))))))))]) (gN 7))
    (sSeq (sAsg (eOp oAdd (eC (.int 1)) (eCall 2 L_draw (aCons (eV 0) (aCons (eC (.int 4)) aNil)))) (gN 4))
    (sSeq (mSpS 4)
    (sSeq (sFor (iR2 (aCons (eOp oAdd (eV 4) (eC (.int 1))) (aCons (eC (.int 5)) aNil))) (gN 9) (sIf (tOf (eOp oEq (eCall 2 L_draw (aCons (eV 0) (aCons (eC (.int 3)) aNil))) (eC (.int 0)))) (mSpS 9) sNx))
    (sRet (eTup (aCons (eFz (eV 2)) (aCons (eTup (aCons (eV 4) aNil)) aNil)))))))))
abbrev tComp : EM D := (eOp (inO false) (eOp ixO (eV 1) (eC (.int 0))) (eTup (aCons (eC (.str "not")) (aCons (eC (.str "both")) (aCons (eC (.str "either")) aNil)))))
theorem m_spoil (self : List D → Sto → Out D) : m_L_spoil self = (sSeq (sAsg (eCB listC (aCons (eV 1) aNil)) (gN 2))
    (sSeq (sAsg (eCall 2 L_draw (aCons (eV 0) (aCons (eC (.int 5)) aNil))) (gN 3))
    (sSeq (sIf (bOr (tOf (eOp oEq (eV 3) (eC (.int 0)))) (bAnd (tOf (eOp oEq (eOp ixO (eV 1) (eC (.int 0))) (eC (.str "not")))) (tOf (eOp oLt (eV 3) (eC (.int 3)))))) (sSeq (sIf (bAnd (tOf tComp) (tOf (eOp oEq (eCall 2 L_draw (aCons (eV 0) (aCons (eC (.int 2)) aNil))) (eC (.int 0))))) (mSpB self) sNx) mSpO) sNx)
    (sSeq (sIf (tOf tComp) (mSpB self) sNx) mSpC)))) := rfl
def isCmp : Rl → Bool
  | .pl _ => false
  | _ => true
def Rl.k0 : Rl → Str
  | .pl p => p.kind
  | .no _ => "not"
  | .two b _ _ => twoW b
theorem ix_k0 (a : Rl) : ixO a.d (.int 0) st = .ok (.str a.k0) st := by
  rw [Rl.dxs]
  cases a <;> exact ixO_tup (i := 0) rfl
theorem inV3 (a b c d : Str) : inV (.str a) [.str b, .str c, .str d] = (decide (a = b) || (decide (a = c) || decide (a = d))) := by
  have sw : ∀ x y : Str, (x == y) = decide (y = x) := fun x y => by rw [beq_dec]; exact decide_eq_decide.mpr ⟨Eq.symm, Eq.symm⟩
  simp only [inV, List.any_cons, List.any_nil, Bool.or_false]
  show ((b == a) || ((c == a) || (d == a))) = _
  rw [sw, sw, sw]
theorem k0_in (a : Rl) (hg : a.Good) : (decide (a.k0 = "not") || (decide (a.k0 = "both") || decide (a.k0 = "either"))) = isCmp a := by
  cases a with
  | pl p =>
    have hk : p.kind = "since" ∨ p.kind = "soon" := (PR.Good.toOk hg).k
    show (decide (p.kind = "not") || (decide (p.kind = "both") || decide (p.kind = "either"))) = false
    rcases hk with h | h <;> rw [h] <;> decide
  | no r => rfl
  | two b r s => cases b <;> rfl
theorem tComp_ok {a : Rl} (hg : a.Good) {env : Env'} (h1 : env[1]? = some (some a.d)) : tOf tComp env st = .ok (isCmp a) st := by
  apply Wp.eq
  have hin : inO false (.str a.k0) (.tup [.str "not", .str "both", .str "either"]) st = .ok (.bl (isCmp a)) st := by
    unfold inO
    simp only [seqOf, fv, fvs, inV3, k0_in a hg, Bool.false_eq_true, if_false]
  simp [h1, ix_k0, hin]
section
variable {self : List D → Sto → Out D} {n b c : Nat} {st0 : Sto} {x3 x4 x5 x6 x7 x8 x9 : Option D} {P : D → Sto → Prop} {N : Env' → Sto → Prop} {E : EK}
theorem cell_sl {i : Nat} {ds : List D} {l h : Option Int} (hi : st[i]? = some (.lst ds)) : slO (.cel i) l h st = .ok (.lst (cutD ds l h)) st := by
  simp [slO, seqOf, hi, Cell.get]
theorem odd_part {a : Rl} (hg : a.Good) (hS : Src n b st) (hb : b + 1 ≤ 100000) (hk : Keep n st0 st) (hc : st[c]? = some (.lst a.xs)) (h : ∀ d s, SpOk 1 d → Keep n st0 s → Src n (b + 1) s → P d s) : WS (mSpO [some (.cel n), some a.d, some (.cel c), x3, x4, x5, x6, x7, x8, x9] st) N P E := by
  have hx : a.xs.length ≤ 5 := by cases a <;> simp [Rl.xs, PR.l]
  have c1 : (cutD a.xs (some 1) none).length ≤ 5 := by cases a <;> simp [Rl.xs, PR.l, cutD, HT.sIx]
  have ad1 : oAdd (.cel c) (.lst [.int 0]) st = .ok (.lst (a.xs ++ [.int 0])) st := by
    simp [oAdd, lstOf, hc, Cell.get]; omega
  have ad2 : oAdd (.lst [.str "SINCE"]) (.lst (cutD a.xs (some 1) none)) st = .ok (.lst (.str "SINCE" :: cutD a.xs (some 1) none)) st := by
    simp [oAdd, lstOf]; omega
  have ad3 : oAdd (.lst [.lst []]) (.lst (cutD a.xs (some 1) none)) st = .ok (.lst (.lst [] :: cutD a.xs (some 1) none)) st := by
    simp [oAdd, lstOf]; omega
  have ad4 : oAdd (.lst [.non, .int 5, .str "since", .lst [], .dic, .lst (cutD a.xs (some 1) none), .lst (a.xs ++ [.int 0]), .lst (cutD a.xs none (some (-1))), .lst (.str "SINCE" :: cutD a.xs (some 1) none), .bl true]) (.lst [.lst (.lst [] :: cutD a.xs (some 1) none)]) st = .ok (.lst (odds a.xs)) st := by
    simp [oAdd, lstOf, odds]
  simp [mSpO, cell_sl hc, ad1, ad2, ad3, ad4, negO]
  refine (pick_mk (t := false) (xs := odds a.xs) hS (by omega) (by simp [odds]) (by simp [odds])).use fun d s hd hk2 hs => ?_
  exact h _ s ⟨d, [], rfl, by simp, odds_ok a hg d hd⟩ (hk.trans hk2) hs
end
end Q
end DL

set_option Elab.async false
set_option linter.all false
set_option maxRecDepth 100000
set_option maxHeartbeats 1000000
namespace DL
open PySem PySem.Spec PyProof.Rows L2
namespace Q
variable {st : Sto}
section
variable {self : List D → Sto → Out D} {n b c : Nat} {st0 : Sto} {x3 x4 x5 x6 x7 x8 x9 : Option D} {P : D → Sto → Prop} {N : Env' → Sto → Prop} {E : EK}
def SelfOk (self : List D → Sto → Out D) (n : Nat) (r : Rl) : Prop := ∀ (st : Sto) (b : Nat), Src n b st → b + 12 * r.dep ≤ 100000 → Gn n (12 * r.dep) b st (self [.cel n, r.d] st) (SpOk r.dep)
theorem path_add {q : Int} {qs : List Int} (h : qs.length ≤ 1000) : oAdd (.tup [.int q]) (.tup (qs.map D.int)) st = .ok (.tup ((q :: qs).map D.int)) st := by
  simp [oAdd]; omega
/-- the place's rule is spoiled -/
theorem part_end {xs : List D} {r : Rl} {p : Nat} {k : Nat} (hr : r.dep ≤ k) (hs : SelfOk self n r) (hx : xs[p]? = some r.d) (hl : xs.length ≤ 5) (hk8 : k ≤ 100) (hS : Src n b st) (hb : b + 12 * r.dep ≤ 100000) (hk : Keep n st0 st) (hc : st[c]? = some (.lst xs)) (hcn : c ≠ n)
    (hbad : ∀ odd qs, BadF r.dep odd qs → BadF (k + 1) (.lst (cutD xs none (some (p : Int)) ++ [odd] ++ cutD xs (some ((p : Int) + 1)) none)) ((p : Int) :: qs)) (h : ∀ d s, SpOk (k + 1) d → Keep n st0 s → Src n (b + 12 * r.dep) s → P d s) :
    WS ((sSeq (sAsg (eCall 2 self (aCons (eV 0) (aCons (eOp ixO (eV 1) (eV 4)) aNil))) (gT 2 (gsCons (gN 5) (gsCons (gN 6) gsNil))))
    (sRet (eTup (aCons (eOp oAdd (eOp oAdd (eSl (eV 2) pN (pI (eV 4))) (eLst (aCons (eV 5) aNil))) (eSl (eV 2) (pI (eOp oAdd (eV 4) (eC (.int 1)))) pN)) (aCons (eOp oAdd (eTup (aCons (eV 4) aNil)) (eV 6)) aNil))))) [some (.cel n), some (.tup xs), some (.cel c), x3, some (.int (p : Int)), x5, x6, x7, x8, x9] st) N P E := by
  have hix : ixO (.tup xs) (.int p) st = .ok r.d st := ixO_tup hx
  simp only [WS_seq, WS_asg, Wp_eCall, Wp_aCons, Wp_aNil, Wp_eV, Wp_eOp, List.getElem?_cons_succ, List.getElem?_cons_zero, Option.some.injEq, exists_eq_left', hix, Wp_ok]
  refine ⟨rfl, (hs st b hS hb).use fun d s hd hk2 hs2 => ?_⟩
  obtain ⟨odd, qs, rfl, hq, hb⟩ := hd
  have hc2 := hk2.cell hc hcn
  have l1 : (cutD xs none (some (p : Int))).length ≤ 5 := by
    unfold cutD; simp; omega
  have l2 : (cutD xs (some ((p : Int) + 1)) none).length ≤ 5 := by
    unfold cutD; simp; omega
  have a1 : oAdd (.lst (cutD xs none (some (p : Int)))) (.lst [odd]) s = .ok (.lst (cutD xs none (some (p : Int)) ++ [odd])) s := by
    simp [oAdd, lstOf]; omega
  have a2 : oAdd (.lst (cutD xs none (some (p : Int)) ++ [odd])) (.lst (cutD xs (some ((p : Int) + 1)) none)) s = .ok (.lst (cutD xs none (some (p : Int)) ++ [odd] ++ cutD xs (some ((p : Int) + 1)) none)) s := by
    simp [oAdd, lstOf]; omega
  have a3 := path_add (st := s) (q := (p : Int)) (qs := qs) (by omega)
  simp only [gT, gsCons, gsNil, gN_eq, List.length_cons, List.length_nil, if_true, List.set_cons_succ, List.set_cons_zero, WG_some, WS_ret, Wp_eTup, Wp_aCons, Wp_aNil, Wp_eOp, Wp_eSl, Wp_pN, Wp_pI, Wp_eV, Wp_eLst, Wp_eC, List.getElem?_cons_succ, List.getElem?_cons_zero, Option.some.injEq, exists_eq_left', D.int.injEq, cell_sl hc2, Wp_ok, oAdd_ii, a1, a2, a3, short1 [odd] (by simp), true_and]
  refine ⟨rfl, rfl, ?_⟩
  exact h _ s ⟨_, (p : Int) :: qs, rfl, by simp; omega, hbad odd qs hb⟩ (hk.trans hk2) hs2
theorem part_no {r : Rl} (hs : SelfOk self n r) (hk8 : r.dep ≤ 100) (hS : Src n b st) (hb : b + 1 + 12 * r.dep ≤ 100000) (hk : Keep n st0 st) (hc : st[c]? = some (.lst (Rl.no r).xs)) (hcn : c ≠ n) (h : ∀ d s, SpOk (Rl.no r).dep d → Keep n st0 s → Src n (b + 1 + 12 * r.dep) s → P d s) : WS (mSpB self [some (.cel n), some (Rl.no r).d, some (.cel c), x3, x4, x5, x6, x7, x8, x9] st) N P E := by
  rw [Rl.dxs, mSpB, WS_seq]
  have hl : lenO [.tup (Rl.no r).xs] st = .ok (.int 2) st := mk_len true _
  simp only [WS_asg, Wp_eOp, Wp_eC, Wp_eCall, Wp_aCons, Wp_aNil, Wp_eV, Wp_eCB, List.getElem?_cons_succ, List.getElem?_cons_zero, Option.some.injEq, exists_eq_left', hl, Wp_ok, oSub_ii]
  refine ⟨rfl, (draw_gn hS (by omega) (m := 1) (by omega) (by omega)).use fun d s hd hk2 hs2 => ?_⟩
  obtain ⟨v, rfl, hv⟩ := hd
  have hv0 : v = 0 := by omega
  subst hv0
  rw [oAdd_ii, Wp_ok]
  simp only [gN_eq, WG_some, List.set_cons_succ, List.set_cons_zero]
  refine part_end (p := 1) (k := r.dep) (r := r) (Nat.le_refl _) hs rfl (by simp [Rl.xs]) hk8 hs2 (by omega) (hk.trans hk2) (hk2.cell hc hcn) hcn (fun odd qs hbd => ?_) h
  refine .ls _ fun t => ?_
  exact bad_no t hbd.a
theorem part_two {w : Bool} {r r2 : Rl} (hg : r.Good) (hs : SelfOk self n r) (hs2 : SelfOk self n r2) (hk8 : r.dep ≤ 100) (hk9 : r2.dep ≤ 100) (hS : Src n b st) (hb : b + 1 + 12 * max r.dep r2.dep ≤ 100000) (hk : Keep n st0 st) (hc : st[c]? = some (.lst (Rl.two w r r2).xs)) (hcn : c ≠ n) (h : ∀ d s, SpOk (Rl.two w r r2).dep d → Keep n st0 s → Src n (b + 1 + 12 * max r.dep r2.dep) s → P d s) : WS (mSpB self [some (.cel n), some (Rl.two w r r2).d, some (.cel c), x3, x4, x5, x6, x7, x8, x9] st) N P E := by
  rw [Rl.dxs, mSpB, WS_seq]
  have hl : lenO [.tup (Rl.two w r r2).xs] st = .ok (.int 3) st := mk_len true _
  simp only [WS_asg, Wp_eOp, Wp_eC, Wp_eCall, Wp_aCons, Wp_aNil, Wp_eV, Wp_eCB, List.getElem?_cons_succ, List.getElem?_cons_zero, Option.some.injEq, exists_eq_left', hl, Wp_ok, oSub_ii]
  refine ⟨rfl, (draw_gn hS (by omega) (m := 2) (by omega) (by omega)).use fun d s hd hk2 hsa => ?_⟩
  obtain ⟨v, rfl, hv⟩ := hd
  rw [oAdd_ii, Wp_ok]
  simp only [gN_eq, WG_some, List.set_cons_succ, List.set_cons_zero]
  have e : max r.dep r2.dep + 1 = (Rl.two w r r2).dep := by simp [Rl.dep]
  match v, hv with
  | 0, _ =>
    refine part_end (p := 1) (k := max r.dep r2.dep) (r := r) (by omega) hs rfl (by simp [Rl.xs]) (by omega) hsa (by omega) (hk.trans hk2) (hk2.cell hc hcn) hcn (fun odd qs hbd => ?_) (fun d s q1 q2 q3 => h d s (e ▸ q1) q2 (q3.mono (by omega)))
    exact .ls _ fun t => bad_two1 t w (hbd.a.mono (by omega))
  | 1, _ =>
    refine part_end (p := 2) (k := max r.dep r2.dep) (r := r2) (by omega) hs2 rfl (by simp [Rl.xs]) (by omega) hsa (by omega) (hk.trans hk2) (hk2.cell hc hcn) hcn (fun odd qs hbd => ?_) (fun d s q1 q2 q3 => h d s (e ▸ q1) q2 (q3.mono (by omega)))
    exact .ls _ fun t => bad_two2 t w (shR_self r) hg (by omega) (hbd.a.mono (by omega))
/-! ### a plain rule -/
theorem tab_look {kind : Str} {j : Nat} (h1 : 1 ≤ j) (h2 : j ≤ 4) (env : Env') {i : Nat} (hi : env[i]? = some (some (.int j))) (h7 : env[7]? = some (some (tabD kind))) {Q : D → Sto → Prop} (h : Q (.lst (tab kind j)) st) : Wp (eOp dixO (eV 7) (eIf (tOf (eOp oEq (eV i) (eC (.int 2)))) (eC (.int 1)) (eV i)) env st) Q E := by
  have l1 : dixO (tabD kind) (.int 1) st = .ok (.lst (tab kind 1)) st := rfl
  have l3 : dixO (tabD kind) (.int 3) st = .ok (.lst (tab kind 3)) st := rfl
  have l4 : dixO (tabD kind) (.int 4) st = .ok (.lst (tab kind 4)) st := rfl
  match j, h1, h2 with
  | 1, _, _ => simpa [hi, h7, l1] using h
  | 2, _, _ =>
    have h' : Q (.lst (tab kind 1)) st := h
    simpa [hi, h7, l1] using h'
  | 3, _, _ => simpa [hi, h7, l3] using h
  | 4, _, _ => simpa [hi, h7, l4] using h
theorem set_ok {kind : Str} {i j : Nat} {ds : List D} {env : Env'} (h1 : 1 ≤ j) (h2 : j ≤ 4) (hds : ds.length = 5) (h0 : env[0]? = some (some (.cel n))) (hc2 : env[2]? = some (some (.cel c))) (hi : env[i]? = some (some (.int j))) (h7 : env[7]? = some (some (tabD kind))) (hS : Src n b st) (hb : b + 1 ≤ 100000) (hk : Keep n st0 st) (hc : st[c]? = some (.lst ds)) (hcn : c ≠ n) (hcl : st0.length ≤ c)
    (h : ∀ d s, d ∈ tab kind j → s[c]? = some (.lst (ds.set j d)) → Keep n st0 s → Src n (b + 1) s → N env s) : WS (mSpS i env st) N P E := by
  rw [mSpS, WS_asg, Wp_eCall, Wp_aCons, Wp_eV]
  refine ⟨_, h0, ?_⟩
  rw [Wp_aCons]
  refine tab_look h1 h2 env hi h7 ?_
  rw [Wp_aNil]
  refine ⟨rfl, (pick_mk (t := false) (xs := tab kind j) hS (by omega) (tab_len kind j).1 (tab_len kind j).2).use fun d s hd hk2 hs2 => ?_⟩
  have hc' := hk2.cell hc hcn
  have hl : c < s.length := (List.getElem?_eq_some_iff.mp hc').1
  have e2 : eV 2 env s = .ok (.cel c) s := by simp [eV, hc2]
  have ei : eV i env s = .ok (.int j) s := by simp [eV, hi]
  have hp := put (st := s) (n := c) (i := j) (v := d) hc' (by omega)
  simp only [gS, e2, ei, hp, WG_some]
  refine h d _ hd ?_ ((hk.trans hk2).setHi hcl) (hs2.setNe hcn)
  rw [List.getElem?_set_self hl]
end
end Q
end DL

set_option Elab.async false
set_option linter.all false
set_option maxRecDepth 100000
set_option maxHeartbeats 1000000
namespace DL
open PySem PySem.Spec PyProof.Rows L2
namespace Q
variable {st : Sto}
section
variable {self : List D → Sto → Out D} {n b c : Nat} {st0 : Sto} {x3 x4 x5 x6 x7 x8 x9 : Option D} {P : D → Sto → Prop} {N : Env' → Sto → Prop} {E : EK}
theorem soon_w {kind : Str} (hk : kind = "since" ∨ kind = "soon") : oAdd (.lst [.non, .str "at", .str "UPTO", .int 0, .lst [], .lst [.str "upto"]]) (.lst (List.replicate (if kind = "soon" then 1 else 0) [D.str "from", .str "above"]).flatten) st = .ok (.lst (tab kind 3)) st := by
  rcases hk with rfl | rfl
  · simp (decide := true) [oAdd, lstOf, tab]
  · simp (decide := true) [oAdd, lstOf, tab]
def LI (n b c v : Nat) (kind : Str) (a : D) (st0 : Sto) (ds : List D) (env : Env') (s : Sto) : Prop := ∃ (js : List Nat) (k : Nat) (fs : List D) (x3 x5 x6 x8 x9 : Option D), ds = js.map (fun (j : Nat) => D.int (j : Int)) ∧ (∀ j ∈ js, v + 1 < j ∧ j ≤ 4) ∧ k + 2 * js.length ≤ 8 ∧ env = [some (.cel n), some a, some (.cel c), x3, some (.int ((v + 1 : Nat) : Int)), x5, x6, some (tabD kind), x8, x9] ∧ s[c]? = some (.lst fs) ∧ FI kind v fs ∧ Keep n st0 s ∧ Src n (b + k) s
theorem rng {v : Nat} (hv : v < 4) : rangeD2 [.int (((v + 1 : Nat) : Int) + 1), .int 5] st = .ok (((List.range (3 - v)).map fun k => v + 2 + k).map fun (j : Nat) => D.int (j : Int)) st := by
  have h62 : -(2 ^ 62) ≤ (((v + 1 : Nat) : Int) + 1) ∧ (((v + 1 : Nat) : Int) + 1) < 2 ^ 62 ∧ -(2 ^ 62) ≤ (5 : Int) ∧ (5 : Int) < 2 ^ 62 := by omega
  have e : (5 - (((v + 1 : Nat) : Int) + 1)).toNat = 3 - v := by omega
  simp only [rangeD2, if_pos h62, e, List.map_map]
  congr 1
theorem pl_e1 {p : PR} (hp : p.Good) : WS (sAsg (eOp oAdd (eLst (aCons (eC .non) (aCons (eC (.str "at")) (aCons (eC (.str "UPTO")) (aCons (eC (.int 0)) (aCons (eLst aNil) (aCons (eLst (aCons (eC (.str "upto")) aNil)) aNil))))))) (eOp oRep (eLst (aCons (eC (.str "from")) (aCons (eC (.str "above")) aNil))) (eCB intO (aCons (eOp oEq (eOp ixO (eV 1) (eC (.int 0))) (eC (.str "soon"))) aNil)))) (gN 8) [some (.cel n), some p.d, some (.cel c), x3, x4, x5, x6, x7, x8, x9] st) (fun e s => e = [some (.cel n), some p.d, some (.cel c), x3, x4, x5, x6, x7, some (.lst (tab p.kind 3)), x9] ∧ s = st) P E := by
  have i0 : ixO p.d (.int 0) st = .ok (.str p.kind) st := ixO_tup (i := 0) rfl
  have sk : PyData.strOk p.kind = true := by rcases hp.k with q | q <;> rw [q] <;> first | exact so_since | exact so_soon
  have hr : oRep (.lst [.str "from", .str "above"]) (.int (if decide (p.kind = "soon") = true then 1 else 0)) st = .ok (.lst (List.replicate (if p.kind = "soon" then 1 else 0) [D.str "from", .str "above"]).flatten) st := by
    unfold oRep
    by_cases q : p.kind = "soon" <;> simp [lstOf, q]
  have hi : intO [.bl (decide (p.kind = "soon"))] st = .ok (.int (if decide (p.kind = "soon") = true then 1 else 0)) st := rfl
  simp only [WS_asg, Wp_eOp, Wp_eLst, Wp_aCons, Wp_aNil, Wp_eC, Wp_eCB, Wp_eV, List.getElem?_cons_succ, List.getElem?_cons_zero, Option.some.injEq, exists_eq_left', i0, Wp_ok, oEq_ss sk so_soon, hi, hr, soon_w hp.k, gN_eq, WG_some, List.set_cons_succ, List.set_cons_zero, and_self, and_true]
  refine ⟨by simp, by simp, by simp, by simp⟩
theorem pl_e2 {p : PR} : (eDct [Sum.inl 1, Sum.inl 3, Sum.inl 4] [(eLst (aCons (eC .non) (aCons (eC (.str "")) (aCons (eC (.str "A")) (aCons (eC (.str "ninesigns")) (aCons (eC (.int 5)) (aCons (eLst (aCons (eC (.str "a")) aNil)) (aCons (eC .dic) aNil)))))))), (eV 8), (eLst (aCons (eUn negO (eC (.int 1))) (aCons (eC .non) (aCons (eC (.str "1")) (aCons (eC (.bl true)) (aCons (eTup (aCons (eC (.int 1)) (aCons (eC (.int 1)) aNil))) (aCons (eLst aNil) (aCons (eOp oEq (eC (.int 1)) (eC (.int 1))) aNil))))))))] : EM D) [some (.cel n), some p.d, some (.cel c), x3, x4, x5, x6, x7, some (.lst (tab p.kind 3)), x9] st = .ok (tabD p.kind) st := by
  have hng : negO (.int 1) st = .ok (.int (-1)) st := rfl
  apply Wp.eq
  unfold eDct
  simp [argsM, hng, tabD, tab]
theorem part_pl {p : PR} (hp : p.Good) (hS : Src n b st) (hb : b + 10 ≤ 100000) (hk : Keep n st0 st) (hc : st[c]? = some (.lst p.l)) (hcn : c ≠ n) (hcl : st0.length ≤ c) (h : ∀ d s, SpOk 1 d → Keep n st0 s → Src n (b + 10) s → P d s) : WS (mSpC [some (.cel n), some p.d, some (.cel c), x3, x4, x5, x6, x7, x8, x9] st) N P E := by
  have e1 := pl_e1 (st := st) (n := n) (c := c) (x3 := x3) (x4 := x4) (x5 := x5) (x6 := x6) (x7 := x7) (x8 := x8) (x9 := x9) (P := P) (E := E) hp
  rw [mSpC, WS_seq]
  refine e1.imp (fun env s he => ?_) (fun _ _ q => q) (fun _ _ _ q => q)
  obtain ⟨rfl, rfl⟩ := he
  rw [WS_seq]
  have e2 := pl_e2 (st := s) (n := n) (c := c) (x3 := x3) (x4 := x4) (x5 := x5) (x6 := x6) (x7 := x7) (x9 := x9) (p := p)
  rw [WS_asg, e2, Wp_ok]
  simp only [gN_eq, WG_some, List.set_cons_succ, List.set_cons_zero]
  rw [WS_seq]
  simp only [WS_asg, Wp_eOp, Wp_eC, Wp_eCall, Wp_aCons, Wp_aNil, Wp_eV, List.getElem?_cons_succ, List.getElem?_cons_zero, Option.some.injEq, exists_eq_left']
  refine ⟨rfl, (draw_gn hS (by omega) (m := 4) (by omega) (by omega)).use fun d s1 hd hk1 hs1 => ?_⟩
  obtain ⟨v, rfl, hv⟩ := hd
  have hv4 : v < 4 := by omega
  have ev : (1 : Int) + (v : Int) = ((v + 1 : Nat) : Int) := by omega
  rw [oAdd_ii, Wp_ok, ev]
  simp only [gN_eq, WG_some, List.set_cons_succ, List.set_cons_zero]
  rw [WS_seq]
  refine set_ok (kind := p.kind) (i := 4) (j := v + 1) (ds := p.l) (st0 := st0) (by omega) (by omega) rfl rfl rfl rfl rfl hs1 (by omega) (hk.trans hk1) (hk1.cell hc hcn) hcn hcl fun d s2 hd hc2 hk2 hs2 => ?_
  have hF := FI.first hp hv4 hd
  rw [WS_seq, WS_for, Wp_iR2]
  rw [Wp_aCons, Wp_eOp, Wp_eV]
  refine ⟨_, rfl, ?_⟩
  rw [Wp_eC, oAdd_ii, Wp_ok, Wp_aCons, Wp_eC, Wp_aNil, rng hv4, Wp_ok]
  refine WS_forM (LI n (b + 2) c v p.kind p.d st0) (fun d ds env s hI => ?_) (fun env s hI => ?_) _ _ _ ?_
  · obtain ⟨js, k, fs, y3, y5, y6, y8, y9, hds, hjs, hkb, rfl, hcc, hfi, hkk, hss⟩ := hI
    cases js with
    | nil => cases hds
    | cons j js =>
      rw [List.map_cons] at hds
      obtain ⟨rfl, rfl⟩ := List.cons.inj hds
      have hj := hjs j (List.mem_cons_self ..)
      have hkb' : k + 2 * (js.length + 1) ≤ 8 := hkb
      simp only [gN_eq, WG_some, List.set_cons_succ, List.set_cons_zero, WS_if, Wp_tOf, Wp_eOp, Wp_eC, Wp_eCall, Wp_aCons, Wp_aNil, Wp_eV, List.getElem?_cons_succ, List.getElem?_cons_zero, Option.some.injEq, exists_eq_left']
      refine ⟨rfl, (draw_gn hss (by omega) (m := 3) (by omega) (by omega)).use fun d s3 hd hk3 hs3 => ?_⟩
      obtain ⟨u, rfl, hu⟩ := hd
      rw [oEq_ii, Wp_ok]
      refine ⟨_, rfl, ?_⟩
      by_cases q : (u : Int) = 0
      · rw [if_pos (decide_eq_true q)]
        refine set_ok (kind := p.kind) (i := 9) (j := j) (ds := fs) (st0 := st0) (by omega) hj.2 hfi.len rfl rfl rfl rfl hs3 (by omega) (hkk.trans hk3) (hk3.cell hcc hcn) hcn hcl fun d s4 hd4 hc4 hk4 hs4 => ?_
        exact ⟨js, k + 2, _, _, _, _, _, _, rfl, fun i hi => hjs i (List.mem_cons_of_mem _ hi), by omega, rfl, hc4, hfi.next hp.k hj.1 hj.2 hd4, hk4, hs4⟩
      · rw [if_neg (by rw [decide_eq_true_eq]; exact q), WS_sNx]
        exact ⟨js, k + 2, fs, _, _, _, _, _, rfl, fun i hi => hjs i (List.mem_cons_of_mem _ hi), by omega, rfl, hk3.cell hcc hcn, hfi, hkk.trans hk3, hs3.mono (by omega)⟩
  · obtain ⟨js, k, fs, y3, y5, y6, y8, y9, hds, hjs, hkb, rfl, hcc, hfi, hkk, hss⟩ := hI
    simp only [WS_ret, Wp_eTup, Wp_aCons, Wp_aNil, Wp_eFz, Wp_eV, List.getElem?_cons_succ, List.getElem?_cons_zero, Option.some.injEq, exists_eq_left', fz_cel hcc, Wp_ok]
    refine ⟨by simp, by simp, ?_⟩
    refine h _ _ ⟨.lst fs, [(v : Int) + 1], by simp, by simp, hfi.bad hp.k⟩ (hkk.setHi hcl) ((hss.mono (by omega)).setNe hcn)
  · refine ⟨_, 0, _, _, _, _, _, _, rfl, ?_, ?_, rfl, hc2, hF, hk2, hs2⟩
    · intro j hj
      obtain ⟨i, hi, rfl⟩ := List.mem_map.mp hj
      have := List.mem_range.mp hi
      omega
    · simp; omega
end
end Q
end DL

set_option Elab.async false
set_option linter.all false
set_option maxRecDepth 100000
set_option maxHeartbeats 1000000
namespace DL
open PySem PySem.Spec PyProof.Rows L2
namespace Q
variable {st : Sto}
section
variable {self : List D → Sto → Out D} {n b c : Nat} {st0 : Sto} {x3 x4 x5 x6 x7 x8 x9 : Option D} {P : D → Sto → Prop} {N : Env' → Sto → Prop} {E : EK}
theorem dep_pos (a : Rl) : 1 ≤ a.dep := by cases a <;> simp [Rl.dep]
theorem SpOk.mono {k k' : Nat} {d : D} (h : SpOk k d) (hk : k ≤ k') : SpOk k' d := by
  obtain ⟨odd, qs, e, h1, h2⟩ := h
  exact ⟨odd, qs, e, by omega, h2.mono hk⟩
theorem comp_part {a : Rl} (hg : a.Good) (ha : isCmp a = true) (ih : ∀ r : Rl, r.Good → r.dep < a.dep → SelfOk self n r) (hk8 : a.dep ≤ 100) (hS : Src n b st) (hb : b + 12 * a.dep ≤ 100000 + 11) (hk : Keep n st0 st) (hc : st[c]? = some (.lst a.xs)) (hcn : c ≠ n) (h : ∀ d s, SpOk a.dep d → Keep n st0 s → Src n (b + 1 + 12 * (a.dep - 1)) s → P d s) : WS (mSpB self [some (.cel n), some a.d, some (.cel c), x3, x4, x5, x6, x7, x8, x9] st) N P E := by
  cases a with
  | pl p => cases ha
  | no r =>
    have e : (Rl.no r).dep = r.dep + 1 := by simp [Rl.dep]
    rw [e] at hb hk8 h
    exact part_no (ih r hg (by omega)) (by omega) hS (by omega) hk hc hcn (by rw [e]; exact h)
  | two w r r2 =>
    have e : (Rl.two w r r2).dep = max r.dep r2.dep + 1 := by simp [Rl.dep]
    rw [e] at hb hk8 h
    exact part_two hg.1 (ih r hg.1 (by omega)) (ih r2 hg.2 (by omega)) (by omega) (by omega) hS (by omega) hk hc hcn (by rw [e]; exact h)
end
theorem cond_ok {a : Rl} (hg : a.Good) {env : Env'} {v : Nat} (h1 : env[1]? = some (some a.d)) (h3 : env[3]? = some (some (.int v))) : ∃ B : Bool, (bOr (tOf (eOp oEq (eV 3) (eC (.int 0)))) (bAnd (tOf (eOp oEq (eOp ixO (eV 1) (eC (.int 0))) (eC (.str "not")))) (tOf (eOp oLt (eV 3) (eC (.int 3)))))) env st = .ok B st := by
  have sk : PyData.strOk a.k0 = true := by
    cases a with
    | pl p => exact (by have := (PR.Good.toOk hg).k; rcases this with q | q <;> show PyData.strOk p.kind = true <;> rw [q] <;> first | exact so_since | exact so_soon)
    | no r => exact so_not
    | two b r s => cases b <;> first | exact so_both | exact so_either
  refine ⟨decide (v = 0) || (decide (a.k0 = "not") && decide (v < 3)), ?_⟩
  apply Wp.eq
  by_cases c1 : v = 0
  · simp [h1, h3, c1]
  · by_cases c2 : a.k0 = "not"
    · by_cases c3 : v < 3
      · have : (v : Int) < 3 := by omega
        simp [h1, h3, c1, c2, c3, ix_k0, this, so_not]
      · have : ¬ (v : Int) < 3 := by omega
        simp [h1, h3, c1, c2, c3, ix_k0, this, so_not]
    · simp [h1, h3, c1, c2, ix_k0, sk, so_not]
theorem spoil_gn {n : Nat} : ∀ (k : Nat) (a : Rl) (b : Nat) (st : Sto), a.Good → a.dep ≤ k → k ≤ 100 → Src n b st → b + 12 * a.dep ≤ 100000 → Gn n (12 * a.dep) b st (L_spoil k [.cel n, a.d] st) (SpOk a.dep)
  | 0, a, b, st, _, h, _, _, _ => by cases a <;> simp [Rl.dep] at h
  | k + 1, a, b, st, hg, hd, hk8, hS, hb => by
    have hn := hS.lt
    have hp := dep_pos a
    have ih : ∀ r : Rl, r.Good → r.dep < a.dep → SelfOk (L_spoil k) n r := fun r hr hl st b hs hb => spoil_gn k r b st hr (by omega) (by omega) hs hb
    unfold Gn
    rw [L_spoil, m_spoil]
    have el : listC [a.d] st = .ok (.cel st.length) (st ++ [.lst a.xs]) := by
      rw [Rl.dxs]; rfl
    simp only [Wp_run, WS_seq, WS_asg, Wp_eCB, Wp_aCons, Wp_aNil, Wp_eV, startE2, List.replicate, List.getElem?_cons_succ, List.getElem?_cons_zero, Option.some.injEq, exists_eq_left', el, Wp_ok, gN_eq, WG_some, List.set_cons_succ, List.set_cons_zero, Wp_eCall, Wp_eC]
    have hc : (st ++ [Cell.lst a.xs])[st.length]? = some (.lst a.xs) := by simp
    refine ⟨rfl, (draw_gn (hS.app (ext := [.lst a.xs])) (by omega) (m := 5) (by omega) (by omega)).use fun d s1 hd1 hk1 hs1 => ?_⟩
    obtain ⟨v, rfl, hv⟩ := hd1
    have kp1 : Keep n st s1 := (Keep.app n st _).trans hk1
    have hc1 := hk1.cell hc (by omega)
    have hcn : st.length ≠ n := by omega
    obtain ⟨B, hB⟩ := cond_ok (st := s1) (v := v) hg (env := [some (.cel n), some a.d, some (.cel st.length), some (.int v), none, none, none, none, none, none]) rfl rfl
    have hcmp : ∀ s : Sto, tOf tComp [some (.cel n), some a.d, some (.cel st.length), some (.int v), none, none, none, none, none, none] s = .ok (isCmp a) s := fun s => tComp_ok hg rfl
    rw [WS_if, hB, Wp_ok]
    cases B with
    | true =>
      rw [if_pos rfl, WS_seq, WS_if, Wp_bAnd, hcmp s1, Wp_ok]
      cases hi : isCmp a with
      | false =>
        rw [if_neg (by simp), if_neg (by simp), WS_sNx]
        exact odd_part hg hs1 (by omega) kp1 hc1 fun d s q1 q2 q3 => ⟨q1.mono hp, q2, q3.mono (by omega)⟩
      | true =>
        rw [if_pos rfl]
        simp only [Wp_tOf, Wp_eOp, Wp_eCall, Wp_aCons, Wp_aNil, Wp_eV, Wp_eC, List.getElem?_cons_succ, List.getElem?_cons_zero, Option.some.injEq, exists_eq_left']
        refine ⟨rfl, (draw_gn hs1 (by omega) (m := 2) (by omega) (by omega)).use fun d s2 hd2 hk2 hs2 => ?_⟩
        obtain ⟨u, rfl, hu⟩ := hd2
        have hc2 := hk2.cell hc1 hcn
        rw [oEq_ii, Wp_ok]
        refine ⟨_, rfl, ?_⟩
        by_cases q : (u : Int) = 0
        · rw [if_pos (decide_eq_true q)]
          exact comp_part hg hi ih (by omega) hs2 (by omega) (kp1.trans hk2) hc2 hcn fun d s q1 q2 q3 => ⟨q1, q2, q3.mono (by omega)⟩
        · rw [if_neg (by rw [decide_eq_true_eq]; exact q), WS_sNx]
          exact odd_part hg hs2 (by omega) (kp1.trans hk2) hc2 fun d s q1 q2 q3 => ⟨q1.mono hp, q2, q3.mono (by omega)⟩
    | false =>
      rw [if_neg (by simp), WS_sNx, WS_if, hcmp s1, Wp_ok]
      cases hi : isCmp a with
      | true =>
        rw [if_pos rfl]
        exact comp_part hg hi ih (by omega) hs1 (by omega) kp1 hc1 hcn fun d s q1 q2 q3 => ⟨q1, q2, q3.mono (by omega)⟩
      | false =>
        rw [if_neg (by simp), WS_sNx]
        cases a with
        | no r => cases hi
        | two w r s => cases hi
        | pl p =>
          have e : (Rl.pl p).dep = 1 := by simp [Rl.dep]
          exact part_pl hg hs1 (by omega) kp1 hc1 hcn (Nat.le_refl _) fun d s q1 q2 q3 => ⟨by rw [e]; exact q1, q2, q3.mono (by omega)⟩
end Q
end DL

set_option Elab.async false
set_option linter.all false
set_option maxRecDepth 100000
set_option maxHeartbeats 1000000
namespace DL
open PySem PySem.Spec PyProof.Rows L2
namespace Q
variable {st : Sto}
/-! ### a sorted list there is -/
abbrev sLt (a b : Str) : Prop := a.cps.toList < b.cps.toList
theorem str_ext {a b : Str} (h : a.cps.toList = b.cps.toList) : a = b := by
  cases a; cases b
  exact congrArg Str.mk (Array.toList_inj.mp h)
def insS (x : Str) : List Str → List Str
  | [] => [x]
  | y :: r => if x = y then y :: r else if sLt x y then x :: y :: r else y :: insS x r
theorem mem_insS (x k : Str) : ∀ l : List Str, k ∈ insS x l ↔ k = x ∨ k ∈ l
  | [] => by simp [insS]
  | y :: r => by
    unfold insS
    split
    · rename_i h
      subst h
      simp
    · split
      · simp
      · rw [List.mem_cons, mem_insS x k r, List.mem_cons]
        constructor
        · rintro (h | h | h)
          · exact .inr (.inl h)
          · exact .inl h
          · exact .inr (.inr h)
        · rintro (h | h | h)
          · exact .inr (.inl h)
          · exact .inl h
          · exact .inr (.inr h)
theorem insS_ok (x : Str) : ∀ l : List Str, l.Pairwise sLt → (insS x l).Pairwise sLt
  | [], _ => by simp [insS]
  | y :: r, h => by
    obtain ⟨h1, h2⟩ := List.pairwise_cons.mp h
    unfold insS
    split
    · exact h
    · rename_i hne
      split
      · rename_i hlt
        refine List.pairwise_cons.mpr ⟨fun z hz => ?_, h⟩
        rcases List.mem_cons.mp hz with e | e
        · rw [e]; exact hlt
        · exact List.lt_trans hlt (h1 z e)
      · rename_i hnl
        have hyx : sLt y x := by
          by_cases q : y.cps.toList < x.cps.toList
          · exact q
          · exact absurd (str_ext (List.le_antisymm (List.not_lt.mp q) (List.not_lt.mp hnl))) hne
        refine List.pairwise_cons.mpr ⟨fun z hz => ?_, insS_ok x r h2⟩
        rcases (mem_insS x z r).mp hz with e | e
        · rw [e]; exact hyx
        · exact h1 z e
def srt : List Str → List Str
  | [] => []
  | x :: r => insS x (srt r)
theorem srt_mem (k : Str) : ∀ l : List Str, k ∈ srt l ↔ k ∈ l
  | [] => by simp [srt]
  | x :: r => by rw [srt, mem_insS, srt_mem k r, List.mem_cons]
theorem srt_ok : ∀ l : List Str, (srt l).Pairwise sLt
  | [] => .nil
  | x :: r => insS_ok x _ (srt_ok r)
theorem insS_len (x : Str) : ∀ l : List Str, (insS x l).length ≤ l.length + 1
  | [] => by simp [insS]
  | y :: r => by
    unfold insS
    split
    · simp
    · split
      · simp
      · have := insS_len x r
        simp; omega
theorem srt_len : ∀ l : List Str, (srt l).length ≤ l.length
  | [] => by simp [srt]
  | x :: r => by
    have h1 := srt_len r
    have h2 := insS_len x (srt r)
    show (insS x (srt r)).length ≤ r.length + 1
    omega
theorem srt_is (l : List Str) : IsSort l (srt l) := by
  have hp := srt_ok l
  refine ⟨hp.imp fun {a b} h e => ?_, sortedS_of_pairwise _ (hp.imp fun {a b} h => ?_), fun k => srt_mem k l⟩
  · rw [e] at h
    exact absurd h (List.lt_irrefl _)
  · rw [ltCps_eq]
    simpa using List.le_of_lt h
theorem sortS_srt (l : List Str) : sortS l = srt l := sortS_eq (srt_is l)
/-! ### the names in a rule -/
def nms : Rl → List Str
  | .pl p => [p.a, p.b]
  | .no r => nms r
  | .two _ r s => nms r ++ nms s
theorem nms_len : ∀ a : Rl, (nms a).length ≤ 2 ^ a.dep
  | .pl p => by simp [nms, Rl.dep]
  | .no r => by
    have := nms_len r
    simp only [nms, Rl.dep, Nat.pow_succ]
    omega
  | .two _ r s => by
    have h1 := nms_len r
    have h2 := nms_len s
    have e1 : 2 ^ r.dep ≤ 2 ^ max r.dep s.dep := Nat.pow_le_pow_right (by omega) (by omega)
    have e2 : 2 ^ s.dep ≤ 2 ^ max r.dep s.dep := Nat.pow_le_pow_right (by omega) (by omega)
    simp only [nms, Rl.dep, Nat.pow_succ, List.length_append]
    omega
theorem nms_ok : ∀ {a : Rl}, a.Good → ∀ x ∈ nms a, nameS x = true
  | .pl p, h, x, hx => by
    have h' : p.Good := h
    simp only [nms, List.mem_cons, List.not_mem_nil, or_false] at hx
    rcases hx with rfl | rfl
    · exact h'.na
    · exact h'.nb
  | .no r, h, x, hx => nms_ok (a := r) h x hx
  | .two _ r s, h, x, hx => by
    rcases List.mem_append.mp hx with hx | hx
    · exact nms_ok (a := r) h.1 x hx
    · exact nms_ok (a := s) h.2 x hx
end Q
end DL

set_option Elab.async false
set_option linter.all false
set_option maxRecDepth 100000
set_option maxHeartbeats 1000000
namespace DL
open PySem PySem.Spec PyProof.Rows L2
namespace Q
variable {st : Sto}
noncomputable def mExt (self : List D → Sto → Out D) : SM := (sExp (eBM isCel extO (eV 1) (aCons (eCall 1 self (aCons (eV 2) aNil)) aNil)))
theorem ext_ok {i : Nat} {xs ys : List D} (h : st[i]? = some (.lst xs)) (hl : xs.length + ys.length < 100000) : extO (.cel i) [.lst ys] st = .ok .non (st.set i (.lst (xs ++ ys))) := by
  simp [extO, celAt, h, lstOf, hl]
def SelfN (self : List D → Sto → Out D) (n : Nat) (res : Rl → List Str) (r : Rl) : Prop := ∀ (st : Sto) (b : Nat), Src n b st → Gn n 0 b st (self [r.d] st) (fun d => d = .lst ((res r).map D.str))
theorem ext_loop {self : List D → Sto → Out D} {n b c : Nat} {st0 : Sto} {res : Rl → List Str} {q : Option D} {R : D → Sto → Prop} {N : Env' → Sto → Prop} {E : EK} (hcn : c ≠ n) (hcl : st0.length ≤ c) : ∀ (rs : List Rl) (acc : List Str) (s : Sto) (x2 : Option D), (∀ r ∈ rs, SelfN self n res r) → s[c]? = some (.lst (acc.map D.str)) → Keep n st0 s → Src n b s → acc.length + (rs.flatMap res).length < 1000 →
    (∀ (s : Sto) (x2 : Option D), s[c]? = some (.lst ((acc ++ rs.flatMap res).map D.str)) → Keep n st0 s → Src n b s → N [q, some (.cel c), x2] s) → WS (forM (gN 2) (mExt self) (rs.map Rl.d) [q, some (.cel c), x2] s) N R E
  | [], acc, s, x2, hs, hc, hk, hS, hl, h => by
    show N _ _
    refine h s x2 (by simpa using hc) hk hS
  | r :: rs, acc, s, x2, hs, hc, hk, hS, hl, h => by
    rw [List.map_cons]
    refine WS_cons ?_
    simp only [gN_eq, WG_some, List.set_cons_succ, List.set_cons_zero, mExt, WS_exp, Wp_eBM, Wp_eV, Wp_aCons, Wp_aNil, Wp_eCall, List.getElem?_cons_succ, List.getElem?_cons_zero, Option.some.injEq, exists_eq_left']
    refine ⟨isCel_ok hc, rfl, (hs r (List.mem_cons_self ..) s b hS).use fun d s2 hd hk2 hs2 => ?_⟩
    subst hd
    have hl' : acc.length + ((res r).length + (rs.flatMap res).length) < 1000 := by simpa using hl
    have hc2 := hk2.cell hc hcn
    have hlt : c < s2.length := (List.getElem?_eq_some_iff.mp hc2).1
    rw [ext_ok hc2 (by simp; omega), Wp_ok]
    refine ext_loop hcn hcl rs (acc ++ res r) _ _ (fun r hr => hs r (List.mem_cons_of_mem _ hr)) ?_ ((hk.trans hk2).setHi hcl) (hs2.setNe hcn) (by rw [List.length_append]; omega) ?_
    · rw [List.getElem?_set_self hlt, List.map_append]
    · intro s3 x3 h1 h2 h3
      exact h s3 x3 (by simpa using h1) h2 h3
def Rl.subs : Rl → List Rl
  | .pl _ => []
  | .no r => [r]
  | .two _ r s => [r, s]
theorem cut_subs {a : Rl} (h : isCmp a = true) : cutD a.xs (some 1) none = a.subs.map Rl.d := by
  cases a with
  | pl p => cases h
  | no r => rfl
  | two b r s => rfl
theorem subs_dep {a r : Rl} (h : r ∈ a.subs) : r.dep < a.dep := by
  cases a with
  | pl p => simp [Rl.subs] at h
  | no q => simp [Rl.subs] at h; subst h; simp [Rl.dep]
  | two b q s => simp [Rl.subs] at h; rcases h with rfl | rfl <;> simp [Rl.dep] <;> omega
theorem subs_good {a r : Rl} (hg : a.Good) (h : r ∈ a.subs) : r.Good := by
  cases a with
  | pl p => simp [Rl.subs] at h
  | no q => simp [Rl.subs] at h; subst h; exact hg
  | two b q s =>
    simp [Rl.subs] at h
    rcases h with rfl | rfl
    · exact hg.1
    · exact hg.2
theorem subs_nms {a : Rl} (h : isCmp a = true) : a.subs.flatMap nms = nms a := by
  cases a with
  | pl p => cases h
  | no r => simp [Rl.subs, nms]
  | two b r s => simp [Rl.subs, nms]
theorem in2_k0 {a : Rl} (hg : a.Good) : inO false (.str a.k0) (.tup [.str "since", .str "soon"]) st = .ok (.bl (!isCmp a)) st := by
  unfold inO
  simp only [seqOf, fv, fvs, inV2, Bool.false_eq_true, if_false]
  congr 2
  cases a with
  | pl p =>
    have hk : p.kind = "since" ∨ p.kind = "soon" := (PR.Good.toOk hg).k
    show (decide (p.kind = "since") || decide (p.kind = "soon")) = true
    rcases hk with h | h <;> rw [h] <;> decide
  | no r => rfl
  | two b r s => cases b <;> rfl
theorem m_signs (self : List D → Sto → Out D) : m_signs_of self = (sSeq (sIf (tOf (eOp (inO false) (eOp ixO (eV 0) (eC (.int 0))) (eC (.tup [.str "since", .str "soon"])))) (sRet (eLst (aCons (eOp ixO (eV 0) (eC (.int 1))) (aCons (eOp ixO (eV 0) (eC (.int 2))) aNil)))) sNx)
    (sSeq (sAsg (eCel aNil) (gN 1))
    (sSeq (sFor (iSq (eSl (eV 0) (pI (eC (.int 1))) pN)) (gN 2) (mExt self))
    (sRet (eFz (eV 1)))))) := rfl
theorem m_names (self : List D → Sto → Out D) : m_L_names_in self = (sSeq (sIf (tOf (eOp (inO false) (eOp ixO (eV 0) (eC (.int 0))) (eTup (aCons (eC (.str "since")) (aCons (eC (.str "soon")) aNil))))) (sRet (eUn sortSetO (eSl (eV 0) (pI (eC (.int 1))) (pI (eC (.int 3)))))) sNx)
    (sSeq (sAsg (eCel aNil) (gN 1))
    (sSeq (sFor (iSq (eSl (eV 0) (pI (eC (.int 1))) pN)) (gN 2) (mExt self))
    (sRet (eUn sortSetO (eV 1)))))) := rfl
theorem sl_d (a : Rl) (l h : Option Int) : slO a.d l h st = .ok (.tup (cutD a.xs l h)) st := by rw [Rl.dxs]; rfl
theorem signs_gn {n : Nat} : ∀ (k : Nat) (a : Rl), a.Good → a.dep ≤ k → a.dep ≤ 8 → SelfN (signs_of k) n nms a
  | 0, a, _, h, _ => by cases a <;> simp [Rl.dep] at h
  | k + 1, a, hg, hd, h8 => by
    intro st b hS
    have hn := hS.lt
    unfold Gn
    rw [signs_of, m_signs]
    simp only [Wp_run, WS_seq, WS_if, Wp_tOf, Wp_eOp, Wp_eV, Wp_eC, startE1, List.replicate, List.getElem?_cons_zero, Option.some.injEq, exists_eq_left', ix_k0, Wp_ok, in2_k0 hg, D.bl.injEq]
    cases hi : isCmp a with
    | false =>
      cases a with
      | no r => cases hi
      | two w r s => cases hi
      | pl p =>
        have i1 : ixO (Rl.pl p).d (.int 1) st = .ok (.str p.a) st := ixO_tup (i := 1) rfl
        have i2 : ixO (Rl.pl p).d (.int 2) st = .ok (.str p.b) st := ixO_tup (i := 2) rfl
        simp [i1, i2, nms]
        exact ⟨Keep.refl _ _, hS⟩
    | true =>
      have hlen : (nms a).length ≤ 256 := Nat.le_trans (nms_len a) (Nat.le_trans (Nat.pow_le_pow_right (by omega) h8) (by decide))
      simp only [Bool.not_true, Bool.false_eq_true, if_false, WS_sNx, WS_asg, Wp_eCel, Wp_aNil, gN_eq, WG_some, List.set_cons_succ, List.set_cons_zero, WS_for, Wp_iSq, Wp_eSl, Wp_eV, Wp_pI, Wp_eC, Wp_pN, List.getElem?_cons_succ, List.getElem?_cons_zero, Option.some.injEq, exists_eq_left', D.int.injEq, sl_d, Wp_ok]
      refine ⟨by simp, _, (rfl : itemsOf (D.tup _) = _), ?_⟩
      rw [cut_subs hi]
      refine ext_loop (n := n) (b := b) (c := st.length) (st0 := st) (res := nms) (by omega) (Nat.le_refl _) a.subs [] _ _ (fun r hr => signs_gn k r (subs_good hg hr) (by have := subs_dep hr; omega) (by have := subs_dep hr; omega)) (by simp) (Keep.app _ _ _) hS.app (by rw [subs_nms hi]; simp; omega) fun s x2 h1 h2 h3 => ?_
      rw [subs_nms hi, List.nil_append] at h1
      simp only [WS_ret, Wp_eFz, Wp_eV, List.getElem?_cons_succ, List.getElem?_cons_zero, Option.some.injEq, exists_eq_left', fz_cel h1, Wp_ok]
      exact ⟨trivial, h2.setHi (Nat.le_refl _), h3.setNe (by omega)⟩
theorem sortset_lst {d : D} {ss : List Str} (h : seqOf st d = some (ss.map D.str)) (hl : ss.length < 1000) : sortSetO d st = .ok (.lst ((srt ss).map D.str)) st := by
  unfold sortSetO
  rw [h]
  simp only [strsOf_map, if_pos hl, sortS_srt]
theorem srt_same {ss ts : List Str} (h : ∀ k, k ∈ ss ↔ k ∈ ts) : srt ss = srt ts := by
  rw [← sortS_srt, ← sortS_srt]
  exact sortS_congr h
theorem names_gn {n : Nat} : ∀ (k : Nat) (a : Rl), a.Good → a.dep ≤ k → a.dep ≤ 8 → SelfN (L_names_in k) n (fun a => srt (nms a)) a
  | 0, a, _, h, _ => by cases a <;> simp [Rl.dep] at h
  | k + 1, a, hg, hd, h8 => by
    intro st b hS
    have hn := hS.lt
    unfold Gn
    rw [L_names_in, m_names]
    simp only [Wp_run, WS_seq, WS_if, Wp_tOf, Wp_eOp, Wp_eV, Wp_eC, Wp_eTup, Wp_aCons, Wp_aNil, startE1, List.replicate, List.getElem?_cons_zero, Option.some.injEq, exists_eq_left', ix_k0, Wp_ok, in2_k0 hg, D.bl.injEq]
    refine ⟨by simp, ?_⟩
    cases hi : isCmp a with
    | false =>
      cases a with
      | no r => cases hi
      | two w r s => cases hi
      | pl p =>
        simp only [Bool.not_false, if_true, WS_ret, Wp_eUn, Wp_eSl, Wp_eV, Wp_pI, Wp_eC, List.getElem?_cons_zero, Option.some.injEq, exists_eq_left', D.int.injEq, sl_d, Wp_ok]
        rw [sortset_lst (ss := [p.a, p.b]) rfl (by simp), Wp_ok]
        exact ⟨rfl, Keep.refl _ _, hS⟩
    | true =>
      have hlen : (nms a).length ≤ 256 := Nat.le_trans (nms_len a) (Nat.le_trans (Nat.pow_le_pow_right (by omega) h8) (by decide))
      have hl2 : (a.subs.flatMap fun r => srt (nms r)).length ≤ (nms a).length := by
        rw [← subs_nms hi]
        have : ∀ rs : List Rl, (rs.flatMap fun r => srt (nms r)).length ≤ (rs.flatMap nms).length := fun rs => by
          induction rs with
          | nil => simp
          | cons r rs ih =>
            have := srt_len (nms r)
            simp only [List.flatMap_cons, List.length_append]
            omega
        exact this _
      have hmem : ∀ x, x ∈ (a.subs.flatMap fun r => srt (nms r)) ↔ x ∈ nms a := fun x => by
        rw [← subs_nms hi]
        simp only [List.mem_flatMap, srt_mem]
      simp only [Bool.not_true, Bool.false_eq_true, if_false, WS_sNx, WS_asg, Wp_eCel, Wp_aNil, gN_eq, WG_some, List.set_cons_succ, List.set_cons_zero, WS_for, Wp_iSq, Wp_eSl, Wp_eV, Wp_pI, Wp_eC, Wp_pN, List.getElem?_cons_succ, List.getElem?_cons_zero, Option.some.injEq, exists_eq_left', D.int.injEq, sl_d, Wp_ok]
      refine ⟨by simp, _, (rfl : itemsOf (D.tup _) = _), ?_⟩
      rw [cut_subs hi]
      refine ext_loop (n := n) (b := b) (c := st.length) (st0 := st) (res := fun r => srt (nms r)) (by omega) (Nat.le_refl _) a.subs [] _ _ (fun r hr => names_gn k r (subs_good hg hr) (by have := subs_dep hr; omega) (by have := subs_dep hr; omega)) (by simp) (Keep.app _ _ _) hS.app (by simp only [List.length_nil]; omega) fun s x2 h1 h2 h3 => ?_
      rw [List.nil_append] at h1
      simp only [WS_ret, Wp_eUn, Wp_eV, List.getElem?_cons_succ, List.getElem?_cons_zero, Option.some.injEq, exists_eq_left']
      rw [sortset_lst (d := .cel st.length) (ss := a.subs.flatMap fun r => srt (nms r)) (by simp only [seqOf, h1, Option.map_some, Cell.get]) (by omega), Wp_ok]
      exact ⟨by rw [srt_same hmem], h2, h3⟩
/-- signals_in and the law's own list agree -/
theorem signals_gn {n b : Nat} {a : Rl} {d : D} (hs : ShR a d) (hg : a.Good) (h8 : a.dep ≤ 8) (hS : Src n b st) : Gn n 0 b st (signals_in [d] st) (fun x => x = .lst ((srt (nms a)).map D.str)) := by
  have hc := checked_rule_eq (st := st) hs hg h8
  have hlen : (nms a).length ≤ 256 := Nat.le_trans (nms_len a) (Nat.le_trans (Nat.pow_le_pow_right (by omega) h8) (by decide))
  unfold Gn
  simp only [signals_in, m_signals_in, Wp_run, WS_ret, Wp_eUn, Wp_eCall, Wp_aCons, Wp_aNil, Wp_eV, startE1, List.replicate, List.getElem?_cons_zero, Option.some.injEq, exists_eq_left', hc, Wp_ok]
  refine ⟨rfl, rfl, (signs_gn (n := n) 8 a hg h8 h8 st b hS).use fun x s hx hk hs => ?_⟩
  subst hx
  rw [sortset_lst rfl (by omega), Wp_ok]
  exact ⟨rfl, hk, hs⟩
end Q
end DL

set_option Elab.async false
set_option linter.all false
set_option maxRecDepth 100000
set_option maxHeartbeats 1000000
namespace DL
open PySem PySem.Spec PyProof.Rows L2
namespace Q
variable {st : Sto}
/-! ### nine questions that a bad rule is handed to -/
section
variable {d x y : D} {ps : List D} (hb : BadAt 8 d ps)
include hb
theorem checked_bad : checked_rule [d] st = .err "BadRule" (pF ps) st := by
  apply err_of
  have := hb 8 [] st (by omega) (by simp)
  simp [checked_rule, m_checked_rule, this]
theorem signals_bad : signals_in [d] st = .err "BadRule" (pF ps) st := by
  apply err_of
  simp [signals_in, m_signals_in, checked_bad hb]
theorem keeps_bad : keeps [d, x] st = .err "BadRule" (pF ps) st := by
  apply err_of
  simp [keeps, m_keeps, checked_bad hb]
theorem plain_bad : check_plain [d] st = .err "BadRule" (pF ps) st := by
  apply err_of
  simp [check_plain, m_check_plain, checked_bad hb]
theorem broken_bad : first_broken [d, x] st = .err "BadRule" (pF ps) st := by
  apply err_of
  simp [first_broken, m_first_broken, plain_bad hb]
theorem watcher_bad : watcher_of [d, x] st = .err "BadRule" (pF ps) st := by
  apply err_of
  simp [watcher_of, m_watcher_of, checked_bad hb]
end
theorem arrows_eq (Cw : Addr) : arrowsM Cw [watD Cw] st = .ok (.lst [.tup [.str "p", .str "a", .tup [], .tup [], .str "p"]]) st := by
  apply Wp.eq
  have h : fldO Cw "tracks" (watD Cw) st = .ok (.tup [.tup [.str "p", .str "a", .tup [], .tup [], .str "p"]]) st := by
    simp only [fldO, watD, if_true]
    rfl
  simp [arrowsM, h, listO, seqOf]
theorem seen_eq (Cw : Addr) : check_seen Cw [watD Cw] st = .ok .non st := by
  apply Wp.eq
  have hm : eMeth0 Cw "arrows" (arrowsM Cw) (eV 0) [some (watD Cw), none, none] st = .ok (.lst [.tup [.str "p", .str "a", .tup [], .tup [], .str "p"]]) st := by
    have hn : ("arrows" : Str) ∉ (["hands", "held", "tracks", "last_ones"] : List Str) := by decide
    have e : eV 0 [some (watD Cw), none, none] st = .ok (watD Cw) st := rfl
    simp only [eMeth0, e, bnd_ok]
    rw [watD]
    dsimp only
    rw [if_pos ⟨rfl, hn⟩]
    exact arrows_eq Cw
  simp only [check_seen, m_check_seen, Wp_run, WS_for, Wp_iEm, startE1, List.replicate, hm, Wp_ok]
  have he : enumD (.lst [.tup [.str "p", .str "a", .tup [], .tup [], .str "p"]]) st = .ok [.tup [.int 0, .tup [.str "p", .str "a", .tup [], .tup [], .str "p"]]] st := by
    rfl
  rw [he, Wp_ok]
  refine WS_cons ?_
  have i1 : ixO (.tup [.str "p", .str "a", .tup [], .tup [], .str "p"]) (.int 1) st = .ok (.str "a") st := ixO_tup (i := 1) rfl
  have o1 : oIsN (.str "a") .non st = .ok (.bl false) st := rfl
  simp [gT, gsCons, gsNil, i1, o1, forM]
section
variable {d x y : D} {ps : List D} (hb : BadAt 8 d ps)
include hb
theorem judged_bad (Cw : Addr) : judged Cw [watD Cw, d] st = .err "BadRule" (pF ps) st := by
  apply err_of
  simp [judged, m_judged, seen_eq, checked_bad hb]
theorem keeping_bad (Cw : Addr) : keeping Cw [watD Cw, d] st = .err "BadRule" (pF ps) st := by
  apply err_of
  simp [keeping, m_keeping, seen_eq, checked_bad hb]
theorem breaking_bad (Cw : Addr) : breaking Cw [watD Cw, d] st = .err "BadRule" (pF ps) st := by
  apply err_of
  simp [breaking, m_breaking, seen_eq, checked_bad hb]
theorem tightest_bad (Cw : Addr) : tightest Cw [watD Cw, d, x] st = .err "BadRule" (pF ps) st := by
  apply err_of
  simp [tightest, m_tightest, seen_eq, plain_bad hb]
end
/-! ### things that are fit for comparison -/
theorem fine_ints (qs : List Int) : fineD (.tup (qs.map D.int)) = true := by
  have key : ∀ qs : List Int, plainDs (qs.map D.int) = true ∧ PyData.canLayAll0 (pyDs (qs.map D.int)) = true ∧ PyData.depthAll (pyDs (qs.map D.int)) = 0 := fun qs => by
    induction qs with
    | nil => simp [plainDs, pyDs, PyData.canLayAll0, PyData.depthAll]
    | cons q qs ih =>
      obtain ⟨h1, h2, h3⟩ := ih
      simp [plainDs, plainD, pyDs, pyD, PyData.canLayAll0, PyData.canLay0, PyData.depthAll, PyData.depth, h1, h2, h3]
  obtain ⟨h1, h2, h3⟩ := key qs
  simp [fineD, plainD, pyD, SeqAt.shaped, PyData.canLay0, PyData.depth, h1, h2, h3]
theorem fine_strs (qs : List Str) (h : ∀ q ∈ qs, PyData.strOk q = true) : fineD (.lst (qs.map D.str)) = true := by
  have key : ∀ qs : List Str, (∀ q ∈ qs, PyData.strOk q = true) → plainDs (qs.map D.str) = true ∧ PyData.canLayAll0 (pyDs (qs.map D.str)) = true ∧ PyData.depthAll (pyDs (qs.map D.str)) = 0 := fun qs => by
    induction qs with
    | nil => intro; simp [plainDs, pyDs, PyData.canLayAll0, PyData.depthAll]
    | cons q qs ih =>
      intro h
      obtain ⟨h1, h2, h3⟩ := ih fun q hq => h q (List.mem_cons_of_mem _ hq)
      simp [plainDs, plainD, pyDs, pyD, PyData.canLayAll0, PyData.canLay0, PyData.depthAll, PyData.depth, h1, h2, h3, h q (List.mem_cons_self ..)]
  obtain ⟨h1, h2, h3⟩ := key qs h
  simp [fineD, plainD, pyD, SeqAt.shaped, PyData.canLay0, PyData.depth, h1, h2, h3]
theorem fine_rl {a : Rl} (hg : a.Good) (hd : a.dep ≤ 8) : fineD a.d = true := by
  obtain ⟨h1, h2, h3⟩ := sh_py (shR_self a) hg
  simp [fineD, SeqAt.shaped, h1, h2]
  omega
/-! ### the jobs -/
theorem lcR_map {me : EM D} {env0 : Env'} {i : Nat} (f : D → D) : ∀ (ds acc : List D), (∀ d ∈ ds, me (env0.set i (some d)) st = .ok (f d) st) → acc.length + ds.length ≤ 100000 → lcMR (gN i) tT me env0 ds acc st = .ok (.lst (acc ++ ds.map f)) st
  | [], acc, _, _ => by simp [lcMR]
  | d :: ds, acc, hm, h => by
    have h' : acc.length + (ds.length + 1) ≤ 100000 := h
    unfold lcMR
    simp only [gN_eq, tT, hm d (List.mem_cons_self ..), if_true]
    rw [if_pos (by omega), lcR_map f ds (acc ++ [f d]) (fun e he => hm e (List.mem_cons_of_mem _ he)) (by simp; omega)]
    simp
section
variable {Cw : Addr} {cells : List (Str × Addr)}
theorem job_gen {i : Nat} {m : EM D} {env : Env'} {qs : List Int} (h9 : env[9]? = some (some (.clo i (lamT i) (cloFrom cells (lamT i).scope.names [])))) (h7 : env[7]? = some (some (.tup (qs.map D.int)))) (hi : (bodiesL Cw)[i]? = some (lamT i, m)) (hm : m (wipeE env [9]) st = .err "BadRule" (pF (qs.map D.int)) st) : eOp oNe (eJobB 9 cells (bodiesL Cw) [9] pathO) (eV 7) env st = .ok (.bl false) st := by
  have e1 : eJobB 9 cells (bodiesL Cw) [9] pathO env st = .ok (.tup (qs.map D.int)) st := by
    unfold eJobB
    simp only [h9, hi, and_self, if_true]
    unfold pathO
    rw [hm]
    simp only [if_true]
    rfl
  have e2 : eV 7 env st = .ok (.tup (qs.map D.int)) st := by simp [eV, h7]
  unfold eOp
  rw [e1]
  simp only [bnd_ok, e2]
  exact ne_self (fine_ints qs)
end
end Q
end DL

set_option Elab.async false
set_option linter.all false
set_option maxRecDepth 100000
set_option maxHeartbeats 1000000
namespace DL
open PySem PySem.Spec PyProof.Rows L2
namespace Q
variable {st : Sto}
section
variable {Cw : Addr} {cells : List (Str × Addr)}
def cl (cells : List (Str × Addr)) (i : Nat) : D := .clo i (lamT i) (cloFrom cells (lamT i).scope.names [])
def clL (cells : List (Str × Addr)) : List D := [cl cells 0, cl cells 1, cl cells 2, cl cells 3, cl cells 4, cl cells 5, cl cells 6, cl cells 7, cl cells 8]
noncomputable abbrev meJ (Cw : Addr) (cells : List (Str × Addr)) : EM D := eOp oNe (eJobB 9 cells (bodiesL Cw) [9] pathO) (eV 7)
theorem jobs_false {q0 q1 : Option D} {x3 x4 x5 x8 : Option D} {odd : D} {qs : List Int} (hb : BadAt 8 odd (qs.map D.int)) : ∀ d ∈ clL cells, meJ Cw cells (([q0, q1, some (watD Cw), x3, x4, x5, some odd, some (.tup (qs.map D.int)), x8, none] : Env').set 9 (some d)) st = .ok (.bl false) st := by
  intro d hd
  simp only [clL, List.mem_cons, List.not_mem_nil, or_false] at hd
  rcases hd with rfl | rfl | rfl | rfl | rfl | rfl | rfl | rfl | rfl
  · refine job_gen (i := 0) rfl rfl rfl ?_
    apply err_of
    simp [wipeE, checked_bad hb]
  · refine job_gen (i := 1) rfl rfl rfl ?_
    apply err_of
    simp [wipeE, signals_bad hb]
  · refine job_gen (i := 2) rfl rfl rfl ?_
    apply err_of
    simp [wipeE, keeps_bad hb]
  · refine job_gen (i := 3) rfl rfl rfl ?_
    apply err_of
    simp [wipeE, broken_bad hb]
  · refine job_gen (i := 4) rfl rfl rfl ?_
    apply err_of
    simp [wipeE, watcher_bad hb]
  · refine job_gen (i := 5) rfl rfl rfl ?_
    apply err_of
    simp [wipeE, judged_bad hb]
  · refine job_gen (i := 6) rfl rfl rfl ?_
    apply err_of
    simp [wipeE, keeping_bad hb]
  · refine job_gen (i := 7) rfl rfl rfl ?_
    apply err_of
    simp [wipeE, breaking_bad hb]
  · refine job_gen (i := 8) rfl rfl rfl ?_
    apply err_of
    simp [wipeE, tightest_bad hb]
theorem jobs_any {q0 q1 : Option D} {x3 x4 x5 x9 : Option D} {odd : D} {qs : List Int} {c : Nat} (hc : st[c]? = some (.lst (clL cells))) (hb : BadAt 8 odd (qs.map D.int)) : tOf (eCB (allO false) (aCons (eLcR (iSq (eFz (eV 8))) (gN 9) tT (meJ Cw cells) [9]) aNil)) [q0, q1, some (watD Cw), x3, x4, x5, some odd, some (.tup (qs.map D.int)), some (.cel c), x9] st = .ok false (st.set c (.fz (clL cells))) := by
  apply Wp.eq
  have hl := lcR_map (st := st.set c (.fz (clL cells))) (me := meJ Cw cells) (env0 := [q0, q1, some (watD Cw), x3, x4, x5, some odd, some (.tup (qs.map D.int)), some (.cel c), none]) (i := 9) (fun _ => .bl false) (clL cells) [] (jobs_false hb) (by simp [clL])
  simp only [Wp_tOf, Wp_eCB, Wp_aCons, Wp_aNil, Wp_eLcR, Wp_iSq, Wp_eFz, Wp_eV, List.getElem?_cons_succ, List.getElem?_cons_zero, Option.some.injEq, exists_eq_left', fz_cel hc, Wp_ok]
  refine ⟨clL cells, rfl, ?_⟩
  rw [show wipeE [q0, q1, some (watD Cw), x3, x4, x5, some odd, some (.tup (qs.map D.int)), some (.cel c), x9] [9] = [q0, q1, some (watD Cw), x3, x4, x5, some odd, some (.tup (qs.map D.int)), some (.cel c), none] from rfl, hl, Wp_ok]
  have ha : allO false [.lst ([] ++ (clL cells).map fun _ => D.bl false)] (st.set c (.fz (clL cells))) = .ok (.bl false) (st.set c (.fz (clL cells))) := by
    simp [allO, lstOf, clL, bls]
  rw [ha, Wp_ok]
  exact ⟨false, rfl, rfl, rfl⟩
/-- one more job in the list -/
theorem app_step {N : Env' → Sto → Prop} {R : D → Sto → Prop} {E : EK} {env : Env'} {c : Nat} {ds : List D} {d : D} {b : Nat} (h8 : env[8]? = some (some (.cel c))) (hc : st[c]? = some (.lst ds)) (hl : ds.length < 100) (hc0 : c ≠ 0) (hS : Src 0 b st) (h : ∀ s : Sto, s[c]? = some (.lst (ds ++ [d])) → Src 0 b s → N env s) : WS (sExp (eBM isCel appO (eV 8) (aCons (eC d) aNil)) env st) N R E := by
  simp only [WS_exp, Wp_eBM, Wp_eV, h8, Option.some.injEq, exists_eq_left', Wp_aCons, Wp_aNil, Wp_eC]
  refine ⟨isCel_ok hc, ?_⟩
  rw [app_ok hc (by omega), Wp_ok]
  refine h _ ?_ (hS.setNe hc0)
  rw [List.getElem?_set_self (List.getElem?_eq_some_iff.mp hc).1]
noncomputable def mJobs (Cw : Addr) (cells : List (Str × Addr)) : SM := (sSeq (sAsg (eCel (aCons (eC (cl cells 0)) aNil)) (gN 8))
    (sSeq (sExp (eBM isCel appO (eV 8) (aCons (eC (cl cells 1)) aNil)))
    (sSeq (sExp (eBM isCel appO (eV 8) (aCons (eC (cl cells 2)) aNil)))
    (sSeq (sExp (eBM isCel appO (eV 8) (aCons (eC (cl cells 3)) aNil)))
    (sSeq (sExp (eBM isCel appO (eV 8) (aCons (eC (cl cells 4)) aNil)))
    (sSeq (sExp (eBM isCel appO (eV 8) (aCons (eC (cl cells 5)) aNil)))
    (sSeq (sExp (eBM isCel appO (eV 8) (aCons (eC (cl cells 6)) aNil)))
    (sSeq (sExp (eBM isCel appO (eV 8) (aCons (eC (cl cells 7)) aNil)))
    (sSeq (sExp (eBM isCel appO (eV 8) (aCons (eC (cl cells 8)) aNil)))
    (sIf (tOf (eCB (allO false) (aCons (eLcR (iSq (eFz (eV 8))) (gN 9) tT (meJ Cw cells) [9]) aNil))) (sRet (eC (.bl false))) sNx))))))))))
theorem jobs_ok {N : Env' → Sto → Prop} {R : D → Sto → Prop} {E : EK} {q0 q1 : Option D} {x3 x4 x5 x8 x9 : Option D} {odd : D} {qs : List Int} {b : Nat} (hb : BadAt 8 odd (qs.map D.int)) (hS : Src 0 b st) (h : ∀ (s : Sto) (x : Option D), Src 0 b s → N [q0, q1, some (watD Cw), x3, x4, x5, some odd, some (.tup (qs.map D.int)), x, x9] s) : WS (mJobs Cw cells [q0, q1, some (watD Cw), x3, x4, x5, some odd, some (.tup (qs.map D.int)), x8, x9] st) N R E := by
  have hn := hS.lt
  have hc0 : st.length ≠ 0 := by omega
  rw [mJobs, WS_seq, WS_asg, Wp_eCel, Wp_aCons, Wp_eC, Wp_aNil]
  refine ⟨rfl, ?_⟩
  simp only [gN_eq, WG_some, List.set_cons_succ, List.set_cons_zero]
  rw [WS_seq]
  refine app_step (ds := [cl cells 0]) rfl (by simp) (by simp) hc0 hS.app fun s1 h1 hS1 => ?_
  rw [WS_seq]
  refine app_step rfl h1 (by simp) hc0 hS1 fun s2 h2 hS2 => ?_
  rw [WS_seq]
  refine app_step rfl h2 (by simp) hc0 hS2 fun s3 h3 hS3 => ?_
  rw [WS_seq]
  refine app_step rfl h3 (by simp) hc0 hS3 fun s4 h4 hS4 => ?_
  rw [WS_seq]
  refine app_step rfl h4 (by simp) hc0 hS4 fun s5 h5 hS5 => ?_
  rw [WS_seq]
  refine app_step rfl h5 (by simp) hc0 hS5 fun s6 h6 hS6 => ?_
  rw [WS_seq]
  refine app_step rfl h6 (by simp) hc0 hS6 fun s7 h7 hS7 => ?_
  rw [WS_seq]
  refine app_step rfl h7 (by simp) hc0 hS7 fun s8 h8 hS8 => ?_
  rw [WS_if, jobs_any (cells := cells) h8 hb, Wp_ok]
  exact h _ _ (hS8.setNe hc0)
end
end Q
end DL

set_option Elab.async false
set_option linter.all false
set_option maxRecDepth 100000
set_option maxHeartbeats 1000000
namespace DL
open PySem PySem.Spec PyProof.Rows L2
namespace Q
variable {st : Sto}
section
variable {Cw : Addr} {cells : List (Str × Addr)}
noncomputable def mT1 : SM := (sAsg (eCall 5 (L_rule 8) (aCons (eV 1) (aCons (eCall 2 L_words (aCons (eV 1) (aCons (eC (.int 3)) aNil))) (aCons (eC (.int 6)) (aCons (eC (.int 3)) (aCons (eC (.int 3)) aNil)))))) (gN 4))
noncomputable def mT2 : SM := (sAsg (eCall 2 (L_shown_rule 8) (aCons (eV 1) (aCons (eV 4) aNil))) (gN 5))
noncomputable def mT3 : SM := (sIf (bOr (tOf (eOp oNe (eCall 1 checked_rule (aCons (eV 5) aNil)) (eV 4))) (tOf (eOp oNe (eCall 1 signals_in (aCons (eV 5) aNil)) (eCall 1 (L_names_in 8) (aCons (eV 4) aNil))))) (sRet (eC (.bl false))) sNx)
noncomputable def mT4 : SM := (sAsg (eCall 2 (L_spoil 8) (aCons (eV 1) (aCons (eV 4) aNil))) (gT 2 (gsCons (gN 6) (gsCons (gN 7) gsNil))))
noncomputable def mT5 : SM := (sAsg (eCall 2 L_pick (aCons (eV 1) (aCons (eLst (aCons (eV 6) (aCons (eIf (tOf (eIsa "list" (eV 6))) (eCB tupleO (aCons (eV 6) aNil)) (eV 6)) aNil))) aNil))) (gN 6))
noncomputable def mTurn (Cw : Addr) (cells : List (Str × Addr)) : SM := sSeq mT1 (sSeq mT2 (sSeq mT3 (sSeq mT4 (sSeq mT5 (mJobs Cw cells)))))
theorem m_lawE (Cw : Addr) (cells : List (Str × Addr)) : m_law Cw cells = (sSeq (sAsg (eCall 1 L_source (aCons (eV 0) aNil)) (gN 1))
    (sSeq (sAsg (eC (watD Cw)) (gN 2))
    (sSeq (sFor (iR1 (aCons (eC (.int 4)) aNil)) (gN 3) (mTurn Cw cells))
    (sRet (eC (.bl true)))))) := rfl
section
variable {N : Env' → Sto → Prop} {R : D → Sto → Prop} {E : EK} {q0 q2 q3 x4 x5 x6 x7 x8 x9 : Option D} {b : Nat}
theorem t1_ok (hS : Src 0 b st) (hb : b + 200 ≤ 100000) (h : ∀ (a : Rl) (s : Sto), a.Good → a.dep ≤ 4 → Src 0 (b + 27 + 150) s → N [q0, some (.cel 0), q2, q3, some a.d, x5, x6, x7, x8, x9] s) : WS (mT1 [q0, some (.cel 0), q2, q3, x4, x5, x6, x7, x8, x9] st) N R E := by
  have hw := words_gn (m := 3) hS (by omega) (by omega)
  obtain ⟨d, s, e, ⟨fs, rfl, hl, hf⟩, hk, hs⟩ := hw
  have e' : L_words [.cel 0, .int 3] st = .ok (.lst (fs.map D.str)) s := e
  simp only [mT1, WS_asg, Wp_eCall, Wp_aCons, Wp_aNil, Wp_eV, Wp_eC, List.getElem?_cons_succ, List.getElem?_cons_zero, Option.some.injEq, exists_eq_left', e', Wp_ok]
  have c3 : cR 3 ≤ 150 := by decide
  refine ⟨rfl, rfl, (rule_gn (n := 0) (fs := fs) (by omega) (by omega) hf 8 3 3 _ s (by omega) (by omega) (by omega) hs (by omega)).use fun d s2 hd hk2 hs2 => ?_⟩
  obtain ⟨a, rfl, ga, da⟩ := hd
  exact h a s2 ga da (hs2.mono (by omega))
theorem t2_ok {a : Rl} (hd : a.dep ≤ 4) (hS : Src 0 b st) (hb : b + 200 ≤ 100000) (h : ∀ (d : D) (s : Sto), ShR a d → Src 0 (b + 16) s → N [q0, some (.cel 0), q2, q3, some a.d, some d, x6, x7, x8, x9] s) : WS (mT2 [q0, some (.cel 0), q2, q3, some a.d, x5, x6, x7, x8, x9] st) N R E := by
  have hc : cS a ≤ 16 := by
    have h1 := cS_le a
    have h2 : 2 ^ a.dep ≤ 2 ^ 4 := Nat.pow_le_pow_right (by omega) hd
    omega
  simp only [mT2, WS_asg, Wp_eCall, Wp_aCons, Wp_aNil, Wp_eV, Wp_eC, List.getElem?_cons_succ, List.getElem?_cons_zero, Option.some.injEq, exists_eq_left']
  refine ⟨rfl, (shown_gn (n := 0) 8 a b st (by omega) hS (by omega)).use fun d s2 hd hk2 hs2 => ?_⟩
  exact h d s2 hd (hs2.mono (by omega))
theorem t3_ok {a : Rl} {d : D} (hg : a.Good) (hd : a.dep ≤ 4) (hs : ShR a d) (hS : Src 0 b st) (h : ∀ s : Sto, Src 0 b s → N [q0, some (.cel 0), q2, q3, some a.d, some d, x6, x7, x8, x9] s) : WS (mT3 [q0, some (.cel 0), q2, q3, some a.d, some d, x6, x7, x8, x9] st) N R E := by
  have hc := checked_rule_eq (st := st) hs hg (by omega)
  have hf := fine_rl hg (by omega)
  have hfs : fineD (.lst ((srt (nms a)).map D.str)) = true := fine_strs _ fun q hq => nameS_ok (nms_ok hg q ((srt_mem q _).mp hq))
  simp only [mT3, WS_if, Wp_bOr, Wp_tOf, Wp_eOp, Wp_eCall, Wp_aCons, Wp_aNil, Wp_eV, List.getElem?_cons_succ, List.getElem?_cons_zero, Option.some.injEq, exists_eq_left', hc, Wp_ok, ne_self hf]
  refine ⟨rfl, false, rfl, ?_⟩
  rw [if_neg (by simp)]
  refine ⟨rfl, (signals_gn (n := 0) (b := b) hs hg (by omega) hS).use fun x s2 hx hk2 hs2 => ?_⟩
  subst hx
  refine ⟨rfl, (names_gn (n := 0) 8 a hg (by omega) (by omega) s2 b hs2).use fun x s3 hx hk3 hs3 => ?_⟩
  subst hx
  rw [ne_self hfs, Wp_ok]
  refine ⟨false, rfl, ?_⟩
  rw [if_neg (by simp), WS_sNx]
  exact h s3 hs3
theorem t4_ok {a : Rl} (hg : a.Good) (hd : a.dep ≤ 4) (hS : Src 0 b st) (hb : b + 200 ≤ 100000) (h : ∀ (odd : D) (qs : List Int) (s : Sto), BadF 8 odd qs → Src 0 (b + 48) s → N [q0, some (.cel 0), q2, q3, some a.d, x5, some odd, some (.tup (qs.map D.int)), x8, x9] s) : WS (mT4 [q0, some (.cel 0), q2, q3, some a.d, x5, x6, x7, x8, x9] st) N R E := by
  simp only [mT4, WS_asg, Wp_eCall, Wp_aCons, Wp_aNil, Wp_eV, Wp_eC, List.getElem?_cons_succ, List.getElem?_cons_zero, Option.some.injEq, exists_eq_left']
  refine ⟨rfl, (spoil_gn (n := 0) 8 a b st hg (by omega) (by omega) hS (by omega)).use fun d s2 hd hk2 hs2 => ?_⟩
  obtain ⟨odd, qs, rfl, _, hbad⟩ := hd
  simp only [gT, gsCons, gsNil, gN_eq, List.length_cons, List.length_nil, if_true, List.set_cons_succ, List.set_cons_zero, WG_some]
  exact h odd qs s2 (hbad.mono (by omega)) (hs2.mono (by omega))
theorem t5_ok {odd : D} {qs : List Int} (hB : BadF 8 odd qs) (hS : Src 0 b st) (hb : b + 200 ≤ 100000) (h : ∀ (o : D) (s : Sto), BadAt 8 o (qs.map D.int) → Src 0 (b + 1) s → N [q0, some (.cel 0), q2, q3, x4, x5, some o, x7, x8, x9] s) : WS (mT5 [q0, some (.cel 0), q2, q3, x4, x5, some odd, x7, x8, x9] st) N R E := by
  have e2 : ∃ o2, BadAt 8 o2 (qs.map D.int) ∧ (eIf (tOf (eIsa "list" (eV 6))) (eCB tupleO (aCons (eV 6) aNil)) (eV 6) : EM D) [q0, some (.cel 0), q2, q3, x4, x5, some odd, x7, x8, x9] st = .ok o2 st := by
    cases hi : isaB (tyN odd) "list" with
    | false =>
      refine ⟨odd, hB.a, Wp.eq ?_⟩
      simp [hB.f, hi]
    | true =>
      have : ∃ xs, odd = .lst xs := by
        cases odd with
        | lst xs => exact ⟨xs, rfl⟩
        | cel n => exact hB.l rfl
        | scr n => exact hB.l rfl
        | _ => simp [tyN, isaB] at hi
      obtain ⟨xs, rfl⟩ := this
      refine ⟨.tup xs, hB.t xs rfl, Wp.eq ?_⟩
      have ht : tupleO [.lst xs] st = .ok (.tup xs) st := mk_tuple false xs
      simp [tyN, isaB, ht]
  obtain ⟨o2, hb2, e2⟩ := e2
  simp only [mT5, WS_asg, Wp_eCall, Wp_aCons, Wp_aNil, Wp_eV, Wp_eC, Wp_eLst, List.getElem?_cons_succ, List.getElem?_cons_zero, Option.some.injEq, exists_eq_left', e2, Wp_ok]
  refine ⟨by simp, rfl, (pick_mk (t := false) (xs := [odd, o2]) hS (by omega) (by simp) (by simp)).use fun d s2 hd hk2 hs2 => ?_⟩
  simp only [List.mem_cons, List.not_mem_nil, or_false] at hd
  rcases hd with rfl | rfl
  · exact h _ s2 hB.a hs2
  · exact h _ s2 hb2 hs2
end
def Nx (Cw : Addr) (ns : List Int) (b : Nat) (env : Env') (s : Sto) : Prop := ∃ x3 x4 x5 x6 x7 x8 x9 : Option D, env = [some (.scr ns), some (.cel 0), some (watD Cw), x3, x4, x5, x6, x7, x8, x9] ∧ Src 0 b s
theorem turn_ok {R : D → Sto → Prop} {E : EK} {ns : List Int} {b : Nat} {env : Env'} {x3 : Option D} (h : Nx Cw ns b env st) (hb : b + 1000 ≤ 50000) : WS (mTurn Cw cells (env.set 3 x3) st) (fun e s => Nx Cw ns (b + 1000) e s) R E := by
  obtain ⟨y3, x4, x5, x6, x7, x8, x9, rfl, hS⟩ := h
  simp only [List.set_cons_succ, List.set_cons_zero]
  rw [mTurn, WS_seq]
  refine t1_ok hS (by omega) fun a s1 hg hd hS1 => ?_
  rw [WS_seq]
  refine t2_ok hd hS1 (by omega) fun d s2 hs hS2 => ?_
  rw [WS_seq]
  refine t3_ok hg hd hs hS2 fun s3 hS3 => ?_
  rw [WS_seq]
  refine t4_ok hg hd hS3 (by omega) fun odd qs s4 hB hS4 => ?_
  rw [WS_seq]
  refine t5_ok hB hS4 (by omega) fun o s5 hbo hS5 => ?_
  refine jobs_ok hbo hS5 fun s6 x hS6 => ?_
  exact ⟨_, _, _, _, _, _, _, rfl, hS6.mono (by omega)⟩
theorem law_true (Cw : Addr) (cells : List (Str × Addr)) (ns : List Int) (h : ns.length ≤ 63) (hz : ∀ z ∈ ns, Builtin.Int.intBits z ≤ 1048576) : ∃ st, law Cw cells [.scr ns] [] = .ok (.bl true) st := by
  have key : Wp (law Cw cells [.scr ns] []) (fun d _ => d = .bl true) E_ := by
    rw [law, m_lawE]
    simp only [Wp_run, startE1, List.replicate, WS_seq, WS_asg, Wp_eCall, Wp_aCons, Wp_aNil, Wp_eV, Wp_eC, List.getElem?_cons_succ, List.getElem?_cons_zero, Option.some.injEq, exists_eq_left']
    refine ⟨rfl, (source_ok ns).mp fun d s hd => ?_⟩
    obtain ⟨rfl, hs⟩ := hd
    simp only [gN_eq, WG_some, List.set_cons_succ, List.set_cons_zero, WS_for, Wp_iR1, Wp_aCons, Wp_aNil, Wp_eC]
    rw [show rangeD1 [.int 4] s = .ok ((List.range 4).map fun (k : Nat) => .int (0 + (k : Int))) s from range_ok (j := 4) (by omega), Wp_ok]
    refine WS_forM (fun ds env s => ∃ k : Nat, ds.length + k = 4 ∧ Nx Cw ns (1000 * k) env s) (fun d ds env s hI => ?_) (fun env s hI => ?_) _ _ _ ⟨0, by simp, _, _, _, _, _, _, _, rfl, hs⟩
    · obtain ⟨k, hk, hN⟩ := hI
      have hk' : ds.length + 1 + k = 4 := hk
      rw [gN_eq, WG_some]
      exact WS.imp (turn_ok hN (by omega)) (fun e s h => ⟨k + 1, by omega, by rw [show 1000 * (k + 1) = 1000 * k + 1000 by omega]; exact h⟩) (fun _ _ h => h) fun _ _ _ h => h
    · simp
  obtain ⟨d, s, e, hd⟩ := key.ok_of
  rw [hd] at e
  exact ⟨s, e⟩
end
end Q
end DL

set_option Elab.async false
set_option linter.all false
set_option maxRecDepth 100000
set_option maxHeartbeats 4000000
namespace DL
open PySem PySem.Spec PyProof.Rows L2
namespace Q
theorem exmK1 {K : PySem.W.Frag} {mg : Str → Option Value} {c1 : Str} {C1 : Addr} (h1 : mg c1 = some (.ref C1)) (e1 : PySem.W.exmOne K (.ref C1) (.ref C1) = some true) : ExmK K mg [c1] := by
  intro c hc c' hc' C C' g g'
  have k : c = c1 := by simpa using hc
  have k' : c' = c1 := by simpa using hc'
  subst k
  subst k'
  rw [h1] at g g'
  cases g
  cases g'
  rw [e1]
  simp
structure WatKs (K : PySem.W.Frag) (mg : Str → Option Value) (Cw fA : Addr) (fdA : FuncData) (fI : Addr) (fdI : FuncData) : Prop where
  cls : Cls K Cw
  n1 : NoAttr K Cw "hands"
  n2 : NoAttr K Cw "held"
  n3 : NoAttr K Cw "tracks"
  n4 : NoAttr K Cw "last_ones"
  ma : Meth K Cw "arrows" fA
  FA : Fun K "arrows" "Watcher.arrows" s_arrows fA fdA
  gw : mg "Watcher" = some (.ref Cw)
  mkr : Mk K Cw fI
  FI : Fun K "__init__" "Watcher.__init__" s_init fI fdI
structure WatK (K : PySem.W.Frag) (mg : Str → Option Value) (Cw : Addr) : Prop where
  ex : ∃ fA fdA fI fdI, WatKs K mg Cw fA fdA fI fdI
theorem watK_mk {K : PySem.W.Frag} {h : Heap} {mg : Str → Option Value} {C fA fI : Addr} {oc kV dc pm cd ct : Value} {od an : Option Addr} {sl : Array (Option Value)} {oc2 kV2 dc2 pm2 cd2 ct2 : Value} {od2 an2 : Option Addr} {sl2 : Array (Option Value)} (X : K.In h) (G : h.Ns mainGlobals mg)
    (a : PySem.W.nsIn K mainGlobals "Watcher" = some (some (.ref C))) (pg : PySem.W.plainGet K C Str.empty = true) (hd : PySem.W.hasDictIn K C = true) (po : PySem.W.plainOver K C = true) (sa : PySem.W.findIn K (.ref C) "__setattr__" = some (some (.builtin "object.__setattr__")))
    (n1 : PySem.W.findIn K (.ref C) "hands" = some none) (n2 : PySem.W.findIn K (.ref C) "held" = some none) (n3 : PySem.W.findIn K (.ref C) "tracks" = some none) (n4 : PySem.W.findIn K (.ref C) "last_ones" = some none)
    (am : PySem.W.findIn K (.ref C) "arrows" = some (some (.ref fA))) (hA : PySem.W.isFn K (.ref fA) = true) (kA : PySem.W.keepIn K (.ref fA) = true)
    (lA : K.lookup fA = some ⟨oc, od, .func (PySem.W.fnOf "arrows" "Watcher.arrows" (defArgs s_arrows) (defBody s_arrows) (defScope s_arrows) .none kV dc pm an cd ct), sl⟩) (cA : PySem.W.codeIn K cd "Watcher.arrows" = true)
    (mk : PySem.W.makesIn K C = true) (im : PySem.W.findIn K (.ref C) "__init__" = some (some (.ref fI))) (hI : PySem.W.isFn K (.ref fI) = true) (kC : PySem.W.keepIn K (.ref C) = true)
    (lI : K.lookup fI = some ⟨oc2, od2, .func (PySem.W.fnOf "__init__" "Watcher.__init__" (defArgs s_init) (defBody s_init) (defScope s_init) .none kV2 dc2 pm2 an2 cd2 ct2), sl2⟩) (cI : PySem.W.codeIn K cd2 "Watcher.__init__" = true) (kI : PySem.W.keepIn K (.ref fI) = true) : WatK K mg C :=
  ⟨fA, _, fI, _, ⟨⟨pg, hd, po, sa⟩, n1, n2, n3, n4, ⟨am, hA, kA⟩, fun_mk lA cA kA, PySem.W.mg_of X G a, ⟨mk, im, hI, kC⟩, fun_mk lI cI kI⟩⟩
theorem the_law {l : PySem.W.OpenLaw} {w : World} {K : PySem.W.Frag} {mg : Str → Option Value} {h : Heap} {fa fl c Pt : Addr} {oc kV doc pm ct : Value} {an od : Option Addr} {osl : Array (Option Value)} (X : K.In h) (G : h.Ns mainGlobals mg) (hT8 : h.get? Pt = some (PySem.W.tabObj #[])) (nT : K.lookup Pt = none) (hC : PySem.W.codeHdIn K c Pt = true)
    (Z : Fx w K mg [(Pt, ("law" : Str) ++ ".<locals>." ++ "<lambda>")]) (F_is_cut : FnAt K mg "is_cut" s_is_cut) (F_kept_run : FnAt K mg "kept_run" s_kept_run) (F_verdict_on : FnAt K mg "verdict_on" s_verdict_on) (F_broken_run : FnAt K mg "broken_run" s_broken_run) (F_is_integer : FnAt K mg "is_integer" s_is_integer) (F_is_natural : FnAt K mg "is_natural" s_is_natural) (F_is_list : FnAt K mg "is_list" s_is_list) (F_is_name : FnAt K mg "is_name" s_is_name) (F_as_tuples : FnAt K mg "as_tuples" s_as_tuples) (F_first_bad_name : FnAt K mg "first_bad_name" s_first_bad_name) (F_is_of : FnAt K mg "is_of" s_is_of) (F_first_stranger : FnAt K mg "first_stranger" s_first_stranger) (F_is_limit : FnAt K mg "is_limit" s_is_limit) (F_is_arrow : FnAt K mg "is_arrow" s_is_arrow) (F_rule_at : FnAt K mg "rule_at" s_rule_at) (F_checked_rule : FnAt K mg "checked_rule" s_checked_rule) (F_signs_of : FnAt K mg "signs_of" s_signs_of) (F_signals_in : FnAt K mg "signals_in" s_signals_in) (F_keeps : FnAt K mg "keeps" s_keeps) (F_check_plain : FnAt K mg "check_plain" s_check_plain) (F_first_broken : FnAt K mg "first_broken" s_first_broken) (F_watcher_of : FnAt K mg "watcher_of" s_watcher_of) (F_check_seen : FnAt K mg "check_seen" s_check_seen) (F_keeping : FnAt K mg "keeping" s_keeping) (F_breaking : FnAt K mg "breaking" s_breaking) (F_judged : FnAt K mg "judged" s_judged) (F_tightest : FnAt K mg "tightest" s_tightest) (F_L_source : FnAt K mg "_law_source" s_L_source) (F_L_draw : FnAt K mg "_law_draw" s_L_draw) (F_L_pick : FnAt K mg "_law_pick" s_L_pick) (F_L_order : FnAt K mg "_law_order" s_L_order) (F_L_words : FnAt K mg "_law_words" s_L_words) (F_L_plain : FnAt K mg "_law_plain" s_L_plain) (F_L_rule : FnAt K mg "_law_rule" s_L_rule) (F_L_shown_rule : FnAt K mg "_law_shown_rule" s_L_shown_rule) (F_L_names_in : FnAt K mg "_law_names_in" s_L_names_in) (F_L_spoil : FnAt K mg "_law_spoil" s_L_spoil) (F_tried : FnAt K mg "_law_path" s_L_path) (ex : ExmK K mg knownE) {Cw : Addr} (hWK : WatK K mg Cw)
    (hfa : mg "law" = some (.ref fa)) (al : PySem.W.nsIn K mainGlobals "law" = some (some (.ref fl))) (lk : K.lookup fl = some ⟨oc, od, .func (PySem.W.fnOf "law" "law" (defArgs s_law) (defBody s_law) (defScope s_law) .none kV doc pm an (.ref c) ct), osl⟩) (hcd : PySem.W.codeIn K (.ref c) "law" = true)
    (hm : ∀ cells, ∀ ns : List Int, ns.length ≤ 63 → (∀ z ∈ ns, Builtin.Int.intBits z ≤ 1048576) → ∃ st, law Cw cells [.scr ns] [] = .ok (.bl true) st) :
    LamX.LawAtS l w K (L2.CX l.prog w) 16 63 "_law_script" mg fa h := by
  have e := hfa.symm.trans (PySem.W.mg_of X G al)
  cases e
  obtain ⟨g, gd, hgT, FT⟩ := F_tried
  refine law_atC (fd := PySem.W.fnOf "law" "law" (defArgs s_law) (defBody s_law) (defScope s_law) .none kV doc pm an (.ref c) ct) (cs := [(c, Pt)]) (T := [(Pt, ("law" : Str) ++ ".<locals>." ++ "<lambda>")]) (m := law Cw) (fun p hp => ?_) (fun p hp => ?_) (fun p hp => ?_) (fun s u => .of_eq rfl) (fun p hp => ?_) hm fun base hin hns htab => ?_
  · rw [List.mem_singleton.mp hp]; exact hT8
  · rw [List.mem_singleton.mp hp]; exact nT
  · rw [List.mem_singleton.mp hp]; exact PySem.W.codeHd_of_K X hC
  · rw [List.mem_singleton.mp hp]; exact List.mem_singleton.mpr rfl
  obtain ⟨fA, fdA, fI, fdI, wk⟩ := hWK.ex
  have hW : WatF l.prog w base ⟨K, mg, [(Pt, ("law" : Str) ++ ".<locals>." ++ "<lambda>")]⟩ Cw := ⟨wk.cls, ok_arrows Z wk.FA wk.ma wk.cls wk.n3⟩
  have h_is_cut : Has l.prog w base ⟨K, mg, [(Pt, ("law" : Str) ++ ".<locals>." ++ "<lambda>")]⟩ "is_cut" ["thing", "clocks"] 0 stubM := by
    obtain ⟨_, _, hf, F⟩ := F_is_cut
    exact Has.none hf F.kp (F.binds (fun _ _ _ _ _ _ us hl => match us, hl with | [_, _], _ => rfl))
  have h_kept_run : Has l.prog w base ⟨K, mg, [(Pt, ("law" : Str) ++ ".<locals>." ++ "<lambda>")]⟩ "kept_run" ["watcher", "rule"] 0 stubM := by
    obtain ⟨_, _, hf, F⟩ := F_kept_run
    exact Has.none hf F.kp (F.binds (fun _ _ _ _ _ _ us hl => match us, hl with | [_, _], _ => rfl))
  have h_verdict_on : Has l.prog w base ⟨K, mg, [(Pt, ("law" : Str) ++ ".<locals>." ++ "<lambda>")]⟩ "verdict_on" ["watcher", "rule"] 0 stubM := by
    obtain ⟨_, _, hf, F⟩ := F_verdict_on
    exact Has.none hf F.kp (F.binds (fun _ _ _ _ _ _ us hl => match us, hl with | [_, _], _ => rfl))
  have h_broken_run : Has l.prog w base ⟨K, mg, [(Pt, ("law" : Str) ++ ".<locals>." ++ "<lambda>")]⟩ "broken_run" ["watcher", "rule"] 0 stubM := by
    obtain ⟨_, _, hf, F⟩ := F_broken_run
    exact Has.none hf F.kp (F.binds (fun _ _ _ _ _ _ us hl => match us, hl with | [_, _], _ => rfl))
  have h_is_integer : Has l.prog w base ⟨K, mg, [(Pt, ("law" : Str) ++ ".<locals>." ++ "<lambda>")]⟩ "is_integer" ["thing"] 1 is_integer := by
    obtain ⟨_, _, hf, F⟩ := F_is_integer
    exact ok_is_integer Z F hf 
  have h_is_natural : Has l.prog w base ⟨K, mg, [(Pt, ("law" : Str) ++ ".<locals>." ++ "<lambda>")]⟩ "is_natural" ["thing"] 2 is_natural := by
    obtain ⟨_, _, hf, F⟩ := F_is_natural
    exact ok_is_natural Z F hf h_is_integer
  have h_is_list : Has l.prog w base ⟨K, mg, [(Pt, ("law" : Str) ++ ".<locals>." ++ "<lambda>")]⟩ "is_list" ["thing"] 1 is_list := by
    obtain ⟨_, _, hf, F⟩ := F_is_list
    exact ok_is_list Z F hf 
  have h_is_name : Has l.prog w base ⟨K, mg, [(Pt, ("law" : Str) ++ ".<locals>." ++ "<lambda>")]⟩ "is_name" ["thing"] 1 is_name := by
    obtain ⟨_, _, hf, F⟩ := F_is_name
    exact ok_is_name Z F hf 
  have h_as_tuples : Has l.prog w base ⟨K, mg, [(Pt, ("law" : Str) ++ ".<locals>." ++ "<lambda>")]⟩ "as_tuples" ["thing"] 9 (as_tuples 8) := by
    obtain ⟨_, _, hf, F⟩ := F_as_tuples
    exact rec_as_tuples Z F hf h_is_list 8
  have h_first_bad_name : Has l.prog w base ⟨K, mg, [(Pt, ("law" : Str) ++ ".<locals>." ++ "<lambda>")]⟩ "first_bad_name" ["things"] 2 first_bad_name := by
    obtain ⟨_, _, hf, F⟩ := F_first_bad_name
    exact ok_first_bad_name Z F hf h_is_list h_is_name
  have h_is_of : Has l.prog w base ⟨K, mg, [(Pt, ("law" : Str) ++ ".<locals>." ++ "<lambda>")]⟩ "is_of" ["thing", "words"] 1 is_of := by
    obtain ⟨_, _, hf, F⟩ := F_is_of
    exact ok_is_of Z F hf 
  have h_first_stranger : Has l.prog w base ⟨K, mg, [(Pt, ("law" : Str) ++ ".<locals>." ++ "<lambda>")]⟩ "first_stranger" ["things", "words"] 2 first_stranger := by
    obtain ⟨_, _, hf, F⟩ := F_first_stranger
    exact ok_first_stranger Z F hf h_is_list h_is_of
  have h_is_limit : Has l.prog w base ⟨K, mg, [(Pt, ("law" : Str) ++ ".<locals>." ++ "<lambda>")]⟩ "is_limit" ["thing", "clocks"] 1 is_limit := by
    obtain ⟨_, _, hf, F⟩ := F_is_limit
    exact ok_is_limit Z F hf 
  have h_is_arrow : Has l.prog w base ⟨K, mg, [(Pt, ("law" : Str) ++ ".<locals>." ++ "<lambda>")]⟩ "is_arrow" ["thing", "places", "clocks"] 3 is_arrow := by
    obtain ⟨_, _, hf, F⟩ := F_is_arrow
    exact ok_is_arrow Z F hf h_is_list h_is_of h_is_name h_is_cut h_first_stranger
  have h_rule_at : Has l.prog w base ⟨K, mg, [(Pt, ("law" : Str) ++ ".<locals>." ++ "<lambda>")]⟩ "rule_at" ["thing", "path"] 10 (rule_at 8) := by
    obtain ⟨_, _, hf, F⟩ := F_rule_at
    exact rec_rule_at Z F hf h_is_list h_is_natural h_is_of h_is_name 8
  have h_checked_rule : Has l.prog w base ⟨K, mg, [(Pt, ("law" : Str) ++ ".<locals>." ++ "<lambda>")]⟩ "checked_rule" ["thing"] 11 checked_rule := by
    obtain ⟨_, _, hf, F⟩ := F_checked_rule
    exact ok_checked_rule Z F hf h_rule_at
  have h_signs_of : Has l.prog w base ⟨K, mg, [(Pt, ("law" : Str) ++ ".<locals>." ++ "<lambda>")]⟩ "signs_of" ["rule"] 8 (signs_of 8) := by
    obtain ⟨_, _, hf, F⟩ := F_signs_of
    exact rec_signs_of Z F hf  8
  have h_signals_in : Has l.prog w base ⟨K, mg, [(Pt, ("law" : Str) ++ ".<locals>." ++ "<lambda>")]⟩ "signals_in" ["rule"] 12 signals_in := by
    obtain ⟨_, _, hf, F⟩ := F_signals_in
    exact ok_signals_in Z F hf h_checked_rule h_signs_of
  have h_keeps : Has l.prog w base ⟨K, mg, [(Pt, ("law" : Str) ++ ".<locals>." ++ "<lambda>")]⟩ "keeps" ["rule", "row"] 12 keeps := by
    obtain ⟨_, _, hf, F⟩ := F_keeps
    exact ok_keeps Z F hf h_checked_rule
  have h_check_plain : Has l.prog w base ⟨K, mg, [(Pt, ("law" : Str) ++ ".<locals>." ++ "<lambda>")]⟩ "check_plain" ["rule"] 12 check_plain := by
    obtain ⟨_, _, hf, F⟩ := F_check_plain
    exact ok_check_plain Z F hf h_checked_rule
  have h_first_broken : Has l.prog w base ⟨K, mg, [(Pt, ("law" : Str) ++ ".<locals>." ++ "<lambda>")]⟩ "first_broken" ["rule", "row"] 13 first_broken := by
    obtain ⟨_, _, hf, F⟩ := F_first_broken
    exact ok_first_broken Z F hf h_check_plain
  have h_watcher_of : Has l.prog w base ⟨K, mg, [(Pt, ("law" : Str) ++ ".<locals>." ++ "<lambda>")]⟩ "watcher_of" ["rule", "signals"] 12 watcher_of := by
    obtain ⟨_, _, hf, F⟩ := F_watcher_of
    exact ok_watcher_of Z F hf h_checked_rule
  have h_check_seen : Has l.prog w base ⟨K, mg, [(Pt, ("law" : Str) ++ ".<locals>." ++ "<lambda>")]⟩ "check_seen" ["watcher"] 3 (check_seen Cw) := by
    obtain ⟨_, _, hf, F⟩ := F_check_seen
    exact ok_check_seen Z F hf hW 
  have h_keeping : Has l.prog w base ⟨K, mg, [(Pt, ("law" : Str) ++ ".<locals>." ++ "<lambda>")]⟩ "keeping" ["watcher", "rule"] 12 (keeping Cw) := by
    obtain ⟨_, _, hf, F⟩ := F_keeping
    exact ok_keeping Z F hf hW h_check_seen h_checked_rule h_kept_run
  have h_breaking : Has l.prog w base ⟨K, mg, [(Pt, ("law" : Str) ++ ".<locals>." ++ "<lambda>")]⟩ "breaking" ["watcher", "rule"] 12 (breaking Cw) := by
    obtain ⟨_, _, hf, F⟩ := F_breaking
    exact ok_breaking Z F hf hW h_check_seen h_checked_rule h_broken_run
  have h_judged : Has l.prog w base ⟨K, mg, [(Pt, ("law" : Str) ++ ".<locals>." ++ "<lambda>")]⟩ "judged" ["watcher", "rule"] 12 (judged Cw) := by
    obtain ⟨_, _, hf, F⟩ := F_judged
    exact ok_judged Z F hf hW h_check_seen h_checked_rule h_verdict_on
  have h_tightest : Has l.prog w base ⟨K, mg, [(Pt, ("law" : Str) ++ ".<locals>." ++ "<lambda>")]⟩ "tightest" ["watcher", "rule", "most"] 13 (tightest Cw) := by
    obtain ⟨_, _, hf, F⟩ := F_tightest
    exact ok_tightest Z F hf hW h_check_seen h_check_plain
  have h_L_source : Has l.prog w base ⟨K, mg, [(Pt, ("law" : Str) ++ ".<locals>." ++ "<lambda>")]⟩ "_law_source" ["_law_script"] 1 L_source := by
    obtain ⟨_, _, hf, F⟩ := F_L_source
    exact ok_L_source Z F hf 
  have h_L_draw : Has l.prog w base ⟨K, mg, [(Pt, ("law" : Str) ++ ".<locals>." ++ "<lambda>")]⟩ "_law_draw" ["_law_source_here", "_law_many"] 1 L_draw := by
    obtain ⟨_, _, hf, F⟩ := F_L_draw
    exact ok_L_draw Z F hf 
  have h_L_pick : Has l.prog w base ⟨K, mg, [(Pt, ("law" : Str) ++ ".<locals>." ++ "<lambda>")]⟩ "_law_pick" ["_law_source_here", "_law_things"] 2 L_pick := by
    obtain ⟨_, _, hf, F⟩ := F_L_pick
    exact ok_L_pick Z F hf h_L_draw
  have h_L_order : Has l.prog w base ⟨K, mg, [(Pt, ("law" : Str) ++ ".<locals>." ++ "<lambda>")]⟩ "_law_order" ["_law_source_here", "_law_things"] 2 L_order := by
    obtain ⟨_, _, hf, F⟩ := F_L_order
    exact ok_L_order Z F hf h_L_draw
  have h_L_words : Has l.prog w base ⟨K, mg, [(Pt, ("law" : Str) ++ ".<locals>." ++ "<lambda>")]⟩ "_law_words" ["_law_source_here", "_law_many"] 3 L_words := by
    obtain ⟨_, _, hf, F⟩ := F_L_words
    exact ok_L_words Z F hf h_L_pick h_L_draw
  have h_L_plain : Has l.prog w base ⟨K, mg, [(Pt, ("law" : Str) ++ ".<locals>." ++ "<lambda>")]⟩ "_law_plain" ["_law_source_here", "_law_signs", "_law_most"] 3 L_plain := by
    obtain ⟨_, _, hf, F⟩ := F_L_plain
    exact ok_L_plain Z F hf h_L_pick h_L_draw h_L_order
  have h_L_rule : Has l.prog w base ⟨K, mg, [(Pt, ("law" : Str) ++ ".<locals>." ++ "<lambda>")]⟩ "_law_rule" ["_law_source_here", "_law_signs", "_law_most", "_law_many", "_law_deep"] 11 (L_rule 8) := by
    obtain ⟨_, _, hf, F⟩ := F_L_rule
    exact rec_L_rule Z F hf h_L_draw h_L_plain h_L_pick 8
  have h_L_shown_rule : Has l.prog w base ⟨K, mg, [(Pt, ("law" : Str) ++ ".<locals>." ++ "<lambda>")]⟩ "_law_shown_rule" ["_law_source_here", "_law_rule_here"] 10 (L_shown_rule 8) := by
    obtain ⟨_, _, hf, F⟩ := F_L_shown_rule
    exact rec_L_shown_rule Z F hf h_L_pick 8
  have h_L_names_in : Has l.prog w base ⟨K, mg, [(Pt, ("law" : Str) ++ ".<locals>." ++ "<lambda>")]⟩ "_law_names_in" ["_law_rule_here"] 8 (L_names_in 8) := by
    obtain ⟨_, _, hf, F⟩ := F_L_names_in
    exact rec_L_names_in Z F hf  8
  have h_L_spoil : Has l.prog w base ⟨K, mg, [(Pt, ("law" : Str) ++ ".<locals>." ++ "<lambda>")]⟩ "_law_spoil" ["_law_source_here", "_law_rule_here"] 10 (L_spoil 8) := by
    obtain ⟨_, _, hf, F⟩ := F_L_spoil
    exact rec_L_spoil Z F hf h_L_draw h_L_pick 8
  have hI : WatI l.prog w base ⟨K, mg, [(Pt, ("law" : Str) ++ ".<locals>." ++ "<lambda>")]⟩ Cw := ⟨hW, fI, fdI, wk.gw, wk.mkr, wk.FI.binds (fun _ _ _ _ _ _ us hl => match us, hl with | [_, _, _, _, _], _ => rfl), init_ok Z wk.FI Z.z_dict wk.cls wk.n1 wk.n2 wk.n3 wk.n4 h_first_bad_name h_is_name h_is_limit h_is_list h_is_arrow h_first_stranger h_as_tuples⟩
  exact ok_law Z (List.mem_singleton.mpr rfl) (fun p hp _ => by rw [List.mem_singleton.mp hp]) (htab _ (List.mem_singleton.mpr rfl)) FT hgT ex hI lk hcd h_L_source h_L_words h_L_rule h_L_shown_rule h_checked_rule h_signals_in h_L_names_in h_L_spoil h_L_pick h_keeps h_first_broken h_watcher_of h_judged h_keeping h_breaking h_tightest
end Q
end DL

set_option Elab.async false
set_option linter.all false
set_option maxRecDepth 100000
set_option maxHeartbeats 2000000
namespace DL
open PySem PySem.Spec PyProof.Rows L2
/-! ### the end by one run of the top: what is asked of the state that it leaves -/
theorem fun_ofD {K : PySem.W.Frag} {x q : Str} {st : Stmt} {f : Addr} {fd : FuncData} (F : FunD K x q (defArgs st) (defBody st) (defScope st) [] [] f fd) : Fun K x q st f fd := by
  obtain ⟨oc, od, dV, kV, doc, pm, an, cdv, ct, osl, e, lk, cd, dv, kw⟩ := F.ex
  have hn : dV = .none := by
    rcases dv with ⟨_, z⟩ | ⟨z, _⟩
    · exact z
    · exact absurd rfl z
  subst hn
  exact ⟨⟨oc, od, kV, doc, pm, an, cdv, ct, osl, e, lk, cd⟩, F.kp⟩
theorem fnAt_D {K : PySem.W.Frag} {h : Heap} {mg : Str → Option Value} {x : Str} {st : Stmt} (X : K.In h) (G : h.Ns mainGlobals mg) (g : (He.Fa.glo x).ok K = true) (d : ∃ fd, FunD K x x (defArgs st) (defBody st) (defScope st) [] [] (He.fAd K (x, none)) fd) : FnAt K mg x st := by
  obtain ⟨fd, F⟩ := d
  exact ⟨_, fd, He.glo_ok X G g, fun_ofD F⟩
theorem tup2B_ok {K : PySem.W.Frag} {x a b : Str} (h : tup2B K x a b = true) : ∃ od sl n t1 t2, K.lookup (He.ga K x) = some ⟨.type "tuple", od, .seq #[.str a t1, .str b t2] n, sl⟩ := by
  unfold tup2B at h
  split at h
  · rename_i c od its n sl e
    obtain ⟨h1, h2⟩ := Bool.and_eq_true_iff.mp h
    split at h2
    · rename_i p t1 q t2 e2
      obtain ⟨h3, h4⟩ := Bool.and_eq_true_iff.mp h2
      have e3 : its = #[.str p t1, .str q t2] := by
        obtain ⟨l⟩ := its
        simp only at e2
        rw [e2]
      rw [e, of_decide_eq_true h1, ← of_decide_eq_true h3, ← of_decide_eq_true h4, e3]
      exact ⟨od, sl, n, t1, t2, rfl⟩
    · cases h2
  · cases h
theorem krep_2s {K : PySem.W.Frag} {h : Heap} {mg : Str → Option Value} {T : List (Addr × Str)} {x a b : Str} (X : K.In h) (G : h.Ns mainGlobals mg) (g : (He.Fa.glo x).ok K = true) (e : tup2B K x a b = true) : ∃ u, mg x = some u ∧ KRep ⟨K, mg, T⟩ u (.tup [.str a, .str b]) := by
  obtain ⟨od, sl, n, t1, t2, e⟩ := tup2B_ok e
  exact ⟨_, He.glo_ok X G g, krep_tup2s e⟩
theorem entB_ok {G : Gr} : ∀ {kvs : List (Str × Int)} {es : List DictEntry}, entB kvs es = true → Paired (fun (p : Str × D) (e : DictEntry) => (∃ t, e.key = .str p.1 t) ∧ KRep G e.val p.2) (kvs.map fun p => (p.1, D.int p.2)) es
  | [], [], _ => .nil
  | p :: ps, e :: es, h => by
    obtain ⟨h1, h2⟩ := Bool.and_eq_true_iff.mp (show ((match e.key, e.val with
      | .str k _, .int i _ => decide (k = p.1) && decide (i = p.2)
      | _, _ => false) && entB ps es) = true from h)
    refine .cons ?_ (entB_ok h2)
    split at h1
    · rename_i k t i t2 e1 e2
      obtain ⟨h3, h4⟩ := Bool.and_eq_true_iff.mp h1
      rw [e1, e2, of_decide_eq_true h3, of_decide_eq_true h4]
      exact ⟨⟨t, rfl⟩, krep_int⟩
    · cases h1
  | [], e :: es, h => by cases h
  | p :: ps, [], h => by cases h
theorem kd_of {K : PySem.W.Frag} {h : Heap} {mg : Str → Option Value} {T : List (Addr × Str)} {w : World} {x : Str} {kvs : List (Str × Int)} (X : K.In h) (G : h.Ns mainGlobals mg) (g : (He.Fa.glo x).ok K = true) (e : dictKV K x kvs = true) (d : ∃ es n, KDict K w (He.ga K x) es n) : KD ⟨K, mg, T⟩ w x (kvs.map fun p => (p.1, D.int p.2)) := by
  obtain ⟨es, n, kd⟩ := d
  refine ⟨_, es, n, He.glo_ok X G g, kd, ?_⟩
  unfold dictKV at e
  rw [kd.at_] at e
  exact entB_ok e
theorem oexB_ok {K : PySem.W.Frag} {C : Addr} (h : oexB K C = true) : ∃ nm q N bs bm sn sub ab col dd k0 k1 k2 k3 k5, K.lookup C = some (excClassObj nm q C N bs bm true sn sub ab col dd k0 k1 k2 k3 k5 "ValueError.__new__") ∧ PySem.HandSPX.refsVE bm = true := by
  unfold oexB at h
  split at h
  · rename_i t dd cd sl e
    obtain ⟨h1, h2⟩ := Bool.and_eq_true_iff.mp h
    split at h2
    · rename_i C' bm k0 k1 k2 k3 n k5 e1 e2
      obtain ⟨a1, h3⟩ := Bool.and_eq_true_iff.mp h2
      obtain ⟨a2, h4⟩ := Bool.and_eq_true_iff.mp h3
      obtain ⟨a3, h5⟩ := Bool.and_eq_true_iff.mp h4
      obtain ⟨a4, a5⟩ := Bool.and_eq_true_iff.mp h5
      have b1 := of_decide_eq_true a1
      have b2 := of_decide_eq_true a2
      have b4 : cd.hasDel = false := by simpa using a4
      have b5 := of_decide_eq_true h1
      have e3 : sl = #[k0, k1, k2, k3, some (.builtin n), k5] := by
        obtain ⟨l⟩ := sl
        simp only at e2
        rw [e2]
      obtain ⟨nm, bs, mro, ns, qn, hd, sn, sub, ab, col, dl⟩ := cd
      dsimp only at e1 b4 a3
      subst e1 b4 a3 b1 b2 b5 e3
      exact ⟨nm, qn, ns, bs, bm, sn, sub, ab, col, dd, k0, k1, k2, k3, k5, e, a5⟩
    · cases h2
  · cases h
theorem errC_of {K : PySem.W.Frag} {h : Heap} {mg : Str → Option Value} {c f q1 : Str} {s1 : Stmt} {p1 p2 p3 p4 : Pos} (X : K.In h) (G : h.Ns mainGlobals mg) (g : (He.Fa.glo c).ok K = true) (e : errB K c f = true) (d : ∃ fd, FunD K "__init__" q1 (defArgs s1) (defBody s1) (defScope s1) [] [] (He.fAd K (c, some "__init__")) fd)
    (S : FnScope ["self", f] ["self", f] (defScope s1)) (hb : defBody s1 = [.Assign [.Attribute (.Name "self" p1) f p2] (.Name f p3) p4]) (hl : (defScope s1).names.lookup ("self" : Str) = some .local) (hl2 : (defScope s1).names.lookup f = some .local)
    (hbi : ∀ (kV doc pm : Value) (an : Option Addr) (cdv ct : Value) (us : List Value), us.length = (["self", f] : List Str).length → bindArgs (PySem.W.fnOf "__init__" q1 (defArgs s1) (defBody s1) (defScope s1) .none kV doc pm an cdv ct) ⟨us, []⟩ = pure ((["self", f] : List Str).zip us))
    (hd : (f == ("__debug__" : Str)) = false := by decide) (hcd : (f == ("__classdict__" : Str)) = false := by decide) :
    ∀ (base : Heap) (P : Program) (w : World), ∃ (C fI : Addr) (fd : FuncData), ErrC P w K mg base c f C fI fd := fun base P w => by
  obtain ⟨fd, FD⟩ := d
  have F := fun_ofD FD
  obtain ⟨a1, e⟩ := Bool.and_eq_true_iff.mp e
  obtain ⟨a2, e⟩ := Bool.and_eq_true_iff.mp e
  obtain ⟨a3, e⟩ := Bool.and_eq_true_iff.mp e
  obtain ⟨a4, e⟩ := Bool.and_eq_true_iff.mp e
  obtain ⟨a5, e⟩ := Bool.and_eq_true_iff.mp e
  obtain ⟨a6, e⟩ := Bool.and_eq_true_iff.mp e
  obtain ⟨a7, e⟩ := Bool.and_eq_true_iff.mp e
  obtain ⟨a8, e⟩ := Bool.and_eq_true_iff.mp e
  obtain ⟨a9, e⟩ := Bool.and_eq_true_iff.mp e
  obtain ⟨a10, a11⟩ := Bool.and_eq_true_iff.mp e
  have b9 := of_decide_eq_true a9
  have T : OexC K (He.ga K c) := ⟨oexB_ok a1, He.eqO_ok a2, b9, of_decide_eq_true a10, a8⟩
  exact ⟨He.ga K c, _, fd, ⟨T, ⟨He.eqO_ok a3, He.eqO_ok a4, b9, a11⟩, He.glo_ok X G g, He.eqO_ok a6, of_decide_eq_true a7, He.eqO_ok a5, init_ok F S hb T (He.eqO_ok a5) hl hl2 hd hcd, F.binds hbi⟩⟩
end DL

set_option Elab.async false
set_option linter.all false
set_option maxRecDepth 100000
set_option maxHeartbeats 0
namespace DL
open PySem PySem.Spec PyProof.Rows L2
namespace Q
namespace H
section
variable {w : World} {K : PySem.W.Frag} {mg : Str → Option Value} {h : Heap} {fl : Addr}
theorem facts {l : PySem.W.OpenLaw} (X : K.In h) (G : h.Ns mainGlobals mg) (hfa : mg "law" = some (.ref fl)) (c : He.SaysX fa fn ts tf ex w h K) : LamX.LawAtS l w K (L2.CX l.prog w) 16 63 "_law_script" mg fl h := by
  have e0 := c.more
  obtain ⟨x_LOWERS, e1⟩ := Bool.and_eq_true_iff.mp e0
  obtain ⟨x_PLAIN, e2⟩ := Bool.and_eq_true_iff.mp e1
  obtain ⟨x_SIZES, e3⟩ := Bool.and_eq_true_iff.mp e2
  obtain ⟨x_UPPERS, e4⟩ := Bool.and_eq_true_iff.mp e3
  obtain ⟨x_BadRule, e5⟩ := Bool.and_eq_true_iff.mp e4
  have x_Unseen := e5
  obtain ⟨fdL, FL⟩ := c.t.d.def_ 38 (d := dfD "law" s_law) rfl
  obtain ⟨oc, od, kV, doc, pm, an, cdv, ct, osl, e, lk, cd⟩ := (fun_ofD (x := "law") (q := "law") (st := s_law) FL).ex
  obtain ⟨c1, rfl⟩ := He.codeIn_ref cd
  subst e
  have ec : (He.cT K ("law", none)).1 = c1 := He.codeOf_eq (p := ("law", none)) lk rfl
  have hm : (("law", none) : He.Defn) ∈ tf := List.mem_singleton.mpr rfl
  have hC := c.hd _ hm
  rw [ec] at hC
  have Z : Fx w K mg [((He.cT K ("law", none)).2, ("law" : Str) ++ ".<locals>." ++ "<lambda>")] := ⟨He.free_ok X G (c.t.d.fact 39 (f := .free "all") rfl),
    He.free_ok X G (c.t.d.fact 40 (f := .free "any") rfl),
    He.free_ok X G (c.t.d.fact 41 (f := .free "bool") rfl),
    He.free_ok X G (c.t.d.fact 42 (f := .free "dict") rfl),
    He.free_ok X G (c.t.d.fact 43 (f := .free "enumerate") rfl),
    He.free_ok X G (c.t.d.fact 44 (f := .free "int") rfl),
    He.free_ok X G (c.t.d.fact 45 (f := .free "isinstance") rfl),
    He.free_ok X G (c.t.d.fact 46 (f := .free "len") rfl),
    He.free_ok X G (c.t.d.fact 47 (f := .free "list") rfl),
    He.free_ok X G (c.t.d.fact 48 (f := .free "range") rfl),
    He.free_ok X G (c.t.d.fact 49 (f := .free "set") rfl),
    He.free_ok X G (c.t.d.fact 50 (f := .free "sorted") rfl),
    He.free_ok X G (c.t.d.fact 51 (f := .free "str") rfl),
    He.free_ok X G (c.t.d.fact 52 (f := .free "tuple") rfl),
    krep_2s X G (c.t.d.fact 53 (f := .glo "LOWERS") rfl) x_LOWERS,
    krep_2s X G (c.t.d.fact 54 (f := .glo "PLAIN") rfl) x_PLAIN,
    (let ⟨t, e⟩ := He.str_ok X G (c.t.d.fact 55 (f := .str "SIGNS" "abcdefghijklmnopqrstuvwxyz") rfl); ⟨_, e, krep_str⟩),
    kd_of X G (c.t.d.fact 56 (f := .glo "SIZES") rfl) x_SIZES (c.t.tab 0 rfl),
    krep_2s X G (c.t.d.fact 57 (f := .glo "UPPERS") rfl) x_UPPERS,
    errC_of (q1 := "BadRule.__init__") (s1 := inCls (top 46) 0) X G (c.t.d.fact 58 (f := .glo "BadRule") rfl) x_BadRule (c.t.d.def_ 39 (d := mtD "BadRule" "__init__" "BadRule.__init__" (inCls (top 46) 0)) rfl) ⟨rfl, rfl, rfl, by decide +kernel, rfl, by decide +kernel, by decide +kernel⟩ rfl rfl rfl (fun _ _ _ _ _ _ us hl => match us, hl with | [_, _], _ => rfl),
    errC_of (q1 := "Unseen.__init__") (s1 := inCls (top 44) 0) X G (c.t.d.fact 59 (f := .glo "Unseen") rfl) x_Unseen (c.t.d.def_ 40 (d := mtD "Unseen" "__init__" "Unseen.__init__" (inCls (top 44) 0)) rfl) ⟨rfl, rfl, rfl, by decide +kernel, rfl, by decide +kernel, by decide +kernel⟩ rfl rfl rfl (fun _ _ _ _ _ _ us hl => match us, hl with | [_, _], _ => rfl)⟩
  have exk : ExmK K mg knownE := exmK1 (He.glo_ok X G (c.t.d.fact 58 (f := .glo "BadRule") rfl)) (He.exm_ok (c.t.d.fact 60 (f := .exm "BadRule" "BadRule" true) rfl))
  have wk : WatK K mg (He.ga K "Watcher") := by
    obtain ⟨fdA, FA⟩ := c.t.d.def_ 41 (d := mtD "Watcher" "arrows" "Watcher.arrows" s_arrows) rfl
    obtain ⟨fdI, FI⟩ := c.t.d.def_ 42 (d := mtD "Watcher" "__init__" "Watcher.__init__" s_init) rfl
    exact ⟨_, fdA, _, fdI, ⟨He.cls_ok (c.t.d.fact 62 (f := .cls "Watcher") rfl), He.noat_ok (c.t.d.fact 65 (f := .noat "Watcher" "hands") rfl), He.noat_ok (c.t.d.fact 66 (f := .noat "Watcher" "held") rfl), He.noat_ok (c.t.d.fact 67 (f := .noat "Watcher" "tracks") rfl), He.noat_ok (c.t.d.fact 68 (f := .noat "Watcher" "last_ones") rfl), He.meth_ok (c.t.d.fact 64 (f := .meth "Watcher" "arrows") rfl), fun_ofD FA, He.glo_ok X G (c.t.d.fact 61 (f := .glo "Watcher") rfl), He.mkr_ok (c.t.d.fact 63 (f := .mkr "Watcher") rfl), fun_ofD FI⟩⟩
  exact the_law X G (c.empty _ hm) (c.out _ hm) hC Z (fnAt_D X G (c.t.d.fact 0 (f := .glo "is_cut") rfl) (c.t.d.def_ 0 (d := dfD "is_cut" s_is_cut) rfl)) (fnAt_D X G (c.t.d.fact 1 (f := .glo "kept_run") rfl) (c.t.d.def_ 1 (d := dfD "kept_run" s_kept_run) rfl)) (fnAt_D X G (c.t.d.fact 2 (f := .glo "verdict_on") rfl) (c.t.d.def_ 2 (d := dfD "verdict_on" s_verdict_on) rfl)) (fnAt_D X G (c.t.d.fact 3 (f := .glo "broken_run") rfl) (c.t.d.def_ 3 (d := dfD "broken_run" s_broken_run) rfl)) (fnAt_D X G (c.t.d.fact 4 (f := .glo "is_integer") rfl) (c.t.d.def_ 4 (d := dfD "is_integer" s_is_integer) rfl)) (fnAt_D X G (c.t.d.fact 5 (f := .glo "is_natural") rfl) (c.t.d.def_ 5 (d := dfD "is_natural" s_is_natural) rfl)) (fnAt_D X G (c.t.d.fact 6 (f := .glo "is_list") rfl) (c.t.d.def_ 6 (d := dfD "is_list" s_is_list) rfl)) (fnAt_D X G (c.t.d.fact 7 (f := .glo "is_name") rfl) (c.t.d.def_ 7 (d := dfD "is_name" s_is_name) rfl)) (fnAt_D X G (c.t.d.fact 8 (f := .glo "as_tuples") rfl) (c.t.d.def_ 8 (d := dfD "as_tuples" s_as_tuples) rfl)) (fnAt_D X G (c.t.d.fact 9 (f := .glo "first_bad_name") rfl) (c.t.d.def_ 9 (d := dfD "first_bad_name" s_first_bad_name) rfl)) (fnAt_D X G (c.t.d.fact 10 (f := .glo "is_of") rfl) (c.t.d.def_ 10 (d := dfD "is_of" s_is_of) rfl)) (fnAt_D X G (c.t.d.fact 11 (f := .glo "first_stranger") rfl) (c.t.d.def_ 11 (d := dfD "first_stranger" s_first_stranger) rfl)) (fnAt_D X G (c.t.d.fact 12 (f := .glo "is_limit") rfl) (c.t.d.def_ 12 (d := dfD "is_limit" s_is_limit) rfl)) (fnAt_D X G (c.t.d.fact 13 (f := .glo "is_arrow") rfl) (c.t.d.def_ 13 (d := dfD "is_arrow" s_is_arrow) rfl)) (fnAt_D X G (c.t.d.fact 14 (f := .glo "rule_at") rfl) (c.t.d.def_ 14 (d := dfD "rule_at" s_rule_at) rfl)) (fnAt_D X G (c.t.d.fact 15 (f := .glo "checked_rule") rfl) (c.t.d.def_ 15 (d := dfD "checked_rule" s_checked_rule) rfl)) (fnAt_D X G (c.t.d.fact 16 (f := .glo "signs_of") rfl) (c.t.d.def_ 16 (d := dfD "signs_of" s_signs_of) rfl)) (fnAt_D X G (c.t.d.fact 17 (f := .glo "signals_in") rfl) (c.t.d.def_ 17 (d := dfD "signals_in" s_signals_in) rfl)) (fnAt_D X G (c.t.d.fact 18 (f := .glo "keeps") rfl) (c.t.d.def_ 18 (d := dfD "keeps" s_keeps) rfl)) (fnAt_D X G (c.t.d.fact 19 (f := .glo "check_plain") rfl) (c.t.d.def_ 19 (d := dfD "check_plain" s_check_plain) rfl)) (fnAt_D X G (c.t.d.fact 20 (f := .glo "first_broken") rfl) (c.t.d.def_ 20 (d := dfD "first_broken" s_first_broken) rfl)) (fnAt_D X G (c.t.d.fact 21 (f := .glo "watcher_of") rfl) (c.t.d.def_ 21 (d := dfD "watcher_of" s_watcher_of) rfl)) (fnAt_D X G (c.t.d.fact 22 (f := .glo "check_seen") rfl) (c.t.d.def_ 22 (d := dfD "check_seen" s_check_seen) rfl)) (fnAt_D X G (c.t.d.fact 23 (f := .glo "keeping") rfl) (c.t.d.def_ 23 (d := dfD "keeping" s_keeping) rfl)) (fnAt_D X G (c.t.d.fact 24 (f := .glo "breaking") rfl) (c.t.d.def_ 24 (d := dfD "breaking" s_breaking) rfl)) (fnAt_D X G (c.t.d.fact 25 (f := .glo "judged") rfl) (c.t.d.def_ 25 (d := dfD "judged" s_judged) rfl)) (fnAt_D X G (c.t.d.fact 26 (f := .glo "tightest") rfl) (c.t.d.def_ 26 (d := dfD "tightest" s_tightest) rfl)) (fnAt_D X G (c.t.d.fact 27 (f := .glo "_law_source") rfl) (c.t.d.def_ 27 (d := dfD "_law_source" s_L_source) rfl)) (fnAt_D X G (c.t.d.fact 28 (f := .glo "_law_draw") rfl) (c.t.d.def_ 28 (d := dfD "_law_draw" s_L_draw) rfl)) (fnAt_D X G (c.t.d.fact 29 (f := .glo "_law_pick") rfl) (c.t.d.def_ 29 (d := dfD "_law_pick" s_L_pick) rfl)) (fnAt_D X G (c.t.d.fact 30 (f := .glo "_law_order") rfl) (c.t.d.def_ 30 (d := dfD "_law_order" s_L_order) rfl)) (fnAt_D X G (c.t.d.fact 31 (f := .glo "_law_words") rfl) (c.t.d.def_ 31 (d := dfD "_law_words" s_L_words) rfl)) (fnAt_D X G (c.t.d.fact 32 (f := .glo "_law_plain") rfl) (c.t.d.def_ 32 (d := dfD "_law_plain" s_L_plain) rfl)) (fnAt_D X G (c.t.d.fact 33 (f := .glo "_law_rule") rfl) (c.t.d.def_ 33 (d := dfD "_law_rule" s_L_rule) rfl)) (fnAt_D X G (c.t.d.fact 34 (f := .glo "_law_shown_rule") rfl) (c.t.d.def_ 34 (d := dfD "_law_shown_rule" s_L_shown_rule) rfl)) (fnAt_D X G (c.t.d.fact 35 (f := .glo "_law_names_in") rfl) (c.t.d.def_ 35 (d := dfD "_law_names_in" s_L_names_in) rfl)) (fnAt_D X G (c.t.d.fact 36 (f := .glo "_law_spoil") rfl) (c.t.d.def_ 36 (d := dfD "_law_spoil" s_L_spoil) rfl)) (fnAt_D X G (c.t.d.fact 37 (f := .glo "_law_path") rfl) (c.t.d.def_ 37 (d := dfD "_law_path" s_L_path) rfl)) exk wk hfa (He.eqO_ok (c.t.d.fact 38 (f := .glo "law") rfl)) lk cd (law_true _)
end
end H
end Q
end DL
open PySem PySem.W PySem.Calls PyProof.Rows
theorem PySem.Challenge.cw_rowsintime_k62_rules_checked_holds : PySem.Challenge.rw_rowsintime_k62_rules_checked.Holds := by
  w_on; o_law
  refine HandSHeadRun.head_any (r := OpenLaw.row PySem.Challenge.rw_rowsintime_k62_rules_checked) (q := view (OpenLaw.row PySem.Challenge.rw_rowsintime_k62_rules_checked).prog [144]) (H := DL.Q.H.hk) (ob := DL.Q.H.ob) (M := 9000) (loose := DL.Q.H.loose) (d := HandSHeadRun.topDef (OpenLaw.row PySem.Challenge.rw_rowsintime_k62_rules_checked).prog 144) (kwd := []) DL.Q.H.ob_eq
    (by kernel_rfl) (fun s => by kernel_rfl) DL.Q.H.run (by kernel_rfl) (by kernel_rfl) (by kernel_rfl) (by rfl) (by first | assumption | decide +kernel) (by decide +kernel) ⟨rfl, rfl, rfl, rfl, rfl, by decide +kernel⟩ ?hw ?hc
  case hw => w_witness2
  case hc =>
    refine LamX.walk_ofTsE (l := PySem.Challenge.rw_rowsintime_k62_rules_checked) (n := 63) (k := 16) (x := "_law_script") (CX := fun w => L2.CX PySem.Challenge.rw_rowsintime_k62_rules_checked.prog w) rfl (by decide) (by kernel_rfl) ⟨rfl, by decide, by decide⟩ ?F ?hx
    case hx => exact fun w H s e s' z => by obtain ⟨_, _, _, _, _, _, _, _, _, _, _, _, z⟩ := z; exact z
    case F =>
      intro w mg fa h Y G hmg0
      obtain ⟨K, KX, c⟩ := Y
      have hmg : mg ("law" : PySem.Str) = some (.ref fa) := by
        have e : (HandSHeadRun.topDef (OpenLaw.row PySem.Challenge.rw_rowsintime_k62_rules_checked).prog 144).name = ("law" : PySem.Str) := by kernel_rfl
        rw [← e]
        exact hmg0
      exact ⟨K, KX, DL.Q.H.facts KX G hmg c⟩

