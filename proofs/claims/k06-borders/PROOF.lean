import PyProof.Rows.All
import Wide.All
import OpenK.AllK
import Wide.FinOn
import KE.KStateDown
import Lean
import HandS.ForMost
import HandS.Defaults
import HandS.Head0
import HandS.Head1
import HandS.Head2
import HandS.HeadEnd
import HandS.HeadHook1
import HandS.HeadHook2
import HandS.HeadHook3
import HandS.Evl
import HandS.IsInst
import HandS.TupAny
import HandS.TupMul
import HandS.RaiseMore
import HandS.Style
import HandS.NoneIn
import HandS.SortInts
import HandS.Conv
import HandS.Walk
import HandS.Small
import HandS.WordsDict
import HandS.DictComp
import HandS.Codes
import HandS.Lambda
import HandS.EndTab
import HandS.EndOwn
import HandS.ExcIs
import HandS.ExcOwn
import PyProof.ExcBaseAll.ValueError
import KE.KNestM
import HandS.HeadWalk
import HandS.Set
import HandS.SetFor
import HandS.Strs
import HandS.TupSets
import HandS.DictTup
import KE.SortCalls
import KE.KDictDisplayH
import PySem.Challenge.RW_ownedborder_k06_whole_borders
set_option Elab.async false
set_option linter.all false
set_option maxRecDepth 100000
set_option maxHeartbeats 4000000
namespace Ow
open PySem PySem.Spec PyProof.Rows L2 Evl
def top (i : Nat) : Stmt := PySem.Challenge.pw_ownedborder_k06_whole_borders.main.body.getD i (.Pass ⟨0, 0, 0, 0⟩)
abbrev st_is_design : Stmt := top 6
abbrev st_need_design : Stmt := top 7
abbrev st_told : Stmt := top 19
abbrev st_holds : Stmt := top 20
abbrev st_held_lots : Stmt := top 21
abbrev st_with_word : Stmt := top 22
abbrev st_greatest : Stmt := top 23
abbrev st_is_sound : Stmt := top 24
abbrev st_greatest_sound : Stmt := top 25
abbrev st_fewest_drops : Stmt := top 26
abbrev st__law_taken : Stmt := top 28
abbrev st__law_pick : Stmt := top 29
abbrev st__law_alike : Stmt := top 30
abbrev st__law_words : Stmt := top 31
abbrev st__law_design : Stmt := top 32
abbrev st__law_lots : Stmt := top 33
abbrev st__law_lots_in : Stmt := top 34
abbrev st__law_not_made : Stmt := top 35
abbrev st__law_groups : Stmt := top 36
abbrev st_law : Stmt := top 37
abbrev v_MOST_NAME : Int := 40
abbrev v_MOST_NUMBER : Int := 99
abbrev v_MOST_PROGRAM : Int := 12
abbrev v_MOST_BLOCK : Int := 6
abbrev v_MOST_HAND : Int := 4
def shapesL : List (Str × V) := [("box", .str "yn"), ("move", .str "yy"), ("look", .str "yy"), ("lend", .str "yy"), ("show", .str "y"), ("set", .str "yn"), ("drop", .str "y"), ("end", .str "y"), ("aim", .str "yy")]
end Ow
namespace Hd
open PySem PySem.Spec PyProof.Rows L2
def d_0 : He.DefD := ⟨("_law_taken", none), "_law_taken", "_law_taken", defArgs Ow.st__law_taken, defBody Ow.st__law_taken, defScope Ow.st__law_taken, [], []⟩
def d_1 : He.DefD := ⟨("_law_pick", none), "_law_pick", "_law_pick", defArgs Ow.st__law_pick, defBody Ow.st__law_pick, defScope Ow.st__law_pick, [], []⟩
def d_2 : He.DefD := ⟨("_law_words", none), "_law_words", "_law_words", defArgs Ow.st__law_words, defBody Ow.st__law_words, defScope Ow.st__law_words, [], []⟩
def d_3 : He.DefD := ⟨("_law_design", none), "_law_design", "_law_design", defArgs Ow.st__law_design, defBody Ow.st__law_design, defScope Ow.st__law_design, [], []⟩
def d_4 : He.DefD := ⟨("_law_lots", none), "_law_lots", "_law_lots", defArgs Ow.st__law_lots, defBody Ow.st__law_lots, defScope Ow.st__law_lots, [], []⟩
def d_5 : He.DefD := ⟨("_law_alike", none), "_law_alike", "_law_alike", defArgs Ow.st__law_alike, defBody Ow.st__law_alike, defScope Ow.st__law_alike, [], []⟩
def d_6 : He.DefD := ⟨("is_design", none), "is_design", "is_design", defArgs Ow.st_is_design, defBody Ow.st_is_design, defScope Ow.st_is_design, [], []⟩
def d_7 : He.DefD := ⟨("need_design", none), "need_design", "need_design", defArgs Ow.st_need_design, defBody Ow.st_need_design, defScope Ow.st_need_design, [], []⟩
def d_8 : He.DefD := ⟨("told", none), "told", "told", defArgs Ow.st_told, defBody Ow.st_told, defScope Ow.st_told, [], []⟩
def d_9 : He.DefD := ⟨("holds", none), "holds", "holds", defArgs Ow.st_holds, defBody Ow.st_holds, defScope Ow.st_holds, [], []⟩
def d_10 : He.DefD := ⟨("held_lots", none), "held_lots", "held_lots", defArgs Ow.st_held_lots, defBody Ow.st_held_lots, defScope Ow.st_held_lots, [], []⟩
def d_11 : He.DefD := ⟨("with_word", none), "with_word", "with_word", defArgs Ow.st_with_word, defBody Ow.st_with_word, defScope Ow.st_with_word, [], []⟩
def d_12 : He.DefD := ⟨("is_sound", none), "is_sound", "is_sound", defArgs Ow.st_is_sound, defBody Ow.st_is_sound, defScope Ow.st_is_sound, [], []⟩
def d_13 : He.DefD := ⟨("greatest", none), "greatest", "greatest", defArgs Ow.st_greatest, defBody Ow.st_greatest, defScope Ow.st_greatest, [], []⟩
def d_14 : He.DefD := ⟨("greatest_sound", none), "greatest_sound", "greatest_sound", defArgs Ow.st_greatest_sound, defBody Ow.st_greatest_sound, defScope Ow.st_greatest_sound, [], []⟩
def d_15 : He.DefD := ⟨("fewest_drops", none), "fewest_drops", "fewest_drops", defArgs Ow.st_fewest_drops, defBody Ow.st_fewest_drops, defScope Ow.st_fewest_drops, [], []⟩
def d_16 : He.DefD := ⟨("_law_lots_in", none), "_law_lots_in", "_law_lots_in", defArgs Ow.st__law_lots_in, defBody Ow.st__law_lots_in, defScope Ow.st__law_lots_in, [], []⟩
def d_17 : He.DefD := ⟨("_law_groups", none), "_law_groups", "_law_groups", defArgs Ow.st__law_groups, defBody Ow.st__law_groups, defScope Ow.st__law_groups, [], []⟩
def d_18 : He.DefD := ⟨("law", none), "law", "law", defArgs Ow.st_law, defBody Ow.st_law, defScope Ow.st_law, [], []⟩
def d_19 : He.DefD := ⟨("_law_not_made", none), "_law_not_made", "_law_not_made", defArgs Ow.st__law_not_made, defBody Ow.st__law_not_made, defScope Ow.st__law_not_made, [], []⟩
def fn : List He.DefD := [d_0, d_1, d_2, d_3, d_4, d_5, d_6, d_7, d_8, d_9, d_10, d_11, d_12, d_13, d_14, d_15, d_16, d_17, d_18, d_19]
def loose0 : List PySem.Str := [("OwnError" : PySem.Str), ("BadDesign" : PySem.Str), ("NotMade" : PySem.Str), ("WORDS" : PySem.Str), ("is_design" : PySem.Str), ("need_design" : PySem.Str), ("BOX" : PySem.Str), ("LOOK" : PySem.Str), ("LEND" : PySem.Str), ("MOVE" : PySem.Str), ("AWAY" : PySem.Str), ("SHOW" : PySem.Str)]
def loose1 : List PySem.Str := [("SEE" : PySem.Str), ("SET" : PySem.Str), ("LATER" : PySem.Str), ("DROP" : PySem.Str), ("told" : PySem.Str), ("holds" : PySem.Str), ("held_lots" : PySem.Str), ("with_word" : PySem.Str), ("greatest" : PySem.Str), ("is_sound" : PySem.Str), ("greatest_sound" : PySem.Str), ("fewest_drops" : PySem.Str)]
def loose2 : List PySem.Str := [("_law_taken" : PySem.Str), ("_law_pick" : PySem.Str), ("_law_alike" : PySem.Str), ("_law_words" : PySem.Str), ("_law_design" : PySem.Str), ("_law_lots" : PySem.Str), ("_law_lots_in" : PySem.Str), ("_law_not_made" : PySem.Str), ("_law_groups" : PySem.Str)]
def loose : List PySem.Str := loose0 ++ loose1 ++ loose2
abbrev R : PySem.W.OpenRow := PySem.W.OpenLaw.row PySem.Challenge.rw_ownedborder_k06_whole_borders
/-! ### the Hook: the part of the heap that named things of the module reach, without search for doubles; and facts of our own -/
def nsAt (g : Addr → Option Obj) (d : Addr) (x : PySem.Str) : List Addr := match g d with
  | some ⟨_, _, .dict es _, _⟩ => (match es.toList.find? fun e => e.key.isStr x with
    | some e => He.refV e.val
    | none => [])
  | _ => []
def kids (g : Addr → Option Obj) (a : Addr) : List Addr := match g a with
  | some o => He.refsD o
  | none => []
def asL (ns cs : List PySem.Str) (g : Addr → Option Obj) : List Addr :=
  mainGlobals :: ((ns.flatMap fun x => (nsAt g mainGlobals x).flatMap fun a => a :: kids g a) ++ cs.flatMap fun x => (nsAt g mainGlobals x).flatMap fun a => (kids g a).flatMap fun b => b :: ((kids g b).flatMap fun c => c :: kids g c))
abbrev AlX : Type := He.AlT × Bool
def obsX (fa : List He.Fa) (fn : List He.DefD) (ts : List He.Tab) (ex : PySem.W.Frag → Bool) (K : PySem.W.Frag) : AlX := (He.obsT fa fn ts K, ex K)
def obsLG (ns cs : List PySem.Str) (fa : List He.Fa) (fn : List He.DefD) (ts : List He.Tab) (ex : PySem.W.Frag → Bool) (g : Addr → Option Obj) : AlX := obsX fa fn ts ex (He.frG g (asL ns cs g))
def hookL (ns cs : List PySem.Str) (fa : List He.Fa) (fn : List He.DefD) (ts : List He.Tab) (ex : PySem.W.Frag → Bool) : PySem.W.Hook where
  α := AlX
  obs := fun s => obsLG ns cs fa fn ts ex s.heap.get?
  val := fun w => (He.valT fn ts w, true)
  says := fun w h => ∃ K : PySem.W.Frag, K.In h ∧ He.SaysT fa fn ts w K ∧ ex K = true
  of := fun _ _ e => ⟨_, He.frG_in, congrArg Prod.fst e, congrArg Prod.snd e⟩
  keeps := fun _ _ _ ⟨K, hK, c⟩ k => ⟨K, PySem.W.Frag.In.keeps hK k, c⟩
theorem obsLG_eq {ns cs : List PySem.Str} {fa : List He.Fa} {fn : List He.DefD} {ts : List He.Tab} {ex : PySem.W.Frag → Bool} {g : Addr → Option Obj} {s : Shared} (h : ∀ a, g a = s.heap.get? a) : obsLG ns cs fa fn ts ex g = (hookL ns cs fa fn ts ex).obs s := by
  have e : g = s.heap.get? := funext h
  rw [e] <;> rfl

/-! a table of the module: its pairs -/
def pairB : List DictEntry → List (PySem.Str × V) → Bool
  | [], [] => true
  | e :: es, q :: kvs => (match e.key with | .str y _ => decide (y = q.1) | _ => false) && (He.relB q.2 e.val && pairB es kvs)
  | _, _ => false
def tabB (K : PySem.W.Frag) (a : Addr) (kvs : List (PySem.Str × V)) : Bool := match K.lookup a with
  | some ⟨_, _, .dict es _, _⟩ => pairB es.toList kvs
  | _ => false
theorem pairB_ok : ∀ {es : List DictEntry} {kvs : List (PySem.Str × V)}, pairB es kvs = true → Paired (fun (e : DictEntry) (q : PySem.Str × V) => (∃ t, e.key = .str q.1 t) ∧ RelV q.2 e.val) es kvs
  | [], [], _ => .nil
  | e :: es, q :: kvs, h => by
    have h2 : ((match e.key with | .str y _ => decide (y = q.1) | _ => false) && (He.relB q.2 e.val && pairB es kvs)) = true := h
    rw [Bool.and_eq_true, Bool.and_eq_true] at h2
    obtain ⟨h1, h3, h4⟩ := h2
    refine .cons ⟨?_, He.relB_ok h3⟩ (pairB_ok h4)
    split at h1
    · rename_i y t e2
      exact ⟨t, by rw [e2, of_decide_eq_true h1]⟩
    · cases h1
  | [], _ :: _, h => by cases h
  | _ :: _, [], h => by cases h

def fa : List He.Fa := [.glo "_law_taken", .glo "_law_pick", .glo "_law_words", .glo "_law_design", .glo "_law_lots", .glo "_law_alike", .glo "is_design", .glo "need_design", .glo "told", .glo "holds", .glo "held_lots", .glo "with_word",
  .glo "is_sound", .glo "greatest", .glo "greatest_sound", .glo "fewest_drops", .glo "_law_lots_in", .glo "_law_groups", .glo "law", .glo "_law_not_made", .free "int", .free "len", .free "tuple", .free "sorted",
  .free "isinstance", .free "list", .free "range", .free "str", .free "bool", .free "all", .glo "WORDS", .glo "BOX", .glo "LOOK", .glo "LEND", .glo "MOVE", .glo "AWAY",
  .glo "SHOW", .glo "SEE", .glo "SET", .glo "LATER", .glo "DROP", .exc "NotMade", .glo "NotMade", .exm "NotMade" "OwnError" true, .glo "OwnError"]
def gnames : List PySem.Str := loose ++ [("law" : PySem.Str)]
def gcls : List PySem.Str := []
def tabs : List He.Tab := []
def cP (K : PySem.W.Frag) : Addr × Addr := (PySem.W.tabIn K "law").getD (0, 0)
def ex (K : PySem.W.Frag) : Bool := (He.tupB K "WORDS" [.str "blocks", .str "drop", .str "drop looked", .str "far", .str "hands", .str "lend looked", .str "move looked", .str "set", .str "set looked", .str "share", .str "two names", .str "use lent"] && (He.tupB K "BOX" [.str "box", .int 0, .int 1] && (He.tupB K "LOOK" [.str "look", .int 1, .int 0] && (He.tupB K "LEND" [.str "lend", .int 1, .int 0] && (He.tupB K "MOVE" [.str "move", .int 1, .int 0] && (He.tupB K "AWAY" [.str "move", .int 2, .int 0] && (He.tupB K "SHOW" [.str "show", .int 0] && (He.tupB K "SEE" [.str "show", .int 1] && (He.tupB K "SET" [.str "set", .int 0, .int 2] && (He.tupB K "LATER" [.str "set", .int 2, .int 2] && (He.tupB K "DROP" [.str "drop", .int 0] && (decide (PySem.W.tabIn K "law" = some (cP K)) && (PySem.W.codeHdIn K (cP K).1 (cP K).2 && ((K.lookup (cP K).2).isNone && (He.eqO (PySem.W.findIn K (.ref (He.ga K "NotMade")) "__getattribute__") (some (some (.builtin "BaseException.__getattribute__"))) && (He.eqO (PySem.W.findIn K (.ref (He.ga K "NotMade")) "__getattr__") (some none) && (decide (PySem.W.subIn K (.ref (He.ga K "NotMade")) (.type "BaseException") = some true) && (PySem.W.hasDictIn K (He.ga K "NotMade") && (He.eqO (PySem.W.findIn K (.ref (He.ga K "NotMade")) "__class__") (some (some (.builtin "object.__class__"))) && (He.eqO (PySem.W.specialIn K (.builtin "object.__class__") "__get__") (some (some (.builtin "getset_descriptor.__get__"))) && (decide (PySem.W.takesIn K (.builtin "object.__class__") = some true) && (decide (PySem.W.mroIn K (He.ga K "NotMade") (.type "object") = some true) && (decide (PySem.W.kitOne K (.ref (He.ga K "NotMade")) (.ref (He.ga K "NotMade")) = some true) && true)))))))))))))))))))))))
abbrev hk : PySem.W.Hook := hookL gnames gcls fa fn tabs ex
def ob (s : PySem.W.SharedT) : AlX := obsLG gnames gcls fa fn tabs ex (HandSHeadRun.getT s)
theorem ob_eq (s : PySem.W.SharedT) : ob s = hk.obs s.abs := obsLG_eq (HandSHeadRun.getT_eq s)
theorem run (w : World) : HandSHeadRun.RunEq R (PySem.W.view R.prog [37]) hk ob 30000 loose w := by
  refine PySem.W.byRow2 "special-get-raises" (P := fun w => HandSHeadRun.RunEq R (PySem.W.view R.prog [37]) hk ob 30000 loose w) (fun w => ?_) (fun w => ?_) w
  · intro os
    kernel_rfl
  · intro os
    kernel_rfl
end Hd
/-! P1: readings over plain data: what an expression gives, as PyData; the heap only grows. -/
namespace Ow
open PySem PySem.Spec PyProof.Rows L2 Evl
abbrev D := PyData
section
variable {K : PySem.W.Frag} {σ : L2.St} {H H' H0 : Hp}
mutual
theorem dp_ex (e : Ex H H') : ∀ (d : D) (v : V), Dp K H v d → Dp K H' v d
  | .none, _, h => by cases h; exact .non
  | .bool b, _, h => by cases h; exact .bl b
  | .int i, _, h => by cases h; exact .int i
  | .str s, _, h => by cases h; exact .str s
  | .list ds, _, h => by
    cases h with
    | lst h1 h2 => exact .lst (ex_l e h1) (dpa_ex e ds _ h2)
  | .tuple ds, _, h => by
    cases h with
    | tup h1 h2 => exact .tup (ex_t e h1) (dpa_ex e ds _ h2)
  | .dict kvs, _, h => by cases h
theorem dpa_ex (e : Ex H H') : ∀ (ds : List D) (vs : List V), DpAll K H vs ds → DpAll K H' vs ds
  | [], _, h => by cases h; exact .nil
  | d :: ds, _, h => by
    cases h with
    | cons h1 h2 => exact .cons (dp_ex e d _ h1) (dpa_ex e ds _ h2)
end
theorem Dpx {v : V} {d : D} (h : Dp K H v d) (e : Ex H H') : Dp K H' v d := dp_ex e d v h
theorem Dpax {vs : List V} {ds : List D} (h : DpAll K H vs ds) (e : Ex H H') : DpAll K H' vs ds := dpa_ex e ds vs h
theorem dpa_len : ∀ {vs : List V} {ds : List D}, DpAll K H vs ds → vs.length = ds.length
  | _, _, .nil => rfl
  | _, _, .cons _ t => congrArg Nat.succ (dpa_len t)
theorem dpa_get : ∀ {vs : List V} {ds : List D} {i : Nat} {d : D}, DpAll K H vs ds → ds[i]? = some d → ∃ v, vs[i]? = some v ∧ Dp K H v d
  | _, _, 0, d, .cons h t, e => by
    cases e
    exact ⟨_, rfl, h⟩
  | _, _, i + 1, d, .cons h t, e => by
    obtain ⟨v, h1, h2⟩ := dpa_get (i := i) t (by simpa using e)
    exact ⟨v, by simpa using h1, h2⟩
  | _, _, _, _, .nil, e => by simp at e
theorem dpa_getv : ∀ {vs : List V} {ds : List D} {i : Nat} {v : V}, DpAll K H vs ds → vs[i]? = some v → ∃ d, ds[i]? = some d ∧ Dp K H v d
  | _, _, 0, d, .cons h t, e => by
    cases e
    exact ⟨_, rfl, h⟩
  | _, _, i + 1, d, .cons h t, e => by
    obtain ⟨v, h1, h2⟩ := dpa_getv (i := i) t (by simpa using e)
    exact ⟨v, by simpa using h1, h2⟩
  | _, _, _, _, .nil, e => by simp at e
theorem dpa_app : ∀ {vs us : List V} {ds es : List D}, DpAll K H vs ds → DpAll K H us es → DpAll K H (vs ++ us) (ds ++ es)
  | _, _, _, _, .nil, h => h
  | _, _, _, _, .cons h t, h2 => .cons h (dpa_app t h2)
theorem dpa_one {v : V} {d : D} (h : Dp K H v d) : DpAll K H [v] [d] := .cons h .nil
theorem dpa_take : ∀ {vs : List V} {ds : List D} (n : Nat), DpAll K H vs ds → DpAll K H (vs.take n) (ds.take n)
  | _, _, 0, _ => .nil
  | _, _, n + 1, .nil => .nil
  | _, _, n + 1, .cons h t => .cons h (dpa_take n t)
theorem dpa_drop : ∀ {vs : List V} {ds : List D} (n : Nat), DpAll K H vs ds → DpAll K H (vs.drop n) (ds.drop n)
  | _, _, 0, h => h
  | _, _, n + 1, .nil => .nil
  | _, _, n + 1, .cons h t => dpa_drop n t
theorem dp_tup {p : Addr} {vs : List V} {ds : List D} (h : H p = some (.tup vs)) (a : DpAll K H vs ds) : Dp K H (.ref p) (.tuple ds) := .tup (st_of h) a
theorem dp_lst {p : Addr} {vs : List V} {ds : List D} (h : H p = some (.lst vs)) (a : DpAll K H vs ds) : Dp K H (.ref p) (.list ds) := .lst (sq_of h) a
theorem dp_tup_inv {v : V} {ds : List D} (h : Dp K H v (.tuple ds)) : ∃ p vs, v = .ref p ∧ SqT K H p vs ∧ DpAll K H vs ds := by
  cases h with
  | tup h1 h2 => exact ⟨_, _, rfl, h1, h2⟩
theorem dp_lst_inv {v : V} {ds : List D} (h : Dp K H v (.list ds)) : ∃ p vs, v = .ref p ∧ SqL K H p vs ∧ DpAll K H vs ds := by
  cases h with
  | lst h1 h2 => exact ⟨_, _, rfl, h1, h2⟩
theorem dp_int_inv {v : V} {i : Int} (h : Dp K H v (.int i)) : v = .int i := by cases h; rfl
theorem dp_str_inv {v : V} {s : Str} (h : Dp K H v (.str s)) : v = .str s := by cases h; rfl
theorem dp_bl_inv {v : V} {b : Bool} (h : Dp K H v (.bool b)) : v = .bl b := by cases h; rfl
theorem dp_non_inv {v : V} (h : Dp K H v .none) : v = .non := by cases h; rfl
/-- a list of texts -/
theorem dpa_strs : ∀ (ss : List Str), DpAll K H (ss.map V.str) (ss.map PyData.str)
  | [] => .nil
  | s :: ss => .cons (.str s) (dpa_strs ss)
theorem dpa_strs_inv : ∀ {ss : List Str} {vs : List V}, DpAll K H vs (ss.map PyData.str) → vs = ss.map V.str
  | [], _, h => by cases h; rfl
  | s :: ss, _, h => by
    cases h with
    | cons h1 h2 => rw [dp_str_inv h1, dpa_strs_inv h2]; rfl
theorem dpa_ints_inv : ∀ {ss : List Int} {vs : List V}, DpAll K H vs (ss.map PyData.int) → vs = ss.map V.int
  | [], _, h => by cases h; rfl
  | s :: ss, _, h => by
    cases h with
    | cons h1 h2 => rw [dp_int_inv h1, dpa_ints_inv h2]; rfl
theorem dpa_bools_inv : ∀ {ss : List Bool} {vs : List V}, DpAll K H vs (ss.map PyData.bool) → vs = ss.map V.bl
  | [], _, h => by cases h; rfl
  | s :: ss, _, h => by
    cases h with
    | cons h1 h2 => rw [dp_bl_inv h1, dpa_bools_inv h2]; rfl

/-! ### what evaluates to what -/
/-- te gives the data d, the heap grown -/
def EvD (K : PySem.W.Frag) (te : TE) (σ : L2.St) (H : Hp) (d : D) : Prop := ∀ H1, Ex H H1 → ∀ Q : VK, (∀ v H2, Ex H1 H2 → Dp K H2 v d → Q v H2) → te σ H1 Q
def EvDs (K : PySem.W.Frag) (ta : TA) (σ : L2.St) (H : Hp) (ds : List D) : Prop := ∀ H1, Ex H H1 → ∀ Q : List V → Hp → Prop, (∀ vs H2, Ex H1 H2 → DpAll K H2 vs ds → Q vs H2) → ta σ H1 Q
/-- a new list -/
def EvN (K : PySem.W.Frag) (te : TE) (σ : L2.St) (H : Hp) (ds : List D) : Prop := ∀ H1, Ex H H1 → ∀ Q : VK, (∀ p vs H2, H1 p = none → Ex H1 H2 → H2 p = some (.lst vs) → DpAll K H2 vs ds → Q (.ref p) H2) → te σ H1 Q
variable {ta tb te tx : TE} {t u : TT} {d d1 d2 : D} {tr : TA} {ds es : List D}
theorem EvD.mono (h : EvD K te σ H d) (e : Ex H H') : EvD K te σ H' d := fun H1 a Q q => h H1 (e.trans a) Q q
theorem EvDs.mono (h : EvDs K tr σ H ds) (e : Ex H H') : EvDs K tr σ H' ds := fun H1 a Q q => h H1 (e.trans a) Q q
theorem EvN.mono (h : EvN K te σ H ds) (e : Ex H H') : EvN K te σ H' ds := fun H1 a Q q => h H1 (e.trans a) Q q
theorem EvN.ed (h : EvN K te σ H ds) : EvD K te σ H (.list ds) := fun H1 e Q q => h H1 e Q fun p vs H2 _ e2 h2 a => q _ H2 e2 (dp_lst h2 a)
theorem EvTm {b : Bool} (h : EvT t σ H b) (e : Ex H H') : EvT t σ H' b := h.mono e
theorem ed_is (h : EvD K te σ H d1) (e : d1 = d2) : EvD K te σ H d2 := e ▸ h
theorem ed_of {v : V} (h : Ev te σ H v) (hd : Dp K H v d) : EvD K te σ H d := fun H1 e Q q => h H1 e Q fun H2 e2 => q v H2 e2 (Dpx hd (e.trans e2))
theorem ed_var {i : Nat} {v : V} (h : σ[i]? = some (some v)) (hd : Dp K H v d) : EvD K (tVar i) σ H d := fun H1 e _ q => ⟨v, h, q v H1 (Ex.refl H1) (Dpx hd e)⟩
theorem ed_c {v : V} (hd : Dp K H v d) : EvD K (tC v) σ H d := fun H1 e _ q => q v H1 (Ex.refl H1) (Dpx hd e)
theorem ed_int {i : Int} : EvD K (tC (.int i)) σ H (.int i) := ed_c (.int i)
theorem ed_str {s : Str} : EvD K (tC (.str s)) σ H (.str s) := ed_c (.str s)
theorem ed_bl {b : Bool} : EvD K (tC (.bl b)) σ H (.bool b) := ed_c (.bl b)
theorem ed_non : EvD K (tC .non) σ H .none := ed_c .non
theorem eds_nil : EvDs K tNil σ H [] := fun H1 _ _ q => q [] H1 (Ex.refl H1) .nil
theorem eds_cons (h : EvD K ta σ H d) (h2 : EvDs K tr σ H ds) : EvDs K (tCons ta tr) σ H (d :: ds) := fun H1 e _ q =>
  h H1 e _ fun v H2 e2 hv => h2 H2 (e.trans e2) _ fun vs H3 e3 hvs => q (v :: vs) H3 (e2.trans e3) (.cons (Dpx hv e3) hvs)
theorem ed_tup (h : EvDs K tr σ H ds) (hl : ds.length ≤ 100000) : EvD K (tTup tr) σ H (.tuple ds) := fun H1 e _ q =>
  h H1 e _ fun vs H2 e2 hvs => ⟨by rw [dpa_len hvs]; exact sz_of hl, fun p hp => q (.ref p) _ (e2.trans (Ex.new hp)) (dp_tup upd_same (Dpax hvs (Ex.new hp)))⟩
theorem en_lst (h : EvDs K tr σ H ds) (hl : ds.length ≤ 100000) : EvN K (tLst tr) σ H ds := fun H1 e _ q =>
  h H1 e _ fun vs H2 e2 hvs => ⟨by rw [dpa_len hvs]; exact sz_of hl, fun p hp => q p vs _ (fresh_back e2 hp) (e2.trans (Ex.new hp)) upd_same (Dpax hvs (Ex.new hp))⟩
theorem ed_lst (h : EvDs K tr σ H ds) (hl : ds.length ≤ 100000) : EvD K (tLst tr) σ H (.list ds) := (en_lst h hl).ed
/-- an operator by its rule on data -/
def RD (K : PySem.W.Frag) (r : R2) (a b : D) (H : Hp) (d : D) : Prop := ∀ H1, Ex H H1 → ∀ x y, Dp K H1 x a → Dp K H1 y b → ∀ Q : VK, (∀ v H2, Ex H1 H2 → Dp K H2 v d → Q v H2) → r x y H1 Q
theorem ed_op {r : R2} (ha : EvD K ta σ H d1) (hb : EvD K tb σ H d2) (hr : RD K r d1 d2 H d) : EvD K (tOp r ta tb) σ H d := fun H1 e Q q =>
  ha H1 e _ fun x H2 e2 hx => hb H2 (e.trans e2) _ fun y H3 e3 hy => hr H3 ((e.trans e2).trans e3) x y (Dpx hx e3) hy Q fun v H4 e4 hv => q v H4 ((e2.trans e3).trans e4) hv
theorem rd_eqD (h1 : SeqAt.shaped d1 = true) (h2 : SeqAt.shaped d2 = true) : RD K (rEqD K) d1 d2 H (.bool (PyData.eqv d1 d2)) := fun H1 _ x y hx hy _ q => ⟨d1, d2, hx, hy, h1, h2, q _ H1 (Ex.refl H1) (.bl _)⟩
theorem rd_neD (h1 : SeqAt.shaped d1 = true) (h2 : SeqAt.shaped d2 = true) : RD K (rNeD K) d1 d2 H (.bool (!PyData.eqv d1 d2)) := fun H1 _ x y hx hy _ q => ⟨d1, d2, hx, hy, h1, h2, q _ H1 (Ex.refl H1) (.bl _)⟩
theorem rd_eqS {a b : Str} : RD K rEq (.str a) (.str b) H (.bool (decide (a = b))) := fun H1 _ x y hx hy _ q => by
  cases hx; cases hy
  refine ⟨rfl, ?_⟩
  have e : decide (V.str a = V.str b) = decide (a = b) := by simp
  rw [e]
  exact q _ H1 (Ex.refl H1) (.bl _)
theorem rd_eqI {a b : Int} : RD K rEq (.int a) (.int b) H (.bool (decide (a = b))) := fun H1 _ x y hx hy _ q => by
  cases hx; cases hy
  refine ⟨rfl, ?_⟩
  have e : decide (V.int a = V.int b) = decide (a = b) := by simp
  rw [e]
  exact q _ H1 (Ex.refl H1) (.bl _)
theorem rd_neS {a b : Str} : RD K rNe (.str a) (.str b) H (.bool (!decide (a = b))) := fun H1 _ x y hx hy _ q => by
  cases hx; cases hy
  refine ⟨rfl, ?_⟩
  have e : decide (V.str a = V.str b) = decide (a = b) := by simp
  rw [e]
  exact q _ H1 (Ex.refl H1) (.bl _)
theorem rd_neI {a b : Int} : RD K rNe (.int a) (.int b) H (.bool (!decide (a = b))) := fun H1 _ x y hx hy _ q => by
  cases hx; cases hy
  refine ⟨rfl, ?_⟩
  have e : decide (V.int a = V.int b) = decide (a = b) := by simp
  rw [e]
  exact q _ H1 (Ex.refl H1) (.bl _)
theorem rd_int {g : Int → Int → Int} {a b : Int} : RD K (rI0 fun i j => .int (g i j)) (.int a) (.int b) H (.int (g a b)) := fun H1 _ x y hx hy _ q => by
  cases hx; cases hy
  exact ⟨a, b, rfl, rfl, q _ H1 (Ex.refl H1) (.int _)⟩
theorem rd_cmp {g : Int → Int → Bool} {a b : Int} : RD K (rI0 fun i j => .bl (g i j)) (.int a) (.int b) H (.bool (g a b)) := fun H1 _ x y hx hy _ q => by
  cases hx; cases hy
  exact ⟨a, b, rfl, rfl, q _ H1 (Ex.refl H1) (.bl _)⟩
theorem rd_intC {C : Int → Int → Prop} {g : Int → Int → Int} {a b : Int} (hc : C a b) : RD K (rI C fun i j => .int (g i j)) (.int a) (.int b) H (.int (g a b)) := fun H1 _ x y hx hy _ q => by
  cases hx; cases hy
  exact ⟨a, b, rfl, rfl, hc, q _ H1 (Ex.refl H1) (.int _)⟩
def isN : D → Bool
  | .none => true
  | _ => false
theorem rd_isN : RD K (fun x y H Q => y = .non ∧ Q (.bl (decide (x = .non))) H) d .none H (.bool (isN d)) := fun H1 _ x y hx hy _ q => by
  cases hy
  refine ⟨rfl, ?_⟩
  have e : decide (x = .non) = isN d := by
    cases hx <;> simp [isN]
  rw [e]
  exact q _ H1 (Ex.refl H1) (.bl _)
theorem rd_notN : RD K (fun x y H Q => y = .non ∧ Q (.bl (!decide (x = .non))) H) d .none H (.bool (!isN d)) := fun H1 _ x y hx hy _ q => by
  cases hy
  refine ⟨rfl, ?_⟩
  have e : decide (x = .non) = isN d := by
    cases hx <;> simp [isN]
  rw [e]
  exact q _ H1 (Ex.refl H1) (.bl _)
/-- place i of data -/
def atD (ds : List D) (i : Int) : Option D := (ixN ds.length i).bind fun j => ds[j]?
theorem rd_ixT {i : Int} {ds : List D} (h : atD ds i = some d) : RD K (rIxT K) (.tuple ds) (.int i) H d := fun H1 _ x y hx hy _ q => by
  obtain ⟨p, vs, rfl, h1, h2⟩ := dp_tup_inv hx
  cases hy
  unfold atD at h
  cases e : ixN ds.length i with
  | none => rw [e] at h; cases h
  | some j =>
    rw [e] at h
    obtain ⟨v, g1, g2⟩ := dpa_get h2 (show ds[j]? = some d from h)
    exact ⟨p, vs, i, v, rfl, rfl, h1, by unfold atI; rw [dpa_len h2, e]; exact g1, q v H1 (Ex.refl H1) g2⟩
theorem rd_ixL {i : Int} {ds : List D} (h : atD ds i = some d) : RD K (rIxL K) (.list ds) (.int i) H d := fun H1 _ x y hx hy _ q => by
  obtain ⟨p, vs, rfl, h1, h2⟩ := dp_lst_inv hx
  cases hy
  unfold atD at h
  cases e : ixN ds.length i with
  | none => rw [e] at h; cases h
  | some j =>
    rw [e] at h
    obtain ⟨v, g1, g2⟩ := dpa_get h2 (show ds[j]? = some d from h)
    exact ⟨p, vs, i, v, rfl, rfl, h1, by unfold atI; rw [dpa_len h2, e]; exact g1, q v H1 (Ex.refl H1) g2⟩
/-! ### tests -/
theorem et_ed {b : Bool} (h : EvD K te σ H (.bool b)) : EvT (tTest te) σ H b := fun H1 e _ q => h H1 e _ fun v H2 e2 hv => ⟨b, dp_bl_inv hv, q H2 e2⟩
theorem et_edB {b : Bool} (h : EvD K te σ H (.bool b)) : EvT (tB te) σ H b := fun H1 e _ q => h H1 e _ fun v H2 e2 hv => ⟨b, dp_bl_inv hv, q H2 e2⟩
theorem ed_and {a b : Bool} (h1 : EvD K ta σ H (.bool a)) (h2 : a = true → EvD K tb σ H (.bool b)) : EvD K (tAndV ta tb) σ H (.bool (a && b)) := fun H1 e Q q => h1 H1 e _ fun v H2 e2 hv => ⟨a, dp_bl_inv hv, by
  cases a with
  | true => exact iteT (h2 rfl H2 (e.trans e2) Q fun v H3 e3 h3 => q v H3 (e2.trans e3) h3)
  | false => exact iteF (q _ H2 e2 (.bl false))⟩
theorem ed_or {a b : Bool} (h1 : EvD K ta σ H (.bool a)) (h2 : a = false → EvD K tb σ H (.bool b)) : EvD K (tOrV ta tb) σ H (.bool (a || b)) := fun H1 e Q q => h1 H1 e _ fun v H2 e2 hv => ⟨a, dp_bl_inv hv, by
  cases a with
  | true => exact iteT (q _ H2 e2 (.bl true))
  | false => exact iteF (h2 rfl H2 (e.trans e2) Q fun v H3 e3 h3 => q v H3 (e2.trans e3) h3)⟩
theorem ed_not {a : Bool} (h1 : EvD K ta σ H (.bool a)) : EvD K (tNotV ta) σ H (.bool (!a)) := fun H1 e Q q => h1 H1 e _ fun v H2 e2 hv => ⟨a, dp_bl_inv hv, q _ H2 e2 (.bl _)⟩
theorem ed_if {b : Bool} (h : EvT t σ H b) (h1 : b = true → EvD K ta σ H d) (h2 : b = false → EvD K tb σ H d) : EvD K (tIf t ta tb) σ H d := fun H1 e Q q => h H1 e _ fun H2 e2 => by
  cases b with
  | true => exact iteT (h1 rfl H2 (e.trans e2) Q fun v H3 e3 h3 => q v H3 (e2.trans e3) h3)
  | false => exact iteF (h2 rfl H2 (e.trans e2) Q fun v H3 e3 h3 => q v H3 (e2.trans e3) h3)
/-! ### calls -/
/-- a promise on data: R of the arguments and the result; the heap grows -/
def spD (K : PySem.W.Frag) (R : List D → D → Prop) : Sp := fun vs H Q _ => ∃ ds d, DpAll K H vs ds ∧ R ds d ∧ ∀ v H', Ex H H' → Dp K H' v d → Q v H'
/-- .. that gives a new list -/
def spN (K : PySem.W.Frag) (R : List D → List D → Prop) : Sp := fun vs H Q _ => ∃ ds es, DpAll K H vs ds ∧ R ds es ∧ ∀ p us H', H p = none → Ex H H' → H' p = some (.lst us) → DpAll K H' us es → Q (.ref p) H'
theorem ed_call {R : List D → D → Prop} {E : XK} (h : EvDs K tr σ H ds) (hR : R ds d) : EvD K (tCall (spD K R) [] E tr) σ H d := fun H1 e Q q =>
  h H1 e _ fun vs H2 e2 hvs => by
    show spD K R (vs ++ []) H2 Q E
    rw [List.append_nil]
    exact ⟨ds, d, hvs, hR, fun v H3 e3 hv => q v H3 (e2.trans e3) hv⟩
theorem en_call {R : List D → List D → Prop} {E : XK} (h : EvDs K tr σ H ds) (hR : R ds es) : EvN K (tCall (spN K R) [] E tr) σ H es := fun H1 e Q q =>
  h H1 e _ fun vs H2 e2 hvs => by
    show spN K R (vs ++ []) H2 Q E
    rw [List.append_nil]
    exact ⟨ds, es, hvs, hR, fun p us H3 hp e3 h3 ha => q p us H3 (fresh_back e2 hp) (e2.trans e3) h3 ha⟩
/-- a built-in by its rule on data -/
def RCD (K : PySem.W.Frag) (r : List V → Hp → VK → Prop) (ds : List D) (H : Hp) (d : D) : Prop := ∀ H1, Ex H H1 → ∀ vs, DpAll K H1 vs ds → ∀ Q : VK, (∀ v H2, Ex H1 H2 → Dp K H2 v d → Q v H2) → r vs H1 Q
theorem ed_cb {r : List V → Hp → VK → Prop} (h : EvDs K tr σ H ds) (hr : RCD K r ds H d) : EvD K (tCB r tr) σ H d := fun H1 e Q q =>
  h H1 e _ fun vs H2 e2 hvs => hr H2 (e.trans e2) vs hvs Q fun v H3 e3 hv => q v H3 (e2.trans e3) hv
def RCN (K : PySem.W.Frag) (r : List V → Hp → VK → Prop) (ds : List D) (H : Hp) (es : List D) : Prop := ∀ H1, Ex H H1 → ∀ vs, DpAll K H1 vs ds → ∀ Q : VK, (∀ p us H2, H1 p = none → Ex H1 H2 → H2 p = some (.lst us) → DpAll K H2 us es → Q (.ref p) H2) → r vs H1 Q
theorem en_cb {r : List V → Hp → VK → Prop} (h : EvDs K tr σ H ds) (hr : RCN K r ds H es) : EvN K (tCB r tr) σ H es := fun H1 e Q q =>
  h H1 e _ fun vs H2 e2 hvs => hr H2 (e.trans e2) vs hvs Q fun p us H3 hp e3 h3 ha => q p us H3 (fresh_back e2 hp) (e2.trans e3) h3 ha
theorem dpa1 {vs : List V} {d : D} (h : DpAll K H vs [d]) : ∃ v, vs = [v] ∧ Dp K H v d := by
  cases h with
  | cons h1 h2 => cases h2; exact ⟨_, rfl, h1⟩
theorem dpa2 {vs : List V} {d d' : D} (h : DpAll K H vs [d, d']) : ∃ v v', vs = [v, v'] ∧ Dp K H v d ∧ Dp K H v' d' := by
  cases h with
  | cons h1 h2 =>
    obtain ⟨v', rfl, h3⟩ := dpa1 h2
    exact ⟨_, v', rfl, h1, h3⟩
theorem dpa3 {vs : List V} {d d' d'' : D} (h : DpAll K H vs [d, d', d'']) : ∃ v v' v'', vs = [v, v', v''] ∧ Dp K H v d ∧ Dp K H v' d' ∧ Dp K H v'' d'' := by
  cases h with
  | cons h1 h2 =>
    obtain ⟨v', v'', rfl, h3, h4⟩ := dpa2 h2
    exact ⟨_, v', v'', rfl, h1, h3, h4⟩
abbrev rLenQ (K : PySem.W.Frag) : List V → Hp → VK → Prop := fun xs H Q => ∃ p ys, xs = [.ref p] ∧ (SqL K H p ys ∨ SqT K H p ys) ∧ Q (.int ys.length) H
theorem rc_lenT {ds : List D} : RCD K (rLenQ K) [.tuple ds] H (.int ds.length) := fun H1 _ vs h _ q => by
  obtain ⟨v, rfl, hv⟩ := dpa1 h
  obtain ⟨p, us, rfl, h1, h2⟩ := dp_tup_inv hv
  refine ⟨p, us, rfl, .inr h1, ?_⟩
  rw [dpa_len h2]
  exact q _ H1 (Ex.refl H1) (.int _)
theorem rc_lenL {ds : List D} : RCD K (rLenQ K) [.list ds] H (.int ds.length) := fun H1 _ vs h _ q => by
  obtain ⟨v, rfl, hv⟩ := dpa1 h
  obtain ⟨p, us, rfl, h1, h2⟩ := dp_lst_inv hv
  refine ⟨p, us, rfl, .inl h1, ?_⟩
  rw [dpa_len h2]
  exact q _ H1 (Ex.refl H1) (.int _)
theorem rc_lenS {s : Str} (hs : s.length ≤ sizeLine) : RCD K (fun xs H Q => ∃ z, xs = [.str z] ∧ z.length ≤ sizeLine ∧ Q (.int z.length) H) [.str s] H (.int s.length) := fun H1 _ vs h _ q => by
  obtain ⟨v, rfl, hv⟩ := dpa1 h
  cases hv
  exact ⟨s, rfl, hs, q _ H1 (Ex.refl H1) (.int _)⟩
theorem rc_all {bs : List Bool} : RCD K (rAll K) [.list (bs.map PyData.bool)] H (.bool (bs.all id)) := fun H1 _ vs h _ q => by
  obtain ⟨v, rfl, hv⟩ := dpa1 h
  obtain ⟨p, us, rfl, h1, h2⟩ := dp_lst_inv hv
  cases dpa_bools_inv h2
  exact ⟨p, bs, rfl, h1, q _ H1 (Ex.refl H1) (.bl _)⟩
theorem rc_any {bs : List Bool} : RCD K (rAny K) [.list (bs.map PyData.bool)] H (.bool (bs.any id)) := fun H1 _ vs h _ q => by
  obtain ⟨v, rfl, hv⟩ := dpa1 h
  obtain ⟨p, us, rfl, h1, h2⟩ := dp_lst_inv hv
  cases dpa_bools_inv h2
  exact ⟨p, bs, rfl, h1, q _ H1 (Ex.refl H1) (.bl _)⟩
/-! ### membership of flat data in a tuple or list of flat data -/
def flatD : D → Bool
  | .none => true
  | .bool _ => true
  | .int _ => true
  | .str _ => true
  | _ => false
theorem flat_of {v : V} {d : D} (h : Dp K H v d) (f : flatD d = true) : flatV v = true := by
  cases h <;> first | rfl | cases f
theorem eqv_of {x y : V} {a b : D} (ha : Dp K H x a) (hb : Dp K H y b) (fa : flatD a = true) (fb : flatD b = true) : eqV x y = PyData.eqv a b := by
  cases ha <;> cases hb <;> first | rfl | (cases fa; done) | (cases fb; done) | (simp [eqV, PyData.eqv]) | skip
theorem flats_of : ∀ {vs : List V} {ds : List D}, DpAll K H vs ds → ds.all flatD = true → vs.all flatV = true
  | _, _, .nil, _ => rfl
  | _, _, .cons h t, f => by
    rw [List.all_cons, Bool.and_eq_true] at f ⊢
    exact ⟨flat_of h f.1, flats_of t f.2⟩
theorem inV_of {x : V} {d : D} (hx : Dp K H x d) (fx : flatD d = true) : ∀ {vs : List V} {ds : List D}, DpAll K H vs ds → ds.all flatD = true → inV x vs = ds.any fun z => PyData.eqv z d
  | _, _, .nil, _ => rfl
  | _, _, .cons h t, f => by
    rw [List.all_cons, Bool.and_eq_true] at f
    have q := inV_of hx fx t f.2
    unfold inV at q ⊢
    rw [List.any_cons, List.any_cons, q, eqv_of h hx f.1 fx]
theorem rd_in {neg : Bool} {ds : List D} (hx : flatD d = true) (hs : ds.all flatD = true) : RD K (rIn K neg) d (.tuple ds) H (.bool (if neg then !ds.any (fun z => PyData.eqv z d) else ds.any fun z => PyData.eqv z d)) := fun H1 _ x y h1 h2 _ q => by
  obtain ⟨p, us, rfl, h3, h4⟩ := dp_tup_inv h2
  refine ⟨p, us, rfl, .inr h3, flat_of h1 hx, flats_of h4 hs, ?_⟩
  rw [inV_of h1 hx h4 hs]
  exact q _ H1 (Ex.refl H1) (.bl _)
theorem rd_inL {neg : Bool} {ds : List D} (hx : flatD d = true) (hs : ds.all flatD = true) : RD K (rIn K neg) d (.list ds) H (.bool (if neg then !ds.any (fun z => PyData.eqv z d) else ds.any fun z => PyData.eqv z d)) := fun H1 _ x y h1 h2 _ q => by
  obtain ⟨p, us, rfl, h3, h4⟩ := dp_lst_inv h2
  refine ⟨p, us, rfl, .inl h3, flat_of h1 hx, flats_of h4 hs, ?_⟩
  rw [inV_of h1 hx h4 hs]
  exact q _ H1 (Ex.refl H1) (.bl _)
theorem any_str (s : Str) : ∀ ss : List Str, ((ss.map PyData.str).any fun z => PyData.eqv z (.str s)) = decide (s ∈ ss)
  | [] => by simp
  | a :: ss => by
    have e : PyData.eqv (.str a) (.str s) = decide (s = a) := by
      have e1 : PyData.eqv (.str a) (.str s) = (a == s) := by simp only [PyData.eqv]
      rw [e1]
      by_cases h : a = s
      · subst h; simp
      · have h' : ¬ s = a := fun q => h q.symm
        rw [decide_eq_false h']
        simpa using h
    rw [List.map_cons, List.any_cons, any_str s ss, e]
    simp [List.mem_cons]
theorem flat_strs : ∀ ss : List Str, (ss.map PyData.str).all flatD = true
  | [] => rfl
  | _ :: ss => flat_strs ss
/-- a text in a tuple, a list of texts -/
theorem rd_inS {s : Str} {ss : List Str} : RD K (rIn K false) (.str s) (.tuple (ss.map PyData.str)) H (.bool (decide (s ∈ ss))) := by
  have h := rd_in (K := K) (H := H) (neg := false) (d := .str s) (ds := ss.map PyData.str) rfl (flat_strs ss)
  rw [any_str] at h
  exact h
theorem rd_niS {s : Str} {ss : List Str} : RD K (rIn K true) (.str s) (.tuple (ss.map PyData.str)) H (.bool (!decide (s ∈ ss))) := by
  have h := rd_in (K := K) (H := H) (neg := true) (d := .str s) (ds := ss.map PyData.str) rfl (flat_strs ss)
  rw [any_str] at h
  exact h
theorem rd_inSL {s : Str} {ss : List Str} : RD K (rIn K false) (.str s) (.list (ss.map PyData.str)) H (.bool (decide (s ∈ ss))) := by
  have h := rd_inL (K := K) (H := H) (neg := false) (d := .str s) (ds := ss.map PyData.str) rfl (flat_strs ss)
  rw [any_str] at h
  exact h
theorem rd_niSL {s : Str} {ss : List Str} : RD K (rIn K true) (.str s) (.list (ss.map PyData.str)) H (.bool (!decide (s ∈ ss))) := by
  have h := rd_inL (K := K) (H := H) (neg := true) (d := .str s) (ds := ss.map PyData.str) rfl (flat_strs ss)
  rw [any_str] at h
  exact h
/-! ### data without lists stands while the tuples stand -/
def TEx (H H' : Hp) : Prop := ∀ a xs, Rd H a (.tup xs) → Rd H' a (.tup xs)
theorem TEx.refl (H : Hp) : TEx H H := fun _ _ h => h
theorem TEx.trans {H H1 H2 : Hp} (a : TEx H H1) (b : TEx H1 H2) : TEx H H2 := fun x xs h => b x xs (a x xs h)
theorem Ex.tex (e : Ex H H') : TEx H H' := fun _ _ h => ex_rd e h
theorem tex_upd {a : Addr} {o u : HO} (h : H a = some o) (hn : ∀ xs, o ≠ .tup xs) (hf : ∀ ob xs, o ≠ .frz ob xs) : TEx H (upd H a u) := fun b xs r => by
  have ne : b ≠ a := fun z => by
    subst z
    rcases r with r | ⟨ob, r⟩
    · rw [h] at r; exact hn xs (Option.some.inj r)
    · rw [h] at r; exact hf ob _ (Option.some.inj r)
  rcases r with r | ⟨ob, r⟩
  · exact .inl (by rw [upd_ne ne]; exact r)
  · exact .inr ⟨ob, by rw [upd_ne ne]; exact r⟩
theorem tex_new {a : Addr} {u : HO} (h : H a = none) : TEx H (upd H a u) := Ex.tex (Ex.new h)
theorem tex_lst {a : Addr} {xs : List V} {u : HO} (h : H a = some (.lst xs)) : TEx H (upd H a u) := tex_upd h (fun _ z => nomatch z) (fun _ _ z => nomatch z)
theorem tex_dK {a : Addr} {xs : List (L2.Key × V)} {u : HO} (h : H a = some (.dK xs)) : TEx H (upd H a u) := tex_upd h (fun _ z => nomatch z) (fun _ _ z => nomatch z)
theorem tex_dT {a : Addr} {xs : List (List L2.Key × V)} {u : HO} (h : H a = some (.dT xs)) : TEx H (upd H a u) := tex_upd h (fun _ z => nomatch z) (fun _ _ z => nomatch z)
theorem tex_ins {a C dx : Addr} {fs : List (Str × V)} {u : HO} (h : H a = some (.ins C dx fs)) : TEx H (upd H a u) := tex_upd h (fun _ z => nomatch z) (fun _ _ z => nomatch z)
theorem tex_t {a : Addr} {xs : List V} (e : TEx H H') (h : SqT K H a xs) : SqT K H' a xs := by
  rcases h with h | h
  · exact .inl (e _ _ h)
  · exact .inr h
mutual
def noL : D → Bool
  | .list _ => false
  | .dict _ => false
  | .tuple ds => noLs ds
  | _ => true
def noLs : List D → Bool
  | [] => true
  | d :: ds => noL d && noLs ds
end
mutual
theorem dp_tex (e : TEx H H') : ∀ (d : D) (v : V), noL d = true → Dp K H v d → Dp K H' v d
  | .none, _, _, h => by cases h; exact .non
  | .bool b, _, _, h => by cases h; exact .bl b
  | .int i, _, _, h => by cases h; exact .int i
  | .str s, _, _, h => by cases h; exact .str s
  | .list ds, _, n, _ => by cases n
  | .tuple ds, _, n, h => by
    cases h with
    | tup h1 h2 => exact .tup (tex_t e h1) (dpa_tex e ds _ n h2)
  | .dict kvs, _, _, h => by cases h
theorem dpa_tex (e : TEx H H') : ∀ (ds : List D) (vs : List V), noLs ds = true → DpAll K H vs ds → DpAll K H' vs ds
  | [], _, _, h => by cases h; exact .nil
  | d :: ds, _, n, h => by
    cases h with
    | cons h1 h2 =>
      rw [noLs, Bool.and_eq_true] at n
      exact .cons (dp_tex e d _ n.1 h1) (dpa_tex e ds _ n.2 h2)
end
theorem Dpt {v : V} {d : D} (h : Dp K H v d) (n : noL d = true) (e : TEx H H') : Dp K H' v d := dp_tex e d v n h
theorem Dpat {vs : List V} {ds : List D} (h : DpAll K H vs ds) (n : noLs ds = true) (e : TEx H H') : DpAll K H' vs ds := dpa_tex e ds vs n h
theorem noLs_app : ∀ (ds es : List D), noLs (ds ++ es) = (noLs ds && noLs es)
  | [], es => rfl
  | d :: ds, es => by
    show (noL d && noLs (ds ++ es)) = _
    rw [noLs_app ds es]
    show _ = ((noL d && noLs ds) && noLs es)
    rw [Bool.and_assoc]
theorem noLs_all : ∀ {ds : List D}, (∀ d ∈ ds, noL d = true) → noLs ds = true
  | [], _ => rfl
  | d :: ds, h => by
    show (noL d && noLs ds) = true
    rw [h d List.mem_cons_self, noLs_all fun z hz => h z (List.mem_cons_of_mem _ hz)]; rfl
theorem noLs_mem : ∀ {ds : List D}, noLs ds = true → ∀ d ∈ ds, noL d = true
  | d :: ds, h, z, hz => by
    have h2 : (noL d && noLs ds) = true := h
    rw [Bool.and_eq_true] at h2
    rcases List.mem_cons.mp hz with e | hz
    · rw [e]; exact h2.1
    · exact noLs_mem h2.2 z hz
/-! ### list comprehensions -/
def CwD (K : PySem.W.Frag) (H : Hp) (f : Nat → Option D) (Dl : Addr) (i : Nat) (H' : Hp) : Prop := H Dl = none ∧ Ex H H' ∧ ∃ vs, H' Dl = some (.lst vs) ∧ DpAll K H' vs ((List.range i).filterMap f)
theorem fm_succ (f : Nat → Option D) (i : Nat) : (List.range (i + 1)).filterMap f = (List.range i).filterMap f ++ (match f i with | some d => [d] | none => []) := by
  rw [List.range_succ, List.filterMap_append]
  congr 1
  cases e : f i <;> simp [List.filterMap, e]
theorem fm_len (f : Nat → Option D) (i : Nat) : ((List.range i).filterMap f).length ≤ i := by
  have h := List.length_filterMap_le f (List.range i)
  rw [List.length_range] at h
  exact h
theorem fm_noL {f : Nat → Option D} (hl : ∀ i d, f i = some d → noL d = true) (i : Nat) : noLs ((List.range i).filterMap f) = true := noLs_all fun d hd => by
  obtain ⟨j, _, e⟩ := List.mem_filterMap.mp hd
  exact hl j d e
/-- one turn of a comprehension on data: which item gives what -/
theorem cwd_turn {H H' : Hp} {f : Nat → Option D} {Dl : Addr} {i : Nat} {σ2 : L2.St} {b : Bool} (hl : ∀ i d, f i = some d → noL d = true) (p : CwD K H f Dl i H') (hi : i < 50000) (ht : EvT t σ2 H b) (he : b = true → ∃ d, f i = some d ∧ EvD K te σ2 H d) (hn : b = false → f i = none) :
    t σ2 H' fun b H3 => if b = true then te σ2 H3 fun y H4 => ∃ acc, H4 Dl = some (.lst acc) ∧ acc.length < sizeLine ∧ CwD K H f Dl (i + 1) (upd H4 Dl (.lst (acc ++ [y]))) else CwD K H f Dl (i + 1) H3 := by
  obtain ⟨p1, p2, vs, p3, p4⟩ := p
  refine ht H' p2 _ fun H3 e3 => ?_
  cases b with
  | true =>
    obtain ⟨d, e1, e2⟩ := he rfl
    refine iteT (e2 H3 (p2.trans e3) _ fun y H4 e4 hy => ⟨vs, e4 _ _ (e3 _ _ p3), ?_, p1, Ex.mut ((p2.trans e3).trans e4) p1, vs ++ [y], upd_same, ?_⟩)
    · rw [dpa_len p4]
      exact sz_lt (by have := fm_len f i; omega)
    · have x : TEx H4 (upd H4 Dl (.lst (vs ++ [y]))) := tex_lst (e4 _ _ (e3 _ _ p3))
      rw [fm_succ, e1]
      exact dpa_app (Dpat (Dpax p4 (e3.trans e4)) (fm_noL hl i) x) (dpa_one (Dpt hy (hl i d e1) x))
  | false =>
    refine iteF ⟨p1, p2.trans e3, vs, e3 _ _ p3, ?_⟩
    rw [fm_succ, hn rfl, List.append_nil]
    exact Dpax p4 e3
/-- a target that takes a value: the slots behind it -/
def GV (g : TG) (x : V) (σ σ2 : L2.St) (H : Hp) : Prop := ∀ H1, Ex H H1 → ∀ Q : L2.St → Hp → Prop, Q σ2 H1 → g x σ H1 Q
theorem gv_name {j : Nat} {x : V} : GV (gName j) x σ (σ.set j (some x)) H := fun _ _ _ q => q
theorem gv_pair {j k : Nat} {x : V} {d d' : D} (h : Dp K H x (.tuple [d, d'])) : ∃ y z, Dp K H y d ∧ Dp K H z d' ∧ GV (gTup K 2 (gCons (gName j) (gCons (gName k) gNil))) x σ ((σ.set j (some y)).set k (some z)) H := by
  obtain ⟨p, vs, rfl, h1, h2⟩ := dp_tup_inv h
  obtain ⟨y, z, rfl, hy, hz⟩ := dpa2 h2
  exact ⟨y, z, hy, hz, fun H1 e Q q => ⟨p, [y, z], rfl, ex_t e h1, rfl, y, [z], rfl, z, [], rfl, rfl, q⟩⟩
/-- one turn's whole: the item's slots, the test, the element -/
def TurnD (K : PySem.W.Frag) (g : TG) (t : TT) (te : TE) (vs : List Nat) (σ : L2.St) (H : Hp) (x : V) (o : Option D) : Prop := ∃ σ2 b, GV g x (wipe σ vs) σ2 H ∧ wipe σ2 vs = wipe σ vs ∧ EvT t σ2 H b ∧ (b = true → ∃ d, o = some d ∧ EvD K te σ2 H d) ∧ (b = false → o = none)
theorem turn_go {g : TG} {vs : List Nat} {H H' : Hp} {f : Nat → Option D} {Dl : Addr} {i : Nat} {x : V} (hl : ∀ i d, f i = some d → noL d = true) (p : CwD K H f Dl i H') (hi : i < 50000) (h : TurnD K g t te vs σ H x (f i)) :
    g x (wipe σ vs) H' fun σ2 H2 => wipe σ2 vs = wipe σ vs ∧ t σ2 H2 fun b H3 => if b = true then te σ2 H3 fun y H4 => ∃ acc, H4 Dl = some (.lst acc) ∧ acc.length < sizeLine ∧ CwD K H f Dl (i + 1) (upd H4 Dl (.lst (acc ++ [y]))) else CwD K H f Dl (i + 1) H3 := by
  obtain ⟨σ2, b, h1, h2, h3, h4, h5⟩ := h
  exact h1 H' p.2.1 _ ⟨h2, cwd_turn hl p hi h3 h4 h5⟩
theorem cw_end {f : Nat → Option D} {Dl : Addr} {n : Nat} {H0 H1 H' : Hp} {Q : VK} (e : Ex H0 H1) (p : CwD K H1 f Dl n H') (q : ∀ p vs H2, H0 p = none → Ex H0 H2 → H2 p = some (.lst vs) → DpAll K H2 vs ((List.range n).filterMap f) → Q (.ref p) H2) : Q (.ref Dl) H' := by
  obtain ⟨p1, p2, vs, p3, p4⟩ := p
  exact q Dl vs H' (fresh_back e p1) (e.trans p2) p3 p4
/-- over a tuple -/
theorem en_lcT {g : TG} {vs : List Nat} {tl : TE} (f : Nat → Option D) (hl : ∀ i d, f i = some d → noL d = true) (h : EvD K tl σ H (.tuple ds)) (hz : ds.length ≤ 40000)
    (ht : ∀ (i : Nat) (x : V) (d : D) H1, Ex H H1 → ds[i]? = some d → Dp K H1 x d → TurnD K g t te vs σ H1 x (f i)) : EvN K (tLc (iTup K tl) g t te vs) σ H ((List.range ds.length).filterMap f) := fun H0 e Q q =>
  h H0 e _ fun v H1 e1 hv => by
    obtain ⟨a, xs, rfl, h1, h2⟩ := dp_tup_inv hv
    refine ⟨a, rfl, ⟨xs, h1⟩, fun Dl hD => lc_tup (xs := xs) (CwD K H1 f Dl) ⟨hD, Ex.new hD, [], upd_same, .nil⟩ (fun i H' _ p => ex_t p.2.1 h1) (fun i x H' hi p => ?_) (fun H' p => ?_)⟩
    · obtain ⟨d, g1, g2⟩ := dpa_getv h2 hi
      exact turn_go hl p (by have := (List.getElem?_eq_some_iff.mp g1).1; omega) (ht i x d H1 (e.trans e1) g1 g2)
    · rw [dpa_len h2] at p
      exact cw_end e1 p q
/-- over a list -/
theorem en_lcL {g : TG} {vs : List Nat} {tl : TE} (f : Nat → Option D) (hl : ∀ i d, f i = some d → noL d = true) (h : EvD K tl σ H (.list ds)) (hz : ds.length ≤ 40000)
    (ht : ∀ (i : Nat) (x : V) (d : D) H1, Ex H H1 → ds[i]? = some d → Dp K H1 x d → TurnD K g t te vs σ H1 x (f i)) : EvN K (tLc (iList K tl) g t te vs) σ H ((List.range ds.length).filterMap f) := fun H0 e Q q =>
  h H0 e _ fun v H1 e1 hv => by
    obtain ⟨a, xs, rfl, h1, h2⟩ := dp_lst_inv hv
    refine ⟨a, rfl, ⟨xs, h1⟩, fun Dl hD => lc_list (xs := xs) (CwD K H1 f Dl) ⟨hD, Ex.new hD, [], upd_same, .nil⟩ (fun i H' _ p => ex_l p.2.1 h1) (fun i x H' hi p => ?_) (fun H' p => ?_)⟩
    · obtain ⟨d, g1, g2⟩ := dpa_getv h2 hi
      exact turn_go hl p (by have := (List.getElem?_eq_some_iff.mp g1).1; omega) (ht i x d H1 (e.trans e1) g1 g2)
    · rw [dpa_len h2] at p
      exact cw_end e1 p q
/-- over range(n) -/
theorem en_lcR {j : Nat} {vs : List Nat} {n : Int} (f : Nat → Option D) (hl : ∀ i d, f i = some d → noL d = true) (h : EvDs K tr σ H [.int n]) (hz : 0 ≤ n ∧ n ≤ 40000)
    (ht : ∀ (i : Nat) H1, Ex H H1 → (i : Int) < n → TurnD K (gName j) t te vs σ H1 (.int (i : Int)) (f i)) : EvN K (tLc (iRng1 tr) (gName j) t te vs) σ H ((List.range n.toNat).filterMap f) := fun H0 e Q q =>
  h H0 e _ fun us H1 e1 hv => by
    obtain ⟨v, rfl, hw⟩ := dpa1 hv
    cases hw
    refine ⟨n, rfl, by omega, by omega, fun Dl hD => lc_range (lo := 0) (n := n.toNat) (CwD K H1 f Dl) ⟨hD, Ex.new hD, [], upd_same, .nil⟩ (fun i H' hi p => ?_) (fun H' p => cw_end e1 p q)⟩
    have e0 : (0 : Int) + (i : Int) = (i : Int) := Int.zero_add _
    rw [e0]
    exact turn_go hl p (by omega) (ht i H1 (e.trans e1) (by omega))
/-- filter, then map -/
theorem fm_map {α : Type} (f : α → Option D) : ∀ l : List α, (List.range l.length).filterMap (fun i => (l[i]?).bind f) = l.filterMap f
  | [] => rfl
  | a :: l => by
    rw [List.length_cons, List.range_succ_eq_map, List.filterMap_cons, List.filterMap_map]
    have e : (fun i => ((a :: l)[i]?).bind f) ∘ Nat.succ = fun i => (l[i]?).bind f := by
      funext i
      simp [Function.comp]
    rw [e, fm_map f l]
    simp only [List.getElem?_cons_zero, Option.bind_some, List.filterMap_cons]
end
end Ow

/-! P2: calls of the module's defs by name, isinstance, tuples and lists put together, targets. -/
namespace Ow
open PySem PySem.Spec PyProof.Rows L2 Evl
/-! ### a def that stands behind the module's name x -/
structure Cal (P : Program) (w : World) (K : PySem.W.Frag) (mg : Str → Option Value) (base : Heap) (CX : CXT) (k : Nat) (x : Str) (ps : List Str) (sp : Sp) : Prop where
  ex : ∃ f fd, FnOk P w K mg base CX k f fd ps sp ∧ mg x = some (.ref f) ∧ PySem.W.keepIn K (.ref f) = true ∧ Binds K fd ps []
theorem Cal.mono {P : Program} {w : World} {K : PySem.W.Frag} {mg : Str → Option Value} {base : Heap} {CX : CXT} {j k : Nat} {x : Str} {ps : List Str} {sp : Sp} (c : Cal P w K mg base CX j x ps sp) (h : j ≤ k) : Cal P w K mg base CX k x ps sp := by
  obtain ⟨f, fd, F, r⟩ := c.ex
  exact ⟨f, fd, F.mono h, r⟩
theorem Cal.imp {P : Program} {w : World} {K : PySem.W.Frag} {mg : Str → Option Value} {base : Heap} {CX : CXT} {k : Nat} {x : Str} {ps : List Str} {sp sp' : Sp} (c : Cal P w K mg base CX k x ps sp) (h : ∀ vs H Q E, sp' vs H Q E → sp vs H Q E) : Cal P w K mg base CX k x ps sp' := by
  obtain ⟨f, fd, F, r⟩ := c.ex
  exact ⟨f, fd, F.imp h, r⟩
section
variable {X : Cx} {k : Nat} {x : Str} {ps : List Str} {sp : Sp} {CX : CXT} {E : XK}
theorem pe_cal {e : Expr} {es : List Expr} {p pos : Pos} {t : TA} (c : Cal X.prog X.w X.K X.mg X.base CX k x ps sp) (hr : Room k X.A) (hg : Gl X x) (hx : Passes CX X E) (h : PA X (e :: es) t)
    (hdb : (x == ("__debug__" : Str)) = false := by decide) (he : starEach (e :: es) X.env = (false, eval e X.env) :: starEach es X.env := by rfl) (hpl : (backTo pos (starEach es X.env)).any (·.1) = false := by rfl) : PE X (.Call (.Name x p) (e :: es) [] pos) (tCall sp [] E t) := by
  obtain ⟨f, fd, F, m, kp, b⟩ := c.ex
  exact pe_call F hr hg m kp b .nil hx h hdb he hpl
theorem pe_cal0 {p pos : Pos} (c : Cal X.prog X.w X.K X.mg X.base CX k x ps sp) (hr : Room k X.A) (hg : Gl X x) (hx : Passes CX X E) (hdb : (x == ("__debug__" : Str)) = false := by decide) : PE X (.Call (.Name x p) [] [] pos) (tCall sp [] E tNil) := by
  obtain ⟨f, fd, F, m, kp, b⟩ := c.ex
  exact pe_call0 F hr hg m kp b .nil hx hdb
end
/-- a def as the head tells it -/
structure Def (K : PySem.W.Frag) (mg : Str → Option Value) (x : Str) (st : Stmt) : Prop where
  ex : ∃ f fd, FunD K x x (defArgs st) (defBody st) (defScope st) [] [] f fd ∧ mg x = some (.ref f)
section
variable {P : Program} {w : World} {K : PySem.W.Frag} {mg : Str → Option Value} {base : Heap}
/-- THE RULE for a def of the module -/
theorem Def.ok {CX : CXT} {x : Str} {st : Stmt} {N ps : List Str} {k : Nat} {sp : Sp} (F : Def K mg x st) (S : FnScope N ps (defScope st)) (len : ∀ vs H Q E, sp vs H Q E → vs.length = ps.length)
    (hb : ∀ (kV doc pm : Value) (an : Option Addr) (cdv ct : Value) (us : List Value), us.length = ps.length → bindArgs (PySem.W.fnOf x x (defArgs st) (defBody st) (defScope st) .none kV doc pm an cdv ct) ⟨us, []⟩ = pure (ps.zip us))
    (hbody : ∀ (f : Addr) (cdv : Value) (A : Around) (outer : List Env) (s : Shared) (H : Hp) (vs : List V) (Q : VK) (E : XK), Room k (A.deeper (envOfC x (defScope st) s.heap.objs.size f cdv)) → sp vs H Q E →
      ∃ t, PSs (cxOf CX P w K mg base N x (defScope st) f cdv A outer s H E) (defBody st) t ∧ t { nx := fun _ H' => Q .non H', rt := Q } (start N vs) H) : Cal P w K mg base CX (k + 1) x ps sp := by
  obtain ⟨f, fd, F, m⟩ := F.ex
  exact ⟨f, fd, F.ok S len (hbody f), m, F.kp, F.bindsN hb⟩
end
section
variable {K : PySem.W.Frag} {σ : L2.St} {H H' H0 : Hp} {ta tb te tx : TE} {t u : TT} {d d1 d2 : D} {tr : TA} {ds es : List D}
/-! ### isinstance -/
def isT (T : String) : D → Bool
  | .none => false
  | .bool _ => T == "bool" || T == "int"
  | .int _ => T == "int"
  | .str _ => T == "str"
  | .list _ => T == "list"
  | .tuple _ => T == "tuple"
  | .dict _ => false
def tyD : D → Value
  | .none => .type "NoneType"
  | .bool _ => .type "bool"
  | .int _ => .type "int"
  | .str _ => .type "str"
  | .list _ => .type "list"
  | .tuple _ => .type "tuple"
  | .dict _ => .type "dict"
theorem tyX_of {v : V} (h : Dp K H v d) : TyX K H v (tyD d) := by
  cases h with
  | non => exact .base .non
  | bl b => exact .base (.bl b)
  | int i => exact .base (.int i)
  | str s => exact .base (.str s)
  | lst h1 h2 =>
    rcases h1 with (h1 | ⟨o, h1⟩) | ⟨o, its, n, h1, h3, _⟩
    · exact .base (.lst h1)
    · exact .base (.frz h1)
    · exact .kList h1 h3
  | tup h1 h2 =>
    rcases h1 with (h1 | ⟨o, h1⟩) | ⟨o, its, n, h1, h3, _⟩
    · exact .base (.tup h1)
    · exact .fTuple h1
    · exact .kTuple h1 h3
def isTs : List String := ["tuple", "int", "bool", "str", "list"]
theorem kit_d {T : String} (hT : T ∈ isTs) (hd : ∀ kvs, d ≠ .dict kvs) : PySem.W.kitOne K (tyD d) (.type T) = some (isT T d) := by
  have h : T = "tuple" ∨ T = "int" ∨ T = "bool" ∨ T = "str" ∨ T = "list" := by simpa [isTs] using hT
  rcases h with rfl | rfl | rfl | rfl | rfl <;> cases d <;> first | exact absurd rfl (hd _) | rfl | (with_unfolding_all rfl) | (unfold PySem.W.kitOne; decide +kernel)
theorem dp_nodict {v : V} (h : Dp K H v d) : ∀ kvs, d ≠ .dict kvs := fun kvs e => by rw [e] at h; cases h
theorem ed_isi {T : String} (h : EvD K ta σ H d) (hT : T ∈ isTs := by simp [isTs]) : EvD K (tCB (rIsi K) (tCons ta (tCons (tC (.ty T)) tNil))) σ H (.bool (isT T d)) := fun H1 e Q q =>
  h H1 e _ fun v H2 e2 hv => ⟨v, .ty T, tyD d, .type T, isT T d, rfl, .ty T, tyX_of hv, kit_d hT (dp_nodict hv), q _ H2 e2 (.bl _)⟩
/-- isinstance(x, (tuple, list)) -/
theorem ed_isi2 {T U : String} (h : EvD K ta σ H d) (hT : T ∈ isTs := by simp [isTs]) (hU : U ∈ isTs := by simp [isTs]) : EvD K (tCB (rIsiT K) (tCons ta (tCons (tTup (tCons (tC (.ty T)) (tCons (tC (.ty U)) tNil))) tNil))) σ H (.bool (isT T d || isT U d)) := fun H1 e Q q =>
  h H1 e _ fun v H2 e2 hv => ⟨by show 2 ≤ sizeLine; decide, fun p hp => by
    refine ⟨v, p, [.ty T, .ty U], tyD d, [.type T, .type U], isT T d || isT U d, rfl, upd_same, .cons (.ty T) (.cons (.ty U) .nil), tyX_of (Dpx hv (Ex.new hp)), ?_, q _ _ (e2.trans (Ex.new hp)) (.bl _)⟩
    unfold PySem.W.kitAny
    rw [kit_d hT (dp_nodict hv)]
    cases e1 : isT T d with
    | true => rfl
    | false =>
      unfold PySem.W.kitAny
      rw [kit_d hU (dp_nodict hv)]
      cases isT U d <;> rfl⟩
/-! ### a < b < c -/
theorem ed_chain {r r' : R2} {tc : TE} {d3 : D} {a b : Bool} (ha : EvD K ta σ H d1) (hb : EvD K tb σ H d2) (h1 : RD K r d1 d2 H (.bool a)) (hc : a = true → EvD K tc σ H d3) (h2 : RD K r' d2 d3 H (.bool b)) : EvD K (tChain r r' ta tb tc) σ H (.bool (a && b)) := fun H1 e Q q =>
  ha H1 e _ fun x H2 e2 hx => hb H2 (e.trans e2) _ fun y H3 e3 hy => h1 H3 ((e.trans e2).trans e3) x y (Dpx hx e3) hy _ fun v H4 e4 hv => ⟨a, dp_bl_inv hv, by
    have e5 : Ex H1 H4 := (e2.trans e3).trans e4
    cases a with
    | true => exact iteT (hc rfl H4 (e.trans e5) _ fun z H5 e6 hz => h2 H5 ((e.trans e5).trans e6) y z (Dpx hy (e4.trans e6)) hz Q fun v H6 e7 hv => q v H6 ((e5.trans e6).trans e7) hv)
    | false => exact iteF (q _ H4 e5 (.bl false))⟩
/-! ### tuples, lists put together -/
theorem rd_catA {ds es : List D} (hl : ds.length + es.length ≤ 100000) : RD K (rCatA K) (.tuple ds) (.tuple es) H (.tuple (ds ++ es)) := fun H1 e x y hx hy Q q => by
  obtain ⟨a, xs, rfl, h1, h2⟩ := dp_tup_inv hx
  obtain ⟨b, ys, rfl, h3, h4⟩ := dp_tup_inv hy
  have l1 := dpa_len h2
  have l2 := dpa_len h4
  refine ⟨a, b, xs, ys, rfl, rfl, h1, h3, by rw [l1, l2]; exact sz_of hl, fun z => ?_, fun _ z => ?_, fun _ _ p hp => ?_⟩
  · have : ds = [] := by
      rw [z] at l1
      exact List.length_eq_zero_iff.mp l1.symm
    rw [this] at q
    exact q _ H1 (Ex.refl H1) hy
  · have : es = [] := by
      rw [z] at l2
      exact List.length_eq_zero_iff.mp l2.symm
    rw [this, List.append_nil] at q
    exact q _ H1 (Ex.refl H1) hx
  · exact q _ _ (Ex.new hp) (dp_tup upd_same (dpa_app (Dpax h2 (Ex.new hp)) (Dpax h4 (Ex.new hp))))
/-- a list that stands (its address told) -/
def EvP (K : PySem.W.Frag) (te : TE) (σ : L2.St) (H : Hp) (ds : List D) : Prop := ∀ H1, Ex H H1 → ∀ Q : VK, (∀ p us H2, Ex H1 H2 → H2 p = some (.lst us) → DpAll K H2 us ds → Q (.ref p) H2) → te σ H1 Q
theorem EvP.mono (h : EvP K te σ H ds) (e : Ex H H') : EvP K te σ H' ds := fun H1 a Q q => h H1 (e.trans a) Q q
theorem EvN.ep (h : EvN K te σ H ds) : EvP K te σ H ds := fun H1 e Q q => h H1 e Q fun p us H2 _ e2 h2 a => q p us H2 e2 h2 a
theorem EvP.ed (h : EvP K te σ H ds) : EvD K te σ H (.list ds) := fun H1 e Q q => h H1 e Q fun p us H2 e2 h2 a => q _ H2 e2 (dp_lst h2 a)
theorem ep_var {i : Nat} {p : Addr} {us : List V} (h : σ[i]? = some (some (.ref p))) (hp : H p = some (.lst us)) (hd : DpAll K H us ds) : EvP K (tVar i) σ H ds := fun H1 e _ q => ⟨_, h, q p us H1 (Ex.refl H1) (e _ _ hp) (Dpax hd e)⟩
theorem en_cat {ds es : List D} (ha : EvP K ta σ H ds) (hb : EvP K tb σ H es) (hl : ds.length + es.length ≤ 100000) : EvN K (tOp rCat ta tb) σ H (ds ++ es) := fun H1 e Q q =>
  ha H1 e _ fun a us H2 e2 h2 d2 => hb H2 (e.trans e2) _ fun b ws H3 e3 h3 d3 => by
    have l1 := dpa_len d2
    have l2 := dpa_len d3
    refine ⟨a, b, us, ws, rfl, rfl, e3 _ _ h2, h3, by rw [l1, l2]; exact sz_of hl, fun p hp => ?_⟩
    exact q p _ _ (fresh_back (e2.trans e3) hp) ((e2.trans e3).trans (Ex.new hp)) upd_same (dpa_app (Dpax d2 (e3.trans (Ex.new hp))) (Dpax d3 (Ex.new hp)))
/-- tuple(l), l a list -/
theorem rc_tupL {ds : List D} : RCD K (fun xs H Q => ∃ p ys, xs = [.ref p] ∧ ((SqL K H p ys ∧ ∀ l, H l = none → Q (.ref l) (upd H l (.tup ys))) ∨ (SqT K H p ys ∧ Q (.ref p) H))) [.list ds] H (.tuple ds) := fun H1 e vs h Q q => by
  obtain ⟨v, rfl, hv⟩ := dpa1 h
  obtain ⟨p, us, rfl, h1, h2⟩ := dp_lst_inv hv
  exact ⟨p, us, rfl, .inl ⟨h1, fun l hl => q _ _ (Ex.new hl) (dp_tup upd_same (Dpax h2 (Ex.new hl)))⟩⟩
/-- list(t) -/
theorem rc_lstT {ds : List D} : RCN K (fun xs H Q => ∃ p ys, xs = [.ref p] ∧ (SqL K H p ys ∨ SqT K H p ys) ∧ ∀ l, H l = none → Q (.ref l) (upd H l (.lst ys))) [.tuple ds] H ds := fun H1 e vs h Q q => by
  obtain ⟨v, rfl, hv⟩ := dpa1 h
  obtain ⟨p, us, rfl, h1, h2⟩ := dp_tup_inv hv
  exact ⟨p, us, rfl, .inr h1, fun l hl => q _ us _ hl (Ex.new hl) upd_same (Dpax h2 (Ex.new hl))⟩
theorem rc_lstL {ds : List D} : RCN K (fun xs H Q => ∃ p ys, xs = [.ref p] ∧ (SqL K H p ys ∨ SqT K H p ys) ∧ ∀ l, H l = none → Q (.ref l) (upd H l (.lst ys))) [.list ds] H ds := fun H1 e vs h Q q => by
  obtain ⟨v, rfl, hv⟩ := dpa1 h
  obtain ⟨p, us, rfl, h1, h2⟩ := dp_lst_inv hv
  exact ⟨p, us, rfl, .inl h1, fun l hl => q _ us _ hl (Ex.new hl) upd_same (Dpax h2 (Ex.new hl))⟩
/-! ### statements over data -/
variable {Dn : Ends} {tu tw tz : TS}
theorem s_asgD {i : Nat} (h : EvD K te σ H d) (k : ∀ v H1, Ex H H1 → Dp K H1 v d → Dn.nx (σ.set i (some v)) H1) : tAsg te (gName i) Dn σ H := h H (Ex.refl H) _ fun v H1 e hv => k v H1 e hv
theorem q_asgD {i : Nat} (h : EvD K te σ H d) (k : ∀ v H1, Ex H H1 → Dp K H1 v d → tz Dn (σ.set i (some v)) H1) : tSeq (tAsg te (gName i)) tz Dn σ H := h H (Ex.refl H) _ fun v H1 e hv => k v H1 e hv
theorem q_asgN {i : Nat} (h : EvN K te σ H ds) (k : ∀ p vs H1, H p = none → Ex H H1 → H1 p = some (.lst vs) → DpAll K H1 vs ds → tz Dn (σ.set i (some (.ref p))) H1) : tSeq (tAsg te (gName i)) tz Dn σ H := h H (Ex.refl H) _ fun p vs H1 hp e h1 hv => k p vs H1 hp e h1 hv
theorem s_retD (h : EvD K te σ H d) (k : ∀ v H1, Ex H H1 → Dp K H1 v d → Dn.rt v H1) : tRet te Dn σ H := h H (Ex.refl H) _ fun v H1 e hv => k v H1 e hv
theorem s_retN (h : EvN K te σ H ds) (k : ∀ p vs H1, H p = none → Ex H H1 → H1 p = some (.lst vs) → DpAll K H1 vs ds → Dn.rt (.ref p) H1) : tRet te Dn σ H := h H (Ex.refl H) _ fun p vs H1 hp e h1 hv => k p vs H1 hp e h1 hv
end
/-! ### a target that is an attribute -/
section
variable {X : Cx} {o : Expr} {f : Str} {pos : Pos} {ta : TE}
def gFld (K : PySem.W.Frag) (ta : TE) (f : Str) : TG := fun y σ H Q => ta σ H fun x H2 => ∃ a C dx fs, x = .ref a ∧ H2 a = some (.ins C dx fs) ∧ Cls K C ∧ NoAttr K C f ∧ fs.length < 1000 ∧ Q σ (upd H2 a (.ins C dx (putF f y fs)))
theorem pg_fld (ho : PE X o ta) : PG X (.Attribute o f pos) (gFld X.K ta f) := by
  refine ⟨fun pins s σ H v u Q I r h => ?_⟩
  rw [assign_Attribute]
  refine wpAny_bind (wpAny_holding (thn (ho.run pins s σ H _ I h) fun ov s1 ⟨x, H1, I1, rx, a, C, dx, fs, ex, ea, c, n, l, q⟩ => ?_))
  subst ex
  obtain rfl : ov = Value.ref a := rx
  refine wpAny_bind (wpAny_standAt (wpAny_bind (wpAny_holding (setattr_ok I1 ea c n l r fun s3 I3 => ?_))))
  exact wpAny_release ⟨σ, _, I3, q⟩
end
end Ow
namespace Ow
open PySem PySem.Spec PyProof.Rows L2 Evl
section
variable {X : Cx}
theorem pe_gint {x : Str} {i : Int} {pos : Pos} (hg : Gl X x) (hm : ∃ t, X.mg x = some (.int i t)) (hd : (x == ("__debug__" : Str)) = false := by decide) : PE X (.Name x pos) (tC (.int i)) := by
  obtain ⟨t, m⟩ := hm
  exact pe_glob hg m ⟨t, rfl⟩ hd
theorem pe_gstr {x : Str} {i : Str} {pos : Pos} (hg : Gl X x) (hm : ∃ t, X.mg x = some (.str i t)) (hd : (x == ("__debug__" : Str)) = false := by decide) : PE X (.Name x pos) (tC (.str i)) := by
  obtain ⟨t, m⟩ := hm
  exact pe_glob hg m ⟨t, rfl⟩ hd
theorem pe_gref {x : Str} {a : Addr} {pos : Pos} (hg : Gl X x) (hm : X.mg x = some (.ref a)) (hd : (x == ("__debug__" : Str)) = false := by decide) : PE X (.Name x pos) (tC (.ref a)) := pe_glob hg hm rfl hd
end
theorem spD_len {K : PySem.W.Frag} {R : List D → D → Prop} {n : Nat} {vs : List V} {H : Hp} {Q : VK} {E : XK} (h : spD K R vs H Q E) (hR : ∀ ds d, R ds d → ds.length = n) : vs.length = n := by
  obtain ⟨ds, d, h1, h2, _⟩ := h
  rw [dpa_len h1, hR ds d h2]
theorem spN_len {K : PySem.W.Frag} {R : List D → List D → Prop} {n : Nat} {vs : List V} {H : Hp} {Q : VK} {E : XK} (h : spN K R vs H Q E) (hR : ∀ ds d, R ds d → ds.length = n) : vs.length = n := by
  obtain ⟨ds, d, h1, h2, _⟩ := h
  rw [dpa_len h1, hR ds d h2]
end Ow

/-! P3: .get of a dict of the module. -/
namespace Ow
open PySem PySem.Spec PyProof.Rows L2 Evl
/-- the module's dict at d: its pairs, in order -/
def KTab (K : PySem.W.Frag) (w : World) (d : Addr) (kvs : List (Str × V)) : Prop := ∃ es n, KDict K w d es n ∧ Paired (fun (e : DictEntry) (q : Str × V) => (∃ t, e.key = .str q.1 t) ∧ RelV q.2 e.val) es.toList kvs
theorem ktab_find {x : Str} : ∀ {l : List DictEntry} {kvs : List (Str × V)}, Paired (fun (e : DictEntry) (q : Str × V) => (∃ t, e.key = .str q.1 t) ∧ RelV q.2 e.val) l kvs → RelO (kvs.lookup x) ((l.find? fun e => Value.isStrOf x e.key).map (·.val))
  | _, _, .nil => True.intro
  | e :: l, q :: kvs, .cons ⟨⟨t, h1⟩, h2⟩ r => by
    have ih := ktab_find (x := x) r
    rw [List.find?_cons, List.lookup_cons]
    have e1 : Value.isStrOf x e.key = (x == q.1) := by
      rw [h1]
      show (decide (q.1 = x)) = _
      by_cases z : q.1 = x
      · rw [z]; simp
      · rw [decide_eq_false z]
        have z' : ¬ x = q.1 := fun y => z y.symm
        exact (beq_eq_false_iff_ne.mpr z').symm
    rw [e1]
    cases x == q.1 with
    | true => exact h2
    | false => exact ih
def tKGet (kvs : List (Str × V)) (te : TE) : TE := fun σ H Q => te σ H fun y H1 => ∃ s : Str, y = .str s ∧ Q ((kvs.lookup s).getD .non) H1
section
variable {X : Cx} {o e : Expr} {apos cpos : Pos} {td ty : TE} {d : Addr} {kvs : List (Str × V)}
theorem pe_kget1 (T : KTab X.K X.w d kvs) (ho : PE X o (tC (.ref d))) (he : PE X e ty) (m : M1 X o "get" apos e cpos) : PE X (.Call (.Attribute o "get" apos) [e] [] cpos) (tKGet kvs ty) := by
  obtain ⟨es, n, T, r⟩ := T
  refine ⟨fun pins s σ H Q I h => ?_⟩
  refine wpAny_Call_method m.base m.few m.line PySem.F.plainAttrs_dict PySem.F.slot_dict_get PySem.F.type_dict_get (thn (ho.run pins s σ H (fun v H1 => v = .ref d ∧ H1 = H) I ⟨rfl, rfl⟩) fun u s1 ⟨x, H1, I1, rx, ex, eH⟩ => ?_)
  subst ex
  subst eH
  obtain rfl : u = Value.ref d := rx
  refine ⟨kd_type T I1, fun b q => ?_, ?_⟩
  · cases q
    exact ⟨_, I1.kIn _ _ T.at_, rfl⟩
  rw [m.trees]
  refine Calls.callWith_builtin rfl (Calls.evalArgs_plain (Calls.spliced_cons (thn (he.run pins s1 σ H1 _ I1 h) fun iv s2 ⟨y, H2, I2, ry, z, ey, q2⟩ => Calls.spliced_nil ?_)))
  subst ey
  obtain ⟨t, rfl⟩ := ry
  have M := PySem.W.mapOf_K (prog := X.prog) (w := X.w) I2.kIn T.at_ T.lit
  refine call_meetsIn PySem.F.slot_dict_get M.typeIs PySem.F.entry_dict_get (PySem.F.args_dict_get_2 _ _) (meets_dict_get (strKind X.prog X.w) d (PySem.strKind_is X.prog X.w z t) T.low) ⟨_, M, ?_⟩
  have q := ktab_find (x := z) r
  refine ⟨(kvs.lookup z).getD .non, H2, I2.tok _, ?_, q2⟩
  have eq : findBy Value.isStrOf es z = (es.toList.find? fun e => Value.isStrOf z e.key).map (·.val) := by
    obtain ⟨l⟩ := es
    simp [findBy]
  rw [eq]
  generalize (es.toList.find? fun e => Value.isStrOf z e.key).map (·.val) = w1 at q
  generalize kvs.lookup z = w2 at q
  cases w1 <;> cases w2 <;> first | exact q | exact q.elim | rfl
end
theorem ed_kget {K : PySem.W.Frag} {σ : L2.St} {H : Hp} {te : TE} {kvs : List (Str × V)} {s : Str} {d : D} (h : EvD K te σ H (.str s)) (hd : ∀ H, Dp K H ((kvs.lookup s).getD .non) d) : EvD K (tKGet kvs te) σ H d := fun H1 e Q q =>
  h H1 e _ fun v H2 e2 hv => ⟨s, dp_str_inv hv, q _ H2 e2 (hd H2)⟩

section
variable {K : PySem.W.Frag} {σ : L2.St} {H H' H0 : Hp} {ta tb te tx tl : TE} {t u : TT} {d d1 d2 : D} {tr : TA} {ds es : List D} {vs : List Nat} {j : Nat} {x : V}
theorem et_yes : EvT tYes σ H true := fun H1 _ _ q => q H1 (Ex.refl H1)
/-- over a text's signs -/
theorem en_lcS {g : TG} {z : Str} (f : Nat → Option D) (hl : ∀ i d, f i = some d → noL d = true) (h : EvD K tl σ H (.str z)) (hz : z.cps.size ≤ 40000)
    (ht : ∀ (i : Nat) (c : Nat) H1, Ex H H1 → z.cps[i]? = some c → TurnD K g t te vs σ H1 (.str ⟨#[c]⟩) (f i)) : EvN K (tLc (iStr tl) g t te vs) σ H ((List.range z.cps.size).filterMap f) := fun H0 e Q q =>
  h H0 e _ fun v H1 e1 hv => by
    cases hv
    refine ⟨z, rfl, fun Dl hD => lc_it walk_str (CwD K H1 f Dl) ⟨hD, Ex.new hD, [], upd_same, .nil⟩ (fun _ _ _ _ => True.intro) (fun i x H2 H' hi p y => ?_) (fun H' p => cw_end e1 p q)⟩
    obtain ⟨rfl, c, g1, rfl⟩ := y
    exact turn_go hl p (by omega) (ht i c H1 (e.trans e1) g1)
theorem td_all (hw : wipe ((wipe σ vs).set j (some x)) vs = wipe σ vs) (he : EvD K te ((wipe σ vs).set j (some x)) H d) : TurnD K (gName j) tYes te vs σ H x (some d) :=
  ⟨_, true, gv_name, hw, et_yes, fun _ => ⟨d, rfl, he⟩, fun z => by cases z⟩
theorem td_if {b : Bool} (hw : wipe ((wipe σ vs).set j (some x)) vs = wipe σ vs) (ht : EvT t ((wipe σ vs).set j (some x)) H b) (he : b = true → EvD K te ((wipe σ vs).set j (some x)) H d) : TurnD K (gName j) t te vs σ H x (if b then some d else none) :=
  ⟨_, b, gv_name, hw, ht, fun z => ⟨d, by rw [z]; rfl, he z⟩, fun z => by rw [z]; rfl⟩
theorem fm_all (F : D → D) (ds : List D) : (List.range ds.length).filterMap (fun i => (ds[i]?).bind fun d => some (F d)) = ds.map F := by
  rw [fm_map]
  induction ds with
  | nil => rfl
  | cons d ds ih => simp [List.filterMap_cons, ih]
theorem fm_filt (p : D → Bool) (F : D → D) (ds : List D) : (List.range ds.length).filterMap (fun i => (ds[i]?).bind fun d => if p d then some (F d) else none) = (ds.filter p).map F := by
  rw [fm_map]
  induction ds with
  | nil => rfl
  | cons d ds ih =>
    rw [List.filterMap_cons, List.filter_cons]
    cases p d <;> simp [ih]
theorem ge_of {ds : List D} {i : Nat} {d : D} (h : ds[i]? = some d) : d ∈ ds := List.mem_of_getElem? h
/-- [F d for d in t] -/
theorem en_mapT (F : D → D) (h : EvD K tl σ H (.tuple ds)) (hz : ds.length ≤ 40000) (hF : ∀ d ∈ ds, noL (F d) = true) (hw : ∀ x, wipe ((wipe σ vs).set j (some x)) vs = wipe σ vs)
    (he : ∀ (x : V) (d : D) H1, Ex H H1 → d ∈ ds → Dp K H1 x d → EvD K te ((wipe σ vs).set j (some x)) H1 (F d)) : EvN K (tLc (iTup K tl) (gName j) tYes te vs) σ H (ds.map F) := by
  rw [← fm_all F ds]
  refine en_lcT _ (fun i d e => ?_) h hz (fun i x d H1 e hi hx => ?_)
  · obtain ⟨z, h1, h2⟩ := Option.bind_eq_some_iff.mp e
    cases h2
    exact hF z (ge_of h1)
  · rw [hi]
    exact td_all (hw x) (he x d H1 e (ge_of hi) hx)
theorem en_mapL (F : D → D) (h : EvD K tl σ H (.list ds)) (hz : ds.length ≤ 40000) (hF : ∀ d ∈ ds, noL (F d) = true) (hw : ∀ x, wipe ((wipe σ vs).set j (some x)) vs = wipe σ vs)
    (he : ∀ (x : V) (d : D) H1, Ex H H1 → d ∈ ds → Dp K H1 x d → EvD K te ((wipe σ vs).set j (some x)) H1 (F d)) : EvN K (tLc (iList K tl) (gName j) tYes te vs) σ H (ds.map F) := by
  rw [← fm_all F ds]
  refine en_lcL _ (fun i d e => ?_) h hz (fun i x d H1 e hi hx => ?_)
  · obtain ⟨z, h1, h2⟩ := Option.bind_eq_some_iff.mp e
    cases h2
    exact hF z (ge_of h1)
  · rw [hi]
    exact td_all (hw x) (he x d H1 e (ge_of hi) hx)
/-- [F d for d in t if p d] -/
theorem en_filtT (p : D → Bool) (F : D → D) (h : EvD K tl σ H (.tuple ds)) (hz : ds.length ≤ 40000) (hF : ∀ d ∈ ds, noL (F d) = true) (hw : ∀ x, wipe ((wipe σ vs).set j (some x)) vs = wipe σ vs)
    (ht : ∀ (x : V) (d : D) H1, Ex H H1 → d ∈ ds → Dp K H1 x d → EvT t ((wipe σ vs).set j (some x)) H1 (p d))
    (he : ∀ (x : V) (d : D) H1, Ex H H1 → d ∈ ds → Dp K H1 x d → p d = true → EvD K te ((wipe σ vs).set j (some x)) H1 (F d)) : EvN K (tLc (iTup K tl) (gName j) t te vs) σ H ((ds.filter p).map F) := by
  rw [← fm_filt p F ds]
  refine en_lcT _ (fun i d e => ?_) h hz (fun i x d H1 e hi hx => ?_)
  · obtain ⟨z, h1, h2⟩ := Option.bind_eq_some_iff.mp e
    split at h2
    · cases h2
      exact hF z (ge_of h1)
    · cases h2
  · rw [hi]
    exact td_if (hw x) (ht x d H1 e (ge_of hi) hx) (he x d H1 e (ge_of hi) hx)
theorem en_filtL (p : D → Bool) (F : D → D) (h : EvD K tl σ H (.list ds)) (hz : ds.length ≤ 40000) (hF : ∀ d ∈ ds, noL (F d) = true) (hw : ∀ x, wipe ((wipe σ vs).set j (some x)) vs = wipe σ vs)
    (ht : ∀ (x : V) (d : D) H1, Ex H H1 → d ∈ ds → Dp K H1 x d → EvT t ((wipe σ vs).set j (some x)) H1 (p d))
    (he : ∀ (x : V) (d : D) H1, Ex H H1 → d ∈ ds → Dp K H1 x d → p d = true → EvD K te ((wipe σ vs).set j (some x)) H1 (F d)) : EvN K (tLc (iList K tl) (gName j) t te vs) σ H ((ds.filter p).map F) := by
  rw [← fm_filt p F ds]
  refine en_lcL _ (fun i d e => ?_) h hz (fun i x d H1 e hi hx => ?_)
  · obtain ⟨z, h1, h2⟩ := Option.bind_eq_some_iff.mp e
    split at h2
    · cases h2
      exact hF z (ge_of h1)
    · cases h2
  · rw [hi]
    exact td_if (hw x) (ht x d H1 e (ge_of hi) hx) (he x d H1 e (ge_of hi) hx)
/-- [F i for i in range(n)] -/
theorem en_mapR (n : Nat) (F : Nat → D) (h : EvDs K tr σ H [.int n]) (hz : n ≤ 40000) (hF : ∀ i, i < n → noL (F i) = true) (hw : ∀ x, wipe ((wipe σ vs).set j (some x)) vs = wipe σ vs)
    (he : ∀ (i : Nat) H1, Ex H H1 → i < n → EvD K te ((wipe σ vs).set j (some (.int (i : Int)))) H1 (F i)) : EvN K (tLc (iRng1 tr) (gName j) tYes te vs) σ H ((List.range n).map F) := by
  have e0 : (List.range n).map F = (List.range (n : Int).toNat).filterMap (fun i => if i < n then some (F i) else none) := by
    have e1 : (n : Int).toNat = n := by omega
    rw [e1]
    have : ∀ l : List Nat, (∀ i ∈ l, i < n) → l.map F = l.filterMap (fun i => if i < n then some (F i) else none) := by
      intro l
      induction l with
      | nil => intro _; rfl
      | cons a l ih =>
        intro hl
        rw [List.filterMap_cons, if_pos (hl a List.mem_cons_self), List.map_cons, ih fun i hi => hl i (List.mem_cons_of_mem _ hi)]
    exact this _ fun i hi => List.mem_range.mp hi
  rw [e0]
  refine en_lcR _ (fun i d e => ?_) h (by omega) (fun i H1 e hi => ?_)
  · split at e
    · rename_i hi
      cases e
      exact hF i hi
    · cases e
  · rw [if_pos (by omega)]
    exact td_all (hw _) (he i H1 e (by omega))
/-- [F c for c in text] -/
theorem en_mapS {z : Str} (F : Nat → D) (h : EvD K tl σ H (.str z)) (hz : z.cps.size ≤ 40000) (hF : ∀ c, noL (F c) = true) (hw : ∀ x, wipe ((wipe σ vs).set j (some x)) vs = wipe σ vs)
    (he : ∀ (c : Nat) H1, Ex H H1 → c ∈ z.cps.toList → EvD K te ((wipe σ vs).set j (some (.str ⟨#[c]⟩))) H1 (F c)) : EvN K (tLc (iStr tl) (gName j) tYes te vs) σ H (z.cps.toList.map F) := by
  have e0 : z.cps.toList.map F = (List.range z.cps.size).filterMap (fun i => (z.cps[i]?).map F) := by
    have : ∀ l : List Nat, l.map F = (List.range l.length).filterMap (fun i => (l[i]?).map F) := by
      intro l
      induction l with
      | nil => rfl
      | cons a l ih =>
        rw [List.length_cons, List.range_succ_eq_map, List.filterMap_cons, List.filterMap_map, List.map_cons, ih]
        simp [Function.comp_def]
    rw [this]
    simp
  rw [e0]
  refine en_lcS _ (fun i d e => ?_) h hz (fun i c H1 e hi => ?_)
  · cases h2 : z.cps[i]? with
    | none => rw [h2] at e; cases e
    | some c => rw [h2] at e; cases e; exact hF c
  · rw [hi]
    exact td_all (hw _) (he c H1 e (by rw [← Array.mem_def]; exact Array.mem_of_getElem? hi))
end
end Ow
namespace Ow
open PySem PySem.Spec PyProof.Rows L2 Evl
theorem atD_nat {ds : List D} {i : Nat} {d : D} (h : ds[i]? = some d) : atD ds (i : Int) = some d := by
  unfold atD
  rw [ixN_nat (List.getElem?_eq_some_iff.mp h).1]
  exact h
section
variable {K : PySem.W.Frag} {H : Hp}
theorem rc_allM {α : Type} {l : List α} {f : α → Bool} : RCD K (rAll K) [.list (l.map fun a => PyData.bool (f a))] H (.bool (l.all f)) := by
  have h := rc_all (K := K) (H := H) (bs := l.map f)
  rw [List.map_map, List.all_map] at h
  exact h
theorem rc_anyM {α : Type} {l : List α} {f : α → Bool} : RCD K (rAny K) [.list (l.map fun a => PyData.bool (f a))] H (.bool (l.any f)) := by
  have h := rc_any (K := K) (H := H) (bs := l.map f)
  rw [List.map_map, List.any_map] at h
  exact h
end
end Ow
namespace Ow
open PySem PySem.Spec PyProof.Rows L2 Evl
/-! ### the layer's rules with the written part told (within a comprehension's block it is the def's own) -/
section
variable {X : Cx}
theorem ix_listK (K : PySem.W.Frag) (h : X.K = K) : IxR X (rIxL K) := h ▸ ix_list
theorem ix_tupK (K : PySem.W.Frag) (h : X.K = K) : IxR X (rIxT K) := h ▸ ix_tup
theorem op_inK (K : PySem.W.Frag) (h : X.K = K) : OpR X (compareOp .In) (rIn K false) := h ▸ op_in_seq
theorem op_niK (K : PySem.W.Frag) (h : X.K = K) : OpR X (compareOp .NotIn) (rIn K true) := h ▸ op_notIn_seq
theorem op_eqDK (K : PySem.W.Frag) (h : X.K = K) (hu : X.A.units + 64 < cLine) : OpR X (compareOp .Eq) (rEqD K) := h ▸ op_eqD hu
theorem op_neDK (K : PySem.W.Frag) (h : X.K = K) (hu : X.A.units + 64 < cLine) : OpR X (compareOp .NotEq) (rNeD K) := h ▸ op_neD hu
theorem op_catAK (K : PySem.W.Frag) (h : X.K = K) : OpR X (binaryOp .Add) (rCatA K) := h ▸ op_catA
theorem call_lenK (K : PySem.W.Frag) (h : X.K = K) : CallR X (.builtin "len") (rLenQ K) := h ▸ call_len_seq
theorem cr_allK (K : PySem.W.Frag) (h : X.K = K) (hc : X.calm = true) : CallR X (.builtin "all") (rAll K) := h ▸ cr_all hc
theorem cr_anyK (K : PySem.W.Frag) (h : X.K = K) (hc : X.calm = true) : CallR X (.builtin "any") (rAny K) := h ▸ cr_any hc
theorem cr_maxK (K : PySem.W.Frag) (h : X.K = K) (hc : X.calm = true) : CallR X (.builtin "max") (rMax K) := h ▸ cr_max hc
theorem cr_sortedSK (K : PySem.W.Frag) (h : X.K = K) : CallR X (.builtin "sorted") (rSortedS K) := h ▸ cr_sortedS
theorem cr_sortedIK (K : PySem.W.Frag) (h : X.K = K) : CallR X (.builtin "sorted") (rSortedI K) := h ▸ cr_sortedI
theorem call_tupleK (K : PySem.W.Frag) (h : X.K = K) : CallR X (.type "tuple") (fun xs H Q => ∃ p ys, xs = [.ref p] ∧ ((SqL K H p ys ∧ ∀ l, H l = none → Q (.ref l) (upd H l (.tup ys))) ∨ (SqT K H p ys ∧ Q (.ref p) H))) := h ▸ call_tuple_of
theorem call_listK (K : PySem.W.Frag) (h : X.K = K) : CallR X (.type "list") (fun xs H Q => ∃ p ys, xs = [.ref p] ∧ (SqL K H p ys ∨ SqT K H p ys) ∧ ∀ l, H l = none → Q (.ref l) (upd H l (.lst ys))) := h ▸ call_list_of
theorem call_isiK_ (K : PySem.W.Frag) (h : X.K = K) : CallR X (.builtin "isinstance") (rIsi K) := h ▸ call_isi
theorem call_isiTK_ (K : PySem.W.Frag) (h : X.K = K) : CallR X (.builtin "isinstance") (rIsiT K) := h ▸ call_isiT
theorem pe_fldK (K : PySem.W.Frag) (h : X.K = K) {e : Expr} {f : Str} {pos : Pos} {ta : TE} (he : PE X e ta) (hb : attributeBase e f X.env (eval e X.env) = eval e X.env) : PE X (.Attribute e f pos) (tFld K ta f) := h ▸ pe_fld he hb
theorem pi_listK (K : PySem.W.Frag) (h : X.K = K) {tg e : Expr} {te : TE} (he : PE X e te) : PI X tg e (iList K te) := h ▸ pi_list he
theorem pi_tupK (K : PySem.W.Frag) (h : X.K = K) {tg e : Expr} {te : TE} (he : PE X e te) : PI X tg e (iTup K te) := h ▸ pi_tup he
end
end Ow
namespace Ow
open PySem
theorem atD_0 {d : D} {ds : List D} : atD (d :: ds) 0 = some d := atD_nat (i := 0) rfl
theorem atD_1 {a d : D} {ds : List D} : atD (a :: d :: ds) 1 = some d := atD_nat (i := 1) rfl
theorem atD_2 {a b d : D} {ds : List D} : atD (a :: b :: d :: ds) 2 = some d := atD_nat (i := 2) rfl
end Ow
namespace Ow
open PySem PySem.Spec PyProof.Rows L2 Evl
/-- which written part is meant, for the lines that look it up in the context -/
structure KIs (K : PySem.W.Frag) : Prop where
theorem et_edK {K : PySem.W.Frag} {te : TE} {σ : L2.St} {H : Hp} {b : Bool} (k : KIs K) (h : EvD K te σ H (.bool b)) : EvT (tTest te) σ H b := et_ed h
theorem et_edBK {K : PySem.W.Frag} {te : TE} {σ : L2.St} {H : Hp} {b : Bool} (k : KIs K) (h : EvD K te σ H (.bool b)) : EvT (tB te) σ H b := et_edB h
end Ow

/-! P4: the shape of data (what may be compared by ==). -/
namespace Ow
open PySem PySem.Spec PyProof.Rows L2 Evl
/-- fit to be compared, nested to n at most -/
def Shp (n : Nat) (d : D) : Prop := d.canLay0 = true ∧ PyData.depth d ≤ n
theorem Shp.shaped {n : Nat} {d : D} (h : Shp n d) (hn : n ≤ 64) : SeqAt.shaped d = true := by
  show (d.canLay0 && decide (PyData.depth d ≤ 64)) = true
  rw [h.1, decide_eq_true (Nat.le_trans h.2 hn)]; rfl
theorem Shp.mono {n m : Nat} {d : D} (h : Shp n d) (hn : n ≤ m) : Shp m d := ⟨h.1, Nat.le_trans h.2 hn⟩
theorem shp_of {d : D} (h : SeqAt.shaped d = true) : Shp 64 d := by
  have h2 : (d.canLay0 && decide (PyData.depth d ≤ 64)) = true := h
  rw [Bool.and_eq_true] at h2
  exact ⟨h2.1, of_decide_eq_true h2.2⟩
theorem depthAll_mem : ∀ {ds : List D} {d : D}, d ∈ ds → PyData.depth d ≤ PyData.depthAll ds
  | x :: xs, d, h => by
    rw [PyData.depthAll]
    rcases List.mem_cons.mp h with e | h
    · rw [e]; omega
    · have := depthAll_mem h
      omega
theorem depthAll_le {n : Nat} : ∀ {ds : List D}, (∀ d ∈ ds, PyData.depth d ≤ n) → PyData.depthAll ds ≤ n
  | [], _ => by rw [PyData.depthAll]; omega
  | x :: xs, h => by
    rw [PyData.depthAll]
    have h1 := h x List.mem_cons_self
    have h2 := depthAll_le fun d hd => h d (List.mem_cons_of_mem _ hd)
    omega
theorem canAll_mem : ∀ {ds : List D} {d : D}, PyData.canLayAll0 ds = true → d ∈ ds → d.canLay0 = true
  | x :: xs, d, h, hd => by
    have h' : x.canLay0 = true ∧ PyData.canLayAll0 xs = true := by simpa [PyData.canLayAll0] using h
    rcases List.mem_cons.mp hd with e | hd
    · rw [e]; exact h'.1
    · exact canAll_mem h'.2 hd
theorem canAll_of : ∀ {ds : List D}, (∀ d ∈ ds, d.canLay0 = true) → PyData.canLayAll0 ds = true
  | [], _ => by simp [PyData.canLayAll0]
  | x :: xs, h => by
    have h1 := h x List.mem_cons_self
    have h2 := canAll_of fun d hd => h d (List.mem_cons_of_mem _ hd)
    simp [PyData.canLayAll0, h1, h2]
theorem shp_tup {n : Nat} {ds : List D} (h : ∀ d ∈ ds, Shp n d) : Shp (n + 1) (.tuple ds) := by
  refine ⟨?_, ?_⟩
  · show PyData.canLay0 (.tuple ds) = true
    simp only [PyData.canLay0]
    exact canAll_of fun d hd => (h d hd).1
  · have := depthAll_le fun d hd => (h d hd).2
    rw [PyData.depth]
    omega
theorem shp_lst {n : Nat} {ds : List D} (h : ∀ d ∈ ds, Shp n d) : Shp (n + 1) (.list ds) := by
  refine ⟨?_, ?_⟩
  · show PyData.canLay0 (.list ds) = true
    simp only [PyData.canLay0]
    exact canAll_of fun d hd => (h d hd).1
  · have := depthAll_le fun d hd => (h d hd).2
    rw [PyData.depth]
    omega
theorem shp_mem {n : Nat} {ds : List D} {d : D} (h : Shp n (.tuple ds)) (hd : d ∈ ds) : Shp n d := by
  refine ⟨?_, ?_⟩
  · have q := h.1
    simp only [PyData.canLay0] at q
    exact canAll_mem q hd
  · have q := h.2
    rw [PyData.depth] at q
    have := depthAll_mem hd
    omega
theorem shaped_mem {ds : List D} {d : D} (h : SeqAt.shaped (.tuple ds) = true) (hd : d ∈ ds) : SeqAt.shaped d = true := (shp_mem (shp_of h) hd).shaped (Nat.le_refl _)
theorem shp_int {n : Nat} {i : Int} : Shp n (.int i) := ⟨rfl, by rw [PyData.depth]; omega⟩
theorem shp_non {n : Nat} : Shp n .none := ⟨rfl, by rw [PyData.depth]; omega⟩
theorem shp_bool {n : Nat} {b : Bool} : Shp n (.bool b) := ⟨rfl, by rw [PyData.depth]; omega⟩
theorem shp_str {n : Nat} {s : Str} (h : PyData.strOk s = true) : Shp n (.str s) := ⟨by simpa [PyData.canLay0] using h, by rw [PyData.depth]; omega⟩
end Ow
namespace Ow
open PySem PySem.Spec PyProof.Rows L2 Evl
section
variable {K : PySem.W.Frag} {σ : L2.St} {H : Hp} {ta : TA} {Dn : Ends} {tu tz : TS} {j n : Nat}
theorem s_forR1D (h : EvDs K ta σ H [.int (n : Int)]) (hn : n ≤ 100000) (Pv : Nat → L2.St → Hp → Prop) (h0 : ∀ H1, Ex H H1 → Pv 0 σ H1)
    (hs : ∀ (i : Nat) σ' H', i < n → Pv i σ' H' → tu { Dn with nx := Pv (i + 1), ct := Pv (i + 1), bk := Dn.nx } (σ'.set j (some (.int (i : Int)))) H') (hd : ∀ σ' H', Pv n σ' H' → Dn.nx σ' H') : tFor (iRng1 ta) (gName j) tu Dn σ H :=
  h H (Ex.refl H) _ fun vs H1 e hv => by
    obtain ⟨v, rfl, hw⟩ := dpa1 hv
    cases hw
    refine ⟨(n : Int), rfl, by omega, by omega, ?_⟩
    have e1 : (n : Int).toNat = n := by omega
    rw [e1]
    refine for_range (lo := 0) (n := n) Pv (h0 H1 e) (fun i σ' H' hi p => ?_) hd
    have e0 : (0 : Int) + (i : Int) = (i : Int) := Int.zero_add _
    show tu { Dn with nx := Pv (i + 1), ct := Pv (i + 1), bk := Dn.nx } (σ'.set j (some (.int ((0 : Int) + (i : Int))))) H'
    rw [e0]
    exact hs i σ' H' hi p
theorem q_forR1D (h : EvDs K ta σ H [.int (n : Int)]) (hn : n ≤ 100000) (Pv : Nat → L2.St → Hp → Prop) (h0 : ∀ H1, Ex H H1 → Pv 0 σ H1)
    (hs : ∀ (i : Nat) σ' H', i < n → Pv i σ' H' → tu { Dn with nx := Pv (i + 1), ct := Pv (i + 1), bk := tz Dn } (σ'.set j (some (.int (i : Int)))) H') (hd : ∀ σ' H', Pv n σ' H' → tz Dn σ' H') : tSeq (tFor (iRng1 ta) (gName j) tu) tz Dn σ H := s_forR1D (Dn := { Dn with nx := tz Dn }) h hn Pv h0 hs hd
end
end Ow

/-! P5: things that change: a list by place, a dict; all but some addresses stands. -/
namespace Ow
open PySem PySem.Spec PyProof.Rows L2 Evl
/-- all that stands outside S stands as it was -/
def ExB (S : List Addr) (H H' : Hp) : Prop := ∀ a o, a ∉ S → H a = some o → H' a = some o
section
variable {S T : List Addr} {H H1 H2 H' : Hp}
theorem ExB.refl (S : List Addr) (H : Hp) : ExB S H H := fun _ _ _ h => h
theorem ExB.of (e : Ex H H') : ExB S H H' := fun a o _ h => e a o h
theorem ExB.trans (a : ExB S H H1) (b : ExB S H1 H2) : ExB S H H2 := fun x o n h => b x o n (a x o n h)
theorem ExB.mono (a : ExB S H H1) (h : ∀ x ∈ S, x ∈ T) : ExB T H H1 := fun x o n e => a x o (fun z => n (h x z)) e
theorem ExB.upd {p : Addr} {o : HO} (h : p ∈ S) : ExB S H (upd H p o) := fun a u n e => by
  rw [upd_ne (fun z => n (by rw [z]; exact h))]
  exact e
theorem ExB.new {p : Addr} {o : HO} (h : H p = none) : ExB S H (L2.upd H p o) := .of (Ex.new h)
theorem ExB.fresh (a : ExB S H H') {p : Addr} (hS : p ∉ S) (h : H' p = none) : H p = none := by
  cases e : H p with
  | none => rfl
  | some o =>
    rw [a p o hS e] at h
    cases h
/-- S holds no tuple: tuples stand -/
theorem ExB.tex (a : ExB S H H') (hS : ∀ p ∈ S, ∀ xs, ¬ Rd H p (.tup xs)) : TEx H H' := fun b xs r => by
  have n : b ∉ S := fun z => hS b z xs r
  rcases r with r | ⟨o, r⟩
  · exact .inl (a b _ n r)
  · exact .inr ⟨o, a b _ n r⟩
theorem ExB.seqL {K : PySem.W.Frag} {a : Addr} {xs : List V} (e : ExB S H H') (hS : a ∉ S) (h : SqL K H a xs) : SqL K H' a xs := by
  rcases h with (h | ⟨o, h⟩) | h
  · exact .inl (.inl (e a _ hS h))
  · exact .inl (.inr ⟨o, e a _ hS h⟩)
  · exact .inr h
end
theorem not_tup_lst {H : Hp} {p : Addr} {ys : List V} (h : H p = some (.lst ys)) : ∀ xs, ¬ Rd H p (.tup xs) := fun xs r => by
  rcases r with r | ⟨o, r⟩ <;> rw [h] at r <;> cases r
theorem not_tup_dK {H : Hp} {p : Addr} {ys : List (L2.Key × V)} (h : H p = some (.dK ys)) : ∀ xs, ¬ Rd H p (.tup xs) := fun xs r => by
  rcases r with r | ⟨o, r⟩ <;> rw [h] at r <;> cases r
theorem not_tup_ins {H : Hp} {p C dx : Addr} {ys : List (Str × V)} (h : H p = some (.ins C dx ys)) : ∀ xs, ¬ Rd H p (.tup xs) := fun xs r => by
  rcases r with r | ⟨o, r⟩ <;> rw [h] at r <;> cases r
section
variable {K : PySem.W.Frag} {σ : L2.St} {H H' : Hp} {ta tb te : TE} {tr : TA} {d : D} {Dn : Ends} {tz : TS}
theorem ev_int {n : Int} (h : EvD K te σ H (.int n)) : Ev te σ H (.int n) := fun H1 e Q q => h H1 e Q fun v H2 e2 hv => by cases hv; exact q H2 e2
theorem ev_str {s : Str} (h : EvD K te σ H (.str s)) : Ev te σ H (.str s) := fun H1 e Q q => h H1 e Q fun v H2 e2 hv => by cases hv; exact q H2 e2
theorem ev_bool {s : Bool} (h : EvD K te σ H (.bool s)) : Ev te σ H (.bl s) := fun H1 e Q q => h H1 e Q fun v H2 e2 hv => by cases hv; exact q H2 e2
abbrev rInt1 : List V → Hp → VK → Prop := fun xs H Q => (∃ i, xs = [.int i] ∧ Q (.int i) H) ∨ ∃ k, xs = [.bl k] ∧ Q (.int (if k then 1 else 0)) H
theorem rc_int1 {i : Int} : RCD K rInt1 [.int i] H (.int i) := fun H1 _ vs h _ q => by
  obtain ⟨v, rfl, hv⟩ := dpa1 h
  cases hv
  exact .inl ⟨i, rfl, q _ H1 (Ex.refl H1) (.int _)⟩
theorem rc_intB {b : Bool} : RCD K rInt1 [.bool b] H (.int (if b then 1 else 0)) := fun H1 _ vs h _ q => by
  obtain ⟨v, rfl, hv⟩ := dpa1 h
  cases hv
  exact .inr ⟨b, rfl, q _ H1 (Ex.refl H1) (.int _)⟩
/-- xs[j] = an int -/
theorem q_setI {l : Addr} {xs : List V} {j : Nat} {n : Int} (hl : H l = some (.lst xs)) (h : EvD K te σ H (.int n)) (ho : ∃ i : Nat, ta = tVar i ∧ σ[i]? = some (some (.ref l))) (hi : tb = tC (.int (j : Int))) (hj : j < xs.length) (k : ∀ H1, Ex H H1 → tz Dn σ (upd H1 l (.lst (xs.set j (.int n))))) :
    tSeq (tAsg te (gSub ta tb rSetL)) tz Dn σ H := by
  obtain ⟨i, rfl, ho⟩ := ho
  subst hi
  exact q_setL hl (ev_int h) (ev_var ho) ev_c hj k
theorem s_setI {l : Addr} {xs : List V} {j : Nat} {n : Int} (hl : H l = some (.lst xs)) (h : EvD K te σ H (.int n)) (ho : ∃ i : Nat, ta = tVar i ∧ σ[i]? = some (some (.ref l))) (hi : tb = tC (.int (j : Int))) (hj : j < xs.length) (k : ∀ H1, Ex H H1 → Dn.nx σ (upd H1 l (.lst (xs.set j (.int n))))) :
    tAsg te (gSub ta tb rSetL) Dn σ H := by
  obtain ⟨i, rfl, ho⟩ := ho
  subst hi
  exact s_setL hl (ev_int h) (ev_var ho) ev_c hj k
end
section
variable {K : PySem.W.Frag} {σ : L2.St} {H H' : Hp} {ta tb te : TE} {Dn : Ends} {tz : TS}
/-- xs[j] = an int, the heap behind it by what is known -/
theorem q_setB {l : Addr} {xs : List V} (xs' : List V) {j : Nat} {n : Int} (hl : H l = some (.lst xs)) (h : EvD K te σ H (.int n)) (ho : ∃ i : Nat, ta = tVar i ∧ σ[i]? = some (some (.ref l))) (hi : tb = tC (.int (j : Int))) (hj : j < xs.length) (hx : xs.set j (.int n) = xs') (k : ∀ H1, ExB [l] H H1 → H1 l = some (.lst xs') → tz Dn σ H1) :
    tSeq (tAsg te (gSub ta tb rSetL)) tz Dn σ H := q_setI hl h ho hi hj fun H1 e => by
  rw [hx]
  exact k _ (ExB.trans (.of e) (.upd List.mem_cons_self)) upd_same
theorem s_setB {l : Addr} {xs : List V} (xs' : List V) {j : Nat} {n : Int} (hl : H l = some (.lst xs)) (h : EvD K te σ H (.int n)) (ho : ∃ i : Nat, ta = tVar i ∧ σ[i]? = some (some (.ref l))) (hi : tb = tC (.int (j : Int))) (hj : j < xs.length) (hx : xs.set j (.int n) = xs') (k : ∀ H1, ExB [l] H H1 → H1 l = some (.lst xs') → Dn.nx σ H1) :
    tAsg te (gSub ta tb rSetL) Dn σ H := s_setI hl h ho hi hj fun H1 e => by
  rw [hx]
  exact k _ (ExB.trans (.of e) (.upd List.mem_cons_self)) upd_same
end
/-! ### the row that the draws are taken from -/
/-- the list is one of the frame's, which nothing changes -/
def KList (K : PySem.W.Frag) (a : Addr) (xs : List V) : Prop := ∃ (o : Obj) (its : Array Value) (n : Nat), K.lookup a = some o ∧ o.cls = .type "list" ∧ o.dict = none ∧ o.data = .seq its n ∧ its.size ≤ sizeLine ∧ Vals xs its.toList
structure RowAt (K : PySem.W.Frag) (a : Addr) (ns : List Int) (H : Hp) (r : Addr) : Prop where
  sc : SqL K H a (ns.map V.int)
  ne : a ∉ [r] ∨ KList K a (ns.map V.int)
  at_ : ∃ i m c : Int, H r = some (.lst [.ref a, .int i, .int m, .int c]) ∧ 0 ≤ i ∧ 0 ≤ m ∧ m < 2147483647 ∧ 0 ≤ c
  len : ns.length ≤ 63
theorem RowAt.keep {K : PySem.W.Frag} {a : Addr} {ns : List Int} {H H' : Hp} {r : Addr} {S : List Addr} (h : RowAt K a ns H r) (e : ExB S H H') (h1 : a ∉ S) (h2 : r ∉ S) : RowAt K a ns H' r := by
  obtain ⟨i, m, c, hr, b⟩ := h.at_
  exact ⟨e.seqL h1 h.sc, h.ne, ⟨i, m, c, e r _ h2 hr, b⟩, h.len⟩
theorem RowAt.ex {K : PySem.W.Frag} {a : Addr} {ns : List Int} {H H' : Hp} {r : Addr} (h : RowAt K a ns H r) (e : Ex H H') : RowAt K a ns H' r := h.keep (S := []) (.of e) (by simp) (by simp)
theorem RowAt.dp {K : PySem.W.Frag} {a : Addr} {ns : List Int} {H : Hp} {r : Addr} (h : SqL K H a (ns.map V.int)) {i m c : Int} (hr : H r = some (.lst [.ref a, .int i, .int m, .int c])) : Dp K H (.ref r) (.list [.list (ns.map PyData.int), .int i, .int m, .int c]) := by
  have hi : ∀ ns : List Int, DpAll K H (ns.map V.int) (ns.map PyData.int) := fun ns => by
    induction ns with
    | nil => exact .nil
    | cons n ns ih => exact .cons (.int n) ih
  exact dp_lst hr (.cons (.lst h (hi ns)) (.cons (.int _) (.cons (.int _) (.cons (.int _) .nil))))
theorem RowAt.seq {K : PySem.W.Frag} {a : Addr} {ns : List Int} {H H' : Hp} {r : Addr} (h : RowAt K a ns H r) (e : ExB [r] H H') : SqL K H' a (ns.map V.int) := h.ne.elim (fun n => e.seqL n h.sc) (fun n => .inr n)
theorem RowAt.new {K : PySem.W.Frag} {a : Addr} {ns : List Int} {H : Hp} {r : Addr} {i m c : Int} (h : SqL K H a (ns.map V.int)) (hr : H r = none) (b : 0 ≤ i ∧ 0 ≤ m ∧ m < 2147483647 ∧ 0 ≤ c) (l : ns.length ≤ 63) : RowAt K a ns (upd H r (.lst [.ref a, .int i, .int m, .int c])) r := by
  refine ⟨(ExB.of (S := []) (Ex.new hr)).seqL (by simp) h, ?_, ⟨i, m, c, upd_same, b⟩, l⟩
  rcases h with (h | ⟨o, h⟩) | h
  · exact .inl fun z => by rw [List.mem_singleton.mp z, hr] at h; cases h
  · exact .inl fun z => by rw [List.mem_singleton.mp z, hr] at h; cases h
  · exact .inr h
def sp_taken (K : PySem.W.Frag) : Sp := fun vs H Q _ => ∃ (r a : Addr) (ns : List Int) (many : Int), vs = [.ref r, .int many] ∧ RowAt K a ns H r ∧ 0 < many ∧ many ≤ 100000 ∧ ∀ n H', 0 ≤ n → n < many → RowAt K a ns H' r → ExB [r] H H' → Q (.int n) H'
end Ow

/-! M1: the language and its checker as plain functions. -/
namespace Ow
open PySem
inductive Role where
  | own | look | lend
  deriving DecidableEq
def Role.s : Role → Str
  | .own => "own"
  | .look => "look"
  | .lend => "lend"
theorem Role.inj {a b : Role} : (a.s = b.s) ↔ a = b := by
  cases a <;> cases b <;> simp [Role.s] <;> decide +kernel
structure Nm where
  role : Role
  on : Option Int
  deep : Int
  good : Bool
  deriving DecidableEq
abbrev Env := List (Int × Nm)
def getN {α : Type} (env : List (Int × α)) (n : Int) : Option α := (env.find? fun p => decide (p.1 = n)).map (·.2)
def hasN {α : Type} (env : List (Int × α)) (n : Int) : Bool := (getN env n).isSome
/-- in its place, or at the end -/
def putN {α : Type} (env : List (Int × α)) (n : Int) (x : α) : List (Int × α) :=
  if (env.any fun p => decide (p.1 = n)) = true then env.map (fun p => if p.1 = n then (p.1, x) else p) else env ++ [(n, x)]
def modN {α : Type} (env : List (Int × α)) (n : Int) (f : α → α) : List (Int × α) := env.map fun p => if p.1 = n then (p.1, f p.2) else p
/-- plain statements -/
inductive Pl where
  | box (x n : Int) | move (x y : Int) | look (x y : Int) | lend (x y : Int) | show (y : Int) | set (y n : Int) | drop (y : Int) | fin (y : Int) | aim (y z : Int)
  deriving DecidableEq
inductive St where
  | pl (p : Pl)
  | block (b : List St)
  | hands (a b : List St)
abbrev tD (l : List D) : D := .tuple l
def Pl.enc : Pl → D
  | .box x n => tD [.str "box", .int x, .int n]
  | .move x y => tD [.str "move", .int x, .int y]
  | .look x y => tD [.str "look", .int x, .int y]
  | .lend x y => tD [.str "lend", .int x, .int y]
  | .show y => tD [.str "show", .int y]
  | .set y n => tD [.str "set", .int y, .int n]
  | .drop y => tD [.str "drop", .int y]
  | .fin y => tD [.str "end", .int y]
  | .aim y z => tD [.str "aim", .int y, .int z]
mutual
def St.enc : St → D
  | .pl p => p.enc
  | .block b => tD [.str "block", tD (encs b)]
  | .hands a b => tD [.str "hands", tD (encs a), tD (encs b)]
def encs : List St → List D
  | [] => []
  | s :: r => s.enc :: encs r
end
theorem encs_map : ∀ l : List St, encs l = l.map St.enc
  | [] => rfl
  | s :: r => by rw [encs, encs_map r]; rfl
mutual
def St.dep : St → Nat
  | .pl _ => 0
  | .block b => deps b + 1
  | .hands a b => max (deps a) (deps b) + 1
def deps : List St → Nat
  | [] => 0
  | s :: r => max s.dep (deps r)
end
/-! ### the checker -/
def under (env : Env) (n : Int) (r : Role) : Bool := env.any fun p => p.2.good && (decide (p.2.role = r) && decide (p.2.on = some n))
def use (ws : List Str) (env : Env) (n : Int) : Bool := match getN env n with
  | some x => x.good && (decide (x.role = .own) && (decide (("use lent" : Str) ∈ ws) || !under env n .lend))
  | none => false
def free (ws : List Str) (env : Env) (n : Int) (w : Str) : Bool := use ws env n && (decide (w ∈ ws) || !under env n .look)
/-- what a look at n would be on -/
def aimOf (ws : List Str) (env : Env) (n : Int) : Option (Option Int) := match getN env n with
  | some x => if (x.good && decide (x.role = .look)) = true then some x.on else if use ws env n = true then some (some n) else none
  | none => none
def isMake : Pl → Bool
  | .box _ _ => true
  | .move _ _ => true
  | .look _ _ => true
  | .lend _ _ => true
  | _ => false
/-- the name that a statement makes: how it is; the names behind it -/
def mkOf (ws : List Str) (env : Env) (deep : Int) : Pl → Option (Nm × Env)
  | .box _ _ => some (⟨.own, none, deep, true⟩, env)
  | .look _ y => (aimOf ws env y).map fun o => (⟨.look, o, deep, true⟩, env)
  | .lend _ y => if free ws env y "lend looked" = true then some (⟨.lend, some y, deep, true⟩, env) else none
  | .move _ y => if free ws env y "move looked" = true then some (⟨.own, none, deep, true⟩, modN env y fun x => { x with good := decide (("two names" : Str) ∈ ws) }) else none
  | _ => none
def lives (env : Env) (n : Int) : Bool := match getN env n with
  | some x => x.good && !decide (x.role = .own)
  | none => false
def isLend (env : Env) (n : Int) : Bool := match getN env n with
  | some x => x.good && decide (x.role = .lend)
  | none => false
def deepOf (env : Env) (o : Option Int) : Option Int := match o with
  | some n => (getN env n).map (·.deep)
  | none => none
/-- a statement that makes no name: whether it may stand; the names behind it -/
def doOf (ws : List Str) (env : Env) : Pl → Bool × Env
  | .show y => (lives env y || use ws env y, env)
  | .set y _ => (decide (("set" : Str) ∈ ws) && (isLend env y || free ws env y "set looked"), env)
  | .drop y => if (decide (("drop" : Str) ∈ ws) && free ws env y "drop looked") = true then (true, modN env y fun x => { x with good := false }) else (false, env)
  | .fin y => if lives env y = true then (true, modN env y fun x => { x with good := false }) else (false, env)
  | .aim y z => (match aimOf ws env z, getN env y with
    | some o, some x => if (decide (x.role = .look) && (decide (("far" : Str) ∈ ws) || (match deepOf env o with
        | some d => decide (d ≤ x.deep)
        | none => false))) = true then (true, modN env y fun x => { x with on := o, good := true }) else (false, env)
    | _, _ => (false, env))
  | _ => (false, env)
def newOf : Pl → Int
  | .box x _ => x
  | .move x _ => x
  | .look x _ => x
  | .lend x _ => x
  | _ => 0
def orN (used : List (Int × Bool)) (n : Int) (b : Bool) : List (Int × Bool) := putN used n ((getN used n).getD false || b)
def touchOf (used : List (Int × Bool)) : Pl → List (Int × Bool)
  | .box _ _ => used
  | .move _ y => orN used y true
  | .look _ y => orN used y false
  | .lend _ y => orN used y true
  | .show y => orN used y false
  | .set y _ => orN used y true
  | .drop y => orN used y true
  | .fin y => orN used y true
  | .aim y z => orN (orN used z false) y true
structure Sx where
  env : Env
  made : List (Int × Bool)
  used : List (Int × Bool)
def stPl (ws : List Str) (deep : Int) (barred : List (Int × Bool)) (p : Pl) (s : Sx) : Option (List Int) × Sx :=
  if isMake p = true then
    (if (!hasN s.env (newOf p) && !hasN barred (newOf p)) = true then
      (match mkOf ws s.env deep p with
      | some (m, e) => (none, ⟨putN e (newOf p) m, putN s.made (newOf p) true, touchOf s.used p⟩)
      | none => (some [], { s with used := touchOf s.used p }))
    else (some [], { s with used := touchOf s.used p }))
  else (if (doOf ws s.env p).1 = true then none else some [], { s with env := (doOf ws s.env p).2, used := touchOf s.used p })
def joinN (l r : Env) (other : List (Int × Bool)) (p : Int × Nm) : Int × Nm := match getN l p.1, getN r p.1 with
  | some a, some b => (p.1, if p.2.role = .own then { p.2 with good := a.good && b.good } else if (getN other p.1).getD false = true then b else a)
  | _, _ => p
def clashes (env : Env) (u v : List (Int × Bool)) : List Int := (env.map (·.1)).filter fun n => hasN u n && (hasN v n && ((getN u n).getD false || (getN v n).getD false))
mutual
def chkS (ws : List Str) (deep : Int) (barred : List (Int × Bool)) : St → Sx → Option (List Int) × Sx
  | .pl p, s => stPl ws deep barred p s
  | .block b, s => if ("blocks" : Str) ∈ ws then
      (match chkB ws (deep + 1) barred 0 b s with
      | (r, t) => (r, { t with env := t.env.filter fun p => hasN s.env p.1 }))
    else (some [], s)
  | .hands a b, s => if ("hands" : Str) ∈ ws then
      (match chkB ws (deep + 1) [] 0 a ⟨s.env, [], []⟩ with
      | (some q, _) => (some (0 :: q), s)
      | (none, t) => (match chkB ws (deep + 1) t.made 0 b ⟨s.env, [], []⟩ with
        | (some q, _) => (some (1 :: q), s)
        | (none, u) => if (!(clashes s.env t.used u.used).isEmpty && !decide (("share" : Str) ∈ ws)) = true then (some [], s)
          else (none, { s with env := s.env.map (joinN t.env u.env u.used) })))
    else (some [], s)
def chkB (ws : List Str) (deep : Int) (barred : List (Int × Bool)) (k : Int) : List St → Sx → Option (List Int) × Sx
  | [], s => (none, s)
  | st :: r, s => (match chkS ws deep barred st s with
    | (some q, t) => (some (k :: q), t)
    | (none, t) => chkB ws deep barred (k + 1) r t)
end
def fault (ws : List Str) (p : List St) : Option (List Int) := (chkB ws 0 [] 0 p ⟨[], [], []⟩).1
end Ow

/-! P6: names as a dict of dicts. -/
namespace Ow
open PySem PySem.Spec PyProof.Rows L2 Evl
def optV : Option Int → V
  | none => .non
  | some n => .int n
def optD : Option Int → D
  | none => .none
  | some n => .int n
def nmKV (x : Nm) : List (L2.Key × V) := [(.inr "role", .str x.role.s), (.inr "on", optV x.on), (.inr "deep", .int x.deep), (.inr "good", .bl x.good)]
abbrev EL := List (Int × Addr × Nm)
def envL (L : EL) : Env := L.map fun x => (x.1, x.2.2)
def envKV (L : EL) : List (L2.Key × V) := L.map fun x => (Sum.inl x.1, V.ref x.2.1)
theorem key_ne {a b : Str} (h : ¬ a = b) : ¬ (Sum.inr a : L2.Key) = Sum.inr b := fun z => h (Sum.inr.inj z)
theorem nm_role (x : Nm) : valV (nmKV x) (Sum.inr "role" : L2.Key) = some (.str x.role.s) := valV_pos rfl
theorem nm_on (x : Nm) : valV (nmKV x) (Sum.inr "on" : L2.Key) = some (optV x.on) := by
  unfold nmKV
  rw [valV_neg (key_ne (by decide +kernel))]
  exact valV_pos rfl
theorem nm_deep (x : Nm) : valV (nmKV x) (Sum.inr "deep" : L2.Key) = some (.int x.deep) := by
  unfold nmKV
  rw [valV_neg (key_ne (by decide +kernel)), valV_neg (key_ne (by decide +kernel))]
  exact valV_pos rfl
theorem nm_good (x : Nm) : valV (nmKV x) (Sum.inr "good" : L2.Key) = some (.bl x.good) := by
  unfold nmKV
  rw [valV_neg (key_ne (by decide +kernel)), valV_neg (key_ne (by decide +kernel)), valV_neg (key_ne (by decide +kernel))]
  exact valV_pos rfl
structure EnvAt (H : Hp) (d : Addr) (L : EL) : Prop where
  at_ : H d = some (.dK (envKV L))
  each : ∀ x ∈ L, H x.2.1 = some (.dK (nmKV x.2.2))
  keys : (L.map (·.1)).Nodup
  adrs : (L.map (·.2.1)).Nodup
  small : L.length ≤ 20000
/-- all addresses of names -/
def eadr (d : Addr) (L : EL) : List Addr := d :: L.map (·.2.1)
section
variable {H H' : Hp} {d : Addr} {L : EL}
theorem EnvAt.keep {S : List Addr} (h : EnvAt H d L) (e : ExB S H H') (hS : ∀ p ∈ eadr d L, p ∉ S) : EnvAt H' d L :=
  ⟨e d _ (hS d List.mem_cons_self) h.at_, fun x hx => e _ _ (hS _ (List.mem_cons_of_mem _ (List.mem_map.mpr ⟨x, hx, rfl⟩))) (h.each x hx), h.keys, h.adrs, h.small⟩
theorem EnvAt.ex (h : EnvAt H d L) (e : Ex H H') : EnvAt H' d L := h.keep (S := []) (.of e) (fun _ _ z => by cases z)
theorem EnvAt.dne (h : EnvAt H d L) : d ∉ L.map (·.2.1) := fun hm => by
  obtain ⟨x, hx, e⟩ := List.mem_map.mp hm
  have h1 := h.each x hx
  rw [e, h.at_] at h1
  have h2 : envKV L = nmKV x.2.2 := by
    injection h1 with h1
    injection h1
  unfold envKV nmKV at h2
  cases L with
  | nil => cases hx
  | cons y L =>
    rw [List.map_cons] at h2
    injection h2 with h3 _
    injection h3 with h4 _
    cases h4
theorem EnvAt.notup (h : EnvAt H d L) : ∀ p ∈ eadr d L, ∀ xs, ¬ Rd H p (.tup xs) := fun p hp => by
  rcases List.mem_cons.mp hp with e | hp
  · rw [e]; exact not_tup_dK h.at_
  · obtain ⟨x, hx, e⟩ := List.mem_map.mp hp
    rw [← e]; exact not_tup_dK (h.each x hx)
theorem valV_env (n : Int) : ∀ L : EL, valV (envKV L) (Sum.inl n : L2.Key) = (L.find? fun x => decide (x.1 = n)).map fun x => V.ref x.2.1
  | [] => rfl
  | x :: L => by
    have ih := valV_env n L
    unfold envKV at ih ⊢
    rw [List.map_cons, List.find?_cons]
    by_cases e : x.1 = n
    · rw [decide_eq_true e]
      exact valV_pos (p := ((Sum.inl x.1 : L2.Key), V.ref x.2.1)) (congrArg Sum.inl e)
    · rw [decide_eq_false e]
      exact (valV_neg (p := ((Sum.inl x.1 : L2.Key), V.ref x.2.1)) (fun z => e (Sum.inl.inj z))).trans ih
theorem getN_env (n : Int) : ∀ L : EL, getN (envL L) n = (L.find? fun x => decide (x.1 = n)).map fun x => x.2.2
  | [] => rfl
  | x :: L => by
    have ih := getN_env n L
    unfold getN envL at ih ⊢
    rw [List.map_cons, List.find?_cons, List.find?_cons]
    by_cases e : x.1 = n
    · rw [decide_eq_true e]; rfl
    · rw [decide_eq_false e]; exact ih
theorem find_mem {L : EL} {n : Int} {x : Int × Addr × Nm} (h : L.find? (fun x => decide (x.1 = n)) = some x) : x ∈ L ∧ x.1 = n := ⟨List.mem_of_find?_eq_some h, by have := List.find?_some h; exact of_decide_eq_true this⟩
/-- a name that is known: its dict -/
theorem env_some {n : Int} {x : Nm} (h : getN (envL L) n = some x) : ∃ q, (n, q, x) ∈ L ∧ valV (envKV L) (Sum.inl n : L2.Key) = some (.ref q) := by
  rw [getN_env] at h
  cases e : L.find? fun x => decide (x.1 = n) with
  | none => rw [e] at h; cases h
  | some y =>
    rw [e] at h
    obtain ⟨m, q, z⟩ := y
    cases h
    obtain ⟨h1, h2⟩ := find_mem e
    cases h2
    exact ⟨q, h1, by rw [valV_env, e]; rfl⟩
theorem env_none {n : Int} (h : getN (envL L) n = none) : valV (envKV L) (Sum.inl n : L2.Key) = none := by
  rw [getN_env] at h
  rw [valV_env]
  cases e : L.find? fun x => decide (x.1 = n) with
  | none => rfl
  | some y => rw [e] at h; cases h
theorem env_has (n : Int) : (valV (envKV L) (Sum.inl n : L2.Key)).isSome = hasN (envL L) n := by
  unfold hasN
  cases e : getN (envL L) n with
  | none => rw [env_none e]; rfl
  | some x =>
    obtain ⟨q, _, h⟩ := env_some e
    rw [h]; rfl
theorem mem_get (hk : (L.map (·.1)).Nodup) {x : Int × Addr × Nm} (hx : x ∈ L) : getN (envL L) x.1 = some x.2.2 := by
  rw [getN_env]
  have : L.find? (fun y => decide (y.1 = x.1)) = some x := by
    induction L with
    | nil => cases hx
    | cons y L ih =>
      rw [List.map_cons, List.nodup_cons] at hk
      rw [List.find?_cons]
      rcases List.mem_cons.mp hx with e | hx
      · rw [e, decide_eq_true rfl]
      · have : ¬ y.1 = x.1 := fun z => hk.1 (List.mem_map.mpr ⟨x, hx, z.symm⟩)
        rw [decide_eq_false this]
        exact ih hk.2 hx
  rw [this]; rfl
end
section
variable {K : PySem.W.Frag} {σ : L2.St} {H H' : Hp} {ta tb te td ty tx : TE} {d : Addr} {L : EL} {n : Int} {x : Nm} {i : Nat} {q : Addr}
theorem ev_dget {a : Addr} {kvs : List (L2.Key × V)} {k : L2.Key} {v : V} (h : Ev td σ H (.ref a)) (ha : H a = some (.dK kvs)) (h2 : Ev ty σ H (kV k)) (hv : valV kvs k = some v) : Ev (tDGet td ty) σ H v := fun H1 e Q q =>
  h H1 e _ fun H2 e2 => h2 H2 (e.trans e2) _ fun H3 e3 => ⟨a, v, rfl, by rw [← hv]; exact DGet.k (((e.trans e2).trans e3) _ _ ha), q H3 (e2.trans e3)⟩
theorem ev_din {a : Addr} {kvs : List (L2.Key × V)} {k : L2.Key} (h : Ev td σ H (.ref a)) (ha : H a = some (.dK kvs)) (h2 : Ev ty σ H (kV k)) : Ev (tDIn ty td) σ H (.bl (valV kvs k).isSome) := fun H1 e Q q =>
  h2 H1 e _ fun H2 e2 => h H2 (e.trans e2) _ fun H3 e3 => ⟨a, _, rfl, DGet.k (((e.trans e2).trans e3) _ _ ha), q H3 (e2.trans e3)⟩
theorem ev_dnotin {a : Addr} {kvs : List (L2.Key × V)} {k : L2.Key} (h : Ev td σ H (.ref a)) (ha : H a = some (.dK kvs)) (h2 : Ev ty σ H (kV k)) : Ev (tDNotIn ty td) σ H (.bl (!(valV kvs k).isSome)) := fun H1 e Q q =>
  h2 H1 e _ fun H2 e2 => h H2 (e.trans e2) _ fun H3 e3 => ⟨a, _, rfl, DGet.k (((e.trans e2).trans e3) _ _ ha), q H3 (e2.trans e3)⟩
theorem ev_dget2 {a : Addr} {kvs : List (L2.Key × V)} {k : L2.Key} {v : V} (h : Ev td σ H (.ref a)) (ha : H a = some (.dK kvs)) (h2 : Ev ty σ H (kV k)) (h3 : Ev tx σ H v) : Ev (tDGet2 td ty tx) σ H ((valV kvs k).getD v) := fun H1 e Q q =>
  h H1 e _ fun H2 e2 => ⟨a, rfl, .inl ⟨kvs, .inl ((e.trans e2) _ _ ha)⟩, h2 H2 (e.trans e2) _ fun H3 e3 => h3 H3 ((e.trans e2).trans e3) _ fun H4 e4 => ⟨_, DGet.k ((((e.trans e2).trans e3).trans e4) _ _ ha), q H4 ((e2.trans e3).trans e4)⟩⟩
theorem ed_envIn (E : EnvAt H d L) (hn : EvD K ty σ H (.int n)) (hd : σ[i]? = some (some (.ref d))) : EvD K (tDIn ty (tVar i)) σ H (.bool (hasN (envL L) n)) := by
  have h := ev_din (ev_var (H := H) hd) E.at_ (k := Sum.inl n) (ev_int hn)
  rw [env_has] at h
  exact ed_of h (.bl _)
theorem ed_envNotIn (E : EnvAt H d L) (hn : EvD K ty σ H (.int n)) (hd : σ[i]? = some (some (.ref d))) : EvD K (tDNotIn ty (tVar i)) σ H (.bool (!hasN (envL L) n)) := by
  have h := ev_dnotin (ev_var (H := H) hd) E.at_ (k := Sum.inl n) (ev_int hn)
  rw [env_has] at h
  exact ed_of h (.bl _)
/-- env[n], known -/
theorem ev_entry (E : EnvAt H d L) (g : getN (envL L) n = some x) (hn : EvD K ty σ H (.int n)) (hd : σ[i]? = some (some (.ref d))) : ∃ q, (n, q, x) ∈ L ∧ Ev (tDGet (tVar i) ty) σ H (.ref q) := by
  obtain ⟨q, h1, h2⟩ := env_some g
  exact ⟨q, h1, ev_dget (ev_var hd) E.at_ (k := Sum.inl n) (ev_int hn) h2⟩
theorem ed_role (E : EnvAt H d L) (g : getN (envL L) n = some x) (hn : EvD K ty σ H (.int n)) (hd : σ[i]? = some (some (.ref d))) : EvD K (tDGet (tDGet (tVar i) ty) (tC (.str "role"))) σ H (.str x.role.s) := by
  obtain ⟨q, h1, h2⟩ := ev_entry E g hn hd
  exact ed_of (ev_dget h2 (E.each _ h1) (k := Sum.inr "role") ev_c (nm_role x)) (.str _)
theorem ed_good (E : EnvAt H d L) (g : getN (envL L) n = some x) (hn : EvD K ty σ H (.int n)) (hd : σ[i]? = some (some (.ref d))) : EvD K (tDGet (tDGet (tVar i) ty) (tC (.str "good"))) σ H (.bool x.good) := by
  obtain ⟨q, h1, h2⟩ := ev_entry E g hn hd
  exact ed_of (ev_dget h2 (E.each _ h1) (k := Sum.inr "good") ev_c (nm_good x)) (.bl _)
theorem ed_deep (E : EnvAt H d L) (g : getN (envL L) n = some x) (hn : EvD K ty σ H (.int n)) (hd : σ[i]? = some (some (.ref d))) : EvD K (tDGet (tDGet (tVar i) ty) (tC (.str "deep"))) σ H (.int x.deep) := by
  obtain ⟨q, h1, h2⟩ := ev_entry E g hn hd
  exact ed_of (ev_dget h2 (E.each _ h1) (k := Sum.inr "deep") ev_c (nm_deep x)) (.int _)
theorem dp_opt {o : Option Int} : Dp K H (optV o) (optD o) := by cases o <;> first | exact .non | exact .int _
theorem ed_on (E : EnvAt H d L) (g : getN (envL L) n = some x) (hn : EvD K ty σ H (.int n)) (hd : σ[i]? = some (some (.ref d))) : EvD K (tDGet (tDGet (tVar i) ty) (tC (.str "on"))) σ H (optD x.on) := by
  obtain ⟨q, h1, h2⟩ := ev_entry E g hn hd
  exact ed_of (ev_dget h2 (E.each _ h1) (k := Sum.inr "on") ev_c (nm_on x)) dp_opt
theorem rd_eqO {o : Option Int} {n : Int} : RD K rEq (optD o) (.int n) H (.bool (decide (o = some n))) := fun H1 _ v y hx hy _ q => by
  cases hy
  cases o with
  | none =>
    cases hx
    exact ⟨rfl, q _ H1 (Ex.refl H1) (.bl _)⟩
  | some m =>
    cases hx
    refine ⟨rfl, ?_⟩
    have e : decide (V.int m = V.int n) = decide (some m = some n) := by simp
    rw [e]
    exact q _ H1 (Ex.refl H1) (.bl _)
theorem dpa_keys : ∀ L : EL, DpAll K H ((envKV L).map fun kv => kV kv.1) ((envL L).map fun p => PyData.int p.1)
  | [] => .nil
  | y :: L => .cons (.int y.1) (dpa_keys L)
/-- list(d) of names -/
theorem en_keys (E : EnvAt H d L) (hd : σ[i]? = some (some (.ref d))) : EvN K (tCB rListD (tCons (tVar i) tNil)) σ H ((envL L).map fun p => .int p.1) := fun H1 e Q q =>
  ⟨_, hd, d, envKV L, rfl, e _ _ E.at_, fun l hl => by
    exact q l _ _ hl (Ex.new hl) upd_same (dpa_keys L)⟩
end
theorem eqv_nilL (ds : List D) : PyData.eqv (.list ds) (.list []) = ds.isEmpty := by cases ds <;> simp [PyData.eqv, PyData.eqvAll]
theorem eqv_nilT (ds : List D) : PyData.eqv (.tuple ds) (.tuple []) = ds.isEmpty := by cases ds <;> simp [PyData.eqv, PyData.eqvAll]
end Ow
namespace Ow
open PySem PySem.Spec PyProof.Rows L2 Evl
theorem ev_if_L {σ : L2.St} {H : Hp} {ta tb : TE} {t : TT} {b : Bool} {xs : List V} (h : EvT t σ H b) (h1 : b = true → EvL ta σ H xs) (h2 : b = false → EvL tb σ H xs) : EvL (tIf t ta tb) σ H xs := fun H1 e Q q => h H1 e _ fun H2 e2 => by
  cases b with
  | true => exact iteT (h1 rfl H2 (e.trans e2) Q fun p H3 hp e3 h3 => q p H3 (fresh_back e2 hp) (e2.trans e3) h3)
  | false => exact iteF (h2 rfl H2 (e.trans e2) Q fun p H3 hp e3 h3 => q p H3 (fresh_back e2 hp) (e2.trans e3) h3)
end Ow

/-! P7: names changed; dicts of bools. -/
namespace Ow
open PySem PySem.Spec PyProof.Rows L2 Evl
def modL (L : EL) (n : Int) (f : Nm → Nm) : EL := L.map fun x => if x.1 = n then (x.1, x.2.1, f x.2.2) else x
theorem modL_env (L : EL) (n : Int) (f : Nm → Nm) : envL (modL L n f) = modN (envL L) n f := by
  unfold envL modL modN
  rw [List.map_map, List.map_map]
  refine List.map_congr_left fun x _ => ?_
  simp only [Function.comp]
  split <;> simp_all
theorem modL_adr (L : EL) (n : Int) (f : Nm → Nm) : (modL L n f).map (·.2.1) = L.map (·.2.1) := by
  unfold modL
  rw [List.map_map]
  refine List.map_congr_left fun x _ => ?_
  simp only [Function.comp]
  split <;> rfl
theorem modL_key (L : EL) (n : Int) (f : Nm → Nm) : (modL L n f).map (·.1) = L.map (·.1) := by
  unfold modL
  rw [List.map_map]
  refine List.map_congr_left fun x _ => ?_
  simp only [Function.comp]
  split <;> rfl
theorem modL_kv (L : EL) (n : Int) (f : Nm → Nm) : envKV (modL L n f) = envKV L := by
  unfold envKV modL
  rw [List.map_map]
  refine List.map_congr_left fun x _ => ?_
  simp only [Function.comp]
  split <;> rfl
theorem nodup_at {α β : Type} (f : α → β) : ∀ {l : List α}, (l.map f).Nodup → ∀ {x y : α}, x ∈ l → y ∈ l → f x = f y → x = y
  | z :: l, h, x, y, hx, hy, e => by
    rw [List.map_cons, List.nodup_cons] at h
    rcases List.mem_cons.mp hx with e1 | hx <;> rcases List.mem_cons.mp hy with e2 | hy
    · rw [e1, e2]
    · exact absurd (List.mem_map.mpr ⟨y, hy, by rw [← e, e1]⟩) h.1
    · exact absurd (List.mem_map.mpr ⟨x, hx, by rw [e, e2]⟩) h.1
    · exact nodup_at f h.2 hx hy e
section
variable {H H' : Hp} {d q : Addr} {L : EL} {n : Int} {x : Nm}
/-- a name's dict is changed -/
theorem EnvAt.mod (E : EnvAt H d L) (hx : (n, q, x) ∈ L) (f : Nm → Nm) : EnvAt (upd H q (.dK (nmKV (f x)))) d (modL L n f) := by
  have nd : d ≠ q := fun z => E.dne (by rw [z]; exact List.mem_map.mpr ⟨_, hx, rfl⟩)
  refine ⟨by rw [upd_ne nd, modL_kv]; exact E.at_, fun y hy => ?_, by rw [modL_key]; exact E.keys, by rw [modL_adr]; exact E.adrs, by unfold modL; rw [List.length_map]; exact E.small⟩
  obtain ⟨z, hz, e⟩ := List.mem_map.mp hy
  by_cases hn : z.1 = n
  · rw [if_pos hn] at e
    have : z = (n, q, x) := nodup_at (·.1) E.keys hz hx hn
    subst this
    rw [← e]
    exact upd_same
  · rw [if_neg hn] at e
    subst e
    have : z.2.1 ≠ q := fun w => hn (by have := nodup_at (·.2.1) E.adrs hz hx w; rw [this])
    rw [upd_ne this]
    exact E.each _ hz
theorem eadr_mem (hx : (n, q, x) ∈ L) : q ∈ eadr d L := List.mem_cons_of_mem _ (List.mem_map.mpr ⟨_, hx, rfl⟩)
theorem nm_setgood (x : Nm) (b : Bool) : putK (nmKV x) (Sum.inr "good" : L2.Key) (.bl b) = nmKV { x with good := b } := by
  unfold putK
  have h : ((nmKV x).any fun kv => decide (kv.1 = (Sum.inr "good" : L2.Key))) = true := by
    rw [valV_any, nm_good]; rfl
  rw [if_pos h]
  unfold nmKV
  simp only [List.map_cons, List.map_nil]
  rw [if_neg (key_ne (by decide +kernel)), if_neg (key_ne (by decide +kernel)), if_neg (key_ne (by decide +kernel))]
  simp
theorem nm_seton (x : Nm) (o : Option Int) : putK (nmKV x) (Sum.inr "on" : L2.Key) (optV o) = nmKV { x with on := o } := by
  unfold putK
  have h : ((nmKV x).any fun kv => decide (kv.1 = (Sum.inr "on" : L2.Key))) = true := by
    rw [valV_any, nm_on]; rfl
  rw [if_pos h]
  unfold nmKV
  simp only [List.map_cons, List.map_nil]
  rw [if_neg (key_ne (by decide +kernel)), if_neg (key_ne (b := "on") (a := "deep") (by decide +kernel)), if_neg (key_ne (b := "on") (a := "good") (by decide +kernel))]
  simp
end
/-! ### merging pairs of unlike keys -/
theorem putK_new {κ : Type} [DecidableEq κ] {kvs : List (κ × V)} {k : κ} {v : V} (h : k ∉ kvs.map (·.1)) : putK kvs k v = kvs ++ [(k, v)] := by
  unfold putK
  rw [if_neg]
  intro z
  obtain ⟨p, hp, e⟩ := List.any_eq_true.mp z
  exact h (List.mem_map.mpr ⟨p, hp, of_decide_eq_true e⟩)
theorem mergeK_app : ∀ (more acc : List (L2.Key × V)), ((acc ++ more).map (·.1)).Nodup → more.foldl (fun acc kv => putK acc kv.1 kv.2) acc = acc ++ more
  | [], acc, _ => by simp
  | p :: more, acc, h => by
    rw [List.foldl_cons, putK_new, mergeK_app more (acc ++ [(p.1, p.2)])]
    · simp
    · simpa using h
    · intro z
      rw [List.map_append, List.map_cons] at h
      have := List.nodup_append.mp h
      exact this.2.2 _ z _ List.mem_cons_self rfl
theorem mergeK_nil {more : List (L2.Key × V)} (h : (more.map (·.1)).Nodup) : mergeK [] more = more := mergeK_app more [] h
theorem nm_nodup (x : Nm) : ((nmKV x).map (·.1)).Nodup := by
  unfold nmKV
  simp only [List.map_cons, List.map_nil]
  decide +kernel
/-! ### dicts of bools -/
abbrev BL := List (Int × Bool)
def blKV (l : BL) : List (L2.Key × V) := l.map fun p => (Sum.inl p.1, V.bl p.2)
theorem valV_bl (n : Int) : ∀ l : BL, valV (blKV l) (Sum.inl n : L2.Key) = (getN l n).map V.bl
  | [] => rfl
  | p :: l => by
    have ih := valV_bl n l
    unfold blKV getN at ih ⊢
    rw [List.map_cons, List.find?_cons]
    by_cases e : p.1 = n
    · rw [decide_eq_true e]
      exact valV_pos (p := ((Sum.inl p.1 : L2.Key), V.bl p.2)) (congrArg Sum.inl e)
    · rw [decide_eq_false e]
      exact (valV_neg (p := ((Sum.inl p.1 : L2.Key), V.bl p.2)) (fun z => e (Sum.inl.inj z))).trans ih
theorem putK_bl (l : BL) (n : Int) (b : Bool) : putK (blKV l) (Sum.inl n : L2.Key) (.bl b) = blKV (putN l n b) := by
  unfold putK putN
  have h : ((blKV l).any fun kv => decide (kv.1 = (Sum.inl n : L2.Key))) = l.any fun p => decide (p.1 = n) := by
    unfold blKV
    rw [List.any_map]
    congr 1
    funext p
    simp [Function.comp]
  rw [h]
  split
  · unfold blKV
    rw [List.map_map, List.map_map]
    refine List.map_congr_left fun p _ => ?_
    simp only [Function.comp]
    by_cases e : p.1 = n
    · rw [if_pos (congrArg Sum.inl e), if_pos e]
    · rw [if_neg (fun z => e (Sum.inl.inj z)), if_neg e]
  · unfold blKV
    rw [List.map_append]; rfl
end Ow
namespace Ow
open PySem PySem.Spec PyProof.Rows L2 Evl
section
variable {K : PySem.W.Frag} {σ : L2.St} {H H' : Hp} {ta tb te td ty tx tv : TE} {tr : TA} {t : TT} {d : Addr} {L : EL} {n : Int} {x : Nm} {i : Nat} {q : Addr} {Dn : Ends} {tz : TS} {b : Bool}
theorem q_setgood (E : EnvAt H d L) (g : getN (envL L) n = some x) (hv : EvD K tv σ H (.bool b)) (hn : EvD K ty σ H (.int n)) (hd : σ[i]? = some (some (.ref d))) (k : ∀ H', ExB (eadr d L) H H' → EnvAt H' d (modL L n fun x => { x with good := b }) → tz Dn σ H') :
    tSeq (sDPut (tDGet (tVar i) ty) (tC (.str "good")) tv) tz Dn σ H := by
  refine hv H (Ex.refl H) _ fun v H1 e1 hb => ?_
  cases hb
  have E1 := E.ex e1
  obtain ⟨q, h1, h2⟩ := ev_entry (σ := σ) (i := i) E1 g (hn.mono e1) hd
  refine h2 H1 (Ex.refl H1) _ fun H2 e2 => ?_
  have E2 := E1.ex e2
  refine ⟨q, _, rfl, DPut.k (k := Sum.inr "good") (E2.each _ h1) (by show 4 < sizeLine; decide), ?_⟩
  show tz Dn σ _
  rw [nm_setgood]
  exact k _ (ExB.trans (.of (e1.trans e2)) (.upd (eadr_mem h1))) (E2.mod h1 fun x => { x with good := b })
theorem s_setgood (E : EnvAt H d L) (g : getN (envL L) n = some x) (hv : EvD K tv σ H (.bool b)) (hn : EvD K ty σ H (.int n)) (hd : σ[i]? = some (some (.ref d))) (k : ∀ H', ExB (eadr d L) H H' → EnvAt H' d (modL L n fun x => { x with good := b }) → Dn.nx σ H') :
    sDPut (tDGet (tVar i) ty) (tC (.str "good")) tv Dn σ H := q_setgood (tz := fun D => D.nx) E g hv hn hd k
theorem s_retIf (h : EvT t σ H b) (h1 : b = true → ∀ H1, Ex H H1 → tRet ta Dn σ H1) (h2 : b = false → ∀ H1, Ex H H1 → tRet tb Dn σ H1) : tRet (tIf t ta tb) Dn σ H := h H (Ex.refl H) _ fun H1 e => by
  cases b with
  | true => exact iteT (h1 rfl H1 e)
  | false => exact iteF (h2 rfl H1 e)
theorem rd_addS {a b : Str} (hl : a.length + b.length ≤ sizeLine) : RD K (fun x y H Q => ∃ i j, x = .str i ∧ y = .str j ∧ i.length + j.length ≤ sizeLine ∧ Q (.str (i ++ j)) H) (.str a) (.str b) H (.str (a ++ b)) := fun H1 _ x y hx hy _ q => by
  cases hx; cases hy
  exact ⟨a, b, rfl, rfl, hl, q _ H1 (Ex.refl H1) (.str _)⟩
/-- d[n] = a bool -/
theorem q_putbl {u : Addr} {l : BL} (hu : H u = some (.dK (blKV l))) (hl : l.length ≤ 20000) (hv : EvD K tv σ H (.bool b)) (hn : EvD K ty σ H (.int n)) (hd : σ[i]? = some (some (.ref u))) (k : ∀ H', ExB [u] H H' → H' u = some (.dK (blKV (putN l n b))) → tz Dn σ H') :
    tSeq (sDPut (tVar i) ty tv) tz Dn σ H := by
  refine hv H (Ex.refl H) _ fun v H1 e1 hb => ?_
  cases hb
  refine ⟨_, hd, ev_int hn H1 e1 _ fun H2 e2 => ?_⟩
  have h2 := e2 _ _ (e1 _ _ hu)
  refine ⟨u, _, rfl, DPut.k (k := Sum.inl n) h2 (by unfold blKV; rw [List.length_map]; exact Nat.lt_of_le_of_lt hl (by decide)), ?_⟩
  show tz Dn σ _
  rw [putK_bl]
  exact k _ (ExB.trans (.of (e1.trans e2)) (.upd List.mem_cons_self)) upd_same
theorem s_putbl {u : Addr} {l : BL} (hu : H u = some (.dK (blKV l))) (hl : l.length ≤ 20000) (hv : EvD K tv σ H (.bool b)) (hn : EvD K ty σ H (.int n)) (hd : σ[i]? = some (some (.ref u))) (k : ∀ H', ExB [u] H H' → H' u = some (.dK (blKV (putN l n b))) → Dn.nx σ H') :
    sDPut (tVar i) ty tv Dn σ H := q_putbl (tz := fun D => D.nx) hu hl hv hn hd k
/-- used.get(n, False) -/
theorem ed_getbl {u : Addr} {l : BL} (hu : H u = some (.dK (blKV l))) (hn : EvD K ty σ H (.int n)) (hd : σ[i]? = some (some (.ref u))) (hx : EvD K tx σ H (.bool b)) : EvD K (tDGet2 (tVar i) ty tx) σ H (.bool ((getN l n).getD b)) := by
  have h := ev_dget2 (ev_var (H := H) hd) hu (k := Sum.inl n) (ev_int hn) (ev_bool hx)
  rw [valV_bl] at h
  have e : ((getN l n).map V.bl).getD (.bl b) = .bl ((getN l n).getD b) := by cases getN l n <;> rfl
  rw [e] at h
  exact ed_of h (.bl _)
theorem ed_inbl {u : Addr} {l : BL} (hu : H u = some (.dK (blKV l))) (hn : EvD K ty σ H (.int n)) (hd : σ[i]? = some (some (.ref u))) : EvD K (tDIn ty (tVar i)) σ H (.bool (hasN l n)) := by
  have h := ev_din (ev_var (H := H) hd) hu (k := Sum.inl n) (ev_int hn)
  rw [valV_bl] at h
  have e : ((getN l n).map V.bl).isSome = hasN l n := by unfold hasN; cases getN l n <;> rfl
  rw [e] at h
  exact ed_of h (.bl _)
theorem ed_notinbl {u : Addr} {l : BL} (hu : H u = some (.dK (blKV l))) (hn : EvD K ty σ H (.int n)) (hd : σ[i]? = some (some (.ref u))) : EvD K (tDNotIn ty (tVar i)) σ H (.bool (!hasN l n)) := by
  have h := ev_dnotin (ev_var (H := H) hd) hu (k := Sum.inl n) (ev_int hn)
  rw [valV_bl] at h
  have e : ((getN l n).map V.bl).isSome = hasN l n := by unfold hasN; cases getN l n <;> rfl
  rw [e] at h
  exact ed_of h (.bl _)
end
theorem free_get {ws : List Str} {env : Env} {n : Int} {w : Str} (h : free ws env n w = true) : ∃ x, getN env n = some x := by
  unfold free use at h
  cases g : getN env n with
  | none => rw [g] at h; simp at h
  | some x => exact ⟨x, rfl⟩
theorem lives_get {env : Env} {n : Int} (h : lives env n = true) : ∃ x, getN env n = some x := by
  unfold lives at h
  cases g : getN env n with
  | none => rw [g] at h; simp at h
  | some x => exact ⟨x, rfl⟩
end Ow

/-! P8: looks are on something; what a statement that makes no name does. -/
namespace Ow
open PySem PySem.Spec PyProof.Rows L2 Evl
/-- every look is on a name -/
def Lk (env : Env) : Prop := ∀ p ∈ env, p.2.role = .look → ∃ n, p.2.on = some n
theorem getN_mem {α : Type} {env : List (Int × α)} {n : Int} {x : α} (h : getN env n = some x) : (n, x) ∈ env := by
  unfold getN at h
  cases e : env.find? fun p => decide (p.1 = n) with
  | none => rw [e] at h; cases h
  | some p =>
    rw [e] at h
    cases h
    have h1 : p.1 = n := by have := List.find?_some e; exact of_decide_eq_true this
    rw [← h1]
    exact List.mem_of_find?_eq_some e
theorem aimOf_lk {ws : List Str} {env : Env} {n : Int} (h : Lk env) : (∃ m, aimOf ws env n = some (some m)) ∨ aimOf ws env n = none := by
  unfold aimOf
  cases g : getN env n with
  | none => exact .inr rfl
  | some x =>
    dsimp only
    cases hb : x.good && decide (x.role = .look) with
    | true =>
      rw [if_pos rfl]
      rw [Bool.and_eq_true] at hb
      obtain ⟨m, hm⟩ := h _ (getN_mem g) (of_decide_eq_true hb.2)
      rw [show x.on = some m from hm]
      exact .inl ⟨m, rfl⟩
    | false =>
      rw [if_neg (by decide)]
      cases use ws env n with
      | true => exact .inl ⟨n, rfl⟩
      | false => exact .inr rfl
theorem modL_modL (L : EL) (n : Int) (f g : Nm → Nm) : modL (modL L n f) n g = modL L n (fun x => g (f x)) := by
  unfold modL
  rw [List.map_map]
  refine List.map_congr_left fun x _ => ?_
  simp only [Function.comp]
  split <;> simp_all
theorem lives_eq {env : Env} {n : Int} : lives env n = (hasN env n && match getN env n with | some x => x.good && !decide (x.role.s = "own") | none => false) := by
  unfold lives hasN
  cases getN env n with
  | none => rfl
  | some x =>
    have : decide (x.role.s = "own") = decide (x.role = .own) := by
      have e : (Role.own).s = "own" := rfl
      rw [← e]
      by_cases z : x.role = .own
      · rw [decide_eq_true z, z]; simp
      · rw [decide_eq_false z, decide_eq_false (fun w => z (Role.inj.mp w))]
    dsimp only
    rw [this]; rfl
section
variable {K : PySem.W.Frag} {σ : L2.St} {H H' : Hp} {ta tb te td ty tx tv t1 : TE} {tr : TA} {t : TT} {d : Addr} {L : EL} {n m : Int} {x : Nm} {i j : Nat} {q : Addr} {Dn : Ends} {tz : TS} {b : Bool}
theorem ed_lives (E : EnvAt H d L) (hn : EvD K ty σ H (.int n)) (hd : σ[i]? = some (some (.ref d))) : EvD K (tAndV (tDIn ty (tVar i)) (tAndV (tDGet (tDGet (tVar i) ty) (tC (.str "good"))) (tOp rNe (tDGet (tDGet (tVar i) ty) (tC (.str "role"))) (tC (.str "own"))))) σ H (.bool (lives (envL L) n)) := by
  rw [lives_eq]
  refine ed_and (ed_envIn E hn hd) (fun hz => ?_)
  cases g : getN (envL L) n with
  | none => unfold hasN at hz; rw [g] at hz; cases hz
  | some x => exact ed_and (ed_good E g hn hd) (fun _ => ed_op (ed_role E g hn hd) ed_str rd_neS)
theorem not_in_adr (E : EnvAt H d L) {q : Addr} (hq : H q = none) : q ∉ eadr d L := fun z => by
  rcases List.mem_cons.mp z with z | z
  · rw [z, E.at_] at hq; cases hq
  · obtain ⟨w, hw, e2⟩ := List.mem_map.mp z
    rw [← e2, E.each w hw] at hq; cases hq
theorem eadr_modL (d : Addr) (L : EL) (n : Int) (f : Nm → Nm) : eadr d (modL L n f) = eadr d L := by unfold eadr; rw [modL_adr]
theorem rset {a : Addr} {kvs : List (L2.Key × V)} {k : L2.Key} {v : V} {Q : Hp → Prop} (e : H a = some (.dK kvs)) (hl : kvs.length < sizeLine) (q : Q (upd H a (.dK (putK kvs k v)))) : rSetD (.ref a) (kV k) v H Q := ⟨a, _, rfl, DPut.k e hl, q⟩
theorem q_par {i j : Nat} {v w : V} (h : EvA tr σ H [v, w]) (k : ∀ H1, Ex H H1 → tz Dn ((σ.set i (some v)).set j (some w)) H1) : tSeq (tPar i j tr) tz Dn σ H := h H (Ex.refl H) _ fun H1 e1 => ⟨_, _, rfl, k H1 e1⟩
theorem q_par3 {i j l : Nat} {u v w : V} (h : EvA tr σ H [u, v, w]) (k : ∀ H1, Ex H H1 → tz Dn (((σ.set i (some u)).set j (some v)).set l (some w)) H1) : tSeq (tPar3 i j l tr) tz Dn σ H := h H (Ex.refl H) _ fun H1 e1 => ⟨_, _, _, rfl, k H1 e1⟩
theorem q_asgT {g : TG} {vs : List V} (h : EvA tr σ H vs) (k : ∀ H1, Ex H H1 → ∀ l, H1 l = none → g (.ref l) σ (upd H1 l (.tup vs)) fun σ2 H2 => tz Dn σ2 H2) (hl : vs.length ≤ sizeLine := by show 2 ≤ sizeLine; decide) : tSeq (tAsg (tTup tr) g) tz Dn σ H :=
  h H (Ex.refl H) _ fun H1 e => ⟨hl, fun l hn => k H1 e l hn⟩
/-- env[n]["on"], env[n]["good"] = m, True -/
theorem q_aimto (E : EnvAt H d L) (g : getN (envL L) n = some x) (h1 : Ev t1 σ H (.int m)) (hd : σ[i]? = some (some (.ref d))) (hn : σ[j]? = some (some (.int n)))
    (k : ∀ H', ExB (eadr d L) H H' → EnvAt H' d (modL L n fun x => { x with on := some m, good := true }) → tz Dn σ H') :
    tSeq (tAsg (tTup (tCons t1 (tCons (tC (.bl true)) tNil))) (gTup K 2 (gCons (gSub (tDGet (tVar i) (tVar j)) (tC (.str "on")) rSetD) (gCons (gSub (tDGet (tVar i) (tVar j)) (tC (.str "good")) rSetD) gNil)))) tz Dn σ H := by
  have hA : EvA (tCons t1 (tCons (tC (.bl true)) tNil)) σ H [.int m, .bl true] := ea_cons h1 (ea_cons ev_c ea_nil)
  refine q_asgT hA fun H1 e1 l hl => ⟨l, [.int m, .bl true], rfl, st_of upd_same, rfl, _, _, rfl, ?_⟩
  have e2 : Ex H (upd H1 l (.tup [.int m, .bl true])) := e1.trans (Ex.new hl)
  have E2 := E.ex e2
  obtain ⟨q, h3, h4⟩ := ev_entry (σ := σ) (i := i) E2 g (ed_var hn (.int n) : EvD K (tVar j) σ _ _) hd
  refine h4 _ (Ex.refl _) _ fun H3 e3 => ?_
  have E3 := E2.ex e3
  refine rset (k := Sum.inr "on") (E3.each _ h3) (by show 4 < sizeLine; decide) ?_
  refine ⟨_, _, rfl, ?_⟩
  rw [show (V.int m) = optV (some m) from rfl, nm_seton]
  have E4 := E3.mod h3 fun x => { x with on := some m }
  have m4 : (n, q, { x with on := some m }) ∈ modL L n fun x => { x with on := some m } := List.mem_map.mpr ⟨_, h3, by dsimp only; rw [if_pos rfl]⟩
  have g4 : getN (envL (modL L n fun x => { x with on := some m })) n = some { x with on := some m } := mem_get E4.keys m4
  obtain ⟨q2, h5, h6⟩ := ev_entry (σ := σ) (i := i) E4 g4 (ed_var hn (.int n) : EvD K (tVar j) σ _ _) hd
  refine h6 _ (Ex.refl _) _ fun H5 e5 => ?_
  have E5 := E4.ex e5
  refine rset (k := Sum.inr "good") (E5.each _ h5) (by show 4 < sizeLine; decide) ⟨rfl, ?_⟩
  rw [nm_setgood]
  have E6 := E5.mod h5 fun x => { x with good := true }
  rw [modL_modL] at E6
  refine k _ ?_ E6
  have q2m : q2 ∈ eadr d L := by rw [← eadr_modL d L n fun x => { x with on := some m }]; exact eadr_mem h5
  exact ExB.trans (ExB.trans (ExB.trans (.of (e2.trans e3)) (.upd (eadr_mem h3))) (.of e5)) (.upd q2m)
end
theorem do_aim0 {ws : List Str} {env : Env} {y z : Int} (ha : aimOf ws env z = none) : doOf ws env (.aim y z) = (false, env) := by simp only [doOf, ha]
theorem do_aim1 {ws : List Str} {env : Env} {y z : Int} {o} (ha : aimOf ws env z = some o) (g : getN env y = none) : doOf ws env (.aim y z) = (false, env) := by simp only [doOf, ha, g]
theorem do_aim2 {ws : List Str} {env : Env} {y z : Int} {o x} (ha : aimOf ws env z = some o) (g : getN env y = some x) : doOf ws env (.aim y z) = if (decide (x.role = .look) && (decide (("far" : Str) ∈ ws) || (match deepOf env o with
        | some d => decide (d ≤ x.deep)
        | none => false))) = true then (true, modN env y fun x => { x with on := o, good := true }) else (false, env) := by simp only [doOf, ha, g] <;> rfl
theorem deep_some (env : Env) (m : Int) : deepOf env (some m) = (getN env m).map (·.deep) := rfl
theorem putN_len {α : Type} (l : List (Int × α)) (n : Int) (x : α) : (putN l n x).length ≤ l.length + 1 := by
  unfold putN
  split
  · rw [List.length_map]; omega
  · rw [List.length_append]; exact Nat.le_refl _
end Ow

/-! P9: a copy of names. -/
namespace Ow
open PySem PySem.Spec PyProof.Rows L2 Evl
section
variable {X : Cx}
abbrev rDictP (K : PySem.W.Frag) : List V → Hp → VK → Prop := fun xs H Q => ∃ (a : Addr) (ps : List Addr) (kvs : List (L2.Key × V)), xs = [.ref a] ∧ SqL K H a (ps.map V.ref) ∧ Paired (fun p kv => SqT K H p [kV kv.1, kv.2]) ps kvs ∧ ∀ p, H p = none → Q (.ref p) (upd H p (.dK (mergeK [] kvs)))
abbrev rDictD : List V → Hp → VK → Prop := fun xs H Q => ∃ (a : Addr) (kvs : List (L2.Key × V)), xs = [.ref a] ∧ Rd H a (.dK kvs) ∧ ∀ p, H p = none → Q (.ref p) (upd H p (.dK kvs))
theorem call_dictPK (K : PySem.W.Frag) (h : X.K = K) (hc : X.calm = true) : CallR X (.type "dict") (rDictP K) := h ▸ call_dictP hc
end
theorem paired_map {α β γ : Type} {F : α → β → Prop} {G : α → γ → Prop} {f : β → γ} (hf : ∀ a b, F a b → G a (f b)) : ∀ {l : List α} {m : List β}, Paired F l m → Paired G l (m.map f)
  | _, _, .nil => .nil
  | _, _, .cons h r => .cons (hf _ _ h) (paired_map hf r)
theorem paired_imp {α β : Type} {F G : α → β → Prop} (hf : ∀ a b, F a b → G a b) : ∀ {l : List α} {m : List β}, Paired F l m → Paired G l m
  | _, _, .nil => .nil
  | _, _, .cons h r => .cons (hf _ _ h) (paired_imp hf r)
theorem paired_app {α β : Type} {F : α → β → Prop} : ∀ {l l2 : List α} {m m2 : List β}, Paired F l m → Paired F l2 m2 → Paired F (l ++ l2) (m ++ m2)
  | _, _, _, _, .nil, h => h
  | _, _, _, _, .cons h r, h2 => .cons h (paired_app r h2)
theorem paired_len {α β : Type} {F : α → β → Prop} : ∀ {l : List α} {m : List β}, Paired F l m → l.length = m.length
  | _, _, .nil => rfl
  | _, _, .cons _ r => by rw [List.length_cons, List.length_cons, paired_len r]
structure CopyInv (H1 : Hp) (Dl : Addr) (L : EL) (i : Nat) (H' : Hp) (M : EL) (ps : List Addr) : Prop where
  ex : Ex H1 H'
  env : envL M = envL (L.take i)
  nd : (M.map (·.2.1)).Nodup
  each : ∀ y ∈ M, H1 y.2.1 = none ∧ H' y.2.1 = some (.dK (nmKV y.2.2))
  prs : Paired (fun p (y : Int × Addr × Nm) => H' p = some (.tup [.int y.1, .ref y.2.1])) ps M
  at_ : H' Dl = some (.lst (ps.map V.ref))
theorem envL_keys (L : EL) : (envL L).map (·.1) = L.map (·.1) := by unfold envL; rw [List.map_map]; rfl
section
variable {K : PySem.W.Frag} {H : Hp} {d : Addr} {L : EL} {Dn : Ends}
theorem copy_at (E : EnvAt H d L) (q : ∀ d' L' H', EnvAt H' d' L' → envL L' = envL L → Ex H H' → (∀ p ∈ eadr d' L', H p = none) → Dn.rt (.ref d') H') :
    tRet (tCB (rDictP K) (tCons (tLc (iList K (tCB rListD (tCons (tVar 0) tNil))) (gName 1) tYes (tTup (tCons (tVar 1) (tCons (tCB rDictD (tCons (tDGet (tVar 0) (tVar 1)) tNil)) tNil))) [1]) tNil)) Dn [some (.ref d), none] H := by
  refine en_keys (K := K) (σ := [some (.ref d), none]) (i := 0) E rfl H (Ex.refl H) _ fun l us H1 hl e1 h1 a1 => ⟨l, rfl, ⟨us, sq_of h1⟩, fun Dl hD => ?_⟩
  have eu : us = (L.map (·.1)).map V.int := by
    rw [← envL_keys]
    refine dpa_ints_inv (K := K) (H := H1) ?_
    rw [List.map_map]
    exact a1
  have lu : us.length = L.length := by rw [eu, List.length_map, List.length_map]
  have Dl_l : Dl ≠ l := fun z => by rw [z, h1] at hD; cases hD
  refine lc_list (xs := us) (fun i H' => ∃ M ps, CopyInv H1 Dl L i H' M ps) ⟨[], [], ⟨Ex.new hD, rfl, List.nodup_nil, (fun y hy => by cases hy), .nil, upd_same⟩⟩ (fun i H' _ p => ?_) (fun i x H' hi p => ?_) (fun H' p => ?_)
  · obtain ⟨M, ps, p⟩ := p
    exact ex_l p.ex (sq_of h1)
  · obtain ⟨M, ps, p⟩ := p
    have hiL : i < L.length := by rw [← lu]; exact (List.getElem?_eq_some_iff.mp hi).1
    obtain ⟨⟨n, q0, nm⟩, hy⟩ : ∃ y, L[i]? = some y := ⟨L[i], List.getElem?_eq_getElem hiL⟩
    have ex : x = .int n := by
      rw [eu, List.getElem?_map, List.getElem?_map, hy] at hi
      cases hi; rfl
    subst ex
    refine ⟨rfl, et_yes (σ := [some (.ref d), some (.int n)]) H' (Ex.refl H') _ fun H0 e0 => ?_⟩
    refine iteT ⟨_, rfl, ?_⟩
    have hm : (n, q0, nm) ∈ L := List.mem_of_getElem? hy
    have E' := E.ex ((e1.trans p.ex).trans e0)
    refine (ev_dget (σ := [some (.ref d), some (.int n)]) (ev_var (i := 0) rfl) E'.at_ (k := Sum.inl n) (ev_var (i := 1) rfl) ?_) H0 (Ex.refl H0) _ fun H2 e2 => ⟨_, _, rfl, .inl (e2 _ _ (E'.each _ hm)), fun q hq => ⟨by show 2 ≤ sizeLine; decide, fun t ht => ⟨ps.map V.ref, ?_, ?_, M ++ [(n, q, nm)], ps ++ [t], ?_⟩⟩⟩
    · obtain ⟨q1, h2, h3⟩ := env_some (mem_get E.keys hm)
      have h4 := nodup_at (·.1) E.keys h2 hm rfl
      injection h4 with _ h5
      injection h5 with h5 _
      rw [← h5]
      exact h3
    · exact (Ex.new ht) _ _ ((Ex.new hq) _ _ (e2 _ _ (e0 _ _ p.at_)))
    · rw [List.length_map, paired_len p.prs]
      have : M.length = (envL M).length := by unfold envL; rw [List.length_map]
      rw [this, p.env]
      unfold envL
      rw [List.length_map]
      have h2 := List.length_take_le i L
      have h3 := E.small
      exact sz_lt (by omega)
    · -- the heap: H' ⊆ H2 ⊆ upd q ⊆ upd t, then Dl changed
      have hA : Ex H' (upd (upd H2 q (.dK (nmKV nm))) t (.tup [.int n, .ref q])) := ((e0.trans e2).trans (Ex.new hq)).trans (Ex.new ht)
      have lD : (upd (upd H2 q (.dK (nmKV nm))) t (.tup [.int n, .ref q])) Dl = some (.lst (ps.map V.ref)) := hA _ _ p.at_
      have nt : t ≠ Dl := fun z => by
        have h9 := ((e0.trans e2).trans (Ex.new (o := .dK (nmKV nm)) hq)) _ _ p.at_
        rw [← z] at h9
        have h8 : (upd H2 q (.dK (nmKV nm))) t = none := ht
        rw [h8] at h9
        cases h9
      have nq : q ≠ Dl := fun z => by
        have := (e0.trans e2) _ _ p.at_
        rw [← z, hq] at this; cases this
      have nqt : q ≠ t := fun z => by
        rw [← z] at ht
        rw [upd_same] at ht; cases ht
      refine ⟨Ex.mut (p.ex.trans hA) hD, ?_, ?_, ?_, ?_, by rw [List.map_append]; exact upd_same⟩
      · have : L.take (i + 1) = L.take i ++ [(n, q0, nm)] := by rw [List.take_add_one, hy]; rfl
        rw [this]
        unfold envL
        rw [List.map_append, List.map_append]
        have := p.env
        unfold envL at this
        rw [this]; rfl
      · rw [List.map_append]
        refine List.nodup_append.mpr ⟨p.nd, by simp, fun a ha b hb z => ?_⟩
        obtain ⟨y, hy2, e⟩ := List.mem_map.mp ha
        have hb2 : b = q := by simpa using hb
        have h2 := (e0.trans e2) _ _ (p.each y hy2).2
        rw [e, z, hb2, hq] at h2
        cases h2
      · intro y hy2
        rcases List.mem_append.mp hy2 with h | h
        · refine ⟨(p.each y h).1, ?_⟩
          have h2 := (p.each y h).2
          have n1 : y.2.1 ≠ Dl := fun z => by rw [z, p.at_] at h2; cases h2
          rw [upd_ne n1]
          exact hA _ _ h2
        · have h3 : y = (n, q, nm) := by simpa using h
          subst h3
          refine ⟨?_, ?_⟩
          · exact fresh_back (p.ex.trans (e0.trans e2)) hq
          · rw [upd_ne nq, upd_ne nqt]
            exact upd_same
      · refine paired_app (paired_imp (fun a b h => ?_) p.prs) (.cons ?_ .nil)
        · have n1 : a ≠ Dl := fun z => by rw [z, p.at_] at h; cases h
          rw [upd_ne n1]
          exact hA _ _ h
        · rw [upd_ne nt]
          exact upd_same
  · obtain ⟨M, ps, p⟩ := p
    have penv := p.env
    rw [lu, List.take_length] at penv
    have kN : ((envKV M).map (·.1)).Nodup := by
      have h1 : (envKV M).map (·.1) = (M.map (·.1)).map (Sum.inl : Int → L2.Key) := by unfold envKV; rw [List.map_map, List.map_map]; rfl
      have h2 : M.map (·.1) = L.map (·.1) := by rw [← envL_keys, penv, envL_keys]
      rw [h1, h2]
      exact List.Pairwise.map Sum.inl (fun a b h z => h (Sum.inl.inj z)) E.keys
    refine ⟨Dl, ps, envKV M, rfl, sq_of p.at_, paired_map (G := fun p (kv : L2.Key × V) => SqT K H' p [kV kv.1, kv.2]) (f := fun (y : Int × Addr × Nm) => ((Sum.inl y.1 : L2.Key), V.ref y.2.1)) (fun a b h => st_of h) p.prs, fun d' hd' => ?_⟩
    rw [mergeK_nil kN]
    have eM : envL M = envL L := penv
    refine q d' M _ ⟨upd_same, fun x hx => ?_, ?_, p.nd, ?_⟩ eM ((e1.trans p.ex).trans (Ex.new hd')) (fun a ha => ?_)
    · have h2 := (p.each x hx).2
      exact (Ex.new hd') _ _ h2
    · rw [← envL_keys, eM, envL_keys]; exact E.keys
    · have : M.length = (envL M).length := by unfold envL; rw [List.length_map]
      rw [this, eM]; unfold envL; rw [List.length_map]; exact E.small
    · rcases List.mem_cons.mp ha with z | z
      · rw [z]; exact fresh_back (e1.trans p.ex) hd'
      · obtain ⟨y, hy, e⟩ := List.mem_map.mp z
        rw [← e]; exact fresh_back e1 (p.each y hy).1
end
end Ow

/-! M2: what the checker keeps: looks are on something, how many names, no name is lost. -/
namespace Ow
open PySem
mutual
def St.cnt : St → Nat
  | .pl _ => 1
  | .block b => cntB b + 1
  | .hands a b => cntB a + cntB b + 1
def cntB : List St → Nat
  | [] => 0
  | s :: r => s.cnt + cntB r
end
theorem Lk.mod {env : Env} (h : Lk env) (n : Int) (f : Nm → Nm) (hf : ∀ x : Nm, (x.role = .look → ∃ m, x.on = some m) → (f x).role = .look → ∃ m, (f x).on = some m) : Lk (modN env n f) := fun p hp hr => by
  obtain ⟨y, hy, e⟩ := List.mem_map.mp hp
  by_cases z : y.1 = n
  · rw [if_pos z] at e
    rw [← e] at hr ⊢
    exact hf y.2 (h y hy) hr
  · rw [if_neg z] at e
    rw [← e] at hr ⊢
    exact h y hy hr
theorem Lk.put {env : Env} (h : Lk env) (n : Int) (x : Nm) (hx : x.role = .look → ∃ m, x.on = some m) : Lk (putN env n x) := fun p hp hr => by
  unfold putN at hp
  split at hp
  · obtain ⟨y, hy, e⟩ := List.mem_map.mp hp
    by_cases z : y.1 = n
    · rw [if_pos z] at e
      rw [← e] at hr ⊢
      exact hx hr
    · rw [if_neg z] at e
      rw [← e] at hr ⊢
      exact h y hy hr
  · rcases List.mem_append.mp hp with h1 | h1
    · exact h p h1 hr
    · have : p = (n, x) := by simpa using h1
      rw [this] at hr ⊢
      exact hx hr
theorem modN_len (env : Env) (n : Int) (f : Nm → Nm) : (modN env n f).length = env.length := List.length_map _
theorem modN_keys (env : Env) (n : Int) (f : Nm → Nm) : (modN env n f).map (·.1) = env.map (·.1) := by
  unfold modN
  rw [List.map_map]
  refine List.map_congr_left fun x _ => ?_
  simp only [Function.comp]
  split <;> rfl
theorem hasN_keys {α : Type} (env : List (Int × α)) (n : Int) : hasN env n = decide (n ∈ env.map (·.1)) := by
  unfold hasN getN
  induction env with
  | nil => rfl
  | cons p l ih =>
    rw [List.find?_cons, List.map_cons]
    by_cases z : p.1 = n
    · rw [decide_eq_true z]
      simp [z]
    · rw [decide_eq_false z]
      have : ¬ n = p.1 := fun w => z w.symm
      simp only [List.mem_cons, this, false_or]
      exact ih
theorem putN_keys {α : Type} (env : List (Int × α)) (n : Int) (x : α) : ∀ m, m ∈ env.map (·.1) → m ∈ (putN env n x).map (·.1) := fun m hm => by
  unfold putN
  split
  · rw [List.map_map]
    have : env.map ((·.1) ∘ fun p => if p.1 = n then (p.1, x) else p) = env.map (·.1) := List.map_congr_left fun p _ => by
      simp only [Function.comp]
      split <;> rfl
    rw [this]; exact hm
  · rw [List.map_append]
    exact List.mem_append_left _ hm
theorem mk_lk {ws : List Str} {env : Env} {deep : Int} {p : Pl} {m : Nm} {e : Env} (h : Lk env) (hk : mkOf ws env deep p = some (m, e)) : Lk e ∧ e.length = env.length ∧ e.map (·.1) = env.map (·.1) ∧ (m.role = .look → ∃ n, m.on = some n) := by
  cases p with
  | box x n =>
    cases hk
    exact ⟨h, rfl, rfl, fun z => by cases z⟩
  | look x y =>
    have hk2 : (aimOf ws env y).map (fun o => ((⟨.look, o, deep, true⟩ : Nm), env)) = some (m, e) := hk
    rcases aimOf_lk (ws := ws) (n := y) h with ⟨n, ha⟩ | ha
    · rw [ha] at hk2
      cases hk2
      exact ⟨h, rfl, rfl, fun _ => ⟨n, rfl⟩⟩
    · rw [ha] at hk2; cases hk2
  | lend x y =>
    have hk2 : (if free ws env y "lend looked" = true then some ((⟨.lend, some y, deep, true⟩ : Nm), env) else none) = some (m, e) := hk
    split at hk2
    · cases hk2
      exact ⟨h, rfl, rfl, fun z => by cases z⟩
    · cases hk2
  | move x y =>
    have hk2 : (if free ws env y "move looked" = true then some ((⟨.own, none, deep, true⟩ : Nm), modN env y fun x => { x with good := decide (("two names" : Str) ∈ ws) }) else none) = some (m, e) := hk
    split at hk2
    · cases hk2
      exact ⟨h.mod _ _ (fun x hx hr => hx hr), modN_len _ _ _, modN_keys _ _ _, fun z => by cases z⟩
    · cases hk2
  | _ => cases hk
def DoOk (env : Env) (r : Bool × Env) : Prop := Lk r.2 ∧ r.2.length = env.length ∧ r.2.map (·.1) = env.map (·.1)
theorem DoOk.md {env : Env} {b : Bool} {n : Int} {f : Nm → Nm} (h : Lk (modN env n f)) : DoOk env (b, modN env n f) := by
  refine ⟨h, ?_, ?_⟩
  · exact modN_len env n f
  · exact modN_keys env n f
theorem do_if {env : Env} {c : Prop} [Decidable c] {a b : Bool × Env} (ha : DoOk env a) (hb : DoOk env b) : DoOk env (if c then a else b) := by
  split <;> assumption
theorem do_lk {ws : List Str} {env : Env} {p : Pl} (h : Lk env) : DoOk env (doOf ws env p) := by
  have z : ∀ b, DoOk env (b, env) := fun b => ⟨h, rfl, rfl⟩
  cases p with
  | drop y => exact do_if (DoOk.md (h.mod _ _ (fun x hx hr => hx hr))) (z _)
  | fin y => exact do_if (DoOk.md (h.mod _ _ (fun x hx hr => hx hr))) (z _)
  | aim y z2 =>
    rcases aimOf_lk (ws := ws) (n := z2) h with ⟨n, ha⟩ | ha
    · cases g : getN env y with
      | none => rw [do_aim1 ha g]; exact z _
      | some x =>
        rw [do_aim2 ha g]
        exact do_if (DoOk.md (h.mod _ _ (fun x hx hr => ⟨n, rfl⟩))) (z _)
    · rw [do_aim0 ha]; exact z _
  | _ => exact ⟨h, rfl, rfl⟩
theorem touch_len (used : List (Int × Bool)) (p : Pl) : (touchOf used p).length ≤ used.length + 2 := by
  have h1 : ∀ (u : List (Int × Bool)) n b, (orN u n b).length ≤ u.length + 1 := fun u n b => putN_len _ _ _
  cases p with
  | aim y z =>
    have := h1 (orN used z false) y true
    have := h1 used z false
    show (orN (orN used z false) y true).length ≤ _
    omega
  | box x n => exact Nat.le_add_right _ _
  | move x y => exact Nat.le_succ_of_le (h1 _ _ _)
  | look x y => exact Nat.le_succ_of_le (h1 _ _ _)
  | lend x y => exact Nat.le_succ_of_le (h1 _ _ _)
  | «show» y => exact Nat.le_succ_of_le (h1 _ _ _)
  | set y n => exact Nat.le_succ_of_le (h1 _ _ _)
  | drop y => exact Nat.le_succ_of_le (h1 _ _ _)
  | fin y => exact Nat.le_succ_of_le (h1 _ _ _)
structure Inv2 (A : Nat) (s : Sx) : Prop where
  lk : Lk s.env
  e : s.env.length ≤ A
  m : s.made.length ≤ A
  u : s.used.length ≤ A
theorem Inv2.mono {A B : Nat} {s : Sx} (h : Inv2 A s) (le : A ≤ B) : Inv2 B s := ⟨h.lk, Nat.le_trans h.e le, Nat.le_trans h.m le, Nat.le_trans h.u le⟩
def Kept (s t : Sx) : Prop := ∀ n, n ∈ s.env.map (·.1) → n ∈ t.env.map (·.1)
theorem stPl_inv {ws : List Str} {deep : Int} {barred : List (Int × Bool)} {p : Pl} {s : Sx} {A : Nat} (h : Inv2 A s) : Inv2 (A + 2) (stPl ws deep barred p s).2 ∧ Kept s (stPl ws deep barred p s).2 := by
  have hu := touch_len s.used p
  have h0 : Inv2 (A + 2) { s with used := touchOf s.used p } := ⟨h.lk, by have := h.e; show s.env.length ≤ _; omega, by have := h.m; show s.made.length ≤ _; omega, by have := h.u; show (touchOf s.used p).length ≤ _; omega⟩
  unfold stPl
  split
  · split
    · cases hk : mkOf ws s.env deep p with
      | none => exact ⟨h0, fun n hn => hn⟩
      | some me =>
        obtain ⟨m, e⟩ := me
        obtain ⟨k1, k2, k3, k4⟩ := mk_lk h.lk hk
        refine ⟨⟨k1.put _ _ k4, ?_, ?_, h0.u⟩, fun n hn => putN_keys _ _ _ _ (by rw [k3]; exact hn)⟩
        · have := putN_len e (newOf p) m
          have := h.e
          show (putN e (newOf p) m).length ≤ _
          omega
        · have := putN_len s.made (newOf p) true
          have := h.m
          show (putN s.made (newOf p) true).length ≤ _
          omega
    · exact ⟨h0, fun n hn => hn⟩
  · obtain ⟨k1, k2, k3⟩ := do_lk (ws := ws) (p := p) h.lk
    exact ⟨⟨k1, by show (doOf ws s.env p).2.length ≤ _; rw [k2]; exact h0.e, h0.m, h0.u⟩, fun n hn => by show n ∈ (doOf ws s.env p).2.map _; rw [k3]; exact hn⟩
theorem join_lk {l r e : Env} {o : List (Int × Bool)} (hl : Lk l) (hr : Lk r) (he : Lk e) : Lk (e.map (joinN l r o)) := fun p hp hrole => by
  obtain ⟨y, hy, e1⟩ := List.mem_map.mp hp
  rw [← e1] at hrole ⊢
  unfold joinN at hrole ⊢
  cases g1 : getN l y.1 with
  | none => rw [g1] at hrole; exact he y hy hrole
  | some a =>
    cases g2 : getN r y.1 with
    | none => rw [g1, g2] at hrole; exact he y hy hrole
    | some b =>
      rw [g1, g2] at hrole
      dsimp only at hrole ⊢
      by_cases z : y.2.role = .own
      · rw [if_pos z] at hrole
        rw [show ({ y.2 with good := a.good && b.good } : Nm).role = y.2.role from rfl, z] at hrole
        cases hrole
      · rw [if_neg z] at hrole ⊢
        split at hrole
        · rename_i h1; rw [if_pos h1]; exact hr _ (getN_mem g2) hrole
        · rename_i h1; rw [if_neg h1]; exact hl _ (getN_mem g1) hrole
theorem join_keys (l r e : Env) (o : List (Int × Bool)) : (e.map (joinN l r o)).map (·.1) = e.map (·.1) := by
  rw [List.map_map]
  refine List.map_congr_left fun p _ => ?_
  simp only [Function.comp]
  unfold joinN
  split <;> rfl
mutual
theorem chkS_inv (ws : List Str) : ∀ (st : St) (deep : Int) (barred : List (Int × Bool)) (s : Sx) (A : Nat), Inv2 A s → Inv2 (A + 2 * st.cnt) (chkS ws deep barred st s).2 ∧ Kept s (chkS ws deep barred st s).2
  | .pl p, deep, barred, s, A, h => by
    rw [chkS]
    exact stPl_inv h
  | .block b, deep, barred, s, A, h => by
    rw [chkS]
    split
    · have ih := chkB_inv ws b (deep + 1) barred 0 s A h
      cases hc : chkB ws (deep + 1) barred 0 b s with
      | mk r t =>
        rw [hc] at ih
        obtain ⟨i1, i2⟩ := ih
        have i3 : Inv2 (A + 2 * (St.block b).cnt) t := i1.mono (by rw [St.cnt]; omega)
        refine ⟨⟨fun p hp => i3.lk p (List.mem_filter.mp hp).1, Nat.le_trans (List.length_filter_le _ _) i3.e, i3.m, i3.u⟩, fun n hn => ?_⟩
        show n ∈ (t.env.filter _).map _
        obtain ⟨q, hq, e⟩ := List.mem_map.mp (i2 n hn)
        refine List.mem_map.mpr ⟨q, List.mem_filter.mpr ⟨hq, ?_⟩, e⟩
        rw [hasN_keys, e]
        exact decide_eq_true hn
    · exact ⟨h.mono (Nat.le_add_right _ _), fun n hn => hn⟩
  | .hands a b, deep, barred, s, A, h => by
    have h1 : Inv2 A ⟨s.env, [], []⟩ := ⟨h.lk, h.e, Nat.zero_le _, Nat.zero_le _⟩
    have ia := chkB_inv ws a (deep + 1) [] 0 ⟨s.env, [], []⟩ A h1
    rw [chkS]
    have hS := h.mono (Nat.le_add_right A (2 * (St.hands a b).cnt))
    split
    · cases hc : chkB ws (deep + 1) [] 0 a ⟨s.env, [], []⟩ with
      | mk r t =>
        rw [hc] at ia
        cases r with
        | some q => exact ⟨hS, fun n hn => hn⟩
        | none =>
          have ib := chkB_inv ws b (deep + 1) t.made 0 ⟨s.env, [], []⟩ A h1
          dsimp only
          cases hd : chkB ws (deep + 1) t.made 0 b ⟨s.env, [], []⟩ with
          | mk r u =>
            rw [hd] at ib
            cases r with
            | some q => exact ⟨hS, fun n hn => hn⟩
            | none =>
              dsimp only
              split
              · exact ⟨hS, fun n hn => hn⟩
              · refine ⟨⟨join_lk ia.1.lk ib.1.lk h.lk, ?_, hS.m, hS.u⟩, fun n hn => ?_⟩
                · show (s.env.map _).length ≤ _
                  rw [List.length_map]; exact hS.e
                · show n ∈ (s.env.map _).map _
                  rw [join_keys]; exact hn
    · exact ⟨hS, fun n hn => hn⟩
theorem chkB_inv (ws : List Str) : ∀ (b : List St) (deep : Int) (barred : List (Int × Bool)) (k : Int) (s : Sx) (A : Nat), Inv2 A s → Inv2 (A + 2 * cntB b) (chkB ws deep barred k b s).2 ∧ Kept s (chkB ws deep barred k b s).2
  | [], deep, barred, k, s, A, h => by
    rw [chkB]
    exact ⟨h.mono (Nat.le_add_right _ _), fun n hn => hn⟩
  | st :: r, deep, barred, k, s, A, h => by
    have i1 := chkS_inv ws st deep barred s A h
    rw [chkB]
    cases hc : chkS ws deep barred st s with
    | mk q t =>
      rw [hc] at i1
      cases q with
      | some q => exact ⟨i1.1.mono (by rw [cntB]; omega), i1.2⟩
      | none =>
        have i2 := chkB_inv ws r deep barred (k + 1) t (A + 2 * st.cnt) i1.1
        refine ⟨i2.1.mono (by rw [cntB]; omega), fun n hn => i2.2 n (i1.2 n hn)⟩
end
end Ow

/-! P10: names put in and taken out; how the checker's heap stands. -/
namespace Ow
open PySem PySem.Spec PyProof.Rows L2 Evl
def wordOf : Pl → Str
  | .box _ _ => "box" | .move _ _ => "move" | .look _ _ => "look" | .lend _ _ => "lend" | .show _ => "show" | .set _ _ => "set" | .drop _ => "drop" | .fin _ => "end" | .aim _ _ => "aim"
def argsOf : Pl → List Int
  | .box x n => [x, n] | .move x y => [x, y] | .look x y => [x, y] | .lend x y => [x, y] | .show y => [y] | .set y n => [y, n] | .drop y => [y] | .fin y => [y] | .aim y z => [y, z]
theorem enc_pl (p : Pl) : p.enc = .tuple (.str (wordOf p) :: (argsOf p).map PyData.int) := by cases p <;> rfl
theorem enc_pl0 (p : Pl) : (St.pl p).enc = .tuple (.str (wordOf p) :: (argsOf p).map PyData.int) := by rw [St.enc, enc_pl]
theorem word_block (p : Pl) : ¬ wordOf p = "block" := by cases p <;> (dsimp only [wordOf]; decide +kernel)
theorem word_hands (p : Pl) : ¬ wordOf p = "hands" := by cases p <;> (dsimp only [wordOf]; decide +kernel)
theorem make_get (p : Pl) (h : isMake p = true) : atD (.str (wordOf p) :: (argsOf p).map PyData.int) 1 = some (.int (newOf p)) := by
  cases p <;> first | exact atD_1 | cases h
theorem word_make (p : Pl) : ([.str "box", .str "move", .str "look", .str "lend"] : List D).any (fun z => PyData.eqv z (.str (wordOf p))) = isMake p := by cases p <;> (dsimp only [wordOf, isMake]; decide +kernel)
mutual
theorem noL_enc : ∀ st : St, noL st.enc = true
  | .pl p => by rw [enc_pl0]; cases p <;> rfl
  | .block b => by
    rw [St.enc]
    show (noL (.str "block") && (noL (.tuple (encs b)) && true)) = true
    rw [show noL (.tuple (encs b)) = noLs (encs b) from rfl, noL_encs b]; rfl
  | .hands a b => by
    rw [St.enc]
    show (noL (.str "hands") && (noL (.tuple (encs a)) && (noL (.tuple (encs b)) && true))) = true
    rw [show noL (.tuple (encs a)) = noLs (encs a) from rfl, noL_encs a, show noL (.tuple (encs b)) = noLs (encs b) from rfl, noL_encs b]; rfl
theorem noL_encs : ∀ b : List St, noLs (encs b) = true
  | [] => rfl
  | s :: r => by
    rw [encs]
    show (noL s.enc && noLs (encs r)) = true
    rw [noL_enc s, noL_encs r]; rfl
end
theorem noL_body (b : List St) : noL (.tuple (encs b)) = true := noL_encs b
theorem encs_len (b : List St) : (encs b).length = b.length := by rw [encs_map, List.length_map]
theorem encs_get (b : List St) (i : Nat) : (encs b)[i]? = (b[i]?).map St.enc := by rw [encs_map, List.getElem?_map]
theorem cntB_len : ∀ b : List St, b.length ≤ cntB b
  | [] => Nat.le_refl _
  | s :: r => by
    have := cntB_len r
    have h : 1 ≤ s.cnt := by cases s <;> rw [St.cnt] <;> omega
    rw [cntB, List.length_cons]; omega
/-! ### a name put in -/
def putL (L : EL) (n : Int) (q : Addr) (x : Nm) : EL :=
  if (L.any fun y => decide (y.1 = n)) = true then L.map (fun y => if y.1 = n then (y.1, q, x) else y) else L ++ [(n, q, x)]
theorem putL_env (L : EL) (n : Int) (q : Addr) (x : Nm) : envL (putL L n q x) = putN (envL L) n x := by
  unfold putL putN
  have h : ((envL L).any fun p => decide (p.1 = n)) = L.any fun y => decide (y.1 = n) := by unfold envL; rw [List.any_map]; rfl
  rw [h]
  split
  · unfold envL
    rw [List.map_map, List.map_map]
    refine List.map_congr_left fun y _ => ?_
    simp only [Function.comp]
    split <;> rfl
  · unfold envL
    rw [List.map_append]; rfl
theorem putL_kv (L : EL) (n : Int) (q : Addr) (x : Nm) : envKV (putL L n q x) = putK (envKV L) (Sum.inl n) (.ref q) := by
  unfold putL putK
  have h : ((envKV L).any fun kv => decide (kv.1 = (Sum.inl n : L2.Key))) = L.any fun y => decide (y.1 = n) := by
    unfold envKV
    rw [List.any_map]
    congr 1
    funext y
    simp [Function.comp]
  rw [h]
  split
  · unfold envKV
    rw [List.map_map, List.map_map]
    refine List.map_congr_left fun y _ => ?_
    simp only [Function.comp]
    by_cases e : y.1 = n
    · rw [if_pos e, if_pos (congrArg Sum.inl e)]
    · rw [if_neg e, if_neg (fun z => e (Sum.inl.inj z))]
  · unfold envKV
    rw [List.map_append]; rfl
theorem putL_mem {L : EL} {n : Int} {q : Addr} {x : Nm} {y : Int × Addr × Nm} (h : y ∈ putL L n q x) : y = (n, q, x) ∨ (y ∈ L ∧ y.1 ≠ n) := by
  unfold putL at h
  split at h
  · obtain ⟨z, hz, e⟩ := List.mem_map.mp h
    by_cases w : z.1 = n
    · rw [if_pos w] at e; left; rw [← e, w]
    · rw [if_neg w] at e; subst e; exact .inr ⟨hz, w⟩
  · rename_i hn
    rcases List.mem_append.mp h with h1 | h1
    · refine .inr ⟨h1, fun w => hn (List.any_eq_true.mpr ⟨y, h1, decide_eq_true w⟩)⟩
    · exact .inl (by simpa using h1)
theorem nodup_map_of {α β : Type} (f : α → β) : ∀ {l : List α}, l.Nodup → (∀ x ∈ l, ∀ y ∈ l, f x = f y → x = y) → (l.map f).Nodup
  | [], _, _ => List.nodup_nil
  | a :: l, h, hi => by
    rw [List.nodup_cons] at h
    rw [List.map_cons, List.nodup_cons]
    refine ⟨fun z => ?_, nodup_map_of f h.2 fun x hx y hy => hi x (List.mem_cons_of_mem _ hx) y (List.mem_cons_of_mem _ hy)⟩
    obtain ⟨y, hy, e⟩ := List.mem_map.mp z
    have := hi y (List.mem_cons_of_mem _ hy) a List.mem_cons_self e
    rw [this] at hy
    exact h.1 hy
theorem putL_keys {L : EL} {n : Int} {q : Addr} {x : Nm} (h : (L.map (·.1)).Nodup) : ((putL L n q x).map (·.1)).Nodup := by
  unfold putL
  split
  · rw [List.map_map]
    have : L.map ((·.1) ∘ fun y => if y.1 = n then (y.1, q, x) else y) = L.map (·.1) := List.map_congr_left fun y _ => by
      simp only [Function.comp]
      split <;> rfl
    rw [this]; exact h
  · rename_i hn
    rw [List.map_append]
    refine List.nodup_append.mpr ⟨h, by simp, fun a ha b hb z => ?_⟩
    have hb2 : b = n := by simpa using hb
    obtain ⟨y, hy, e⟩ := List.mem_map.mp ha
    exact hn (List.any_eq_true.mpr ⟨y, hy, decide_eq_true (by rw [e, z, hb2])⟩)
theorem nodup_of_map {α β : Type} (f : α → β) : ∀ {l : List α}, (l.map f).Nodup → l.Nodup
  | [], _ => List.nodup_nil
  | a :: l, h => by
    rw [List.map_cons, List.nodup_cons] at h
    exact List.nodup_cons.mpr ⟨fun z => h.1 (List.mem_map.mpr ⟨a, z, rfl⟩), nodup_of_map f h.2⟩
section
variable {H H' : Hp} {d q : Addr} {L : EL} {n : Int} {x : Nm}
theorem EnvAt.put (E : EnvAt H d L) (hq : H q = some (.dK (nmKV x))) (hd : q ≠ d) (hn : ∀ y ∈ L, y.1 ≠ n → y.2.1 ≠ q) (hl : L.length < 20000) : EnvAt (upd H d (.dK (putK (envKV L) (Sum.inl n) (.ref q)))) d (putL L n q x) := by
  have kn := putL_keys (n := n) (q := q) (x := x) E.keys
  refine ⟨by rw [putL_kv]; exact upd_same, fun y hy => ?_, kn, ?_, ?_⟩
  · rcases putL_mem hy with e | ⟨h1, h2⟩
    · rw [e, upd_ne hd]; exact hq
    · have : y.2.1 ≠ d := fun z => E.dne (by rw [← z]; exact List.mem_map.mpr ⟨_, h1, rfl⟩)
      rw [upd_ne this]; exact E.each y h1
  · refine nodup_map_of _ (nodup_of_map _ kn) fun a ha b hb e => ?_
    rcases putL_mem ha with e1 | ⟨h1, h2⟩ <;> rcases putL_mem hb with e3 | ⟨h3, h4⟩
    · rw [e1, e3]
    · rw [e1] at e; exact absurd e.symm (hn b h3 h4)
    · rw [e3] at e; exact absurd e (hn a h1 h2)
    · exact nodup_at (·.2.1) E.adrs h1 h3 e
  · unfold putL
    split
    · rw [List.length_map]; exact E.small
    · rw [List.length_append]; exact hl
theorem putL_adr {p : Addr} (h : p ∈ eadr d (putL L n q x)) : p ∈ eadr d L ∨ p = q := by
  rcases List.mem_cons.mp h with z | z
  · left; rw [z]; exact List.mem_cons_self
  · obtain ⟨y, hy, e⟩ := List.mem_map.mp z
    rcases putL_mem hy with e1 | ⟨h1, h2⟩
    · right; rw [← e, e1]
    · left; rw [← e]; exact List.mem_cons_of_mem _ (List.mem_map.mpr ⟨y, h1, rfl⟩)
/-! ### a name taken out -/
def dropL (L : EL) (n : Int) : EL := L.filter fun y => decide (y.1 ≠ n)
theorem dropL_kv (L : EL) (n : Int) : dropK (envKV L) (Sum.inl n : L2.Key) = envKV (dropL L n) := by
  unfold dropK dropL envKV
  rw [List.filter_map]
  congr 1
  refine List.filter_congr fun y _ => ?_
  simp [Function.comp]
theorem dropL_env (L : EL) (n : Int) : envL (dropL L n) = (envL L).filter fun p => decide (p.1 ≠ n) := by
  unfold dropL envL
  rw [List.filter_map]
  rfl
theorem dropL_adr {p : Addr} (h : p ∈ eadr d (dropL L n)) : p ∈ eadr d L := by
  rcases List.mem_cons.mp h with z | z
  · rw [z]; exact List.mem_cons_self
  · obtain ⟨y, hy, e⟩ := List.mem_map.mp z
    rw [← e]; exact List.mem_cons_of_mem _ (List.mem_map.mpr ⟨y, (List.mem_filter.mp hy).1, rfl⟩)
theorem filt_nodup {α β : Type} {f : α → β} {p : α → Bool} {l : List α} (h : (l.map f).Nodup) : ((l.filter p).map f).Nodup := by
  exact List.Pairwise.sublist (List.Sublist.map f (List.filter_sublist (l := l) (p := p))) h
theorem EnvAt.drop (E : EnvAt H d L) : EnvAt (upd H d (.dK (dropK (envKV L) (Sum.inl n)))) d (dropL L n) := by
  refine ⟨by rw [← dropL_kv]; exact upd_same, fun y hy => ?_, filt_nodup E.keys, filt_nodup E.adrs, Nat.le_trans (List.length_filter_le _ _) E.small⟩
  have h1 := (List.mem_filter.mp hy).1
  have : y.2.1 ≠ d := fun z => E.dne (by rw [← z]; exact List.mem_map.mpr ⟨_, h1, rfl⟩)
  rw [upd_ne this]; exact E.each y h1
end
section
variable {K : PySem.W.Frag} {σ : L2.St} {H H' : Hp} {ta tb te td ty tx tv : TE} {tr : TA} {t : TT} {d q : Addr} {L : EL} {n : Int} {x : Nm} {i j : Nat} {Dn : Ends} {tz : TS} {b : Bool}
/-- env.pop(n, None) -/
theorem s_pop (E : EnvAt H d L) (hi : σ[i]? = some (some (.ref d))) (hj : σ[j]? = some (some (.int n))) (k : ∀ H', ExB [d] H H' → EnvAt H' d (dropL L n) → Dn.nx σ H') : tDrop (tDPop2 (tVar i) (tVar j) (tC .non)) Dn σ H := by
  refine ⟨_, hi, d, rfl, .inl ⟨_, .inl E.at_⟩, _, hj, envKV L, Sum.inl n, E.at_, rfl, fun v hv => ?_, fun hv => ?_⟩
  · exact k _ (.upd List.mem_cons_self) E.drop
  · have e : dropL L n = L := by
      unfold dropL
      refine List.filter_eq_self.mpr fun y hy => decide_eq_true fun z => ?_
      have h1 := mem_get E.keys hy
      rw [z] at h1
      obtain ⟨q, _, h2⟩ := env_some h1
      rw [h2] at hv; cases hv
    exact k H (ExB.refl _ _) (by rw [e]; exact E)
theorem s_asgT {g : TG} {vs : List V} (h : EvA tr σ H vs) (k : ∀ H1, Ex H H1 → ∀ l, H1 l = none → g (.ref l) σ (upd H1 l (.tup vs)) Dn.nx) (hl : vs.length ≤ sizeLine := by show 2 ≤ sizeLine; decide) : tAsg (tTup tr) g Dn σ H :=
  h H (Ex.refl H) _ fun H1 e => ⟨hl, fun l hn => k H1 e l hn⟩
/-- env[n], made[n] = a new name, True -/
theorem s_newname {u : Addr} {l : BL} (E : EnvAt H d L) (hq : H q = some (.dK (nmKV x))) (hd : q ≠ d) (hn : ∀ y ∈ L, y.2.1 ≠ q) (hl : L.length < 18000) (hu : H u = some (.dK (blKV l))) (hl2 : l.length ≤ 18000) (ud : u ∉ eadr d L) (uq : u ≠ q)
    (h1 : ∀ H1, ExB [d] H H1 → Ev ty σ H1 (.int n)) (hi : σ[i]? = some (some (.ref d))) (hj : σ[j]? = some (some (.ref u))) (hx : Ev tx σ H (.ref q))
    (k : ∀ H', ExB [d, u] H H' → EnvAt H' d (putL L n q x) → H' u = some (.dK (blKV (putN l n true))) → Dn.nx σ H') :
    tAsg (tTup (tCons tx (tCons (tC (.bl true)) tNil))) (gTup K 2 (gCons (gSub (tVar i) ty rSetD) (gCons (gSub (tVar j) ty rSetD) gNil))) Dn σ H := by
  have hA : EvA (tCons tx (tCons (tC (.bl true)) tNil)) σ H [.ref q, .bl true] := ea_cons hx (ea_cons ev_c ea_nil)
  refine s_asgT hA fun H1 e1 p hp => ⟨p, [.ref q, .bl true], rfl, st_of upd_same, rfl, _, _, rfl, _, hi, ?_⟩
  have e2 : Ex H (upd H1 p (.tup [.ref q, .bl true])) := e1.trans (Ex.new hp)
  refine (h1 _ (.of e2)) _ (Ex.refl _) _ fun H2 e3 => ?_
  have e03 := e2.trans e3
  have E2 := E.ex e03
  refine rset (k := Sum.inl n) E2.at_ (by unfold envKV; rw [List.length_map]; exact Nat.lt_trans hl (by decide)) ⟨_, _, rfl, _, hj, ?_⟩
  have E3 := E2.put (n := n) (e03 _ _ hq) hd (fun y hy _ => hn y hy) (by omega)
  have b3 : ExB [d] H (upd H2 d (.dK (putK (envKV L) (Sum.inl n) (.ref q)))) := ExB.trans (.of e03) (.upd List.mem_cons_self)
  refine (h1 _ b3) _ (Ex.refl _) _ fun H4 e4 => ?_
  have udd : u ≠ d := fun z => ud (by rw [z]; exact List.mem_cons_self)
  have u4 : H4 u = some (.dK (blKV l)) := e4 _ _ (b3 u _ (by simpa using udd) hu)
  refine rset (k := Sum.inl n) u4 (by unfold blKV; rw [List.length_map]; exact Nat.lt_of_le_of_lt hl2 (by decide)) ⟨rfl, ?_⟩
  rw [putK_bl]
  refine k _ ?_ ((E3.ex e4).keep (S := [u]) (.upd List.mem_cons_self) (fun a ha z => ?_)) upd_same
  · refine ExB.trans (ExB.trans (b3.mono (fun a ha => by rw [List.mem_singleton.mp ha]; exact List.mem_cons_self)) (.of e4)) (.upd (by simp))
  · have z2 := List.mem_singleton.mp z
    subst z2
    rcases putL_adr ha with h | h
    · exact ud h
    · exact uq h
end
/-! ### the checker's heap -/
structure ChkIn (H : Hp) (d bar made used : Addr) (L : EL) (s : Sx) (barred : BL) : Prop where
  E : EnvAt H d L
  env : envL L = s.env
  m : H made = some (.dK (blKV s.made))
  u : H used = some (.dK (blKV s.used))
  b : H bar = some (.dK (blKV barred))
  md : made ∉ eadr d L
  ud : used ∉ eadr d L
  bd : bar ∉ eadr d L
  mu : made ≠ used
  bm : bar ≠ made
  bu : bar ≠ used
structure ChkAt (H0 : Hp) (d made used : Addr) (L0 : EL) (s : Sx) (H : Hp) (L : EL) : Prop where
  E : EnvAt H d L
  env : envL L = s.env
  m : H made = some (.dK (blKV s.made))
  u : H used = some (.dK (blKV s.used))
  ex : ExB (made :: used :: eadr d L0) H0 H
  new : ∀ p ∈ eadr d L, p ∈ eadr d L0 ∨ H0 p = none
theorem ExB.chain {S T : List Addr} {H0 H H1 : Hp} (a : ExB S H0 H) (b : ExB T H H1) (h : ∀ p ∈ T, p ∈ S ∨ H0 p = none) : ExB S H0 H1 := fun x o n e => by
  refine b x o (fun hx => ?_) (a x o n e)
  rcases h x hx with h1 | h1
  · exact n h1
  · rw [e] at h1; cases h1
section
variable {H0 H H1 : Hp} {d bar made used : Addr} {L0 L L1 : EL} {s t : Sx} {barred : BL}
theorem ChkIn.at_ (c : ChkIn H d bar made used L s barred) : ChkAt H d made used L s H L := ⟨c.E, c.env, c.m, c.u, ExB.refl _ _, fun p h => .inl h⟩
/-- while it stands: what the callee asks -/
theorem ChkIn.on (c : ChkIn H0 d bar made used L0 s barred) (a : ChkAt H0 d made used L0 t H L) : ChkIn H d bar made used L t barred := by
  have f : ∀ {p : Addr} {o : HO}, H0 p = some o → p ∉ eadr d L0 → p ∉ eadr d L := fun hp hn h => by
    rcases a.new _ h with h1 | h1
    · exact hn h1
    · rw [hp] at h1; cases h1
  refine ⟨a.E, a.env, a.m, a.u, a.ex bar _ ?_ c.b, f c.m c.md, f c.u c.ud, f c.b c.bd, c.mu, c.bm, c.bu⟩
  intro h
  rcases List.mem_cons.mp h with h | h
  · exact c.bm h
  · rcases List.mem_cons.mp h with h | h
    · exact c.bu h
    · exact c.bd h
theorem ChkAt.trans (a : ChkAt H0 d made used L0 s H L) (b : ChkAt H d made used L t H1 L1) : ChkAt H0 d made used L0 t H1 L1 := by
  have f : ∀ {p : Addr}, p ∉ (made :: used :: eadr d L0) → H p = none → H0 p = none := fun hn h => a.ex.fresh hn h
  refine ⟨b.E, b.env, b.m, b.u, a.ex.chain b.ex fun p hp => ?_, fun p hp => ?_⟩
  · rcases List.mem_cons.mp hp with h | h
    · left; rw [h]; exact List.mem_cons_self
    · rcases List.mem_cons.mp h with h | h
      · left; rw [h]; exact List.mem_cons_of_mem _ List.mem_cons_self
      · rcases a.new p h with h | h
        · exact .inl (List.mem_cons_of_mem _ (List.mem_cons_of_mem _ h))
        · exact .inr h
  · rcases b.new p hp with h | h
    · exact a.new p h
    · by_cases z : p ∈ eadr d L0
      · exact .inl z
      · by_cases z1 : p = made
        · rw [z1, a.m] at h; cases h
        · by_cases z2 : p = used
          · rw [z2, a.u] at h; cases h
          · exact .inr (f (by simp only [List.mem_cons, not_or]; exact ⟨z1, z2, z⟩) h)
theorem ChkAt.exx (a : ChkAt H0 d made used L0 s H L) (e : Ex H H1) : ChkAt H0 d made used L0 s H1 L := ⟨a.E.ex e, a.env, e _ _ a.m, e _ _ a.u, ExB.trans a.ex (.of e), a.new⟩
theorem ChkIn.notup (c : ChkIn H0 d bar made used L0 s barred) : ∀ p ∈ made :: used :: eadr d L0, ∀ xs, ¬ Rd H0 p (.tup xs) := fun p hp => by
  rcases List.mem_cons.mp hp with h | h
  · rw [h]; exact not_tup_dK c.m
  · rcases List.mem_cons.mp h with h | h
    · rw [h]; exact not_tup_dK c.u
    · exact c.E.notup p h
theorem ChkIn.tex (c : ChkIn H0 d bar made used L0 s barred) (a : ChkAt H0 d made used L0 t H L) : TEx H0 H := a.ex.tex c.notup
end
def placeD : Option (List Int) → D
  | none => .none
  | some q => .tuple (q.map PyData.int)
theorem noL_ints : ∀ q : List Int, noLs (q.map PyData.int) = true
  | [] => rfl
  | n :: q => by
    show (noL (.int n) && noLs (q.map PyData.int)) = true
    rw [noL_ints q]; rfl
theorem noL_place (r : Option (List Int)) : noL (placeD r) = true := by
  cases r with
  | none => rfl
  | some q => exact noL_ints q
theorem noL_strs : ∀ q : List Str, noL (.tuple (q.map PyData.str)) = true := fun q => by
  show noLs _ = true
  induction q with
  | nil => rfl
  | cons n q ih =>
    show (noL (.str n) && noLs (q.map PyData.str)) = true
    rw [ih]; rfl
end Ow

/-! P11: rules that the checker's walk asks. -/
namespace Ow
open PySem PySem.Spec PyProof.Rows L2 Evl
mutual
theorem lenS (ws : List Str) : ∀ (st : St) (deep : Int) (barred : List (Int × Bool)) (s : Sx) (q : List Int) (t : Sx), chkS ws deep barred st s = (some q, t) → q.length + 1 ≤ 2 * st.cnt
  | .pl p, deep, barred, s, q, t, h => by
    rw [chkS] at h
    have : q = [] := by
      unfold stPl at h
      split at h
      · split at h
        · split at h
          · cases h
          · cases h; rfl
        · cases h; rfl
      · split at h
        · cases h
        · cases h; rfl
    rw [this]
    exact Nat.le_succ _
  | .block b, deep, barred, s, q, t, h => by
    rw [chkS] at h
    split at h
    · cases hc : chkB ws (deep + 1) barred 0 b s with
      | mk r u =>
        rw [hc] at h
        injection h with h1 _
        subst h1
        have := lenB ws b _ _ _ _ _ _ hc
        rw [St.cnt]; omega
    · cases h
      rw [St.cnt]
      show 0 + 1 ≤ _
      omega
  | .hands a b, deep, barred, s, q, t, h => by
    rw [chkS] at h
    rw [St.cnt]
    split at h
    · cases hc : chkB ws (deep + 1) [] 0 a ⟨s.env, [], []⟩ with
      | mk r u =>
        rw [hc] at h
        cases r with
        | some q1 =>
          have h2 := lenB ws a _ _ _ _ _ _ hc
          injection h with h1 _
          injection h1 with h1
          rw [← h1, List.length_cons]; omega
        | none =>
          dsimp only at h
          cases hd : chkB ws (deep + 1) u.made 0 b ⟨s.env, [], []⟩ with
          | mk r w =>
            rw [hd] at h
            cases r with
            | some q1 =>
              have h2 := lenB ws b _ _ _ _ _ _ hd
              injection h with h1 _
              injection h1 with h1
              rw [← h1, List.length_cons]; omega
            | none =>
              dsimp only at h
              split at h
              · injection h with h1 _
                injection h1 with h1
                rw [← h1]
                show 0 + 1 ≤ _
                omega
              · cases h
    · cases h
      show 0 + 1 ≤ _
      omega
theorem lenB (ws : List Str) : ∀ (b : List St) (deep : Int) (barred : List (Int × Bool)) (k : Int) (s : Sx) (q : List Int) (t : Sx), chkB ws deep barred k b s = (some q, t) → q.length ≤ 2 * cntB b
  | [], deep, barred, k, s, q, t, h => by rw [chkB] at h; cases h
  | st :: r, deep, barred, k, s, q, t, h => by
    rw [chkB] at h
    rw [cntB]
    cases hc : chkS ws deep barred st s with
    | mk o u =>
      rw [hc] at h
      cases o with
      | some q1 =>
        have h2 := lenS ws st _ _ _ _ _ hc
        injection h with h1 _
        injection h1 with h1
        rw [← h1, List.length_cons]; omega
      | none =>
        have h2 := lenB ws r _ _ _ _ _ _ h
        omega
end
section
variable {K : PySem.W.Frag} {σ : L2.St} {H H' : Hp} {ta tb te td ty tx tv tl : TE} {tr : TA} {t : TT} {d q : Addr} {L : EL} {n : Int} {x : Nm} {i j : Nat} {Dn : Ends} {tz : TS} {b : Bool} {sp : Sp} {E : XK} {vs : List V} {g : TG}
theorem q_asgC (h : EvA tr σ H vs) (k : ∀ H1, Ex H H1 → sp vs H1 (fun v H2 => tz Dn (σ.set i (some v)) H2) E) : tSeq (tAsg (tCall sp [] E tr) (gName i)) tz Dn σ H := h H (Ex.refl H) _ fun H1 e1 => by
  show sp (vs ++ []) H1 (fun v H2 => tz Dn (σ.set i (some v)) H2) E
  rw [List.append_nil]
  exact k H1 e1
theorem s_asgC (h : EvA tr σ H vs) (k : ∀ H1, Ex H H1 → sp vs H1 (fun v H2 => Dn.nx (σ.set i (some v)) H2) E) : tAsg (tCall sp [] E tr) (gName i) Dn σ H := h H (Ex.refl H) _ fun H1 e1 => by
  show sp (vs ++ []) H1 (fun v H2 => Dn.nx (σ.set i (some v)) H2) E
  rw [List.append_nil]
  exact k H1 e1
theorem q_callC (h : EvA tr σ H vs) (k : ∀ H1, Ex H H1 → sp vs H1 (fun _ H2 => tz Dn σ H2) E) : tSeq (tDrop (tCall sp [] E tr)) tz Dn σ H := h H (Ex.refl H) _ fun H1 e1 => by
  show sp (vs ++ []) H1 (fun _ H2 => tz Dn σ H2) E
  rw [List.append_nil]
  exact k H1 e1
theorem s_callC (h : EvA tr σ H vs) (k : ∀ H1, Ex H H1 → sp vs H1 (fun _ H2 => Dn.nx σ H2) E) : tDrop (tCall sp [] E tr) Dn σ H := h H (Ex.refl H) _ fun H1 e1 => by
  show sp (vs ++ []) H1 (fun _ H2 => Dn.nx σ H2) E
  rw [List.append_nil]
  exact k H1 e1
theorem s_retC (h : EvA tr σ H vs) (k : ∀ H1, Ex H H1 → sp vs H1 (fun v H2 => Dn.rt v H2) E) : tRet (tCall sp [] E tr) Dn σ H := h H (Ex.refl H) _ fun H1 e1 => by
  show sp (vs ++ []) H1 (fun v H2 => Dn.rt v H2) E
  rw [List.append_nil]
  exact k H1 e1
theorem q_asgIf (h : EvT t σ H b) (h1 : b = true → ∀ H1, Ex H H1 → tSeq (tAsg ta g) tz Dn σ H1) (h2 : b = false → ∀ H1, Ex H H1 → tSeq (tAsg tb g) tz Dn σ H1) : tSeq (tAsg (tIf t ta tb) g) tz Dn σ H := h H (Ex.refl H) _ fun H1 e => by
  cases b with
  | true => exact iteT (h1 rfl H1 e)
  | false => exact iteF (h2 rfl H1 e)
theorem s_asgIf (h : EvT t σ H b) (h1 : b = true → ∀ H1, Ex H H1 → tAsg ta g Dn σ H1) (h2 : b = false → ∀ H1, Ex H H1 → tAsg tb g Dn σ H1) : tAsg (tIf t ta tb) g Dn σ H := h H (Ex.refl H) _ fun H1 e => by
  cases b with
  | true => exact iteT (h1 rfl H1 e)
  | false => exact iteF (h2 rfl H1 e)
theorem el_ints {ns : List Int} (h : EvN K te σ H (ns.map PyData.int)) : EvL te σ H (ns.map V.int) := fun H1 e Q q => h H1 e Q fun p us H2 hp e2 h2 a => q p H2 hp e2 (by rw [dpa_ints_inv a] at h2; exact h2)
theorem ed_places {r : Option (List Int)} : placeD (some []) = .tuple [] := rfl
theorem isN_place (r : Option (List Int)) : isN (placeD r) = r.isNone := by cases r <;> rfl
/-- if inner is not None: return (k,) + inner -/
theorem s_fin {v : V} {k : Int} {r : Option (List Int)} (h10 : σ[i]? = some (some v)) (h7 : σ[j]? = some (some (.int k))) (hv : Dp K H v (placeD r)) (hl : ∀ q, r = some q → q.length ≤ 90000)
    (hn : r = none → ∀ H1, Ex H H1 → Dn.nx σ H1) (hs : ∀ q, r = some q → ∀ v' H1, Ex H H1 → Dp K H1 v' (.tuple ((k :: q).map PyData.int)) → Dn.rt v' H1) :
    tIfS (tTest (tOp (fun x y H Q => y = .non ∧ Q (.bl (!decide (x = .non))) H) (tVar i) (tC .non))) (tRet (tOp (rCatA K) (tTup (tCons (tVar j) tNil)) (tVar i))) tNext Dn σ H := by
  have kis : KIs K := ⟨⟩
  have ht : EvT (tTest (tOp (fun x y H Q => y = .non ∧ Q (.bl (!decide (x = .non))) H) (tVar i) (tC .non))) σ H (!r.isNone) := et_is (et_edK kis (ed_op (ed_var h10 hv) ed_non rd_notN)) (by rw [isN_place])
  cases r with
  | none => exact s_when (b := false) ht (fun z => by cases z) (fun _ H1 e1 => hn rfl H1 e1)
  | some q =>
    refine s_when (b := true) ht (fun _ H1 e1 => ?_) (fun z => by cases z)
    have hq := hl q rfl
    exact s_retD (K := K) (d := .tuple ((k :: q).map PyData.int)) (ed_op (ed_tup (eds_cons (ed_var h7 (.int k)) eds_nil) (by simp)) (ed_var h10 (Dpx hv e1)) (rd_catA (ds := [.int k]) (es := q.map PyData.int) (by rw [List.length_map]; simp; omega))) (fun v' H2 e2 hv2 => hs q rfl v' H2 (e1.trans e2) hv2)
end
/-! ### names of a block go -/
theorem dropL_fold : ∀ (ns : List Int) (L : EL), ns.foldl dropL L = L.filter fun y => decide (y.1 ∉ ns)
  | [], L => by
    rw [List.foldl_nil]
    symm
    exact List.filter_eq_self.mpr fun y _ => by simp
  | n :: ns, L => by
    rw [List.foldl_cons, dropL_fold ns]
    unfold dropL
    rw [List.filter_filter]
    refine List.filter_congr fun y _ => ?_
    simp [Bool.and_comm]
theorem fold_take {α β : Type} (f : β → α → β) (z : β) (l : List α) (i : Nat) (a : α) (h : l[i]? = some a) : (l.take (i + 1)).foldl f z = f ((l.take i).foldl f z) a := by
  rw [List.take_add_one, h, List.foldl_append]; rfl
section
variable {K : PySem.W.Frag} {σ : L2.St} {H H' : Hp} {ta tb te td ty tx tv tl : TE} {tr : TA} {t : TT} {d q : Addr} {L : EL} {n : Int} {x : Nm} {i j : Nat} {Dn : Ends} {tz : TS} {b : Bool} {sp : Sp} {E : XK} {vs : List V} {g : TG}
theorem q_asgB (h : EvA tr σ H vs) (k : ∀ H1, Ex H H1 → ∀ Q : VK, (∀ b H2, (∀ x H3, Ex H2 H3 → Dp K H3 x (placeD (if b = true then none else some [])) → tz Dn (σ.set i (some x)) H3) → Q (.bl b) H2) → sp vs H1 Q E) : tSeq (tAsg (tIf (tB (tCall sp [] E tr)) (tC .non) (tTup tNil)) (gName i)) tz Dn σ H := by
  refine h H (Ex.refl H) _ fun H1 e1 => ?_
  show sp (vs ++ []) H1 _ E
  rw [List.append_nil]
  refine k H1 e1 _ (fun b H2 kk => ⟨b, rfl, ?_⟩)
  cases b with
  | true => exact iteT (kk .non H2 (Ex.refl H2) .non)
  | false => exact iteF ⟨Nat.zero_le _, fun p hp => kk (.ref p) _ (Ex.new hp) (dp_tup upd_same .nil)⟩
theorem et_isNV {v : V} (h : σ[i]? = some (some v)) : EvT (tTest (tOp (fun x y H Q => y = .non ∧ Q (.bl (decide (x = .non))) H) (tVar i) (tC .non))) σ H (decide (v = .non)) := fun H1 e1 Q q => ⟨v, h, rfl, decide (v = .non), rfl, q H1 (Ex.refl H1)⟩
theorem et_notNV {v : V} (h : σ[i]? = some (some v)) : EvT (tTest (tOp (fun x y H Q => y = .non ∧ Q (.bl (!decide (x = .non))) H) (tVar i) (tC .non))) σ H (!decide (v = .non)) := fun H1 e1 Q q => ⟨v, h, rfl, !decide (v = .non), rfl, q H1 (Ex.refl H1)⟩
end
section
variable {H0 H H1 : Hp} {d bar made used : Addr} {L0 L L1 : EL} {s t : Sx} {barred : BL} {S : List Addr}
theorem ChkIn.step (C : ChkIn H d bar made used L s barred) (b : ExB S H H1) (hS : ∀ p ∈ S, p = made ∨ p = used ∨ p ∈ eadr d L) (E1 : EnvAt H1 d L1) (env1 : envL L1 = t.env) (m1 : H1 made = some (.dK (blKV t.made))) (u1 : H1 used = some (.dK (blKV t.used))) (new : ∀ p ∈ eadr d L1, p ∈ eadr d L ∨ H p = none) : ChkAt H d made used L t H1 L1 :=
  ⟨E1, env1, m1, u1, b.mono fun p hp => by
    rcases hS p hp with h | h | h
    · rw [h]; exact List.mem_cons_self
    · rw [h]; exact List.mem_cons_of_mem _ List.mem_cons_self
    · exact List.mem_cons_of_mem _ (List.mem_cons_of_mem _ h), new⟩
theorem eadr_same {L L' : EL} (h : L'.map (·.2.1) = L.map (·.2.1)) : eadr d L' = eadr d L := by unfold eadr; rw [h]
end
theorem dep_mem : ∀ {b : List St} {i : Nat} {st : St}, b[i]? = some st → st.dep ≤ deps b
  | s :: r, 0, st, h => by
    rw [List.getElem?_cons_zero] at h
    cases h
    rw [deps]; exact Nat.le_max_left _ _
  | s :: r, i + 1, st, h => by
    rw [List.getElem?_cons_succ] at h
    rw [deps]; exact Nat.le_trans (dep_mem h) (Nat.le_max_right _ _)
theorem stPl_make0 {ws : List Str} {deep : Int} {barred : List (Int × Bool)} {p : Pl} {s : Sx} (hm : isMake p = true) (h : (!hasN s.env (newOf p) && !hasN barred (newOf p)) = false) : stPl ws deep barred p s = (some [], { s with used := touchOf s.used p }) := by
  unfold stPl
  rw [if_pos hm, if_neg (by rw [h]; decide)]
theorem stPl_make1 {ws : List Str} {deep : Int} {barred : List (Int × Bool)} {p : Pl} {s : Sx} (hm : isMake p = true) (hk : mkOf ws s.env deep p = none) : stPl ws deep barred p s = (some [], { s with used := touchOf s.used p }) := by
  unfold stPl
  rw [if_pos hm]
  split
  · rw [hk]
  · rfl
theorem stPl_make2 {ws : List Str} {deep : Int} {barred : List (Int × Bool)} {p : Pl} {s : Sx} {m : Nm} {e : Env} (hm : isMake p = true) (h : (!hasN s.env (newOf p) && !hasN barred (newOf p)) = true) (hk : mkOf ws s.env deep p = some (m, e)) : stPl ws deep barred p s = (none, ⟨putN e (newOf p) m, putN s.made (newOf p) true, touchOf s.used p⟩) := by
  unfold stPl
  rw [if_pos hm, if_pos h, hk]
theorem stPl_do {ws : List Str} {deep : Int} {barred : List (Int × Bool)} {p : Pl} {s : Sx} (hm : isMake p = false) : stPl ws deep barred p s = (if (doOf ws s.env p).1 = true then none else some [], { s with env := (doOf ws s.env p).2, used := touchOf s.used p }) := by
  unfold stPl
  rw [if_neg (by rw [hm]; decide)]
end Ow

/-! P12: the end of a block; hands as one step. -/
namespace Ow
open PySem PySem.Spec PyProof.Rows L2 Evl
theorem any_int (m : Int) : ∀ ss : List Int, ((ss.map PyData.int).any fun z => PyData.eqv z (.int m)) = decide (m ∈ ss)
  | [] => rfl
  | a :: ss => by
    rw [List.map_cons, List.any_cons, any_int m ss]
    have : PyData.eqv (.int a) (.int m) = decide (a = m) := by
      have e1 : PyData.eqv (.int a) (.int m) = (a == m) := by simp only [PyData.eqv]
      rw [e1]; by_cases z : a = m <;> simp [z]
    rw [this]
    by_cases z : a = m
    · subst z; simp
    · have z2 : ¬ m = a := fun w => z w.symm
      simp [z, z2]
theorem dpa_ints {K : PySem.W.Frag} {H : Hp} : ∀ ns : List Int, DpAll K H (ns.map V.int) (ns.map PyData.int)
  | [] => .nil
  | n :: ns => .cons (.int n) (dpa_ints ns)
theorem flat_ints : ∀ ss : List Int, (ss.map PyData.int).all flatD = true
  | [] => rfl
  | a :: ss => by
    rw [List.map_cons, List.all_cons, flat_ints ss]; rfl
theorem filt_ints (ns : List Int) : ∀ xs : List Int, (((xs.map PyData.int).filter fun z => !((ns.map PyData.int).any fun y => PyData.eqv y z)).map id) = (xs.filter fun m => !decide (m ∈ ns)).map PyData.int
  | [] => rfl
  | x :: xs => by
    have ih := filt_ints ns xs
    rw [List.map_cons, List.filter_cons, List.filter_cons, any_int]
    cases h : decide (x ∈ ns) with
    | true => simpa [h] using ih
    | false => simpa [h] using ih
theorem filt_envL (L : EL) (p : Int → Bool) : envL (L.filter fun y => p y.1) = (envL L).filter fun z => p z.1 := by
  unfold envL
  rw [List.filter_map]
  rfl
theorem block_env {L4 : EL} {e : Env} : envL (L4.filter fun y => decide (y.1 ∉ ((envL L4).map (·.1)).filter fun m => !decide (m ∈ e.map (·.1)))) = (envL L4).filter fun p => hasN e p.1 := by
  rw [filt_envL L4 fun n => decide (n ∉ ((envL L4).map (·.1)).filter fun m => !decide (m ∈ e.map (·.1)))]
  refine List.filter_congr fun y hy => ?_
  rw [hasN_keys]
  have hm : y.1 ∈ (envL L4).map (·.1) := List.mem_map.mpr ⟨y, hy, rfl⟩
  by_cases z : y.1 ∈ e.map (·.1)
  · rw [decide_eq_true z]
    refine decide_eq_true fun w => ?_
    have := (List.mem_filter.mp w).2
    rw [decide_eq_true z] at this
    cases this
  · rw [decide_eq_false z]
    refine decide_eq_false fun w => w (List.mem_filter.mpr ⟨hm, ?_⟩)
    rw [decide_eq_false z]; rfl
theorem filt_self {e : Env} : e.filter (fun p => hasN e p.1) = e := List.filter_eq_self.mpr fun p hp => by
  rw [hasN_keys]
  exact decide_eq_true (List.mem_map.mpr ⟨p, hp, rfl⟩)
def handsR (ws : List Str) (deep : Int) (env : Env) (a b : List St) : Option (List Int) × Env := ((chkS ws deep [] (.hands a b) ⟨env, [], []⟩).1, (chkS ws deep [] (.hands a b) ⟨env, [], []⟩).2.env)
theorem hands_eq {ws : List Str} {deep : Int} {barred : List (Int × Bool)} {a b : List St} {s : Sx} (h : ("hands" : Str) ∈ ws) : chkS ws deep barred (.hands a b) s = ((handsR ws deep s.env a b).1, { s with env := (handsR ws deep s.env a b).2 }) := by
  unfold handsR
  rw [chkS, chkS, if_pos h, if_pos h]
  cases chkB ws (deep + 1) [] 0 a ⟨s.env, [], []⟩ with
  | mk r t =>
    cases r with
    | some q => rfl
    | none =>
      dsimp only
      cases chkB ws (deep + 1) t.made 0 b ⟨s.env, [], []⟩ with
      | mk r u =>
        cases r with
        | some q => rfl
        | none =>
          dsimp only
          split <;> rfl
end Ow

/-! P13: what hands ask. -/
namespace Ow
open PySem PySem.Spec PyProof.Rows L2 Evl
theorem ex_chain {T : List Addr} {H0 H H1 : Hp} (a : Ex H0 H) (b : ExB T H H1) (h : ∀ p ∈ T, H0 p = none) : Ex H0 H1 := fun x o e => b x o (fun hx => by rw [h x hx] at e; cases e) (a x o e)
theorem modN_split {A B : Env} {n : Int} {x : Nm} {f : Nm → Nm} (hA : ∀ y ∈ A, y.1 ≠ n) (hB : ∀ y ∈ B, y.1 ≠ n) : modN (A ++ (n, x) :: B) n f = A ++ (n, f x) :: B := by
  have h : ∀ l : Env, (∀ y ∈ l, y.1 ≠ n) → modN l n f = l := fun l hl => by
    unfold modN
    conv => rhs; rw [← List.map_id l]
    exact List.map_congr_left fun y hy => by rw [if_neg (hl y hy)]; rfl
  have e : modN (A ++ (n, x) :: B) n f = modN A n f ++ (n, f x) :: modN B n f := by
    unfold modN
    rw [List.map_append, List.map_cons, if_pos rfl]
  rw [e, h A hA, h B hB]
theorem putN_split {A B : Env} {n : Int} {x y0 : Nm} (hA : ∀ y ∈ A, y.1 ≠ n) (hB : ∀ y ∈ B, y.1 ≠ n) : putN (A ++ (n, x) :: B) n y0 = A ++ (n, y0) :: B := by
  have h : ((A ++ (n, x) :: B).any fun p => decide (p.1 = n)) = true := by simp
  have e : putN (A ++ (n, x) :: B) n y0 = modN (A ++ (n, x) :: B) n (fun _ => y0) := by
    unfold putN modN
    rw [if_pos h]
  rw [e, modN_split hA hB]
theorem split_at {e : Env} (hk : (e.map (·.1)).Nodup) {i : Nat} {p : Int × Nm} (h : e[i]? = some p) (J : Int × Nm → Int × Nm) (hJ : ∀ q, (J q).1 = q.1) : (∀ y ∈ (e.take i).map J, y.1 ≠ p.1) ∧ (∀ y ∈ e.drop (i + 1), y.1 ≠ p.1) ∧ (e.take i).map J ++ e.drop i = (e.take i).map J ++ p :: e.drop (i + 1) ∧ (e.take (i + 1)).map J = (e.take i).map J ++ [J p] := by
  have hi : i < e.length := (List.getElem?_eq_some_iff.mp h).1
  have hp : e[i] = p := (List.getElem?_eq_some_iff.mp h).2
  have hd : e.drop i = p :: e.drop (i + 1) := by rw [List.drop_eq_getElem_cons hi, hp]
  have he : e = e.take i ++ p :: e.drop (i + 1) := by rw [← hd, List.take_append_drop]
  rw [he, List.map_append, List.map_cons] at hk
  have hn := List.nodup_append.mp hk
  refine ⟨fun y hy z => ?_, fun y hy z => ?_, by rw [hd], by rw [List.take_add_one, h, List.map_append]; rfl⟩
  · obtain ⟨q, hq, e1⟩ := List.mem_map.mp hy
    rw [← e1, hJ] at z
    exact hn.2.2 _ (List.mem_map.mpr ⟨q, hq, rfl⟩) _ List.mem_cons_self z
  · have := (List.nodup_cons.mp hn.2.1).1
    exact this (List.mem_map.mpr ⟨y, hy, z⟩)
section
variable {K : PySem.W.Frag} {σ : L2.St} {H H' : Hp} {ta tb te td ty tx tv tl : TE} {tr : TA} {t : TT} {d q : Addr} {L : EL} {n : Int} {x : Nm} {i j : Nat} {Dn : Ends} {tz : TS} {b : Bool}
theorem ed_getbl1 {u : Addr} {l : BL} (hu : H u = some (.dK (blKV l))) (g : getN l n = some b) (hn : EvD K ty σ H (.int n)) (hd : σ[i]? = some (some (.ref u))) : EvD K (tDGet (tVar i) ty) σ H (.bool b) := by
  refine ed_of (ev_dget (v := .bl b) (ev_var (H := H) hd) hu (k := Sum.inl n) (ev_int hn) ?_) (.bl _)
  rw [valV_bl, g]; rfl
/-- env[n] = dict(another name's dict) -/
theorem s_envput {a : Addr} {y : Nm} (E : EnvAt H d L) (h : Ev tx σ H (.ref a)) (ha : H a = some (.dK (nmKV y))) (hl : L.length < 20000) (hi : σ[i]? = some (some (.ref d))) (hj : σ[j]? = some (some (.int n)))
    (k : ∀ q H', H q = none → ExB [d] H H' → EnvAt H' d (putL L n q y) → Dn.nx σ H') : sDPut (tVar i) (tVar j) (tCB rDictD (tCons tx tNil)) Dn σ H := by
  refine h H (Ex.refl H) _ fun H1 e1 => ⟨a, nmKV y, rfl, .inl (e1 _ _ ha), fun q hq => ⟨_, hi, _, hj, ?_⟩⟩
  have e2 : Ex H (upd H1 q (.dK (nmKV y))) := e1.trans (Ex.new hq)
  have E2 := E.ex e2
  have hq0 : H q = none := fresh_back e1 hq
  have nq := not_in_adr E hq0
  refine ⟨d, _, rfl, DPut.k (k := Sum.inl n) E2.at_ (by unfold envKV; rw [List.length_map]; exact Nat.lt_trans hl (by decide)), ?_⟩
  exact k q _ hq0 (ExB.trans (.of e2) (.upd List.mem_cons_self)) (E2.put upd_same (fun z => nq (by rw [z]; exact List.mem_cons_self)) (fun w hw _ z => nq (by rw [← z]; exact List.mem_cons_of_mem _ (List.mem_map.mpr ⟨w, hw, rfl⟩))) hl)
end
theorem join_own {l r : Env} {o : List (Int × Bool)} {n : Int} {x a b : Nm} (ga : getN l n = some a) (gb : getN r n = some b) (h : x.role = .own) : joinN l r o (n, x) = (n, { x with good := a.good && b.good }) := by
  unfold joinN
  rw [ga, gb]
  dsimp only
  rw [if_pos h]
theorem join_ref {l r : Env} {o : List (Int × Bool)} {n : Int} {x a b : Nm} (ga : getN l n = some a) (gb : getN r n = some b) (h : ¬ x.role = .own) : joinN l r o (n, x) = (n, if (getN o n).getD false = true then b else a) := by
  unfold joinN
  rw [ga, gb]
  dsimp only
  rw [if_neg h]
theorem join_key (l r : Env) (o : List (Int × Bool)) (p : Int × Nm) : (joinN l r o p).1 = p.1 := by
  unfold joinN
  split <;> rfl
theorem hasN_some {α : Type} {e : List (Int × α)} {n : Int} (h : n ∈ e.map (·.1)) : ∃ x, getN e n = some x := by
  have h2 : hasN e n = true := by rw [hasN_keys]; exact decide_eq_true h
  unfold hasN at h2
  cases g : getN e n with
  | none => rw [g] at h2; cases h2
  | some x => exact ⟨x, rfl⟩
theorem has_getD {α : Type} {e : List (Int × α)} {n : Int} {z : α} (h : hasN e n = true) : getN e n = some ((getN e n).getD z) := by
  unfold hasN at h
  cases g : getN e n with
  | none => rw [g] at h; cases h
  | some x => rfl
theorem filt_intsP {p : D → Bool} {f : Int → Bool} (hp : ∀ m, p (.int m) = f m) : ∀ xs : List Int, ((xs.map PyData.int).filter p).map id = (xs.filter f).map PyData.int
  | [] => rfl
  | x :: xs => by
    have ih := filt_intsP hp xs
    rw [List.map_cons, List.filter_cons, List.filter_cons, hp]
    cases f x with
    | true => simpa using ih
    | false => simpa using ih
/-- what hands give -/
theorem handsR_l {ws : List Str} {deep : Int} {env : Env} {a b : List St} {q : List Int} {t : Sx} (h : ("hands" : Str) ∈ ws) (ha : chkB ws (deep + 1) [] 0 a ⟨env, [], []⟩ = (some q, t)) : handsR ws deep env a b = (some (0 :: q), env) := by
  unfold handsR
  rw [chkS, if_pos h, ha]
theorem handsR_r {ws : List Str} {deep : Int} {env : Env} {a b : List St} {q : List Int} {t u : Sx} (h : ("hands" : Str) ∈ ws) (ha : chkB ws (deep + 1) [] 0 a ⟨env, [], []⟩ = (none, t)) (hb : chkB ws (deep + 1) t.made 0 b ⟨env, [], []⟩ = (some q, u)) : handsR ws deep env a b = (some (1 :: q), env) := by
  unfold handsR
  rw [chkS, if_pos h, ha]
  dsimp only
  rw [hb]
theorem handsR_c {ws : List Str} {deep : Int} {env : Env} {a b : List St} {t u : Sx} (h : ("hands" : Str) ∈ ws) (ha : chkB ws (deep + 1) [] 0 a ⟨env, [], []⟩ = (none, t)) (hb : chkB ws (deep + 1) t.made 0 b ⟨env, [], []⟩ = (none, u)) (hc : (!(clashes env t.used u.used).isEmpty && !decide (("share" : Str) ∈ ws)) = true) : handsR ws deep env a b = (some [], env) := by
  unfold handsR
  rw [chkS, if_pos h, ha]
  dsimp only
  rw [hb]
  dsimp only
  rw [if_pos hc]
theorem handsR_n {ws : List Str} {deep : Int} {env : Env} {a b : List St} {t u : Sx} (h : ("hands" : Str) ∈ ws) (ha : chkB ws (deep + 1) [] 0 a ⟨env, [], []⟩ = (none, t)) (hb : chkB ws (deep + 1) t.made 0 b ⟨env, [], []⟩ = (none, u)) (hc : (!(clashes env t.used u.used).isEmpty && !decide (("share" : Str) ∈ ws)) = false) : handsR ws deep env a b = (none, env.map (joinN t.env u.env u.used)) := by
  unfold handsR
  rw [chkS, if_pos h, ha]
  dsimp only
  rw [hb]
  dsimp only
  rw [if_neg (by rw [hc]; decide)]
end Ow

/-! M3: what is accepted does not hang on what was made or used; names begin with the names before. -/
namespace Ow
open PySem
/-- t's names begin with s's -/
def Pre (s t : Env) : Prop := ∃ ext, t.map (·.1) = s.map (·.1) ++ ext
theorem Pre.refl (s : Env) : Pre s s := ⟨[], by simp⟩
theorem Pre.trans {a b c : Env} (h : Pre a b) (g : Pre b c) : Pre a c := by
  obtain ⟨x, hx⟩ := h
  obtain ⟨y, hy⟩ := g
  exact ⟨x ++ y, by rw [hy, hx, List.append_assoc]⟩
theorem Pre.of_eq {a b : Env} (h : b.map (·.1) = a.map (·.1)) : Pre a b := ⟨[], by rw [h]; simp⟩
theorem putN_pre (env : Env) (n : Int) (x : Nm) : Pre env (putN env n x) := by
  unfold putN
  split
  · refine Pre.of_eq ?_
    rw [List.map_map]
    exact List.map_congr_left fun p _ => by
      simp only [Function.comp]
      split <;> rfl
  · exact ⟨[n], by rw [List.map_append]; rfl⟩
theorem filter_pre {s t : Env} (h : Pre s t) : Pre s (t.filter fun p => hasN s p.1) := by
  obtain ⟨x, hx⟩ := h
  have e : (t.filter fun p => hasN s p.1).map (·.1) = (t.map (·.1)).filter fun n => hasN s n := by
    rw [List.filter_map]; rfl
  refine ⟨x.filter fun n => hasN s n, ?_⟩
  rw [e, hx, List.filter_append]
  congr 1
  refine List.filter_eq_self.mpr fun n hn => ?_
  rw [hasN_keys]; exact decide_eq_true hn
theorem stPl_mu {ws : List Str} {deep : Int} {barred : List (Int × Bool)} {p : Pl} {s s' : Sx} (h : s.env = s'.env) : (stPl ws deep barred p s).1 = (stPl ws deep barred p s').1 ∧ (stPl ws deep barred p s).2.env = (stPl ws deep barred p s').2.env := by
  unfold stPl
  rw [h]
  split
  · split
    · cases mkOf ws s'.env deep p with
      | none => exact ⟨rfl, rfl⟩
      | some me => exact ⟨rfl, rfl⟩
    · exact ⟨rfl, rfl⟩
  · exact ⟨rfl, rfl⟩
mutual
theorem chkS_mu (ws : List Str) : ∀ (st : St) (deep : Int) (barred : List (Int × Bool)) (s s' : Sx), s.env = s'.env → (chkS ws deep barred st s).1 = (chkS ws deep barred st s').1 ∧ (chkS ws deep barred st s).2.env = (chkS ws deep barred st s').2.env
  | .pl p, deep, barred, s, s', h => by
    rw [chkS, chkS]
    exact stPl_mu h
  | .block b, deep, barred, s, s', h => by
    rw [chkS, chkS]
    split
    · have ih := chkB_mu ws b (deep + 1) barred 0 s s' h
      cases hc : chkB ws (deep + 1) barred 0 b s with
      | mk r t =>
        cases hd : chkB ws (deep + 1) barred 0 b s' with
        | mk r' t' =>
          rw [hc, hd] at ih
          refine ⟨ih.1, ?_⟩
          show t.env.filter _ = t'.env.filter _
          rw [ih.2, h]
    · exact ⟨rfl, h⟩
  | .hands a b, deep, barred, s, s', h => by
    rw [chkS, chkS, h]
    split
    · cases hc : chkB ws (deep + 1) [] 0 a ⟨s'.env, [], []⟩ with
      | mk r t =>
        cases r with
        | some q => exact ⟨rfl, h⟩
        | none =>
          dsimp only
          cases hd : chkB ws (deep + 1) t.made 0 b ⟨s'.env, [], []⟩ with
          | mk r u =>
            cases r with
            | some q => exact ⟨rfl, h⟩
            | none =>
              dsimp only
              split
              · exact ⟨rfl, h⟩
              · exact ⟨rfl, rfl⟩
    · exact ⟨rfl, h⟩
theorem chkB_mu (ws : List Str) : ∀ (b : List St) (deep : Int) (barred : List (Int × Bool)) (k : Int) (s s' : Sx), s.env = s'.env → (chkB ws deep barred k b s).1 = (chkB ws deep barred k b s').1 ∧ (chkB ws deep barred k b s).2.env = (chkB ws deep barred k b s').2.env
  | [], deep, barred, k, s, s', h => by
    rw [chkB, chkB]
    exact ⟨rfl, h⟩
  | st :: r, deep, barred, k, s, s', h => by
    have i1 := chkS_mu ws st deep barred s s' h
    rw [chkB, chkB]
    cases hc : chkS ws deep barred st s with
    | mk q t =>
      cases hd : chkS ws deep barred st s' with
      | mk q' t' =>
        rw [hc, hd] at i1
        obtain ⟨i2, i3⟩ := i1
        dsimp only at i2 i3
        subst i2
        cases q with
        | some q => exact ⟨rfl, i3⟩
        | none => exact chkB_mu ws r deep barred (k + 1) t t' i3
end
mutual
theorem chkS_pre (ws : List Str) : ∀ (st : St) (deep : Int) (barred : List (Int × Bool)) (s : Sx), Lk s.env → Pre s.env (chkS ws deep barred st s).2.env ∧ Lk (chkS ws deep barred st s).2.env
  | .pl p, deep, barred, s, h => by
    rw [chkS]
    unfold stPl
    split
    · split
      · cases hk : mkOf ws s.env deep p with
        | none => exact ⟨Pre.refl _, h⟩
        | some me =>
          obtain ⟨m, e⟩ := me
          obtain ⟨k1, k2, k3, k4⟩ := mk_lk h hk
          exact ⟨(Pre.of_eq k3).trans (putN_pre e (newOf p) m), k1.put _ _ k4⟩
      · exact ⟨Pre.refl _, h⟩
    · obtain ⟨k1, k2, k3⟩ := do_lk (ws := ws) (p := p) h
      exact ⟨Pre.of_eq k3, k1⟩
  | .block b, deep, barred, s, h => by
    rw [chkS]
    split
    · have ih := chkB_pre ws b (deep + 1) barred 0 s h
      cases hc : chkB ws (deep + 1) barred 0 b s with
      | mk r t =>
        rw [hc] at ih
        exact ⟨filter_pre ih.1, fun p hp => ih.2 p (List.mem_filter.mp hp).1⟩
    · exact ⟨Pre.refl _, h⟩
  | .hands a b, deep, barred, s, h => by
    have ia := chkB_pre ws a (deep + 1) [] 0 ⟨s.env, [], []⟩ h
    rw [chkS]
    split
    · cases hc : chkB ws (deep + 1) [] 0 a ⟨s.env, [], []⟩ with
      | mk r t =>
        rw [hc] at ia
        cases r with
        | some q => exact ⟨Pre.refl _, h⟩
        | none =>
          have ib := chkB_pre ws b (deep + 1) t.made 0 ⟨s.env, [], []⟩ h
          dsimp only
          cases hd : chkB ws (deep + 1) t.made 0 b ⟨s.env, [], []⟩ with
          | mk r u =>
            rw [hd] at ib
            cases r with
            | some q => exact ⟨Pre.refl _, h⟩
            | none =>
              dsimp only
              split
              · exact ⟨Pre.refl _, h⟩
              · exact ⟨Pre.of_eq (join_keys _ _ _ _), join_lk ia.2 ib.2 h⟩
    · exact ⟨Pre.refl _, h⟩
theorem chkB_pre (ws : List Str) : ∀ (b : List St) (deep : Int) (barred : List (Int × Bool)) (k : Int) (s : Sx), Lk s.env → Pre s.env (chkB ws deep barred k b s).2.env ∧ Lk (chkB ws deep barred k b s).2.env
  | [], deep, barred, k, s, h => by
    rw [chkB]
    exact ⟨Pre.refl _, h⟩
  | st :: r, deep, barred, k, s, h => by
    have i1 := chkS_pre ws st deep barred s h
    rw [chkB]
    cases hc : chkS ws deep barred st s with
    | mk q t =>
      rw [hc] at i1
      cases q with
      | some q => exact i1
      | none =>
        have i2 := chkB_pre ws r deep barred (k + 1) t i1.2
        exact ⟨i1.1.trans i2.1, i2.2⟩
end
/-- b is let by from the names e: the names behind it -/
def Acc (ws : List Str) (deep : Int) (e : Env) (b : List St) (e' : Env) : Prop := ∃ t, chkB ws deep [] 0 b ⟨e, [], []⟩ = (none, t) ∧ t.env = e'
theorem chkB_k (ws : List Str) : ∀ (b : List St) (deep : Int) (barred : List (Int × Bool)) (k k' : Int) (s t : Sx), chkB ws deep barred k b s = (none, t) → chkB ws deep barred k' b s = (none, t)
  | [], deep, barred, k, k', s, t, h => by rw [chkB] at h ⊢; exact h
  | st :: r, deep, barred, k, k', s, t, h => by
    rw [chkB] at h ⊢
    cases hc : chkS ws deep barred st s with
    | mk q u =>
      rw [hc] at h
      cases q with
      | some q => cases h
      | none => exact chkB_k ws r deep barred (k + 1) (k' + 1) u t h
theorem chkB_app (ws : List Str) : ∀ (b c : List St) (deep : Int) (barred : List (Int × Bool)) (k : Int) (s t : Sx), chkB ws deep barred k b s = (none, t) → chkB ws deep barred k (b ++ c) s = chkB ws deep barred (k + b.length) c t
  | [], c, deep, barred, k, s, t, h => by
    rw [chkB] at h
    cases h
    rw [List.nil_append, List.length_nil]
    congr 1
    show k = k + 0
    omega
  | st :: r, c, deep, barred, k, s, t, h => by
    rw [List.cons_append]
    rw [chkB] at h ⊢
    cases hc : chkS ws deep barred st s with
    | mk q u =>
      rw [hc] at h
      cases q with
      | some q => cases h
      | none =>
        have := chkB_app ws r c deep barred (k + 1) u t h
        dsimp only
        rw [this]
        congr 1
        rw [List.length_cons]
        omega
theorem Acc.nil (ws : List Str) (deep : Int) (e : Env) : Acc ws deep e [] e := ⟨_, by rw [chkB], rfl⟩
theorem Acc.app {ws : List Str} {deep : Int} {e e1 e2 : Env} {b c : List St} (h : Acc ws deep e b e1) (g : Acc ws deep e1 c e2) : Acc ws deep e (b ++ c) e2 := by
  obtain ⟨t, h1, h2⟩ := h
  obtain ⟨u, g1, g2⟩ := g
  have m := chkB_mu ws c deep [] (0 + (b.length : Int)) t ⟨e1, [], []⟩ h2
  have g3 := chkB_k ws c deep [] 0 (0 + (b.length : Int)) _ _ g1
  rw [g3] at m
  refine ⟨(chkB ws deep [] (0 + (b.length : Int)) c t).2, ?_, by rw [m.2]; exact g2⟩
  rw [chkB_app ws b c deep [] 0 _ t h1]
  exact Prod.ext m.1 rfl
/-- told from any made and used -/
theorem Acc.of {ws : List Str} {deep : Int} {s : Sx} {b : List St} {k : Int} {t : Sx} (h : chkB ws deep [] k b s = (none, t)) : Acc ws deep s.env b t.env := by
  have m := chkB_mu ws b deep [] 0 s ⟨s.env, [], []⟩ rfl
  have h2 := chkB_k ws b deep [] k 0 _ _ h
  rw [h2] at m
  exact ⟨(chkB ws deep [] 0 b ⟨s.env, [], []⟩).2, Prod.ext m.1.symm rfl, m.2.symm⟩
theorem acc_fault {ws : List Str} {b : List St} {e : Env} (h : Acc ws 0 [] b e) : fault ws b = none := by
  obtain ⟨t, h1, _⟩ := h
  unfold fault
  rw [h1]
end Ow

/-! P14: comprehensions that change things, over a new list. -/
namespace Ow
open PySem PySem.Spec PyProof.Rows L2 Evl
section
variable {K : PySem.W.Frag} {σ : L2.St} {H H' : Hp} {ta tb te td ty tx tv tl : TE} {tr : TA} {t : TT} {i0 : Nat} {Dn : Ends} {tz : TS} {b : Bool} {g : TG} {vs : List Nat} {ds es : List D}
theorem q_asgLcI (h : EvN K tl σ H ds) (k : ∀ p us H1, H p = none → Ex H H1 → H1 p = some (.lst us) → DpAll K H1 us ds → ∀ Dl, H1 Dl = none → ∃ Pv : Nat → Hp → Prop, Pv 0 (upd H1 Dl (.lst [])) ∧ (∀ i H', i ≤ us.length → Pv i H' → SqL K H' p us) ∧
      (∀ i x H', us[i]? = some x → Pv i H' → g x (wipe σ vs) H' fun σ2 H2 => wipe σ2 vs = wipe σ vs ∧ t σ2 H2 fun b H3 => if b = true then te σ2 H3 fun y H4 => ∃ acc, H4 Dl = some (.lst acc) ∧ acc.length < sizeLine ∧ Pv (i + 1) (upd H4 Dl (.lst (acc ++ [y]))) else Pv (i + 1) H3) ∧
      (∀ H', Pv us.length H' → tz Dn (σ.set i0 (some (.ref Dl))) H')) : tSeq (tAsg (tLc (iList K tl) g t te vs) (gName i0)) tz Dn σ H :=
  h H (Ex.refl H) _ fun p us H1 hp e h1 a => ⟨p, rfl, ⟨us, sq_of h1⟩, fun Dl hD => by
    obtain ⟨Pv, k0, k1, k2, k3⟩ := k p us H1 hp e h1 a Dl hD
    exact lc_list Pv k0 k1 k2 k3⟩
theorem s_asgN (h : EvN K te σ H ds) (k : ∀ p vs H1, H p = none → Ex H H1 → H1 p = some (.lst vs) → DpAll K H1 vs ds → Dn.nx (σ.set i0 (some (.ref p))) H1) : tAsg te (gName i0) Dn σ H := h H (Ex.refl H) _ fun p vs H1 hp e h1 hv => k p vs H1 hp e h1 hv
end
theorem filt_strs {p : D → Bool} {f : Str → Bool} (hp : ∀ m, p (.str m) = f m) : ∀ xs : List Str, ((xs.map PyData.str).filter p).map id = (xs.filter f).map PyData.str
  | [] => rfl
  | x :: xs => by
    have ih := filt_strs hp xs
    rw [List.map_cons, List.filter_cons, List.filter_cons, hp]
    cases f x with
    | true => simpa using ih
    | false => simpa using ih
end Ow

/-! P15: a dict's display, asked at once; many names set at once. -/
namespace Ow
open PySem PySem.Spec PyProof.Rows L2 Evl
section
variable {K : PySem.W.Frag} {σ : L2.St} {H H' : Hp} {ta tb te td ty tx tv tl : TE} {tr : TA} {Dn : Ends} {tz : TS} {d d1 d2 d3 d4 : D} {s : Str}
theorem pairs_all (p : Addr) : ∀ (l : List (Str × TE × D)) (H1 : Hp), Ex H H1 → H1 p = some (.dK []) → (∀ x ∈ l, EvD K x.2.1 σ H x.2.2) → ∀ Q : List (V × V) → Hp → Prop, (∀ (vs : List V) H2, Ex H1 H2 → DpAll K H2 vs (l.map (·.2.2)) → Q ((l.map (fun x => (V.str x.1))).zip vs) H2) → tPairs (l.map fun x => (tC (.str x.1), x.2.1)) σ H1 Q
  | [], H1, e, hp, h, Q, q => q [] H1 (Ex.refl H1) .nil
  | x :: l, H1, e, hp, h, Q, q => h x List.mem_cons_self H1 e _ fun v H2 e2 hv =>
    pairs_all p l H2 (e.trans e2) (e2 _ _ hp) (fun y hy => h y (List.mem_cons_of_mem _ hy)) _ fun vs H3 e3 hvs => q (v :: vs) H3 (e2.trans e3) (.cons (Dpx hv e3) hvs)
theorem look_zip : ∀ {l : List (Str × TE × D)} {vs : List V} {s : Str} {d : D} {H : Hp}, DpAll K H vs (l.map (·.2.2)) → (l.find? fun x => decide (x.1 = s)).map (·.2.2) = some d → ∃ v, valV (((l.map (·.1)).zip vs).map fun p => ((Sum.inr p.1 : L2.Key), p.2)) (Sum.inr s) = some v ∧ Dp K H v d
  | [], _, s, d, H, _, h => by cases h
  | x :: l, _, s, d, H, .cons hv hvs, h => by
    rw [List.find?_cons] at h
    by_cases e : x.1 = s
    · rw [decide_eq_true e] at h
      cases h
      exact ⟨_, valV_pos (congrArg Sum.inr e), hv⟩
    · rw [decide_eq_false e] at h
      obtain ⟨v, h1, h2⟩ := look_zip hvs h
      exact ⟨v, (valV_neg (fun z => e (Sum.inr.inj z))).trans h1, h2⟩
theorem zip_str : ∀ (l : List (Str × TE × D)) (vs : List V), (l.map fun x => V.str x.1).zip vs = (((l.map (·.1)).zip vs).map fun p => ((Sum.inr p.1 : L2.Key), p.2)).map fun kv => (kV kv.1, kv.2)
  | [], _ => by simp
  | x :: l, [] => by simp
  | x :: l, v :: vs => by
    rw [List.map_cons, List.zip_cons_cons, zip_str l vs]; rfl
theorem zip_keys : ∀ (l : List (Str × TE × D)) (vs : List V), vs.length = l.length → ((((l.map (·.1)).zip vs).map fun p => ((Sum.inr p.1 : L2.Key), p.2)).map (·.1)) = l.map fun x => Sum.inr x.1
  | [], _, _ => by simp
  | x :: l, [], h => by cases h
  | x :: l, v :: vs, h => by
    have := zip_keys l vs (by simpa using h)
    rw [List.map_cons, List.zip_cons_cons, List.map_cons, List.map_cons, this]; rfl
/-- {k: e, ..}[key] -/
theorem ed_dispget (l : List (Str × TE × D)) (h : ∀ x ∈ l, EvD K x.2.1 σ H x.2.2) (hn : (l.map (·.1)).Nodup) (h15 : l.length ≤ 15) (hd : (l.find? fun x => decide (x.1 = s)).map (·.2.2) = some d) (nl : noL d = true) (ht : EvD K ty σ H (.str s)) :
    EvD K (tDGet (tDisp (l.map fun x => (tC (.str x.1), x.2.1))) ty) σ H d := fun H1 e Q q => by
  intro p hp
  have ep : Ex H (upd H1 p (.dK [])) := e.trans (Ex.new hp)
  refine pairs_all p l _ ep upd_same h _ fun vs H2 e2 hvs => ⟨e2 _ _ upd_same, _, zip_str l vs, ?_, ?_⟩
  · rw [List.length_map, List.length_zip]
    exact Nat.le_trans (Nat.min_le_left _ _) (by rw [List.length_map]; exact h15)
  have hl : vs.length = l.length := by have := dpa_len hvs; rw [List.length_map] at this; exact this
  have kN : ((((l.map (·.1)).zip vs).map fun p => ((Sum.inr p.1 : L2.Key), p.2)).map (·.1)).Nodup := by
    rw [zip_keys l vs hl]
    have : (l.map fun x => (Sum.inr x.1 : L2.Key)) = (l.map (·.1)).map Sum.inr := by rw [List.map_map]; rfl
    rw [this]
    exact List.Pairwise.map Sum.inr (fun a b h z => h (Sum.inr.inj z)) hn
  rw [mergeK_nil kN]
  have b : Ex H1 (upd H2 p (.dK (((l.map (·.1)).zip vs).map fun p => ((Sum.inr p.1 : L2.Key), p.2)))) := ex_chain ((Ex.new hp).trans e2) (ExB.upd List.mem_cons_self) (fun z hz => by rw [List.mem_singleton.mp hz]; exact hp)
  refine ev_str ht _ (e.trans b) _ fun H3 e3 => ?_
  obtain ⟨v, g1, g2⟩ := look_zip hvs hd
  refine ⟨p, v, rfl, ?_, ?_⟩
  · rw [← g1]
    exact DGet.k (k := (Sum.inr s : L2.Key)) (e3 _ _ upd_same)
  · exact q v H3 (b.trans e3) (Dpx (Dpt g2 nl (tex_dK (e2 _ _ upd_same))) e3)
theorem q_asg4D {i j k l : Nat} (h : EvD K te σ H (.tuple [d1, d2, d3, d4])) (kk : ∀ v1 v2 v3 v4 H1, Ex H H1 → Dp K H1 v1 d1 → Dp K H1 v2 d2 → Dp K H1 v3 d3 → Dp K H1 v4 d4 → tz Dn ((((σ.set i (some v1)).set j (some v2)).set k (some v3)).set l (some v4)) H1) :
    tSeq (tAsg te (gTup K 4 (gCons (gName i) (gCons (gName j) (gCons (gName k) (gCons (gName l) gNil)))))) tz Dn σ H := h H (Ex.refl H) _ fun v H1 e hv => by
  obtain ⟨p, xs, rfl, s1, s2⟩ := dp_tup_inv hv
  cases s2 with
  | cons g1 s2 => cases s2 with
    | cons g2 s2 => cases s2 with
      | cons g3 s2 => cases s2 with
        | cons g4 s2 => cases s2; exact ⟨p, _, rfl, s1, rfl, _, _, rfl, _, _, rfl, _, _, rfl, _, _, rfl, rfl, kk _ _ _ _ H1 e g1 g2 g3 g4⟩
theorem q_asg3D {i j k : Nat} (h : EvD K te σ H (.tuple [d1, d2, d3])) (kk : ∀ v1 v2 v3 H1, Ex H H1 → Dp K H1 v1 d1 → Dp K H1 v2 d2 → Dp K H1 v3 d3 → tz Dn (((σ.set i (some v1)).set j (some v2)).set k (some v3)) H1) :
    tSeq (tAsg te (gTup K 3 (gCons (gName i) (gCons (gName j) (gCons (gName k) gNil))))) tz Dn σ H := h H (Ex.refl H) _ fun v H1 e hv => by
  obtain ⟨p, xs, rfl, s1, s2⟩ := dp_tup_inv hv
  cases s2 with
  | cons g1 s2 => cases s2 with
    | cons g2 s2 => cases s2 with
      | cons g3 s2 => cases s2; exact ⟨p, _, rfl, s1, rfl, _, _, rfl, _, _, rfl, _, _, rfl, rfl, kk _ _ _ H1 e g1 g2 g3⟩
end
end Ow

/-! P16: how a drawn statement is. -/
namespace Ow
open PySem PySem.Spec PyProof.Rows L2 Evl
def refsOf : Pl → List Int
  | .box _ _ => [] | .move _ y => [y] | .look _ y => [y] | .lend _ y => [y] | .show y => [y] | .set y _ => [y] | .drop y => [y] | .fin y => [y] | .aim y z => [y, z]
def numOf : Pl → Int
  | .box _ n => n | .set _ n => n | _ => 0
/-- a drawn plain statement -/
structure Drawn (keys : List Int) (new level : Int) (p : Pl) : Prop where
  new : isMake p = true → newOf p = new
  refs : ∀ y ∈ refsOf p, y ∈ keys ∨ y = 0
  num : 0 ≤ numOf p ∧ numOf p < 9
  lev : level = 1 → wordOf p ≠ "box" ∧ wordOf p ≠ "move"
section
variable {K : PySem.W.Frag} {σ : L2.St} {H H' : Hp} {ta tb te td ty tx tv tl : TE} {tr : TA} {t : TT} {d q : Addr} {L : EL} {n : Int} {x : Nm} {i j : Nat} {Dn : Ends} {tz : TS} {b : Bool} {ns : List Int}
theorem el_sortedI (h : EvL te σ H (ns.map V.int)) : ∀ Q : VK, (∀ (ms : List Int) p H1, ms.Perm ns → H p = none → Ex H H1 → H1 p = some (.lst (ms.map V.int)) → Q (.ref p) H1) → tCB (rSortedI K) (tCons te tNil) σ H Q := fun Q q =>
  h H (Ex.refl H) _ fun p H1 hp e1 h1 => ⟨p, ns, rfl, sq_of h1, fun ms p2 hperm _ hp2 => q ms p2 _ hperm (fresh_back e1 hp2) (e1.trans (Ex.new hp2)) upd_same⟩
theorem q_asgCatS {zs : List Int} {i : Nat} (h : EvL te σ H (ns.map V.int)) (h2 : ∀ H1, Ex H H1 → EvN K tb σ H1 (zs.map PyData.int)) (hl : ns.length + zs.length ≤ 100000) (k : ∀ ms p H2, ms.Perm ns → H p = none → Ex H H2 → H2 p = some (.lst ((ms ++ zs).map V.int)) → tz Dn (σ.set i (some (.ref p))) H2) :
    tSeq (tAsg (tOp rCat (tCB (rSortedI K) (tCons te tNil)) tb) (gName i)) tz Dn σ H :=
  el_sortedI h _ fun ms p H1 hperm hp e1 h1 => h2 H1 e1 H1 (Ex.refl H1) _ fun p2 us H2 hp2 e2 h3 a => by
    rw [dpa_ints_inv a] at h3
    refine ⟨p, p2, _, _, rfl, rfl, e2 _ _ h1, h3, ?_, fun q hq => ?_⟩
    · rw [List.length_map, List.length_map, hperm.length_eq]; exact sz_of hl
    · exact k ms q _ hperm (fresh_back (e1.trans e2) hq) ((e1.trans e2).trans (Ex.new hq)) (by rw [List.map_append]; exact upd_same)
theorem dpa_flat {us : List V} {ds : List D} (h : DpAll K H us ds) : ∀ n : Nat, DpAll K H (List.replicate n us).flatten (List.replicate n ds).flatten
  | 0 => .nil
  | n + 1 => by
    rw [List.replicate_succ, List.replicate_succ, List.flatten_cons, List.flatten_cons]
    exact dpa_app h (dpa_flat h n)
theorem en_rep {ds : List D} {k : Int} (ha : EvN K ta σ H ds) (hb : EvD K tb σ H (.int k)) (h0 : 0 ≤ k) (h1 : k ≤ 1) (hl : ds.length ≤ 1000) : EvN K (tOp rRep ta tb) σ H (List.replicate k.toNat ds).flatten := fun H1 e Q q =>
  ha H1 e _ fun a us H2 hp e2 h2 d2 => (ev_int hb) H2 (e.trans e2) _ fun H3 e3 => by
    have l1 := dpa_len d2
    refine ⟨a, k, us, rfl, rfl, e3 _ _ h2, by omega, by omega, ?_, fun p hp3 => ?_⟩
    · have hk : k.toNat ≤ 1 := by omega
      have : us.length * k.toNat ≤ us.length * 1 := Nat.mul_le_mul_left _ hk
      exact sz_of (by omega)
    · exact q p _ _ (fresh_back (e2.trans e3) hp3) ((e2.trans e3).trans (Ex.new hp3)) upd_same (dpa_flat (Dpax d2 (e3.trans (Ex.new hp3))) _)
theorem ed_lenE {i : Nat} (E : EnvAt H d L) (hi : σ[i]? = some (some (.ref d))) : EvD K (tCB (fun xs H Q => ∃ a kvs, xs = [V.ref a] ∧ H a = some (HO.dK kvs) ∧ Q (V.int ↑kvs.length) H) (tCons (tVar i) tNil)) σ H (.int (L.length : Int)) := fun H1 e Q q => by
  refine ⟨_, hi, d, envKV L, rfl, e _ _ E.at_, ?_⟩
  have : (envKV L).length = L.length := by unfold envKV; rw [List.length_map]
  rw [this]
  exact q _ H1 (Ex.refl H1) (.int _)
theorem q_parCC {sp1 sp2 : Sp} {E1 E2 : XK} {x0 x1 y0 y1 : Nat} {v0 v1 w0 w1 : V} (a0 : σ[x0]? = some (some v0)) (a1 : σ[x1]? = some (some v1)) (b0 : σ[y0]? = some (some w0)) (b1 : σ[y1]? = some (some w1))
    (k : ∀ Q1 : VK, (∀ v H2, (∀ Q2 : VK, (∀ w H3, tz Dn ((σ.set i (some v)).set j (some w)) H3 → Q2 w H3) → sp2 [w0, w1] H2 Q2 E2) → Q1 v H2) → sp1 [v0, v1] H Q1 E1) :
    tSeq (tPar i j (tCons (tCall sp1 [] E1 (tCons (tVar x0) (tCons (tVar x1) tNil))) (tCons (tCall sp2 [] E2 (tCons (tVar y0) (tCons (tVar y1) tNil))) tNil))) tz Dn σ H :=
  ⟨_, a0, _, a1, k _ fun v H2 g => ⟨_, b0, _, b1, g _ fun w H3 ht => ⟨_, _, rfl, ht⟩⟩⟩
theorem s_retT3C {sp : Sp} {E1 : XK} {l : Nat} {v8 v2 v0 : V} {n : Int} (h8 : σ[i]? = some (some v8)) (h2 : σ[j]? = some (some v2)) (h0 : σ[l]? = some (some v0)) (k : ∀ Q : VK, (∀ v H2, (∀ p, H2 p = none → Dn.rt (.ref p) (upd H2 p (.tup [v8, v2, v]))) → Q v H2) → sp [v0, .int n] H Q E1) :
    tRet (tTup (tCons (tVar i) (tCons (tVar j) (tCons (tCall sp [] E1 (tCons (tVar l) (tCons (tC (.int n)) tNil))) tNil)))) Dn σ H :=
  ⟨_, h8, _, h2, _, h0, k _ fun v H2 g => ⟨by show 3 ≤ sizeLine; decide, fun p hp => g p hp⟩⟩
theorem q_asgCN {sp : Sp} {E1 : XK} {v0 : V} {ds : List D} (h0 : σ[i]? = some (some v0)) (h : EvN K te σ H ds) (k : ∀ p us H1, H p = none → Ex H H1 → H1 p = some (.lst us) → DpAll K H1 us ds → sp [v0, .ref p] H1 (fun v H2 => tz Dn (σ.set j (some v)) H2) E1) :
    tSeq (tAsg (tCall sp [] E1 (tCons (tVar i) (tCons te tNil))) (gName j)) tz Dn σ H :=
  ⟨_, h0, h H (Ex.refl H) _ fun p us H1 hp e1 h1 a => k p us H1 hp e1 h1 a⟩
end
end Ow

/-! M4: the shape of drawn bodies. -/
namespace Ow
open PySem
/-- bounds of a plain statement -/
structure PlB (p : Pl) : Prop where
  new : isMake p = true → 0 ≤ newOf p ∧ newOf p < 26
  refs : ∀ y ∈ refsOf p, 0 ≤ y ∧ y < 26
  num : 0 ≤ numOf p ∧ numOf p < 9
/-- a body at a level: 0 a program, 1 in hands, 2 in a block -/
inductive ShB : Int → List St → Prop
  | nil {l : Int} : ShB l []
  | pl {l : Int} {p : Pl} {r : List St} : PlB p → (l = 1 → wordOf p ≠ "box" ∧ wordOf p ≠ "move") → ShB l r → ShB l (.pl p :: r)
  | block {l : Int} {b r : List St} : l < 2 → b.length ≤ 4 → ShB 2 b → ShB l r → ShB l (.block b :: r)
  | hands {l : Int} {a b r : List St} : l = 0 → a.length ≤ 3 → b.length ≤ 3 → ShB 1 a → ShB 1 b → ShB l r → ShB l (.hands a b :: r)
theorem ShB.app {l : Int} : ∀ {a b : List St}, ShB l a → ShB l b → ShB l (a ++ b)
  | _, _, .nil, h => h
  | _, _, .pl h1 h2 h3, h => .pl h1 h2 (h3.app h)
  | _, _, .block h1 h2 h3 h4, h => .block h1 h2 h3 (h4.app h)
  | _, _, .hands h1 h2 h3 h4 h5 h6, h => .hands h1 h2 h3 h4 h5 (h6.app h)
theorem ShB.deps {l : Int} : ∀ {b : List St}, ShB l b → l ≤ 2 → (deps b : Int) ≤ 2 - l
  | _, .nil, h => by rw [Ow.deps]; show (0 : Int) ≤ _; omega
  | _, .pl (p := p) (r := r) h1 h2 h3, h => by
    have i := h3.deps h
    rw [Ow.deps, St.dep]
    have : max 0 (Ow.deps r) = Ow.deps r := Nat.max_eq_right (Nat.zero_le _)
    rw [this]; exact i
  | _, .block (b := b) (r := r) h1 h2 h3 h4, h => by
    have i := h4.deps h
    have j := h3.deps (by omega)
    rw [Ow.deps, St.dep]
    have : ((max (Ow.deps b + 1) (Ow.deps r) : Nat) : Int) = max ((Ow.deps b : Int) + 1) (Ow.deps r : Int) := by omega
    omega
  | _, .hands (a := a) (b := b) (r := r) h1 h2 h3 h4 h5 h6, h => by
    have i := h6.deps h
    have j := h4.deps (by omega)
    have k := h5.deps (by omega)
    rw [Ow.deps, St.dep]
    omega
theorem ShB.cnt {l : Int} : ∀ {b : List St}, ShB l b → 0 ≤ l → (l = 2 → cntB b ≤ b.length) ∧ (l = 1 → cntB b ≤ 5 * b.length) ∧ cntB b ≤ 31 * b.length
  | _, .nil, h => ⟨fun _ => Nat.le_refl _, fun _ => Nat.le_refl _, Nat.le_refl _⟩
  | _, .pl (p := p) (r := r) h1 h2 h3, h => by
    obtain ⟨i1, i2, i3⟩ := h3.cnt h
    rw [cntB, St.cnt, List.length_cons]
    exact ⟨fun z => by have := i1 z; omega, fun z => by have := i2 z; omega, by omega⟩
  | _, .block (b := b) (r := r) h1 h2 h3 h4, h => by
    obtain ⟨i1, i2, i3⟩ := h4.cnt h
    have j := (h3.cnt (by omega)).1 rfl
    rw [cntB, St.cnt, List.length_cons]
    exact ⟨fun z => by omega, fun z => by have := i2 z; omega, by omega⟩
  | _, .hands (a := a) (b := b) (r := r) h1 h2 h3 h4 h5 h6, h => by
    obtain ⟨i1, i2, i3⟩ := h6.cnt h
    have j := (h4.cnt (by omega)).2.1 rfl
    have k := (h5.cnt (by omega)).2.1 rfl
    rw [cntB, St.cnt, List.length_cons]
    exact ⟨fun z => by omega, fun z => by omega, by omega⟩
/-- names in bounds -/
def KB (e : Env) : Prop := ∀ n ∈ e.map (·.1), 0 ≤ n ∧ n < 26
theorem Pre.len {a b : Env} (h : Pre a b) : a.length ≤ b.length := by
  obtain ⟨x, hx⟩ := h
  have := congrArg List.length hx
  rw [List.length_append, List.length_map, List.length_map] at this
  omega
theorem Pre.at_ {a b : Env} (h : Pre a b) {i : Nat} (hi : i < a.length) : (b.map (·.1))[i]? = (a.map (·.1))[i]? := by
  obtain ⟨x, hx⟩ := h
  rw [hx, List.getElem?_append_left (by rw [List.length_map]; exact hi)]
theorem nodup_idx : ∀ {l : List Int}, l.Nodup → ∀ {i j : Nat} {x : Int}, l[i]? = some x → l[j]? = some x → i = j
  | [], _, i, j, x, hi, _ => by simp at hi
  | a :: l, h, 0, 0, x, hi, hj => rfl
  | a :: l, h, 0, j + 1, x, hi, hj => by
    rw [List.getElem?_cons_zero] at hi
    rw [List.getElem?_cons_succ] at hj
    cases hi
    exact absurd (List.mem_of_getElem? hj) (List.nodup_cons.mp h).1
  | a :: l, h, i + 1, 0, x, hi, hj => by
    rw [List.getElem?_cons_zero] at hj
    rw [List.getElem?_cons_succ] at hi
    cases hj
    exact absurd (List.mem_of_getElem? hi) (List.nodup_cons.mp h).1
  | a :: l, h, i + 1, j + 1, x, hi, hj => by
    rw [List.getElem?_cons_succ] at hi hj
    rw [nodup_idx (List.nodup_cons.mp h).2 hi hj]
/-- env[n] = here[n] for all names of here, in order -/
theorem put_step {e here : Env} (hk : (here.map (·.1)).Nodup) (hp : Pre e here) {i : Nat} {p : Int × Nm} (h : here[i]? = some p) : putN (here.take i ++ e.drop i) p.1 p.2 = here.take (i + 1) ++ e.drop (i + 1) := by
  have hi : i < here.length := (List.getElem?_eq_some_iff.mp h).1
  have hkey : (here.map (·.1))[i]? = some p.1 := by rw [List.getElem?_map, h]; rfl
  have hA : ∀ y ∈ here.take i, y.1 ≠ p.1 := fun y hy z => by
    obtain ⟨j, hj⟩ := List.mem_iff_getElem?.mp hy
    have hj2 : j < i := by
      have := (List.getElem?_eq_some_iff.mp hj).1
      rw [List.length_take] at this
      omega
    rw [List.getElem?_take, if_pos hj2] at hj
    have : (here.map (·.1))[j]? = some p.1 := by rw [List.getElem?_map, hj, ← z]; rfl
    have := nodup_idx hk this hkey
    omega
  have e1 : here.take (i + 1) = here.take i ++ [p] := by rw [List.take_add_one, h]; rfl
  by_cases hl : i < e.length
  · have hq : ∃ x, e[i]? = some (p.1, x) := by
      have h1 := hp.at_ hl
      rw [hkey, List.getElem?_map, List.getElem?_eq_getElem hl] at h1
      refine ⟨e[i].2, ?_⟩
      rw [List.getElem?_eq_getElem hl]
      have h2 : p.1 = e[i].1 := by simpa using h1
      rw [h2]
    obtain ⟨x, hx⟩ := hq
    have hd : e.drop i = (p.1, x) :: e.drop (i + 1) := by
      rw [List.drop_eq_getElem_cons hl]
      rw [List.getElem?_eq_getElem hl] at hx
      rw [Option.some.inj hx]
    rw [hd, putN_split hA (fun y hy z => ?_), e1, List.append_assoc]
    · rfl
    · obtain ⟨j, hj⟩ := List.mem_iff_getElem?.mp hy
      rw [List.getElem?_drop] at hj
      have hjl := (List.getElem?_eq_some_iff.mp hj).1
      have h3 := hp.at_ hjl
      rw [List.getElem?_map (l := e), hj] at h3
      have h4 : (here.map (·.1))[i + 1 + j]? = some p.1 := by rw [h3, ← z]; rfl
      have := nodup_idx hk h4 hkey
      omega
  · have d1 : e.drop i = [] := List.drop_eq_nil_of_le (by omega)
    have d2 : e.drop (i + 1) = [] := List.drop_eq_nil_of_le (by omega)
    rw [d1, d2, List.append_nil, List.append_nil, e1]
    unfold putN
    rw [if_neg]
    intro z
    obtain ⟨y, hy, h2⟩ := List.any_eq_true.mp z
    exact hA y hy (of_decide_eq_true h2)
theorem putN_mem {α : Type} {e : List (Int × α)} {n m : Int} {x : α} (h : m ∈ (putN e n x).map (·.1)) : m ∈ e.map (·.1) ∨ m = n := by
  unfold putN at h
  split at h
  · rw [List.map_map] at h
    have : e.map ((·.1) ∘ fun p => if p.1 = n then (p.1, x) else p) = e.map (·.1) := List.map_congr_left fun p _ => by
      simp only [Function.comp]
      split <;> rfl
    rw [this] at h
    exact .inl h
  · rw [List.map_append] at h
    rcases List.mem_append.mp h with h | h
    · exact .inl h
    · exact .inr (by simpa using h)
/-- the names behind a statement: those before it, and the one it makes -/
theorem chkS_keys (ws : List Str) (st : St) (deep : Int) (barred : List (Int × Bool)) (s : Sx) (lk : Lk s.env) : ∀ n ∈ (chkS ws deep barred st s).2.env.map (·.1), n ∈ s.env.map (·.1) ∨ ∃ p, st = .pl p ∧ isMake p = true ∧ n = newOf p := fun n hn => by
  cases st with
  | pl p =>
    rw [chkS] at hn
    unfold stPl at hn
    split at hn
    · rename_i hm
      split at hn
      · cases hk : mkOf ws s.env deep p with
        | none => rw [hk] at hn; exact .inl hn
        | some me =>
          obtain ⟨m, e⟩ := me
          obtain ⟨k1, k2, k3, k4⟩ := mk_lk lk hk
          rw [hk] at hn
          rcases putN_mem hn with h | h
          · rw [k3] at h; exact .inl h
          · exact .inr ⟨p, rfl, hm, h⟩
      · exact .inl hn
    · obtain ⟨k1, k2, k3⟩ := do_lk (ws := ws) (p := p) lk
      have hn2 : n ∈ (doOf ws s.env p).2.map (·.1) := hn
      rw [k3] at hn2
      exact .inl hn2
  | block b =>
    rw [chkS] at hn
    split at hn
    · cases hc : chkB ws (deep + 1) barred 0 b s with
      | mk r t =>
        rw [hc] at hn
        obtain ⟨y, hy, e⟩ := List.mem_map.mp hn
        have := (List.mem_filter.mp hy).2
        rw [hasN_keys] at this
        rw [← e]
        exact .inl (of_decide_eq_true this)
    · exact .inl hn
  | hands a b =>
    by_cases hh : ("hands" : Str) ∈ ws
    · rw [hands_eq hh] at hn
      have hn2 : n ∈ (handsR ws deep s.env a b).2.map (·.1) := hn
      unfold handsR at hn2
      rw [chkS, if_pos hh] at hn2
      left
      cases hc : chkB ws (deep + 1) [] 0 a ⟨s.env, [], []⟩ with
      | mk r t =>
        rw [hc] at hn2
        cases r with
        | some q => exact hn2
        | none =>
          dsimp only at hn2
          cases hd : chkB ws (deep + 1) t.made 0 b ⟨s.env, [], []⟩ with
          | mk r u =>
            rw [hd] at hn2
            cases r with
            | some q => exact hn2
            | none =>
              dsimp only at hn2
              split at hn2
              · exact hn2
              · rw [join_keys] at hn2; exact hn2
    · rw [chkS, if_neg hh] at hn
      exact .inl hn
end Ow

/-! P17: d != {}. -/
namespace Ow
open PySem PySem.Spec PyProof.Rows L2 Evl
section
variable {X : Cx}
def rNe0 : R2 := fun x y H Q => ∃ a b ks, x = .ref a ∧ y = .ref b ∧ H a = some (.dK ks) ∧ H b = some (.dK []) ∧ Q (.bl (!ks.isEmpty)) H
theorem op_ne_dict0 (hu : X.A.units < cLine) : OpR X (compareOp .NotEq) rNe0 := by
  intro pins s σ H x y v u Q I rx ry h
  obtain ⟨a, b, ks, rfl, rfl, ea, eb, q⟩ := h
  obtain rfl : v = Value.ref a := rx
  obtain rfl : u = Value.ref b := ry
  obtain ⟨_, ya, va, ra, da⟩ := (show ObjOk X.prog X.w H s.heap a (.dK ks) from I.hok a _ ea)
  obtain ⟨_, yb, vb, rb, db⟩ := (show ObjOk X.prog X.w H s.heap b (.dK []) from I.hok b _ eb)
  have hb : vb = [] := by
    have := rb.length
    cases vb with
    | nil => rfl
    | cons v vb => cases this
  subst hb
  have hl : ks.length = va.length := ra.length
  refine PySem.W.keq_ne (knd := mixKind X.prog X.w) (r := true) ya yb da db hu (fun hz => ?_) (fin_bl I q ?_)
  · have : va = [] := List.eq_nil_of_length_eq_zero hz
    subst this
    exact .nil
  · cases ks with
    | nil =>
      have : va = [] := List.eq_nil_of_length_eq_zero hl.symm
      subst this; rfl
    | cons k ks =>
      cases va with
      | nil => cases hl
      | cons v va => rfl
end
section
variable {K : PySem.W.Frag} {σ : L2.St} {H : Hp} {d : Addr} {L : EL} {i : Nat}
theorem ed_nonempty (E : EnvAt H d L) (hi : σ[i]? = some (some (.ref d))) : EvD K (tOp rNe0 (tVar i) tDNewK) σ H (.bool (!L.isEmpty)) := fun H1 e Q q => by
  refine ⟨_, hi, fun p hp => ⟨d, p, envKV L, rfl, rfl, (Ex.new hp) _ _ (e _ _ E.at_), upd_same, ?_⟩⟩
  have : (envKV L).isEmpty = L.isEmpty := by cases L <;> rfl
  rw [this]
  exact q _ _ (Ex.new hp) (.bl _)
end
end Ow

/-! P18: max of ints. -/
namespace Ow
open PySem PySem.Spec PyProof.Rows L2 Evl
theorem max_is : ∀ (n : Int) (ns : List Int), ∃ m, m ∈ n :: ns ∧ ∀ y ∈ n :: ns, y ≤ m
  | n, [] => ⟨n, List.mem_cons_self, fun y hy => by rw [List.mem_singleton.mp hy]; exact Int.le_refl _⟩
  | n, k :: ns => by
    obtain ⟨m, h1, h2⟩ := max_is k ns
    by_cases h : n ≤ m
    · refine ⟨m, List.mem_cons_of_mem _ h1, fun y hy => ?_⟩
      rcases List.mem_cons.mp hy with w | w
      · rw [w]; exact h
      · exact h2 y w
    · refine ⟨n, List.mem_cons_self, fun y hy => ?_⟩
      rcases List.mem_cons.mp hy with w | w
      · rw [w]; exact Int.le_refl _
      · have := h2 y w; omega
section
variable {K : PySem.W.Frag} {σ : L2.St} {H H' : Hp} {te : TE}
theorem ed_max {n : Int} {ns : List Int} (h : EvN K te σ H ((n :: ns).map PyData.int)) : ∃ m, (m ∈ n :: ns ∧ ∀ y ∈ n :: ns, y ≤ m) ∧ EvD K (tCB (rMax K) (tCons te tNil)) σ H (.int m) := by
  obtain ⟨m, h1, h2⟩ := max_is n ns
  refine ⟨m, ⟨h1, h2⟩, fun H1 e Q q => h H1 e _ fun p us H2 hp e2 h3 a => ⟨p, n :: ns, rfl, ?_, Nat.zero_lt_succ _, fun m2 g1 g2 => ?_⟩⟩
  · rw [dpa_ints_inv a] at h3
    exact sq_of h3
  · have : m2 = m := Int.le_antisymm (h2 m2 g1) (g2 m h1)
    rw [this]
    exact q _ H2 e2 (.int _)
end
theorem pig : ∀ (n : Nat) (l : List Int), l.Nodup → (∀ x ∈ l, 0 ≤ x ∧ x < (n : Int)) → l.length ≤ n
  | 0, l, _, h => by
    cases l with
    | nil => exact Nat.le_refl _
    | cons a l => have := h a List.mem_cons_self; omega
  | n + 1, l, hn, h => by
    have h1 := pig n (l.erase (n : Int)) (hn.erase _) (fun x hx => by
      have h3 := h x (List.mem_of_mem_erase hx)
      have : x ≠ (n : Int) := fun z => by
        rw [z] at hx
        exact hn.not_mem_erase hx
      omega)
    rw [List.length_erase] at h1
    split at h1 <;> omega
theorem kb_len {e : Env} (h : (e.map (·.1)).Nodup) (k : KB e) : e.length ≤ 26 := by
  have := pig 26 (e.map (·.1)) h (fun x hx => k x hx)
  rw [List.length_map] at this
  exact this
section
variable {σ : L2.St} {H H' : Hp} {tx : TE} {d q : Addr} {L : EL} {n : Int} {x : Nm} {i j : Nat} {Dn : Ends}
/-- env[n] = a name's dict that stands -/
theorem s_envref (E : EnvAt H d L) (h : Ev tx σ H (.ref q)) (hq : H q = some (.dK (nmKV x))) (hd : q ≠ d) (hn : ∀ y ∈ L, y.1 ≠ n → y.2.1 ≠ q) (hl : L.length < 20000) (hi : σ[i]? = some (some (.ref d))) (hj : σ[j]? = some (some (.int n)))
    (k : ∀ H', ExB [d] H H' → EnvAt H' d (putL L n q x) → Dn.nx σ H') : sDPut (tVar i) (tVar j) tx Dn σ H := by
  refine h H (Ex.refl H) _ fun H1 e1 => ⟨_, hi, _, hj, ?_⟩
  have E1 := E.ex e1
  refine ⟨d, _, rfl, DPut.k (k := Sum.inl n) E1.at_ (by unfold envKV; rw [List.length_map]; exact Nat.lt_trans hl (by decide)), ?_⟩
  exact k _ (ExB.trans (.of e1) (.upd List.mem_cons_self)) (E1.put (e1 _ _ hq) hd hn hl)
end
end Ow

/-! M5: the names behind a body of small names are small. -/
namespace Ow
open PySem
theorem ShB.tail {l : Int} {s : St} {r : List St} (h : ShB l (s :: r)) : ShB l r := by
  cases h with
  | pl _ _ h => exact h
  | block _ _ _ h => exact h
  | hands _ _ _ _ _ h => exact h
theorem chkB_kb (ws : List Str) : ∀ (b : List St) (l deep : Int) (barred : List (Int × Bool)) (k : Int) (s : Sx), ShB l b → Lk s.env → KB s.env → KB (chkB ws deep barred k b s).2.env
  | [], _, _, _, _, _, _, _, kb => by rw [chkB]; exact kb
  | st :: r, l, deep, barred, k, s, sh, lk, kb => by
    have i1 := chkS_pre ws st deep barred s lk
    have k1 := chkS_keys ws st deep barred s lk
    rw [chkB]
    cases hc : chkS ws deep barred st s with
    | mk q t =>
      rw [hc] at i1 k1
      have kt : KB t.env := fun n hn => by
        rcases k1 n hn with h | ⟨p, hp, hm, e⟩
        · exact kb n h
        · subst hp
          cases sh with
          | pl h1 _ _ => rw [e]; exact h1.new hm
      cases q with
      | some q => exact kt
      | none => exact chkB_kb ws r l deep barred (k + 1) t sh.tail i1.2 kt
end Ow

/-! M6: the lines of programs. -/
namespace Ow
open PySem L2
abbrev strI (i : Int) : Str := Str.ofString (toString i)
def wordsOf (p : Pl) : List Str := wordOf p :: (argsOf p).map strI
def lineOf (p : Pl) : Str := Txt.join " " (wordsOf p)
mutual
def lnS : St → List Str
  | .pl p => [lineOf p]
  | .block b => ([("block" : Str)] ++ lnB b) ++ [("end block" : Str)]
  | .hands a b => ((([("hands" : Str)] ++ lnB a) ++ [("beside" : Str)]) ++ lnB b) ++ [("end hands" : Str)]
def lnB : List St → List Str
  | [] => []
  | s :: r => lnS s ++ lnB r
end
theorem lnB_app : ∀ (a b : List St), lnB (a ++ b) = lnB a ++ lnB b
  | [], b => by rw [lnB]; rfl
  | s :: r, b => by rw [List.cons_append, lnB, lnB, lnB_app r b, List.append_assoc]
theorem strI_nat {n : Int} (h : 0 ≤ n) : TL.tl (strI n) = TL.numL n.toNat := by
  have e : n = ((n.toNat : Nat) : Int) := by omega
  rw [e]
  exact TL.tl_num _
theorem PlB.args {p : Pl} (h : PlB p) : ∀ n ∈ argsOf p, 0 ≤ n ∧ n < 26 := by
  obtain ⟨h1, h2, h3⟩ := h
  have num : ∀ n, numOf p = n → 0 ≤ n ∧ n < 26 := fun n e => by rw [e] at h3; omega
  intro n hn
  cases p with
  | box x m =>
    rcases List.mem_cons.mp hn with w | w
    · rw [w]; exact h1 rfl
    · rw [List.mem_singleton.mp w]; exact num _ rfl
  | move x y =>
    rcases List.mem_cons.mp hn with w | w
    · rw [w]; exact h1 rfl
    · exact h2 n w
  | look x y =>
    rcases List.mem_cons.mp hn with w | w
    · rw [w]; exact h1 rfl
    · exact h2 n w
  | lend x y =>
    rcases List.mem_cons.mp hn with w | w
    · rw [w]; exact h1 rfl
    · exact h2 n w
  | «show» y => exact h2 n hn
  | «set» y m =>
    rcases List.mem_cons.mp hn with w | w
    · rw [w]; exact h2 _ List.mem_cons_self
    · rw [List.mem_singleton.mp w]; exact num _ rfl
  | drop y => exact h2 n hn
  | fin y => exact h2 n hn
  | aim y z => exact h2 n hn
/-- no sign of a text is below 48 or between 58 and 96, but the blank -/
theorem word_signs (p : Pl) : (TL.tl (wordOf p)).all (fun c => decide (97 ≤ c)) = true := by cases p <;> (dsimp only [wordOf]; decide +kernel)
theorem words_signs {p : Pl} (h : PlB p) : ∀ w ∈ wordsOf p, ∀ c ∈ TL.tl w, 48 ≤ c := by
  intro w hw c hc
  rcases List.mem_cons.mp hw with e | e
  · rw [e] at hc
    have := of_decide_eq_true (List.all_eq_true.mp (word_signs p) c hc)
    omega
  · obtain ⟨n, hn, rfl⟩ := List.mem_map.mp e
    rw [strI_nat (h.args n hn).1] at hc
    exact (TL.numL_digits _ c hc).1
theorem mem_joinL {S : List Nat} {c : Nat} : ∀ {parts : List (List Nat)}, c ∈ TL.joinL S parts → c ∈ S ∨ ∃ p ∈ parts, c ∈ p
  | [], h => by cases h
  | [p], h => .inr ⟨p, List.mem_singleton.mpr rfl, h⟩
  | p :: q :: r, h => by
    have h2 : c ∈ p ++ (S ++ TL.joinL S (q :: r)) := h
    rcases List.mem_append.mp h2 with w | w
    · exact .inr ⟨p, List.mem_cons_self, w⟩
    · rcases List.mem_append.mp w with w | w
      · exact .inl w
      · rcases mem_joinL w with w | ⟨z, hz, w⟩
        · exact .inl w
        · exact .inr ⟨z, List.mem_cons_of_mem _ hz, w⟩
theorem tl_line (p : Pl) : TL.tl (lineOf p) = TL.joinL [32] ((wordsOf p).map TL.tl) := by
  unfold lineOf
  rw [TL.join_eq, TL.tl_join]
  rfl
theorem line_signs {p : Pl} (h : PlB p) : ∀ c ∈ TL.tl (lineOf p), c = 32 ∨ 48 ≤ c := fun c hc => by
  rw [tl_line] at hc
  rcases mem_joinL hc with w | ⟨z, hz, w⟩
  · exact .inl (List.mem_singleton.mp w)
  · obtain ⟨y, hy, rfl⟩ := List.mem_map.mp hz
    exact .inr (words_signs h y hy c w)
theorem line_split {p : Pl} (h : PlB p) : Txt.split (lineOf p) " " = wordsOf p :=
  TL.split_join (s := 32) (S := []) (by decide +kernel) (by decide +kernel) (by unfold wordsOf; simp) (fun w hw hc => by have := words_signs h w hw 32 hc; omega)
def keyws : List Str := ["block", "end block", "hands", "beside", "end hands"]
theorem word2 {p : Pl} (h : PlB p) {w v : Str} {r : List Str} (e : wordsOf p = w :: v :: r) (c : Nat) (hc : c ∈ TL.tl v) : c < 58 := by
  have hv : v ∈ (argsOf p).map strI := by
    unfold wordsOf at e
    injection e with _ e2
    rw [e2]; exact List.mem_cons_self
  obtain ⟨n, hn, rfl⟩ := List.mem_map.mp hv
  rw [strI_nat (h.args n hn).1] at hc
  have := (TL.numL_digits _ c hc).2
  omega
theorem args_ne (p : Pl) : argsOf p ≠ [] := by cases p <;> simp [argsOf]
theorem line_key {p : Pl} (h : PlB p) : ∀ k ∈ keyws, lineOf p ≠ k := by
  have one : ∀ (w : Str), 32 ∉ TL.tl w → lineOf p ≠ w := fun w hw e => by
    have s := line_split h
    have s2 : Txt.split (Txt.join " " [w]) " " = [w] := TL.split_join (s := 32) (S := []) (by decide +kernel) (by decide +kernel) (by simp) (fun z hz hc => by rw [List.mem_singleton.mp hz] at hc; exact hw hc)
    have e2 : Txt.join " " [w] = w := by rw [TL.join_eq]; rfl
    rw [e2] at s2
    rw [e, s2] at s
    unfold wordsOf at s
    injection s with _ s3
    exact args_ne p (List.map_eq_nil_iff.mp s3.symm)
  have two : ∀ (w v : Str), 32 ∉ TL.tl w → 32 ∉ TL.tl v → 98 ∈ TL.tl v ∨ 104 ∈ TL.tl v → ∀ k, Txt.join " " [w, v] = k → lineOf p ≠ k := fun w v h1 h2 h3 k ek e => by
    have s := line_split h
    have s2 : Txt.split (Txt.join " " [w, v]) " " = [w, v] := TL.split_join (s := 32) (S := []) (by decide +kernel) (by decide +kernel) (by simp) (fun z hz hc => by
      rcases List.mem_cons.mp hz with q | q
      · rw [q] at hc; exact h1 hc
      · rw [List.mem_singleton.mp q] at hc; exact h2 hc)
    rw [ek] at s2
    rw [e, s2] at s
    rcases h3 with h3 | h3
    · have := word2 h s.symm _ h3; omega
    · have := word2 h s.symm _ h3; omega
  intro k hk
  simp only [keyws, List.mem_cons, List.not_mem_nil, or_false] at hk
  rcases hk with rfl | rfl | rfl | rfl | rfl
  · exact one _ (by decide +kernel)
  · exact two "end" "block" (by decide +kernel) (by decide +kernel) (.inl (by decide +kernel)) _ (by decide +kernel)
  · exact one _ (by decide +kernel)
  · exact one _ (by decide +kernel)
  · exact two "end" "hands" (by decide +kernel) (by decide +kernel) (.inr (by decide +kernel)) _ (by decide +kernel)
/-- every line of a drawn body: no line feed in it -/
theorem lnB_nl : ∀ {l : Int} {b : List St}, ShB l b → ∀ x ∈ lnB b, 10 ∉ TL.tl x
  | _, _, .nil, x, hx => by rw [lnB] at hx; cases hx
  | _, _, .pl h1 h2 h3, x, hx => by
    rw [lnB, lnS] at hx
    rcases List.mem_append.mp hx with w | w
    · intro hc
      rw [List.mem_singleton.mp w] at hc
      have := line_signs h1 10 hc
      omega
    · exact lnB_nl h3 x w
  | _, _, .block h1 h2 h3 h4, x, hx => by
    rw [lnB, lnS] at hx
    rcases List.mem_append.mp hx with w | w
    · rcases List.mem_append.mp w with w | w
      · rcases List.mem_append.mp w with w | w
        · rw [List.mem_singleton.mp w]; decide +kernel
        · exact lnB_nl h3 x w
      · rw [List.mem_singleton.mp w]; decide +kernel
    · exact lnB_nl h4 x w
  | _, _, .hands h1 h2 h3 h4 h5 h6, x, hx => by
    rw [lnB, lnS] at hx
    rcases List.mem_append.mp hx with w | w
    · rcases List.mem_append.mp w with w | w
      · rcases List.mem_append.mp w with w | w
        · rcases List.mem_append.mp w with w | w
          · rcases List.mem_append.mp w with w | w
            · rw [List.mem_singleton.mp w]; decide +kernel
            · exact lnB_nl h4 x w
          · rw [List.mem_singleton.mp w]; decide +kernel
        · exact lnB_nl h5 x w
      · rw [List.mem_singleton.mp w]; decide +kernel
    · exact lnB_nl h6 x w
/-! ### sizes -/
theorem join_len (y : Str) : ∀ ps : List Str, (Txt.join y ps).length ≤ (ps.map (·.length)).sum + ps.length * y.length := fun ps => by
  have h : ∀ (S : List Nat) (qs : List (List Nat)), (TL.joinL S qs).length ≤ (qs.map (·.length)).sum + qs.length * S.length := fun S qs => by
    induction qs with
    | nil => exact Nat.zero_le _
    | cons p r ih =>
      cases r with
      | nil =>
        show p.length ≤ _
        simp
      | cons q r =>
        show (p ++ (S ++ TL.joinL S (q :: r))).length ≤ _
        rw [List.length_append, List.length_append, List.map_cons, List.sum_cons, List.length_cons, Nat.succ_mul]
        omega
  have := h (TL.tl y) (ps.map TL.tl)
  rw [TL.join_eq, TL.len_tl, TL.tl_join]
  refine Nat.le_trans this ?_
  rw [List.map_map, List.length_map, TL.len_tl y]
  have e : (ps.map ((fun x => x.length) ∘ TL.tl)) = ps.map (·.length) := List.map_congr_left fun p _ => (TL.len_tl p).symm
  rw [e]
  exact Nat.le_refl _
theorem strI_len {n : Int} (h0 : 0 ≤ n) (h1 : n < 26) : (strI n).length ≤ 2 := by
  rw [TL.len_tl, strI_nat h0]
  exact TL.numL_len (by decide) (by omega)
theorem words_len {p : Pl} (h : PlB p) : ((wordsOf p).map (·.length)).sum ≤ 8 ∧ (wordsOf p).length ≤ 3 := by
  have a := h.args
  have w : (wordOf p).length ≤ 4 := by cases p <;> (dsimp only [wordOf]; decide +kernel)
  have l : ∀ n ∈ argsOf p, (strI n).length ≤ 2 := fun n hn => strI_len (a n hn).1 (a n hn).2
  unfold wordsOf
  have two : (argsOf p).length ≤ 2 := by cases p <;> simp [argsOf]
  have : (((argsOf p).map strI).map (·.length)).sum ≤ 2 * (argsOf p).length := by
    generalize argsOf p = as at l
    clear two a w
    induction as with
    | nil => exact Nat.zero_le _
    | cons x r ih =>
      rw [List.map_cons, List.map_cons, List.sum_cons, List.length_cons]
      have h1 := l x List.mem_cons_self
      have h2 := ih (fun n hn => l n (List.mem_cons_of_mem _ hn))
      omega
  rw [List.map_cons, List.sum_cons, List.length_cons, List.length_map]
  omega
theorem line_len {p : Pl} (h : PlB p) : (lineOf p).length ≤ 11 := by
  have := words_len h
  have e := join_len " " (wordsOf p)
  have : (" " : Str).length = 1 := by decide +kernel
  unfold lineOf
  rw [this] at e
  omega
theorem lnB_len : ∀ {l : Int} {b : List St}, ShB l b → ∀ x ∈ lnB b, x.length ≤ 11
  | _, _, .nil, x, hx => by rw [lnB] at hx; cases hx
  | _, _, .pl h1 h2 h3, x, hx => by
    rw [lnB, lnS] at hx
    rcases List.mem_append.mp hx with w | w
    · rw [List.mem_singleton.mp w]; exact line_len h1
    · exact lnB_len h3 x w
  | _, _, .block h1 h2 h3 h4, x, hx => by
    rw [lnB, lnS] at hx
    rcases List.mem_append.mp hx with w | w
    · rcases List.mem_append.mp w with w | w
      · rcases List.mem_append.mp w with w | w
        · rw [List.mem_singleton.mp w]; decide +kernel
        · exact lnB_len h3 x w
      · rw [List.mem_singleton.mp w]; decide +kernel
    · exact lnB_len h4 x w
  | _, _, .hands h1 h2 h3 h4 h5 h6, x, hx => by
    rw [lnB, lnS] at hx
    rcases List.mem_append.mp hx with w | w
    · rcases List.mem_append.mp w with w | w
      · rcases List.mem_append.mp w with w | w
        · rcases List.mem_append.mp w with w | w
          · rcases List.mem_append.mp w with w | w
            · rw [List.mem_singleton.mp w]; decide +kernel
            · exact lnB_len h4 x w
          · rw [List.mem_singleton.mp w]; decide +kernel
        · exact lnB_len h5 x w
      · rw [List.mem_singleton.mp w]; decide +kernel
    · exact lnB_len h6 x w
mutual
theorem lnS_cnt : ∀ s : St, (lnS s).length ≤ 3 * s.cnt
  | .pl p => by rw [lnS, St.cnt]; show 1 ≤ _; omega
  | .block b => by
    have := lnB_cnt b
    rw [lnS, St.cnt, List.length_append, List.length_append, List.length_singleton, List.length_singleton]; omega
  | .hands a b => by
    have := lnB_cnt a
    have := lnB_cnt b
    rw [lnS, St.cnt, List.length_append, List.length_append, List.length_append, List.length_append, List.length_singleton, List.length_singleton, List.length_singleton]; omega
theorem lnB_cnt : ∀ b : List St, (lnB b).length ≤ 3 * cntB b
  | [] => by rw [lnB]; exact Nat.zero_le _
  | s :: r => by
    have := lnS_cnt s
    have := lnB_cnt r
    rw [lnB, cntB, List.length_append]; omega
end
theorem sum_le {k : Nat} : ∀ {l : List Nat}, (∀ x ∈ l, x ≤ k) → l.sum ≤ l.length * k
  | [], _ => Nat.zero_le _
  | x :: l, h => by
    have := h x List.mem_cons_self
    have := sum_le (l := l) fun y hy => h y (List.mem_cons_of_mem _ hy)
    rw [List.sum_cons, List.length_cons, Nat.succ_mul]; omega
end Ow

/-! P19: loops over tuples, lists that grow, methods, texts. -/
namespace Ow
open PySem PySem.Spec PyProof.Rows L2 Evl
section
variable {K : PySem.W.Frag} {σ : L2.St} {H H' : Hp} {ta tb te tx tl : TE} {t : TT} {d d1 d2 : D} {tr : TA} {ds es : List D} {Dn : Ends} {tu tz : TS} {j : Nat} {vs : List Nat}
/-- [e for x in range(n) if t] -/
theorem fm_filtR (p : Nat → Bool) (F : Nat → D) (n : Nat) : ∀ l : List Nat, (∀ i ∈ l, i < n) → (l.filter p).map F = l.filterMap (fun i => if i < n ∧ p i = true then some (F i) else none)
  | [], _ => rfl
  | a :: l, h => by
    have ih := fm_filtR p F n l fun i hi => h i (List.mem_cons_of_mem _ hi)
    have ha := h a List.mem_cons_self
    rw [List.filterMap_cons, ← ih, List.filter_cons]
    by_cases hp : p a = true
    · rw [if_pos hp, if_pos ⟨ha, hp⟩, List.map_cons]
    · rw [if_neg hp, if_neg (fun z => hp z.2)]
theorem en_filtR (n : Nat) (p : Nat → Bool) (F : Nat → D) (h : EvDs K tr σ H [.int n]) (hz : n ≤ 40000) (hF : ∀ i, i < n → noL (F i) = true) (hw : ∀ x, wipe ((wipe σ vs).set j (some x)) vs = wipe σ vs)
    (ht : ∀ (i : Nat) H1, Ex H H1 → i < n → EvT t ((wipe σ vs).set j (some (.int (i : Int)))) H1 (p i))
    (he : ∀ (i : Nat) H1, Ex H H1 → i < n → p i = true → EvD K te ((wipe σ vs).set j (some (.int (i : Int)))) H1 (F i)) : EvN K (tLc (iRng1 tr) (gName j) t te vs) σ H (((List.range n).filter p).map F) := by
  have e1 : (n : Int).toNat = n := by omega
  have e0 : ((List.range n).filter p).map F = (List.range (n : Int).toNat).filterMap (fun i => if i < n ∧ p i = true then some (F i) else none) := by
    rw [e1]
    exact fm_filtR p F n _ fun i hi => List.mem_range.mp hi
  rw [e0]
  refine en_lcR _ (fun i d e => ?_) h (by omega) (fun i H1 e hi => ?_)
  · split at e
    · rename_i hi
      cases e
      exact hF i hi.1
    · cases e
  · have hi2 : i < n := by omega
    have e2 : (if i < n ∧ p i = true then some (F i) else none) = (if p i = true then some (F i) else none) := by
      by_cases hp : p i = true
      · rw [if_pos hp, if_pos ⟨hi2, hp⟩]
      · rw [if_neg hp, if_neg (fun z => hp z.2)]
    rw [e2]
    exact td_if (hw _) (ht i H1 e hi2) (he i H1 e hi2)
/-- for x in a tuple -/
theorem s_forTD (h : EvD K tl σ H (.tuple ds)) (hn : noLs ds = true) (k : ∀ H1, Ex H H1 → ∃ Pv : Nat → L2.St → Hp → Prop, Pv 0 σ H1 ∧ (∀ i σ' H', Pv i σ' H' → TEx H1 H') ∧
    (∀ (i : Nat) d x σ' H', ds[i]? = some d → Dp K H' x d → Pv i σ' H' → tu { Dn with nx := Pv (i + 1), ct := Pv (i + 1), bk := Dn.nx } (σ'.set j (some x)) H') ∧ (∀ σ' H', Pv ds.length σ' H' → Dn.nx σ' H')) : tFor (iTup K tl) (gName j) tu Dn σ H := by
  refine h H (Ex.refl H) _ fun v H1 e hv => ?_
  obtain ⟨a, xs, rfl, h1, h2⟩ := dp_tup_inv hv
  obtain ⟨Pv, p0, px, ps, pe⟩ := k H1 e
  have l := dpa_len h2
  refine ⟨a, rfl, ⟨xs, h1⟩, for_tup (K := K) (a := a) (xs := xs) Pv p0 (fun i σ' H' _ p => tex_t (px i σ' H' p) h1) (fun i x σ' H' hi p => ?_) (fun σ' H' p => pe σ' H' (by rw [← l]; exact p))⟩
  obtain ⟨d, g1, g2⟩ := dpa_getv h2 hi
  exact ps i d x σ' H' g1 (Dpt g2 (noLs_mem hn d (ge_of g1)) (px i σ' H' p)) p
theorem q_forTD (h : EvD K tl σ H (.tuple ds)) (hn : noLs ds = true) (k : ∀ H1, Ex H H1 → ∃ Pv : Nat → L2.St → Hp → Prop, Pv 0 σ H1 ∧ (∀ i σ' H', Pv i σ' H' → TEx H1 H') ∧
    (∀ (i : Nat) d x σ' H', ds[i]? = some d → Dp K H' x d → Pv i σ' H' → tu { Dn with nx := Pv (i + 1), ct := Pv (i + 1), bk := tz Dn } (σ'.set j (some x)) H') ∧ (∀ σ' H', Pv ds.length σ' H' → tz Dn σ' H')) : tSeq (tFor (iTup K tl) (gName j) tu) tz Dn σ H := s_forTD (Dn := { Dn with nx := tz Dn }) h hn k
/-! ### lists that grow -/
theorem s_appD {i : Nat} {p : Addr} {us : List V} (hi : σ[i]? = some (some (.ref p))) (hp : H p = some (.lst us)) (hl : us.length ≤ 100000) (h : EvD K te σ H d) (k : ∀ v H1, Ex H H1 → Dp K H1 v d → Dn.nx σ (upd H1 p (.lst (us ++ [v])))) :
    tDrop (tBM K "list" rAppend (tVar i) (tCons te tNil)) Dn σ H := by
  refine ⟨_, hi, .inl ⟨rfl, us, sq_of hp⟩, h H (Ex.refl H) _ fun v H1 e hv => ?_⟩
  have : us.length < sizeLine := Nat.lt_of_le_of_lt hl (by decide)
  exact ⟨p, us, v, rfl, rfl, e _ _ hp, this, k v H1 e hv⟩
theorem s_extD {i : Nat} {p : Addr} {us : List V} (hi : σ[i]? = some (some (.ref p))) (hp : H p = some (.lst us)) (hl : us.length + ds.length ≤ 100000) (h : EvN K te σ H ds) (k : ∀ vs H1, Ex H H1 → DpAll K H1 vs ds → Dn.nx σ (upd H1 p (.lst (us ++ vs)))) :
    tDrop (tBM K "list" rExtend (tVar i) (tCons te tNil)) Dn σ H := by
  refine ⟨_, hi, .inl ⟨rfl, us, sq_of hp⟩, h H (Ex.refl H) _ fun q vs H1 hq e h1 hv => ?_⟩
  have l := dpa_len hv
  have : us.length + vs.length ≤ sizeLine := Nat.le_trans (by rw [l]; exact hl) (by decide)
  exact ⟨p, q, us, vs, rfl, rfl, e _ _ hp, h1, this, k vs H1 e hv⟩
/-! ### texts -/
abbrev rJoinK (K : PySem.W.Frag) : V → List V → Hp → VK → Prop := fun x xs H Q => ∃ a p, ∃ ys : List Str, x = .str a ∧ xs = [.ref p] ∧ (SqL K H p (ys.map V.str) ∨ SqT K H p (ys.map V.str)) ∧
      (ys.map (·.length)).sum + ys.length * a.length ≤ 16777216 ∧ Q (.str (Txt.join a ys)) H
abbrev rSplitK : V → List V → Hp → VK → Prop := fun x xs H Q => ∃ a b, x = .str a ∧ xs = [.str b] ∧ (b.length == 0) = false ∧ a.length + 2 ≤ sizeLine ∧ rNewStrs (Txt.split a b) H Q
theorem pe_joinK {X : Cx} (K : PySem.W.Frag) (h : X.K = K) {o e : Expr} {to te : TE} {apos pos : Pos} (ho : PE X o to) (he : PE X e te) (hs : starEach [e] X.env = [(false, eval e X.env)] := by rfl) (hbase : attributeBase o "join" X.env (eval o X.env) = eval o X.env := by rfl) (hline : (apos.endLine == pos.line) = true := by rfl) :
    PE X (.Call (.Attribute o "join" apos) [e] [] pos) (tM1 (rJoinK K) to te) := h ▸ pe_join ho he hs hbase hline
theorem ed_join {a : Str} {ys : List Str} (h1 : EvD K ta σ H (.str a)) (h2 : EvN K te σ H (ys.map PyData.str)) (hl : (ys.map (·.length)).sum + ys.length * a.length ≤ 16777216) : EvD K (tM1 (rJoinK K) ta te) σ H (.str (Txt.join a ys)) := fun H1 e Q q =>
  (ev_str h1) H1 e _ fun H2 e2 => ⟨⟨a, rfl⟩, h2 H2 (e.trans e2) _ fun p us H3 hp e3 h3 hv => ⟨a, p, ys, rfl, rfl, .inl (by rw [dpa_strs_inv hv] at h3; exact sq_of h3), hl, q _ H3 (e2.trans e3) (.str _)⟩⟩
theorem en_split {a b : Str} (h1 : EvD K ta σ H (.str a)) (h2 : EvD K te σ H (.str b)) (hb : (b.length == 0) = false) (hl : a.length ≤ 100000) : EvN K (tM1 rSplitK ta te) σ H ((Txt.split a b).map PyData.str) := fun H1 e Q q =>
  (ev_str h1) H1 e _ fun H2 e2 => ⟨⟨a, rfl⟩, (ev_str h2) H2 (e.trans e2) _ fun H3 e3 => ⟨a, b, rfl, rfl, hb, Nat.le_trans (Nat.add_le_add_right hl 2) (by decide), fun p hp => q p _ _ (fresh_back (e2.trans e3) hp) ((e2.trans e3).trans (Ex.new hp)) upd_same (dpa_strs _)⟩⟩
abbrev rStrSI : List V → Hp → VK → Prop := fun xs H Q => (∃ a, xs = [.str a] ∧ Q (.str a) H) ∨ ∃ i, xs = [.int i] ∧ i.natAbs.log2 < 1920 ∧ Q (.str (toString i)) H
theorem rc_strS {a : Str} : RCD K rStrSI [.str a] H (.str a) := fun H1 e vs h Q q => by
  obtain ⟨v, rfl, hv⟩ := dpa1 h
  cases hv
  exact .inl ⟨a, rfl, q _ H1 (Ex.refl H1) (.str _)⟩
theorem rc_strI {i : Int} (hi : i.natAbs.log2 < 1920) : RCD K rStrSI [.int i] H (.str (strI i)) := fun H1 e vs h Q q => by
  obtain ⟨v, rfl, hv⟩ := dpa1 h
  cases hv
  exact .inr ⟨i, rfl, hi, q _ H1 (Ex.refl H1) (.str _)⟩
theorem rc_intS {a : Str} {n : Int} (h1 : PySem.intText? a = some n) (h2 : a.length ≤ 640) : RCD K (fun xs H Q => ∃ a n, xs = [V.str a] ∧ PySem.intText? a = some n ∧ a.length ≤ 640 ∧ Q (.int n) H) [.str a] H (.int n) := fun H1 e vs h Q q => by
  obtain ⟨v, rfl, hv⟩ := dpa1 h
  cases hv
  exact ⟨a, n, rfl, h1, h2, q _ H1 (Ex.refl H1) (.int _)⟩
abbrev rInSign : R2 := fun x y H Q => ∃ (c : Nat) (z : Str), x = .str ⟨#[c]⟩ ∧ y = .str z ∧ Q (.bl (decide (c ∈ z.cps.toList))) H
theorem rd_inSign {c : Nat} {z : Str} : RD K rInSign (.str ⟨#[c]⟩) (.str z) H (.bool (decide (c ∈ z.cps.toList))) := fun H1 e x y hx hy Q q => by
  cases hx; cases hy
  exact ⟨c, z, rfl, rfl, q _ H1 (Ex.refl H1) (.bl _)⟩
theorem rd_ixS {z : Str} {i : Int} {c : Nat} (hz : z.length ≤ 100000) (h : atI z.cps.toList i = some c) : RD K rIxS (.str z) (.int i) H (.str ⟨#[c]⟩) := fun H1 e x y hx hy Q q => by
  cases hx; cases hy
  exact ⟨z, i, c, rfl, rfl, sz_of hz, h, q _ H1 (Ex.refl H1) (.str _)⟩
theorem rd_eqB {a b : Bool} : RD K rEq (.bool a) (.bool b) H (.bool (decide (a = b))) := fun H1 _ x y hx hy _ q => by
  cases hx; cases hy
  refine ⟨rfl, ?_⟩
  have e : decide (V.bl a = V.bl b) = decide (a = b) := by simp
  rw [e]
  exact q _ H1 (Ex.refl H1) (.bl _)
theorem rd_neB {a b : Bool} : RD K rNe (.bool a) (.bool b) H (.bool (!decide (a = b))) := fun H1 _ x y hx hy _ q => by
  cases hx; cases hy
  refine ⟨rfl, ?_⟩
  have e : decide (V.bl a = V.bl b) = decide (a = b) := by simp
  rw [e]
  exact q _ H1 (Ex.refl H1) (.bl _)
/-! ### slices of lists -/
theorem dpa_cut {us : List V} (h : DpAll K H us ds) (lo hi : Option Int) : DpAll K H (cutV us lo hi) ((ds.drop (HT.sIx ds.length 0 lo)).take (HT.sIx ds.length ds.length hi - HT.sIx ds.length 0 lo)) := by
  unfold cutV
  rw [dpa_len h]
  exact dpa_take _ (dpa_drop _ h)
theorem en_cutTo {k : Nat} (h : EvP K te σ H ds) (hb : EvD K tb σ H (.int (k : Int))) : EvN K (tSl (rSlL K) te tNoPart (tPart tb)) σ H (ds.take k) := fun H1 e Q q =>
  h H1 e _ fun p us H2 e2 h2 a => (ev_int hb) H2 (e.trans e2) _ fun H3 e3 => ⟨_, rfl, p, us, rfl, sq_of (e3 _ _ h2), fun l hl => q l _ _ (fresh_back (e2.trans e3) hl) ((e2.trans e3).trans (Ex.new hl)) upd_same (by
    have := dpa_cut (Dpax a (e3.trans (Ex.new (o := .lst (cutV us none (some (k : Int)))) hl))) none (some (k : Int))
    have e0 : HT.sIx ds.length 0 none = 0 := rfl
    have e1 : HT.sIx ds.length ds.length (some (k : Int)) = min k ds.length := by
      show (if (k : Int) < 0 then ((k : Int) + (ds.length : Int)).toNat else min (k : Int).toNat ds.length) = _
      rw [if_neg (by omega)]; rfl
    rw [e0, e1, List.drop_zero, Nat.sub_zero] at this
    have e2 : ds.take (min k ds.length) = ds.take k := by
      rw [← List.take_take, List.take_of_length_le (Nat.le_refl ds.length)]
    rw [e2] at this
    exact this)⟩
theorem en_cutFrom {k : Nat} (h : EvP K te σ H ds) (hb : EvD K tb σ H (.int (k : Int))) : EvN K (tSl (rSlL K) te (tPart tb) tNoPart) σ H (ds.drop k) := fun H1 e Q q =>
  h H1 e _ fun p us H2 e2 h2 a => (ev_int hb) H2 (e.trans e2) _ fun H3 e3 => ⟨_, rfl, p, us, rfl, sq_of (e3 _ _ h2), fun l hl => q l _ _ (fresh_back (e2.trans e3) hl) ((e2.trans e3).trans (Ex.new hl)) upd_same (by
    have := dpa_cut (Dpax a (e3.trans (Ex.new (o := .lst (cutV us (some (k : Int)) none)) hl))) (some (k : Int)) none
    have e0 : HT.sIx ds.length ds.length none = ds.length := rfl
    have e1 : HT.sIx ds.length 0 (some (k : Int)) = min k ds.length := by
      show (if (k : Int) < 0 then ((k : Int) + (ds.length : Int)).toNat else min (k : Int).toNat ds.length) = _
      rw [if_neg (by omega)]; rfl
    rw [e0, e1] at this
    have e2 : (ds.drop (min k ds.length)).take (ds.length - min k ds.length) = ds.drop k := by
      rw [List.take_of_length_le (by rw [List.length_drop]; omega)]
      by_cases hk : k ≤ ds.length
      · rw [Nat.min_eq_left hk]
      · rw [Nat.min_eq_right (by omega), List.drop_eq_nil_of_le (Nat.le_refl _), List.drop_eq_nil_of_le (by omega)]
    rw [e2] at this
    exact this)⟩
end
/-! ### methods -/
structure MCal (P : Program) (w : World) (K : PySem.W.Frag) (mg : Str → Option Value) (base : Heap) (CX : CXT) (k : Nat) (C : Addr) (m : Str) (ps : List Str) (sp : Sp) : Prop where
  cl : Cls K C
  ex : ∃ f fd, FnOk P w K mg base CX k f fd ps sp ∧ Meth K C m f ∧ Binds K fd ps []
theorem MCal.mono {P : Program} {w : World} {K : PySem.W.Frag} {mg : Str → Option Value} {base : Heap} {CX : CXT} {j k : Nat} {C : Addr} {x : Str} {ps : List Str} {sp : Sp} (c : MCal P w K mg base CX j C x ps sp) (h : j ≤ k) : MCal P w K mg base CX k C x ps sp := by
  obtain ⟨f, fd, F, r⟩ := c.ex
  exact ⟨c.cl, f, fd, F.mono h, r⟩
/-- a method as the head tells it -/
structure MDef (K : PySem.W.Frag) (C : Addr) (m q : Str) (st : Stmt) : Prop where
  cl : Cls K C
  ex : ∃ f fd, FunD K m q (defArgs st) (defBody st) (defScope st) [] [] f fd ∧ Meth K C m f
section
variable {P : Program} {w : World} {K : PySem.W.Frag} {mg : Str → Option Value} {base : Heap}
theorem MDef.ok {CX : CXT} {C : Addr} {m qn : Str} {st : Stmt} {N ps : List Str} {k : Nat} {sp : Sp} (F : MDef K C m qn st) (S : FnScope N ps (defScope st)) (len : ∀ vs H Q E, sp vs H Q E → vs.length = ps.length)
    (hb : ∀ (kV doc pm : Value) (an : Option Addr) (cdv ct : Value) (us : List Value), us.length = ps.length → bindArgs (PySem.W.fnOf m qn (defArgs st) (defBody st) (defScope st) .none kV doc pm an cdv ct) ⟨us, []⟩ = pure (ps.zip us))
    (hbody : ∀ (f : Addr) (cdv : Value) (A : Around) (outer : List PySem.Env) (s : Shared) (H : Hp) (vs : List V) (Q : VK) (E : XK), Room k (A.deeper (envOfC qn (defScope st) s.heap.objs.size f cdv)) → sp vs H Q E →
      ∃ t, PSs (cxOf CX P w K mg base N qn (defScope st) f cdv A outer s H E) (defBody st) t ∧ t { nx := fun _ H' => Q .non H', rt := Q } (start N vs) H) : MCal P w K mg base CX (k + 1) C m ps sp := by
  obtain ⟨f, fd, F2, M⟩ := F.ex
  exact ⟨F.cl, f, fd, F2.ok S len (hbody f), M, F2.bindsN hb⟩
end
section
variable {X : Cx} {k : Nat} {C : Addr} {m : Str} {ps : List Str} {sp : Sp} {CX : CXT} {E : XK} {o e : Expr} {es : List Expr} {ta : TE} {t : TA} {apos pos : Pos}
theorem pe_mth {pl : Sem Bool} (c : MCal X.prog X.w X.K X.mg X.base CX k C m ps sp) (hr : Room k X.A) (hx : Passes CX X E) (he : PE X o ta) (ha : PA X (e :: es) t)
    (hst : starEach (e :: es) X.env = (false, eval e X.env) :: starEach es X.env := by rfl) (hpl : (backTo pos (starEach es X.env)).any (·.1) = false := by rfl)
    (ht : eval (.Call (.Attribute o m apos) (e :: es) [] pos) X.env = (do
      let ov ← eval o X.env
      standAt apos.atName
      let (f, first) ← holding [ov] (getMethod ov m pl)
      callWith pos f first (backTo pos (starEach (e :: es) X.env)) (backToKw pos (keywordEach [] X.env))) := by rfl) :
    PE X (.Call (.Attribute o m apos) (e :: es) [] pos) (tMeth C m sp [] E ta t) := by
  obtain ⟨f, fd, F, M, b⟩ := c.ex
  exact pe_meth he c.cl M F hr b .nil hx ha hst hpl ht
theorem pe_mth0 {pl : Sem Bool} (c : MCal X.prog X.w X.K X.mg X.base CX k C m ps sp) (hr : Room k X.A) (hx : Passes CX X E) (he : PE X o ta)
    (ht : eval (.Call (.Attribute o m apos) [] [] pos) X.env = (do
      let ov ← eval o X.env
      standAt apos.atName
      let (f, first) ← holding [ov] (getMethod ov m pl)
      callWith pos f first (backTo pos (starEach [] X.env)) (backToKw pos (keywordEach [] X.env))) := by rfl) :
    PE X (.Call (.Attribute o m apos) [] [] pos) (tMeth C m sp [] E ta tNil) := by
  obtain ⟨f, fd, F, M, b⟩ := c.ex
  exact pe_meth0 he c.cl M F hr b .nil hx ht
end
/-- a class of the program: how it is made -/
structure KCal (P : Program) (w : World) (K : PySem.W.Frag) (mg : Str → Option Value) (base : Heap) (CX : CXT) (k : Nat) (C : Addr) (x : Str) (ps : List Str) (sp : Sp) : Prop where
  ex : ∃ f fd, FnOk P w K mg base CX k f fd ps sp ∧ Mk K C f ∧ mg x = some (.ref C) ∧ Binds K fd ps []
section
variable {X : Cx} {k : Nat} {C : Addr} {x : Str} {ps : List Str} {sp : Sp} {CX : CXT} {E : XK} {o e : Expr} {es : List Expr} {ta : TE} {t : TA} {p pos : Pos}
theorem pe_mk (c : KCal X.prog X.w X.K X.mg X.base CX k C x ps sp) (hr : Room (k + 1) X.A) (hg : Gl X x) (hx : Passes CX X E) (ha : PA X (e :: es) t) (hdb : (x == ("__debug__" : Str)) = false := by decide) (he : starEach (e :: es) X.env = (false, eval e X.env) :: starEach es X.env := by rfl) (hpl : (backTo pos (starEach es X.env)).any (·.1) = false := by rfl) :
    PE X (.Call (.Name x p) (e :: es) [] pos) (tMake C sp [] E t) := by
  obtain ⟨f, fd, F, M, m, b⟩ := c.ex
  exact pe_make M F hr hg m b .nil hx ha hdb he hpl
end
end Ow

/-! P20: lines put together. -/
namespace Ow
open PySem PySem.Spec PyProof.Rows L2 Evl
theorem enc_at {b : List St} {i : Nat} {d : D} (h : (encs b)[i]? = some d) : ∃ st, b[i]? = some st ∧ d = st.enc := by
  rw [encs_map, List.getElem?_map] at h
  cases e : b[i]? with
  | none => rw [e] at h; cases h
  | some st =>
    rw [e] at h
    cases h
    exact ⟨st, rfl, rfl⟩
theorem lnB_one (st : St) : lnB [st] = lnS st := by rw [lnB, lnB, List.append_nil]
theorem take_at {α : Type} {l : List α} {i : Nat} {a : α} (h : l[i]? = some a) : l.take (i + 1) = l.take i ++ [a] := by
  rw [List.take_add_one, h]; rfl
theorem lnB_take {b : List St} {i : Nat} {st : St} (h : b[i]? = some st) : lnB (b.take (i + 1)) = lnB (b.take i) ++ lnS st := by
  rw [take_at h, lnB_app, lnB_one]
theorem lnB_take_le (b : List St) (i : Nat) : (lnB (b.take i)).length ≤ (lnB b).length := by
  have : lnB b = lnB (b.take i) ++ lnB (b.drop i) := by rw [← lnB_app, List.take_append_drop]
  rw [this, List.length_append]; omega
theorem lnS_le {b : List St} {i : Nat} {st : St} (h : b[i]? = some st) : (lnB (b.take i)).length + (lnS st).length ≤ (lnB b).length := by
  have := lnB_take_le b (i + 1)
  rw [lnB_take h, List.length_append] at this
  exact this
theorem ShB.plB {l : Int} {b : List St} (sh : ShB l b) {p : Pl} (h : .pl p ∈ b) : PlB p := by
  induction sh with
  | nil => cases h
  | pl h1 h2 h3 ih =>
    rcases List.mem_cons.mp h with w | w
    · cases w; exact h1
    · exact ih w
  | block h1 h2 h3 h4 ih1 ih2 =>
    rcases List.mem_cons.mp h with w | w
    · cases w
    · exact ih2 w
  | hands h1 h2 h3 h4 h5 h6 ih1 ih2 ih3 =>
    rcases List.mem_cons.mp h with w | w
    · cases w
    · exact ih3 w
theorem ShB.blB {l : Int} {b : List St} (sh : ShB l b) {c : List St} (h : .block c ∈ b) : l < 2 ∧ c.length ≤ 4 ∧ ShB 2 c := by
  induction sh with
  | nil => cases h
  | pl h1 h2 h3 ih =>
    rcases List.mem_cons.mp h with w | w
    · cases w
    · exact ih w
  | block h1 h2 h3 h4 ih1 ih2 =>
    rcases List.mem_cons.mp h with w | w
    · cases w; exact ⟨h1, h2, h3⟩
    · exact ih2 w
  | hands h1 h2 h3 h4 h5 h6 ih1 ih2 ih3 =>
    rcases List.mem_cons.mp h with w | w
    · cases w
    · exact ih3 w
theorem ShB.hdB {l : Int} {b : List St} (sh : ShB l b) {c e : List St} (h : .hands c e ∈ b) : l = 0 ∧ c.length ≤ 3 ∧ e.length ≤ 3 ∧ ShB 1 c ∧ ShB 1 e := by
  induction sh with
  | nil => cases h
  | pl h1 h2 h3 ih =>
    rcases List.mem_cons.mp h with w | w
    · cases w
    · exact ih w
  | block h1 h2 h3 h4 ih1 ih2 =>
    rcases List.mem_cons.mp h with w | w
    · cases w
    · exact ih2 w
  | hands h1 h2 h3 h4 h5 h6 ih1 ih2 ih3 =>
    rcases List.mem_cons.mp h with w | w
    · cases w; exact ⟨h1, h2, h3, h4, h5⟩
    · exact ih3 w
/-- str of an item -/
def strD : D → D
  | .int i => .str (strI i)
  | d => d
theorem strD_words (p : Pl) : (PyData.str (wordOf p) :: (argsOf p).map PyData.int).map strD = (wordsOf p).map PyData.str := by
  unfold wordsOf
  rw [List.map_cons, List.map_cons, List.map_map, List.map_map]
  rfl
section
variable {K : PySem.W.Frag} {σ : L2.St} {H H' : Hp} {te : TE} {ds es : List D} {Dn : Ends} {i : Nat}
theorem en_is (h : EvN K te σ H ds) (e : ds = es) : EvN K te σ H es := e ▸ h
theorem log_small {n : Int} (h0 : 0 ≤ n) (h1 : n < 100) : n.natAbs.log2 < 1920 := Nat.lt_of_le_of_lt (Nat.log2_le_self _) (by omega)
/-- a list of texts that one def fills -/
structure LnAt (H0 H2 : Hp) (p : Addr) (ls : List Str) (H : Hp) : Prop where
  fresh : H0 p = none
  ex : Ex H0 H
  tx : TEx H2 H
  at_ : H p = some (.lst (ls.map V.str))
theorem LnAt.exx {H0 H2 : Hp} {p : Addr} {ls : List Str} (h : LnAt H0 H2 p ls H) (e : Ex H H') : LnAt H0 H2 p ls H' := ⟨h.fresh, h.ex.trans e, h.tx.trans (Ex.tex e), e _ _ h.at_⟩
theorem LnAt.new {H0 H2 : Hp} {p q : Addr} {ls ms : List Str} {us : List V} (h : LnAt H0 H2 p ls H) (hq : H q = none) (e : Ex H H') (a : H' q = some (.lst us)) (d : DpAll K H' us (ms.map PyData.str)) : LnAt H0 H2 q ms H' := ⟨fresh_back h.ex hq, h.ex.trans e, h.tx.trans (Ex.tex e), by rw [dpa_strs_inv d] at a; exact a⟩
theorem LnAt.app {H0 H2 : Hp} {p : Addr} {ls : List Str} {us : List V} {ms : List Str} (h : LnAt H0 H2 p ls H) (hu : us = ms.map V.str) : LnAt H0 H2 p (ls ++ ms) (upd H p (.lst (ls.map V.str ++ us))) :=
  ⟨h.fresh, ex_chain h.ex (ExB.upd List.mem_cons_self) (fun z hz => by rw [List.mem_singleton.mp hz]; exact h.fresh), h.tx.trans (tex_lst h.at_), by rw [hu, List.map_append]; exact upd_same⟩
end
section
variable {X : Cx} {o : Expr} {f : Str} {pos : Pos} {ta : TE}
theorem pg_fldK (K : PySem.W.Frag) (h : X.K = K) (ho : PE X o ta) : PG X (.Attribute o f pos) (gFld K ta f) := h ▸ pg_fld ho
end
end Ow

/-! R1: comprehensions over range(lo, hi); texts in order. -/
namespace Ow
open PySem PySem.Spec PyProof.Rows L2 Evl
section
variable {K : PySem.W.Frag} {σ : L2.St} {H : Hp} {tr : TA} {te : TE} {j : Nat} {vs : List Nat}
/-- [F i for i in range(lo, hi)] -/
theorem en_mapR2 (lo hi : Int) (n : Nat) (F : Nat → D) (h : EvDs K tr σ H [.int lo, .int hi]) (hn : (hi - lo).toNat = n) (hz : 0 ≤ lo ∧ lo ≤ 40000 ∧ 0 ≤ hi ∧ hi ≤ 40000) (hF : ∀ i, i < n → noL (F i) = true) (hw : ∀ x, wipe ((wipe σ vs).set j (some x)) vs = wipe σ vs)
    (he : ∀ (i : Nat) H1, Ex H H1 → i < n → EvD K te ((wipe σ vs).set j (some (.int (lo + (i : Int))))) H1 (F i)) : EvN K (tLc (iRng2 tr) (gName j) tYes te vs) σ H ((List.range n).map F) := by
  have e0 : (List.range n).map F = (List.range n).filterMap (fun i => if i < n then some (F i) else none) := by
    have : ∀ l : List Nat, (∀ i ∈ l, i < n) → l.map F = l.filterMap (fun i => if i < n then some (F i) else none) := by
      intro l
      induction l with
      | nil => intro _; rfl
      | cons a l ih =>
        intro hl
        rw [List.filterMap_cons, if_pos (hl a List.mem_cons_self), List.map_cons, ih fun i hi => hl i (List.mem_cons_of_mem _ hi)]
    exact this _ fun i hi => List.mem_range.mp hi
  rw [e0]
  intro H0 e Q q
  refine h H0 e _ fun us H1 e1 hv => ?_
  cases hv with
  | cons g1 hv => cases hv with
    | cons g2 hv =>
      cases hv
      cases g1; cases g2
      subst hn
      refine ⟨lo, hi, rfl, ⟨by omega, by omega, by omega, by omega⟩, fun Dl hD => lc_range (lo := lo) (n := (hi - lo).toNat) (CwD K H1 (fun i => if i < (hi - lo).toNat then some (F i) else none) Dl) ⟨hD, Ex.new hD, [], upd_same, .nil⟩ (fun i H' hi2 p => ?_) (fun H' p => cw_end e1 p q)⟩
      refine turn_go (fun i d h => ?_) p (by omega) ?_
      · split at h
        · rename_i z; cases h; exact hF i z
        · cases h
      · rw [if_pos hi2]
        exact td_all (hw _) (he i H1 (e.trans e1) hi2)
end
def sLt (a b : Str) : Bool := decide (a.cps.toList < b.cps.toList)
theorem rising_adj : ∀ {l : List Str} {p : Str} {i : Nat} {a b : Str}, risingS p l = true → (p :: l)[i]? = some a → (p :: l)[i + 1]? = some b → ltCps b.cps.toList a.cps.toList = false
  | [], p, i, a, b, h, ha, hb => by
    rw [List.getElem?_cons_succ] at hb
    cases hb
  | x :: l, p, 0, a, b, h, ha, hb => by
    have h2 : (!ltCps x.cps.toList p.cps.toList && risingS x l) = true := h
    rw [List.getElem?_cons_zero] at ha
    rw [List.getElem?_cons_succ, List.getElem?_cons_zero] at hb
    cases ha; cases hb
    have := (Bool.and_eq_true_iff.mp h2).1
    simpa using this
  | x :: l, p, i + 1, a, b, h, ha, hb => by
    have h2 : (!ltCps x.cps.toList p.cps.toList && risingS x l) = true := h
    rw [List.getElem?_cons_succ] at ha hb
    exact rising_adj (Bool.and_eq_true_iff.mp h2).2 ha hb
theorem sorted_adj {l : List Str} {i : Nat} {a b : Str} (h : sortedS l = true) (ha : l[i]? = some a) (hb : l[i + 1]? = some b) : ltCps b.cps.toList a.cps.toList = false := by
  cases l with
  | nil => cases ha
  | cons p l => exact rising_adj h ha hb
end Ow

/-! R2: own errors without arguments; a def that takes a lambda and looks at its error. -/
namespace Ow
open PySem PySem.Spec PyProof.Rows L2 Evl
/-- an own exception class of the module -/
structure ExcK (K : PySem.W.Frag) (mg : Str → Option Value) (x : Str) (C : Addr) : Prop where
  xc : PySem.W.excIn K C [.type "ValueError", .type "Exception", .type "BaseException", .type "object"] "ValueError.__new__" = true
  g : mg x = some (.ref C)
  k : PySem.W.keepIn K (.ref C) = true
  b : PySem.W.subIn K (.ref C) (.type "BaseException") = some true
  t : PySem.W.typeIn K (.ref C) = some (.type "type")
section
variable {X : Cx}
/-- X() -/
theorem pmk_own0 {C : Addr} {bmB : List Value} {B newId initId : String} {x : Str} {p pos : Pos} (F : ExcBaseFacts B newId initId bmB) (q : PySem.W.excIn X.K C bmB newId = true) (gC : X.mg x = some (.ref C)) (kC : PySem.W.keepIn X.K (.ref C) = true) (r : Raises X (.ref C)) (hg : Gl X x)
    (hdb : (x == ("__debug__" : Str)) = false := by decide) : PMk X (.Call (.Name x p) [] [] pos) (fun _ H Q => Q (.ref C) none H) := by
  intro pins s σ H Q I h
  refine wpAny_Call_Name_kw (ld_glob I hg gC ?_ hdb)
  refine PySem.W.callWith_K0 I.kIn kC ?_
  obtain ⟨bm, N, nm, qn, bs, hdct, sn, sub, ab, col, dd, k0, k1, k2, k3, k5, mN, hC, hN, hni, T⟩ := exc_obj I.kIn q
  show wpAny _ _ (call (.ref C) []) _ _ _
  refine wpAny_call_exc_subT F T hC hN hni (fun h' e hm => ?_) (by show 0 ≤ sizeLine; exact Nat.zero_le _)
  exact mk_of I hm r h (I.hok.gone hm.new)
end
/-- what the def `try: a() / except O as e: return isinstance(e, N) / return False` makes of the lambda's reading -/
def TNot (K : PySem.W.Frag) (CO CN : Addr) : (XK → Hp → VK → Prop) → Hp → VK → Prop := fun tl H Q =>
  tl (fun cls d H' => ∃ (D : Addr) (bb : Bool), cls = .ref D ∧ d = none ∧ ExcC K D ∧ PySem.W.exmOne K (.ref D) (.ref CO) = some true ∧ PySem.W.kitOne K (.ref D) (.ref CN) = some bb ∧ Q (.bl bb) H') H (fun _ H' => Q (.bl false) H')
def tsNot (K : PySem.W.Frag) (CN : Addr) (a : Addr) (cls : Value) (d : Option Addr) : TS := fun De σ H => ∃ (D : Addr) (bb : Bool) (σ0 : L2.St), cls = .ref D ∧ d = none ∧ ExcC K D ∧ PySem.W.kitOne K (.ref D) (.ref CN) = some bb ∧ σ = σ0.set 1 (some (.ref a)) ∧ De.rt (.bl bb) H
theorem not_gives {X : Cx} {x q eO eN : Str} {a : Str} {sg : Scope} {g CO CN : Addr} {cdg : Value} {j : Nat} {p1 p2 p3 p4 p5 p6 p7 p8 p9 p10 p11 p12 p13 : Pos} (hgO : sg.names.lookup eO = some .globalImplicit) (hmO : X.mg eO = some (.ref CO)) (hdO : (eO == ("__debug__" : Str)) = false)
    (hgN : sg.names.lookup eN = some .globalImplicit) (hmN : X.mg eN = some (.ref CN)) (hdN : (eN == ("__debug__" : Str)) = false) (hgI : sg.names.lookup ("isinstance" : Str) = some .globalImplicit) (hmI : X.mg "isinstance" = none) (he : sg.names.lookup ("e" : Str) = some .local) (hk : sg.kind = .function) (hne : a ≠ ("e" : Str))
    : LamX.GivesTo X [a, "e"] x sg g cdg [.Try [.Expr (.Call (.Name a p1) [] [] p2) p3] [.ExceptHandler (some (.Name eO p4)) (some "e") [.Return (some (.Call (.Name "isinstance" p5) [.Name "e" p6, .Name eN p7] [] p8)) p9] p10] [] [] p11, .Return (some (.Constant (.bool false) j p12)) p13] a q (TNot X.K CO CN) := by
  intro f c' s H Q tl act hc h
  have hgl : Gl (cxOf C8.CX0 X.prog X.w X.K X.mg X.base [a, "e"] x sg g cdg X.A X.stack s H C8.E0).nox eO := hgO
  refine ⟨_, pss_cons (ps_try_as (X := (cxOf C8.CX0 X.prog X.w X.K X.mg X.base [a, "e"] x sg g cdg X.A X.stack s H C8.E0).nox) (c := .ref CO) (i := 1)
      (tb := fun W D σ H => ∃ Ech : XK, (∀ cls d σ' H', Ech cls d H' → W cls d σ' H') ∧ σ[0]? = some (some (.ref f)) ∧ H c' = some (LamX.CodeO c' q) ∧ tl Ech H (fun _ H' => D.nx σ H')) (ts := tsNot X.K CN)
      rfl rfl (show [a, ("e" : Str)].Nodup from by simpa using hne) rfl ?_ ⟨hgl, hdO, .inl hmO⟩ LamX.takes0 (fun W pn xe tk _ => ?_) (fun b oe cls d pn hz hf => ?_)) (pss_one (ps_ret pe_bl)), ?_⟩
  · exact he
  · refine ⟨fun pins s' σ H' D I h' => ?_⟩
    obtain ⟨Ech, hW, h1, h2, h3⟩ := h'
    have hp := act W pn xe Ech p1 p2 tk hW
    have hq := pss_one (ps_expr (pos := p3) hp)
    exact hq.run pins s' σ H' D I ⟨h1, h2, h3⟩
  · refine ⟨fun pins s' σ H' D I h' => ?_⟩
    obtain ⟨Dx, bb, σ0, rfl, rfl, C, kit, rfl, h3⟩ := h'
    have hl : (σ0.set 1 (some (V.ref b))).length = 2 := I.len
    rw [List.length_set] at hl
    have h1 : (σ0.set 1 (some (V.ref b)))[1]? = some (some (V.ref b)) := by rw [List.getElem?_set_self (by omega)]
    have hp := pss_one (ps_ret (pos := p9) (pe_callB (p := p5) (pos := p8) (call_isE (a := b) (X := (cxOf C8.CX0 X.prog X.w X.K X.mg X.base [a, "e"] x sg g cdg X.A X.stack s H C8.E0).nox) (pn := pn) C hz hf) hgI hmI (by decide +kernel) (pa_cons (pe_var (pos := p6) (i := 1) rfl (.inl he)) (pa_cons (pe_gref (pos := p7) hgN hmN (hd := hdN)) pa_nil))))
    exact hp.run pins s' _ H' D I ⟨_, h1, .ref CN, .ref CN, bb, rfl, fun u r => r, kit, h3⟩
  · exact ⟨fun cls d H' => ∃ (D : Addr) (bb : Bool), cls = .ref D ∧ d = none ∧ ExcC X.K D ∧ PySem.W.exmOne X.K (.ref D) (.ref CO) = some true ∧ PySem.W.kitOne X.K (.ref D) (.ref CN) = some bb ∧ Q (.bl bb) H', fun cls d σ' H' ⟨D, bb, e1, e2, e3, e4, e5, e6⟩ => ⟨true, by rw [e1]; exact e4, fun _ b _ => ⟨D, bb, σ', e1, e2, e3, e5, rfl, e6⟩, fun z => by cases z⟩, rfl, hc, h⟩
end Ow
namespace Ow
open PySem PySem.Spec PyProof.Rows L2 Evl
theorem passX0 {X : Cx} : Passes (L2.CX X.prog X.w) X E0 := fun _ _ _ _ _ _ _ h => by
  obtain ⟨_, _, _, _, _, _, _, _, _, _, _, _, z⟩ := h
  exact z.elim
/-- a def of the module is handed a lambda -/
theorem pe_lamF {X : Cx} {T : List (Addr × Str)} {TT : (XK → Hp → VK → Prop) → Hp → VK → Prop} {x a : Str} {st : Stmt} {c P : Addr} {k : Nat} {Ng : List Str} {params : Arguments} {body : Expr} {scope : Scope} {t : XK → TE} {p lpos pos : Pos} {ql : Str} (hq : X.env.qual = ql) (F : Def X.K X.mg x st) (hg : Gl X x)
    (hb : ∀ (kV doc pm : Value) (an : Option Addr) (cdv ct : Value) (us : List Value), us.length = [a].length → bindArgs (PySem.W.fnOf x x (defArgs st) (defBody st) (defScope st) .none kV doc pm an cdv ct) ⟨us, []⟩ = pure ([a].zip us))
    (Sg : FnScope Ng [a] (defScope st)) (hNg : Ng[0]? = some a) (hva : Vis (defScope st) a)
    (hG : ∀ (g : Addr) (cdg : Value), LamX.GivesTo X Ng x (defScope st) g cdg (defBody st) a (ql ++ "<lambda>") TT)
    (TB : LamX.TabB X.base X.mg c P) (hcode : X.env.code = .ref c) (hmT : (P, ql ++ "<lambda>") ∈ T) (hu : ∀ p ∈ T, p.1 = P → p.2 = ql ++ "<lambda>") (hr : Room (k + 2) X.A) (L : LamX.LamS X.env.scope scope) (hdef : defaultsOf params X.env = ([], []))
    (hbind : ∀ (q : Str) (cl : List (Str × Addr)) (pm cv ctv : Value), bindArgs (PySem.W.kla_fn "<lambda>" q params body scope cl pm cv ctv) ⟨[], []⟩ = pure [])
    (hbody : ∀ (A : Around) (outer : List PySem.Env) (s : Shared) (H : Hp) (E : XK) (f c' : Addr), Room k (A.deeper (LamX.lamEnv X scope s.heap.objs.size f c')) → PE (LamX.lamCx X A outer s H E scope f c') body (t E))
    (hdb : (x == ("__debug__" : Str)) = false := by decide) (hd : (a == ("__debug__" : Str)) = false := by decide) (hcd : (a == ("__classdict__" : Str)) = false := by decide) :
    PE X (.Call (.Name x p) [.Lambda params body scope lpos] [] pos) (LamX.tLam T TT t) := by
  subst hq
  obtain ⟨g, fd, F1, m⟩ := F.ex
  have B := F1.bindsN hb
  obtain ⟨oc, od, dV, kV, doc, pm, an, cdv, ct, osl, rfl, lk, hcd2, d1, d2⟩ := F1.ex
  exact LamX.pe_lamcall hg m F1.kp lk hcd2 B Sg hNg hva (hG g cdv) TB hcode hmT hu hr L hdef hbind hbody hdb hd hcd
end Ow

/-! R3: what stays when tables of code objects may grow. -/
namespace Ow
open PySem PySem.Spec PyProof.Rows L2 Evl
/-- all but S and the tables stands -/
def XT (S : List Addr) (H H' : Hp) : Prop := ∀ b o, b ∉ S → (∀ ps, o ≠ .tbl ps) → H b = some o → H' b = some o
section
variable {S T : List Addr} {H H' H1 : Hp} {K : PySem.W.Frag} {r a : Addr} {ns : List Int}
theorem XT.refl (S : List Addr) (H : Hp) : XT S H H := fun _ _ _ _ h => h
theorem XT.trans (x : XT S H H1) (y : XT S H1 H') : XT S H H' := fun b o n t h => y b o n t (x b o n t h)
theorem XT.of (e : ExB S H H') : XT S H H' := fun b o n _ h => e b o n h
theorem XT.lam (e : LamX.ExtN H H') : XT S H H' := fun b o _ t h => e b o h t
theorem XT.mono (x : XT S H H') (h : ∀ p ∈ S, p ∈ T) : XT T H H' := fun b o n t e => x b o (fun z => n (h b z)) t e
theorem XT.tex (x : XT S H H') (hS : ∀ p ∈ S, ∀ xs, ¬ Rd H p (.tup xs)) : TEx H H' := fun b xs h => by
  have n : b ∉ S := fun z => hS b z xs h
  rcases h with h | ⟨o, h⟩
  · exact .inl (x b _ n (fun ps z => by cases z) h)
  · exact .inr ⟨o, x b _ n (fun ps z => by cases z) h⟩
theorem RowAt.xt (R : RowAt K a ns H r) (x : XT [] H H') : RowAt K a ns H' r := by
  obtain ⟨i, m, c, hr, b⟩ := R.at_
  refine ⟨?_, R.ne, ⟨i, m, c, x _ _ (by simp) (fun ps z => by cases z) hr, b⟩, R.len⟩
  rcases R.sc with (h | ⟨o, h⟩) | h
  · exact .inl (.inl (x _ _ (by simp) (fun ps z => by cases z) h))
  · exact .inl (.inr ⟨o, x _ _ (by simp) (fun ps z => by cases z) h⟩)
  · exact .inr h
theorem codeO_lst {c : Addr} {q : Str} {xs : List V} : LamX.CodeO c q ≠ .lst xs := fun z => by
  unfold LamX.CodeO at z
  cases z
theorem tabs_exB {Ts : List (Addr × Str)} {xs : List V} (t : LamX.Tabs Ts H) (e : ExB [r] H H') (hr : H r = some (.lst xs)) : LamX.Tabs Ts H' := fun p hp => by
  obtain ⟨ps, h1, h2, h3⟩ := t p hp
  have n1 : p.1 ∉ [r] := fun z => by rw [List.mem_singleton.mp z, hr] at h1; cases h1
  refine ⟨ps, e _ _ n1 h1, h2, fun pos cv hc => ?_⟩
  obtain ⟨c, e1, e2⟩ := h3 pos cv hc
  have n2 : c ∉ [r] := fun z => by
    rw [List.mem_singleton.mp z, hr] at e2
    exact codeO_lst (Option.some.inj e2).symm
  exact ⟨c, e1, e _ _ n2 e2⟩
theorem RowAt.tabs {Ts : List (Addr × Str)} (R : RowAt K a ns H r) (t : LamX.Tabs Ts H) (e : ExB [r] H H') : LamX.Tabs Ts H' := by
  obtain ⟨i, m, c, hr, b⟩ := R.at_
  exact tabs_exB t e hr
end
theorem passLam {X : Cx} {A : Around} {outer : List PySem.Env} {s : Shared} {H : Hp} {E : XK} {scope : Scope} {f c' : Addr} : Passes (L2.CX X.prog X.w) (LamX.lamCx X A outer s H E scope f c') E := passes_call (takes_of rfl rfl rfl rfl) (fun _ _ _ _ h => h)
/-- how a name is, told -/
def howS (x : Nm) : Str := if x.role = .own then (if x.good = true then "owns" else "empty") else if x.good = true then (if x.role = .look then "looks" else "lent") else "ended"
end Ow

/-! R5: a tuple times 0 or 1. -/
namespace Ow
open PySem PySem.Spec PyProof.Rows L2 Evl
theorem mul_once (pl : Addr) (vals : Array Value) (ep : Nat) (od : Option Addr) (sl : Array (Option Value)) (tk : Tok) : Meets (Builtin.«tuple.__mul__» ⟨[.ref pl, .int 1 tk], []⟩)
    (fun _ R s => s.heap.get? pl = some { cls := .type "tuple", dict := od, data := .seq vals ep, slots := sl } ∧ R (.ok (.ret (Value.ref pl))) s) :=
  .of_wp fun prog w A R s hh => by
    obtain ⟨hp0, gg, dd0, tt, oo⟩ := s
    obtain ⟨look, fin⟩ := hh
    have idx := AutoSeq1.idx_int
    wp_walk using wpAny_loadPart' look
    repeat (first
      | (refine wpAny_ite_false (decide_eq_false (by simp)) ?_; wp_walk using wpAny_loadPart' look)
      | (refine wpAny_ite_true (decide_eq_true (by simp)) ?_; wp_walk using wpAny_loadPart' look))
    exact ⟨_, rfl, fin⟩
theorem mul_none (pl : Addr) (vals : Array Value) (ep : Nat) (od : Option Addr) (sl : Array (Option Value)) (tk : Tok) (full : vals.isEmpty = false) : Meets (Builtin.«tuple.__mul__» ⟨[.ref pl, .int 0 tk], []⟩)
    (fun _ R s => s.heap.get? pl = some { cls := .type "tuple", dict := od, data := .seq vals ep, slots := sl } ∧ R (.ok (.ret (Value.ref s.heap.objs.size))) { s with heap := s.heap.push { cls := Value.type "tuple", data := Data.seq #[] }, toks := s.toks }) :=
  .of_wp fun prog w A R s hh => by
    obtain ⟨hp0, gg, dd0, tt, oo⟩ := s
    obtain ⟨look, fin⟩ := hh
    have idx := AutoSeq1.idx_int
    wp_walk using wpAny_loadPart' look
    repeat (first
      | (refine wpAny_ite_false (decide_eq_false (by simp [full])) ?_; wp_walk using wpAny_loadPart' look)
      | (refine wpAny_ite_true (decide_eq_true (by simp)) ?_; wp_walk using wpAny_loadPart' look))
    exact ⟨_, rfl, fin⟩
/-- (x, ..) * 0, (x, ..) * 1 -/
def rRep01 (K : PySem.W.Frag) : R2 := fun x y H Q => ∃ (pl : Addr) (xs : List V) (b : Bool), x = .ref pl ∧ y = .int (if b = true then 1 else 0) ∧ SqT K H pl xs ∧ xs ≠ [] ∧ (b = true → Q (.ref pl) H) ∧ (b = false → ∀ p, H p = none → Q (.ref p) (upd H p (.tup [])))
theorem op_rep01 {X : Cx} : OpR X (binaryOp .Mult) (rRep01 X.K) := by
  intro pins s σ H x y v u Q I rx ry hh
  obtain ⟨pl, xs, b, rfl, rfl, hT, ne, q1, q0⟩ := hh
  cases rx
  obtain ⟨tk, rfl⟩ := ry
  obtain ⟨its, rel, ⟨⟨cl, od, da, sl⟩, get, cl_, ep, da_⟩, _⟩ := I.tuple hT
  simp only at cl_ da_
  subst cl_ da_
  have len : its.length = xs.length := rel.length.symm
  have full : its.toArray.isEmpty = false := by
    cases its with
    | nil => exact absurd (List.eq_nil_of_length_eq_zero len.symm) ne
    | cons c r => rfl
  cases b with
  | true =>
    exact wpAny_binaryOp_repeat_ref (T := "tuple") (U := "int") (by decide) ⟨_, get, rfl⟩ (fun s' => typeIs_int s' _ tk) noFill_tuple_mul F.fills_int_mul F.slot_int_rmul repeat_tuple F.slot_int_index.lookup
      (call_meets F.slot_int_rmul (typeIs_int s _ tk) F.entry_int_rmul (F.args_int_rmul_2 _ _) (int_rmul_tuple 1 tk pl its.toArray ep od sl)
        ⟨get, rfl, ⟨_, get, rfl⟩, call_meets F.slot_tuple_mul ⟨_, get, rfl⟩ F.entry_tuple_mul (F.args_tuple_mul_2 _ _) (mul_once pl its.toArray ep od sl tk) ⟨get, .ref pl, H, I, rfl, q1 rfl⟩⟩)
  | false =>
    refine wpAny_binaryOp_repeat_ref (T := "tuple") (U := "int") (by decide) ⟨_, get, rfl⟩ (fun s' => typeIs_int s' _ tk) noFill_tuple_mul F.fills_int_mul F.slot_int_rmul repeat_tuple F.slot_int_index.lookup
      (call_meets F.slot_int_rmul (typeIs_int s _ tk) F.entry_int_rmul (F.args_int_rmul_2 _ _) (int_rmul_tuple 0 tk pl its.toArray ep od sl)
        ⟨get, rfl, ⟨_, get, rfl⟩, call_meets F.slot_tuple_mul ⟨_, get, rfl⟩ F.entry_tuple_mul (F.args_tuple_mul_2 _ _) (mul_none pl its.toArray ep od sl tk full) ⟨get, ?_⟩⟩)
    exact ⟨.ref s.heap.objs.size, _, I.laid (t' := s.toks) (o := .tup []) (fun b ob q => Heap.get?_push_of_some _ q) (Nat.le_refl _) ⟨Nat.zero_le _, _, .nil, IsTup.new _ _⟩, rfl, q0 rfl _ (I.hok.fresh (Nat.le_refl _))⟩
theorem op_rep01K {X : Cx} (K : PySem.W.Frag) (h : X.K = K) : OpR X (binaryOp .Mult) (rRep01 K) := h ▸ op_rep01
end Ow
namespace Ow
open PySem PySem.Spec PyProof.Rows L2 Evl
/-- the rule for a def whose code object is known -/
theorem FunD.okC {P : Program} {w : World} {K : PySem.W.Frag} {mg : Str → Option Value} {base : Heap} {x qual : Str} {params : Arguments} {body : List Stmt} {scope : Scope} {dvs : List V} {kws : List (Str × V)} {f c : Addr} {fd : FuncData} {CX : CXT} {N ps : List Str} {k : Nat} {sp : Sp} (F : FunD K x qual params body scope dvs kws f fd) (hc : fd.code = .ref c) (S : FnScope N ps scope) (len : ∀ vs H Q E, sp vs H Q E → vs.length = ps.length)
    (hbody : ∀ (A : Around) (outer : List PySem.Env) (s : Shared) (H : Hp) (vs : List V) (Q : VK) (E : XK), Room k (A.deeper (envOfC qual scope s.heap.objs.size f (.ref c))) → sp vs H Q E →
      ∃ t, PSs (cxOf CX P w K mg base N qual scope f (.ref c) A outer s H E) body t ∧ t { nx := fun _ H' => Q .non H', rt := Q } (start N vs) H) : FnOk P w K mg base CX (k + 1) f fd ps sp := by
  obtain ⟨oc, od, dV, kV, doc, pm, an, cdv, ct, osl, rfl, lk, hcd, _, _⟩ := F.ex
  have e : cdv = .ref c := hc
  subst e
  exact fn_of lk hcd S len hbody
end Ow

/-! R6: the end of a law that makes lambdas. -/
namespace Ow
open PySem PySem.Spec PyProof.Rows L2 Evl
section
variable {K : PySem.W.Frag} {h : Heap} {mg : Str → Option Value} {x : Str} {f c P : Addr}
theorem tab_parts (X : K.In h) (G : h.Ns mainGlobals mg) (hm : mg x = some (.ref f)) (ht : PySem.W.tabIn K x = some (c, P)) : ∃ e0 d0 fd s0 e1 d1 vs s1, K.lookup f = some ⟨e0, d0, .func fd, s0⟩ ∧ fd.code = .ref c ∧ K.lookup c = some ⟨e1, d1, .fields vs, s1⟩ ∧ (vs[11]? : Option Value) = some (.ref P) := by
  unfold PySem.W.tabIn at ht
  split at ht
  · rename_i f' hf
    have e1 := PySem.W.mg_of X G hf
    rw [hm] at e1
    cases e1
    split at ht
    · rename_i hfo
      split at ht
      · rename_i c' hc
        split at ht
        · rename_i vs _ hlc
          split at ht
          · rename_i P' hv
            cases ht
            exact ⟨_, _, _, _, _, _, _, _, hfo, hc, hlc, hv⟩
          · cases ht
        · cases ht
      · cases ht
    · cases ht
  · cases ht
theorem tab_code (X : K.In h) (G : h.Ns mainGlobals mg) (hm : mg x = some (.ref f)) (ht : PySem.W.tabIn K x = some (c, P)) {name qual : Str} {params : Arguments} {body : List Stmt} {scope : Scope} {dvs : List V} {kws : List (Str × V)} {fd : FuncData} (F : FunD K name qual params body scope dvs kws f fd) : fd.code = .ref c := by
  obtain ⟨e0, d0, fd', s0, e1, d1, vs, s1, h1, h2, h3, h4⟩ := tab_parts X G hm ht
  obtain ⟨oc, od, dV, kV, doc, pm, an, cdv, ct, osl, e, lk, _⟩ := F.ex
  rw [lk] at h1
  cases h1
  exact h2
theorem tab_own (X : K.In h) (G : h.Ns mainGlobals mg) (hm : mg x = some (.ref f)) (ht : PySem.W.tabIn K x = some (c, P)) (own : LamX.OwnTab K f h) : h.get? P = some { cls := .none, data := .fields #[] } := by
  obtain ⟨e0, d0, fd', s0, e1, d1, vs, s1, h1, h2, h3, h4⟩ := tab_parts X G hm ht
  exact own c P _ _ _ _ _ _ h1 rfl h2 h3 h4
end
/-- the end of a law whose own table of code objects grows; what is known of the module is found in the heap -/
theorem walk_ownE {l : PySem.W.OpenLaw} {n k : Nat} {q : Program} {loose : List Str} {XP : (Str → Option Value) → Heap → Prop} {YP : World → Heap → Prop} {d : DefRec} {CX : World → CXT} {x : Str}
    (hn : l.most = some n) (hn2 : n ≤ sizeLine) (hdf : d.params.defaults = []) (hr : Room k callerA) (hrec : ((recsOf q).any fun e => e.name == d.name) = true)
    (F : ∀ (w : World) (mg : Str → Option Value) (fa : Addr) (h : Heap), YP w h → h.Ns mainGlobals mg → mg d.name = some (.ref fa) → (∀ K : PySem.W.Frag, K.In h → LamX.OwnTab K fa h) → ∃ K : PySem.W.Frag, K.In h ∧ LamX.LawAtS l w K (CX w) k n x mg fa h)
    (hCX : ∀ (w : World) (H : Hp) (s : Shared) (e : Value) (s' : Shared), CX w [] H s (fun _ _ _ => False) e s' → False) :
    PySem.W.WalkO q loose XP YP l.row.toRowW d [] (fun f vs => PySem.call f vs) := by
  refine Att.attach_callB hn hdf fun w s₀ s₁ mg mb fa o pm cd doc a vs ns G Y ho hd hcd hmg hobj hints hlen hbits hg => ?_
  have own : ∀ K : PySem.W.Frag, K.In s₁.heap → LamX.OwnTab K fa s₁.heap := fun K kin c P o' f' e d' vs' sl g1 g2 g3 g4 g5 => by
    obtain ⟨e9, hm9, hn9⟩ := List.any_eq_true.mp hrec
    obtain ⟨a2, o2, f2, c2, P2, r1, r2, r3, r4, r5, r6⟩ := G.T.tab e9 hm9
    rw [beq_iff_eq.mp hn9, hmg] at r1
    cases r1
    have k1 := kin _ _ g1
    rw [k1] at r2
    cases r2
    rw [g2] at r3
    cases r3
    rw [g3] at r4
    cases r4
    obtain ⟨⟨oc, vc, t1, _, t3, t4⟩, hP⟩ := r6
    rw [kin _ _ g4] at t1
    cases t1
    cases t3
    rw [g5] at t4
    cases t4
    exact hP
  obtain ⟨K, kin, fd, cs, sp, hT, nT, C, hb, hsp, hF⟩ := F w mg fa _ Y G.T.g hmg own
  exact LamX.law_callTs kin G.T.g G.T.b G.T.builtins G.T.nolimit hg hT nT C G.T.bmain hobj hints (Nat.le_trans hlen hn2) hr hF hb (fun H hH hS => hsp H a ns hlen hbits hH hS) fun H e s' => hCX w H s₁ e s'
end Ow

/-! S1: a set of texts as it is laid: a text more. -/
namespace Ow
open PySem PySem.Spec PyProof.Rows L2 Evl
/-- the text of an entry -/
def entS (p : Int × Value) : Str := match p.2 with
  | .str z _ => z
  | _ => Str.empty
structure Laid (P : Program) (w : World) (h : Heap) (a : Addr) (ents : Array (Int × Value)) (ep : Nat) (tab : SetTable) : Prop where
  ob : ∃ o, h.get? a = some o ∧ o.ExactSet ∧ o.data = .set ents ep tab
  el : ElemsOf (PySem.strKind P w) ents.toList
  nd : (ents.toList.map entS).Nodup
  few : ents.size < scanBound
  fit : tab.fits ents.size = true
  ris : Ris tab.place.toList
  led : w.params.followText "set-order" = true ∨ tab.led = true
theorem entS_is {P : Program} {w : World} {l : List (Int × Value)} (h : ElemsOf (PySem.strKind P w) l) {p : Int × Value} (hp : p ∈ l) (z : Str) : (PySem.strKind P w).is z p.2 = true ↔ entS p = z := by
  obtain ⟨⟨y, h1, _⟩, _⟩ := h p hp
  obtain ⟨u, hu⟩ := Value.isStrOf_shape h1
  obtain ⟨n, v⟩ := p
  dsimp only at hu
  subst hu
  constructor
  · intro g
    exact (PySem.strKind P w).inj _ _ _ h1 g
  · intro g
    have g2 : y = z := g
    subst g2
    exact h1
section
variable {P : Program} {w : World} {A : Around} {E : Value → Shared → Prop} {s : Shared} {a : Addr} {ents : Array (Int × Value)} {ep : Nat} {tab : SetTable} {z : Str} {tk : Tok}
/-- what is stored, and laid anew if it is too full -/
theorem Laid.store {note : Bool → Sem Unit} (hnote : ∀ (b : Bool) (s' : Shared) (R : Unit → Shared → Prop), R () s' → wpAny (model P w) A (note b) R E s') {o : Obj} (get : s.heap.get? a = some o) (exact_ : o.ExactSet) (dat : o.data = .set ents ep tab)
    {ents1 : Array (Int × Value)} {tab1 : SetTable} (el1 : ElemsOf (PySem.strKind P w) ents1.toList) (nd1 : (ents1.toList.map entS).Nodup) (few1 : ents1.size < scanBound) (fit1 : tab1.fits ents1.size = true) (ris1 : Ris tab1.place.toList) (led1 : w.params.followText "set-order" = true ∨ tab1.led = true)
    {dummy : Bool} {R : Option Bool → Shared → Prop} (goal : ∀ h' ents2 ep2 tab2, Heap.SameBut a s.heap h' → Laid P w h' a ents2 ep2 tab2 → ents2.toList.Perm ents1.toList → R (some true) { s with heap := h' }) :
    wpAny (model P w) A (do
        storeSet a ents1 tab1
        if (!dummy && tab1.tooFull) = true then do
            note (relayAll tab1 ents1 (SetTable.grown ents1.size)).2.2
            storeSet a (relayAll tab1 ents1 (SetTable.grown ents1.size)).1 (relayAll tab1 ents1 (SetTable.grown ents1.size)).2.1
            pure (some true)
          else pure (some true)) R E s := by
  have get1 := L2.store_at (es' := ents1) (t' := tab1) get dat
  have same1 := Heap.SameBut.update s.heap a (Obj.putSet ents1 tab1)
  refine wpAny_bind (wpAny_storeSet_of get dat ?_ (fits_of_scanBound few1))
  by_cases full : (!dummy && tab1.tooFull) = true
  · rw [if_pos full]
    have perm := relayAll_perm tab1 ents1 (SetTable.grown ents1.size)
    have fit2 := relayAll_fits tab1 ents1 (SetTable.grown ents1.size)
    have ris2 := relayAll_ris tab1 ents1 (SetTable.grown ents1.size)
    have led2 := relayAll_led tab1 ents1 (SetTable.grown ents1.size)
    revert perm fit2 ris2 led2
    obtain ⟨ents2, tab2, gave⟩ := relayAll tab1 ents1 (SetTable.grown ents1.size)
    intro perm fit2 ris2 led2
    dsimp only at perm fit2 ris2 led2 ⊢
    have size2 : ents2.size = ents1.size := by
      have := perm.length_eq
      rw [Array.length_toList, Array.length_toList] at this
      exact this
    have few2 : ents2.size < scanBound := size2 ▸ few1
    refine wpAny_bind (hnote _ _ _ (wpAny_bind (wpAny_storeSet_of get1 rfl (wpAny_pure (goal _ ents2 (ep + 1 + 1) tab2 (same1.trans (Heap.SameBut.update _ a _)) ?_ perm)) (fits_of_scanBound few2))))
    exact ⟨⟨_, L2.store_at get1 rfl, exact_, rfl⟩, el1.perm perm, (perm.map entS).nodup_iff.mpr nd1, few2, fit2, ris2, led1.imp_right fun y => led2.trans y⟩
  · rw [if_neg full]
    exact wpAny_pure (goal _ ents1 (ep + 1) tab1 same1 ⟨⟨_, get1, exact_, rfl⟩, el1, nd1, few1, fit1, ris1, led1⟩ (List.Perm.refl _))
theorem Laid.add {Q : Bool → Shared → Prop} (L : Laid P w s.heap a ents ep tab) (room : ents.size + 1 < scanBound)
    (goal : ∀ b h' ents2 ep2 tab2, Heap.SameBut a s.heap h' → Laid P w h' a ents2 ep2 tab2 → (∀ x, x ∈ ents2.toList.map entS ↔ x = z ∨ x ∈ ents.toList.map entS) → ents2.size ≤ ents.size + 1 → Q b { s with heap := h' }) :
    wpAny (model P w) A (setAddHashed a (.str z tk) ((PySem.strKind P w).hash z)) Q E s := by
  obtain ⟨o, get, exact_, dat⟩ := L.ob
  have key : (PySem.strKind P w).is z (.str z tk) = true := strKind_is _ _ _ _
  have scan : (Value.str z tk).scannable = true := rfl
  unfold setAddHashed setAddHashedIn
  refine wpAny_holding (wpAny_bind (wpAny_setState_of get dat L.fit ?_))
  dsimp only
  rw [byScan_of scan L.few L.el, if_pos rfl]
  unfold setAddByScan
  refine wpAny_bind (wpAny_bind (wpAny_rule (wpAny_bind (wpAny_setScan_of key get dat L.fit L.el ?_))))
  cases met : List.findIdx? (fun p => (PySem.strKind P w).is z p.2) ents.toList with
  | some j =>
    dsimp only
    obtain ⟨hj, pj, _⟩ := List.findIdx?_eq_some_iff_getElem.mp met
    have inn : z ∈ ents.toList.map entS := List.mem_map.mpr ⟨_, List.getElem_mem hj, (entS_is L.el (List.getElem_mem hj) z).mp pj⟩
    exact wpAny_pure (wpAny_pure (goal _ s.heap ents ep tab (Heap.SameBut.refl a s.heap) L (fun x => ⟨fun h => .inr h, fun h => h.elim (fun e => e ▸ inn) id⟩) (Nat.le_succ _)))
  | none =>
    dsimp only
    have out : z ∉ ents.toList.map entS := fun h => by
      obtain ⟨p, hp, e⟩ := List.mem_map.mp h
      have no := List.findIdx?_eq_none_iff.mp met p hp
      rw [(entS_is L.el hp z).mpr e] at no
      cases no
    have perm := layNew_perm tab ents ((PySem.strKind P w).hash z) (.str z tk)
    have fit1 := layNew_fits tab ents ((PySem.strKind P w).hash z) (.str z tk)
    have ris1 := layNew_ris tab ents ((PySem.strKind P w).hash z) (.str z tk) L.ris
    have led1 := layNew_led tab ents ((PySem.strKind P w).hash z) (.str z tk)
    revert perm fit1 ris1 led1
    obtain ⟨ents1, tab1, dummy, gave⟩ := layNew tab ents ((PySem.strKind P w).hash z) (.str z tk)
    intro perm fit1 ris1 led1
    dsimp only at perm fit1 ris1 led1 ⊢
    rw [Array.toList_push] at perm
    have el1 : ElemsOf (PySem.strKind P w) ents1.toList := (L.el.push key scan).perm perm
    have pk : (ents1.toList.map entS).Perm (ents.toList.map entS ++ [z]) := by
      have := perm.map entS
      rw [List.map_append] at this
      exact this
    have nd1 : (ents1.toList.map entS).Nodup := pk.nodup_iff.mpr (List.nodup_append.mpr ⟨L.nd, by simp, fun x hx y hy e => out (by rw [← List.mem_singleton.mp hy, ← e]; exact hx)⟩)
    have size1 : ents1.size = ents.size + 1 := by
      have := perm.length_eq
      rw [List.length_append, Array.length_toList, Array.length_toList] at this
      exact this
    have few1 : ents1.size < scanBound := size1 ▸ room
    have led2 : w.params.followText "set-order" = true ∨ tab1.led = true := L.led.imp_right fun y => led1.trans y
    have fin : ∀ h' ents2 ep2 tab2, Heap.SameBut a s.heap h' → Laid P w h' a ents2 ep2 tab2 → ents2.toList.Perm ents1.toList → Q true { s with heap := h' } := fun h' ents2 ep2 tab2 same L2 p2 =>
      goal true h' ents2 ep2 tab2 same L2 (fun x => by rw [(p2.map entS).mem_iff, pk.mem_iff, List.mem_append, List.mem_singleton]; exact Or.comm) (by have := p2.length_eq; rw [Array.length_toList, Array.length_toList] at this; omega)
    have noteS : ∀ (b : Bool) (s' : Shared) (R : Unit → Shared → Prop), R () s' → wpAny (model P w) A (match b with | true => rule "set.scan.the-table-gave-way" | false => pure ()) R E s' := fun b s' R r => by
      cases b with
      | true => exact wpAny_rule r
      | false => exact wpAny_pure r
    refine wpAny_bind (noteS _ _ _ ?_)
    split
    · refine wpAny_bind ?_
      rw [hashByValue_scannable 8 scan]
      refine wpAny_pure (Laid.store (fun b s' R r => noteS b s' R r) get exact_ dat el1 nd1 few1 ?_ ?_ ?_ fun h' ents2 ep2 tab2 same L2 p2 => wpAny_pure (fin h' ents2 ep2 tab2 same L2 p2))
      · split
        · exact fit1
        · exact SetTable.fits_plain_off fit1
      · split <;> exact ris1
      · split <;> exact led2
    · refine wpAny_bind (wpAny_pure ?_)
      rw [if_pos rfl]
      exact Laid.store (fun b s' R r => noteS b s' R r) get exact_ dat el1 nd1 few1 fit1 ris1 led2 fun h' ents2 ep2 tab2 same L2 p2 => wpAny_pure (fin h' ents2 ep2 tab2 same L2 p2)
end
end Ow

/-! S2: set(a list of texts). -/
namespace Ow
open PySem PySem.Spec PyProof.Rows L2 Evl
theorem Laid.keep {P : Program} {w : World} {h h' : Heap} {a : Addr} {ents : Array (Int × Value)} {ep : Nat} {tab : SetTable} (L : Laid P w h a ents ep tab) (k : ∀ o, h.get? a = some o → h'.get? a = some o) : Laid P w h' a ents ep tab := by
  obtain ⟨o, get, rest⟩ := L.ob
  exact ⟨⟨o, k o get, rest⟩, L.el, L.nd, L.few, L.fit, L.ris, L.led⟩
/-- the set at a holds these texts -/
def Holds (P : Program) (w : World) (h : Heap) (a : Addr) (xs : List Str) : Prop := ∃ ents ep tab, Laid P w h a ents ep tab ∧ (∀ x, x ∈ ents.toList.map entS ↔ x ∈ xs) ∧ ents.size ≤ xs.length
theorem Holds.keep {P : Program} {w : World} {h h' : Heap} {a : Addr} {xs : List Str} (L : Holds P w h a xs) (k : ∀ o, h.get? a = some o → h'.get? a = some o) : Holds P w h' a xs := by
  obtain ⟨ents, ep, tab, h1, h2⟩ := L
  exact ⟨ents, ep, tab, h1.keep k, h2⟩
abbrev newSet (w : World) : Obj := { cls := .type "set", dict := none, data := .set #[] 0 (.fresh 0 0 (!w.params.followText "set-order")) }
theorem Holds.fresh {P : Program} {w : World} {h : Heap} {a : Addr} (get : h.get? a = some (newSet w)) : Holds P w h a [] := by
  refine ⟨#[], 0, .fresh 0 0 (!w.params.followText "set-order"), ⟨⟨_, get, ⟨rfl, rfl, rfl⟩, rfl⟩, fun p hp => (by cases hp), List.nodup_nil, by decide, rfl, List.Pairwise.nil, ?_⟩, fun x => Iff.rfl, Nat.le_refl _⟩
  show _ ∨ (!w.params.followText "set-order") = true
  cases w.params.followText "set-order" with
  | true => exact .inl rfl
  | false => exact .inr rfl
section
variable {P : Program} {w : World} {A : Around} {E : Value → Shared → Prop}
theorem texts_loop {R : Result → Shared → Prop} {I S : Addr} {fp wr : List Addr} {G : Array GenState → Array GenState → Prop} {n : Nat} {Pv : Nat → Value → Prop} {St : Nat → Shared → Prop} {xs : List Str}
    (W : WalksS P w A.in1 I fp wr G n Pv St) (apart : S ∉ fp) (hn : n = xs.length) (small : xs.length + 1 < scanBound) (val : ∀ i v, Pv i v → ∃ z tk, xs[i]? = some z ∧ v = .str z tk) :
    ∀ (m i : Nat) (s : Shared), i + m = n → St i s → Holds P w s.heap S (xs.take i) → (∀ s', Moved (S :: wr) G s s' → Holds P w s'.heap S xs → R (.ok (.ret .none)) s') → codeAny (model P w) A (.builtin "set.update.loop" ⟨[.ref S, .ref I], []⟩) R s := by
  have Sw : S ∉ wr := fun h => apart (W.sub S h)
  have up : ∀ b ∈ wr, b ∈ S :: wr := fun b h => .tail _ h
  intro m
  induction m with
  | zero =>
    intro i s him st hold fin
    obtain rfl : i = n := by omega
    refine codeAny_builtin F.entry_set_update_loop ?_
    rw [Around.under_plainId F.plain_set_update_loop _]
    show wpAny _ A.in1 (pyNext (.ref I) >>= _) _ _ s
    refine wpAny_bind (W.done s _ _ st fun s' mv => ?_)
    have all : xs.take i = xs := List.take_of_length_le (Nat.le_of_eq hn.symm)
    rw [all] at hold
    show wpAny _ A.in1 (ret Value.none) _ _ s'
    exact wpAny_pure (fin s' (mv.mono up) (hold.keep fun o => mv.heap S o Sw))
  | succ m ih =>
    intro i s him st hold fin
    have lt : i < n := by omega
    refine codeAny_builtin F.entry_set_update_loop ?_
    rw [Around.under_plainId F.plain_set_update_loop _]
    show wpAny _ A.in1 (pyNext (.ref I) >>= _) _ _ s
    refine wpAny_bind (W.item i s _ _ lt st fun v s' pv st' mv => ?_)
    obtain ⟨z, tk, hz, rfl⟩ := val i v pv
    obtain ⟨ents, ep, tab, laid, mem, size⟩ := hold.keep (h' := s'.heap) fun o => mv.heap S o Sw
    show wpAny _ A.in1 (holding [Value.str z tk] (setAdd S (.str z tk)) >>= _) _ _ s'
    unfold setAdd
    have tl := List.length_take_le i xs
    refine wpAny_bind (wpAny_holding (wpAny_holding (wpAny_bind ((PySem.strKind P w).pyHash (k := z) (strKind_is _ _ _ _) (Laid.add (s := { s' with toks := s'.toks + 1 }) laid (by omega) fun b h' ents2 ep2 tab2 same laid2 mem2 size2 => ?_)))))
    have tk1 : xs.take (i + 1) = xs.take i ++ [z] := by rw [List.take_add_one, hz]; rfl
    have hold2 : Holds P w h' S (xs.take (i + 1)) := ⟨ents2, ep2, tab2, laid2, fun x => by rw [mem2, mem, tk1, List.mem_append, List.mem_singleton]; exact Or.comm, by rw [tk1, List.length_append]; show _ ≤ _ + 1; omega⟩
    refine wpAny_pure ⟨plainId_quiet F.plain_set_update_loop _, ih (i + 1) _ (by omega) (W.frame _ s' _ _ st' (Nat.le_add_right _ 1) fun b hb o e => ?_) hold2 fun s2 mv2 hold3 => ?_⟩
    · rw [same.2 b (fun q => apart (q ▸ hb))]
      exact e
    · refine fin s2 (Moved.trans W.gtrans ((mv.mono up).then_heap (Nat.le_add_right _ 1) fun b o hb e => ?_) mv2) hold3
      rw [same.2 b (fun q => hb (q ▸ List.mem_cons_self))]
      exact e
end
end Ow

/-! S3: set(xs), sorted(set): texts. -/
namespace Ow
open PySem PySem.Spec PyProof.Rows L2 Evl
section
variable {P : Program} {w : World} {A : Around} {E : Value → Shared → Prop} {s : Shared}
theorem code_set_led1 (v : Value) {Q₁ : Value → Shared → Prop}
    (h : Q₁ (.ref s.heap.objs.size) { s with heap := s.heap.push (newSet w) }) :
    codeAny (model P w) A (.call (.builtin "set.__new__") ⟨[.type "set", v], []⟩) (wants Q₁ E) s := by
  refine codeAny_of_tree ?_
  show wpAny _ A.in1 (do checkBuiltinCall "set.__new__" ⟨[.type "set", v], []⟩; again (.builtin "set.__new__" ⟨[.type "set", v], []⟩)) _ _ s
  refine wpAny_bind (wpAny_of_eq (F.newCall_set_1 v) (wpAny_pure ⟨plainId_quiet F.plain_set_new _, codeAny_builtin F.entry_set_new ?_⟩))
  rw [Around.under_plainId F.plain_set_new _]
  unfold Builtin.«set.__new__» Builtin.Frozenset.newClass
  have hsub := sub_set_self
  obtain ⟨hp, g, d, tk, os⟩ := s
  dsimp only
  wp_walk
  refine wpAny_askSetting (wpAny_pure ?_)
  dsimp only
  simp only [newObj]
  refine wpAny_bind (wpAny_alloc (wpAny_pure ?_))
  exact wpAny_pure h
theorem call_set_texts {l : Addr} {items : Array Value} {xs : List Str} {Q : Value → Shared → Prop}
    (hh : A.handled = none) (hl : s.heap.IsList l items) (hi : PyProof.Rows.StrsAre items.toList xs) (small : xs.length + 1 < scanBound)
    (h : ∀ (h' : Heap) (tk : Nat), Holds P w h' s.heap.objs.size xs → (∀ b o, b < s.heap.objs.size → s.heap.get? b = some o → h'.get? b = some o) → Q (.ref s.heap.objs.size) { s with heap := h', toks := tk }) :
    wpAny (model P w) A (call (.type "set") [.ref l]) Q E s := by
  obtain ⟨c, tl, hmro⟩ := PySem.F.called_set.mro
  have hmade := PySem.F.called_set.made
  have hsub := PySem.F.called_set.sub
  refine wpAny_call (codeAny_of_tree ?_)
  show wpAny _ _ (callAny (.type "set") _) _ _ _
  refine wpAny_pure ⟨Code.quiet_builtin _ (by decide +kernel), codeAny_builtin PySem.F.entry_type_call ?_⟩
  rw [Around.under_plain (weight_type_call_type "set" [.ref l] []) rfl]
  have h1 := PySem.F.called_set.notType
  have h2 := PySem.F.called_set.canCreate
  have hct := PySem.F.typeCall_set_1 (.ref l)
  repeat (any_goals (first | assumption | wp_step))
  refine codeAny_mono (code_set_led1 (P := P) (w := w) (.ref l) (E := E) (Q₁ := fun obj s₁ => obj = .ref s.heap.objs.size ∧ s₁ = { s with heap := s.heap.push (newSet w) }) ⟨rfl, rfl⟩) fun r s₁ hr => ?_
  cases r with
  | error e => exact hr
  | ok fl =>
    cases fl with
    | ret obj =>
      obtain ⟨rfl, rfl⟩ := hr
      have hS : (s.heap.push (newSet w)).get? s.heap.objs.size = some (newSet w) := Heap.get?_push_size _ rfl
      have hT : Shared.TypeIs { s with heap := s.heap.push (newSet w) } (.ref s.heap.objs.size) "set" := ⟨_, hS, rfl⟩
      have hli := PySem.F.called_set.init.lookup
      have hbi := PySem.F.called_set.init.bind (.ref s.heap.objs.size)
      repeat (any_goals (first | assumption | wp_step))
      refine codeAny_mono (codeAny_call_builtin (R := wants (fun r s₂ => r = .none ∧ ∃ h' tk, s₂ = { s with heap := h', toks := tk } ∧ Holds P w h' s.heap.objs.size xs ∧
          (∀ b o, b < s.heap.objs.size → s.heap.get? b = some o → h'.get? b = some o)) E) PySem.F.called_set.init.plain PySem.F.entry_set_init (check_set_init_1 hT ?_)) fun r₂ s₂ hr₂ => ?_
      · obtain ⟨ol, hol, hcl, nl, hdl⟩ := hl
        obtain ⟨ocls, odict, odata, oslots⟩ := ol
        simp only at hcl hdl
        subst hcl; subst hdl
        have hol' : (s.heap.push (newSet w)).get? l = some { cls := .type "list", dict := odict, data := .seq items nl, slots := oslots } := Heap.get?_push_of_some _ hol
        have hsls := PySem.F.sub_list_set
        have hslf := PySem.F.sub_list_frozenset
        have hne : (Value.type "list" == Value.type "dict") = false := by decide
        have hl1 : (s.heap.push (newSet w)).IsList l items := ⟨_, hol', rfl, nl, rfl⟩
        unfold Builtin.«set.__init__» noKeywords Builtin.Frozenset.updateFrom
        generalize hPI : pyIter = PI
        wp_walk
        subst hPI
        refine wpAny_pyIter_list hl1 ?_
        refine wpAny_bind (wpAny_runValue ?_)
        have hlS : l < s.heap.objs.size := Heap.lt_size hol
        have hh3 : A.in1.in1.in1.handled = none := by simp [hh]
        have hneI : l ≠ (s.heap.push (newSet w)).objs.size := by
          rw [Heap.size_push]; exact Nat.ne_of_lt (Nat.lt_succ_of_lt hlS)
        have hSf : s.heap.objs.size ∉ [(s.heap.push (newSet w)).objs.size, l] := by
          rw [Heap.size_push]; simp only [List.mem_cons, List.mem_singleton, List.not_mem_nil, or_false, not_or]
          exact ⟨Nat.ne_of_lt (Nat.lt_succ_self _), Nat.ne_of_gt hlS⟩
        have hsz : items.size = xs.length := by rw [← StrsAre.len_eq hi, Array.length_toList]
        have hval : ∀ (i : Nat) (v : Value), items[i]? = some v → ∃ z tk, xs[i]? = some z ∧ v = .str z tk := fun i v hv => by
          have hlt : i < items.size := (Array.getElem?_eq_some_iff.mp hv).1
          obtain ⟨t, ht⟩ := SS.strs_at hi i v (by rw [Array.getElem?_toList]; exact hv)
          have e : xs[i]? = some (xs.getD i Str.empty) := by
            rw [List.getD_eq_getElem?_getD]
            rw [List.getElem?_eq_getElem (by omega)]; rfl
          exact ⟨_, t, e, ht⟩
        refine texts_loop ((Walks.list hh3 _ l hneI items).toS) hSf hsz small hval (items.size - 0) 0 _ (by omega) ⟨⟨_, Heap.get?_push_size _ rfl, rfl, rfl⟩, (hl1.push _)⟩ ?hS0 ?hR
        case hS0 =>
          have hget : ((s.heap.push (newSet w)).push { cls := .type "list_iterator", data := .fields #[.ref l, .int 0 0] }).get? s.heap.objs.size = some (newSet w) := Heap.get?_push_of_some _ hS
          rw [List.take_zero]
          exact Holds.fresh hget
        case hR =>
          intro s' hm hS'
          obtain ⟨h', g', d', tk', os'⟩ := s'
          have eg : g' = s.gens := hm.gens
          have ed : d' = s.drawn := hm.drawn
          have eo : os' = s.os := hm.os
          subst eg; subst ed; subst eo
          show wpAny _ _ _ _ _ _
          refine wpAny_pure ?_
          show wpAny _ _ (ret Value.none) _ _ _
          refine wpAny_pure ⟨rfl, h', tk', rfl, hS', fun b o hb e => ?_⟩
          have hb1 : b ≠ s.heap.objs.size := Nat.ne_of_lt hb
          have hb2 : b ≠ (s.heap.push (newSet w)).objs.size := by
            rw [Heap.size_push]; exact Nat.ne_of_lt (Nat.lt_succ_of_lt hb)
          exact hm.heap b o (by simp only [List.mem_cons, List.mem_singleton, List.not_mem_nil, or_false, not_or]; exact ⟨hb1, hb2⟩) (Heap.get?_push_of_some _ (Heap.get?_push_of_some _ e))
      · cases r₂ with
        | error e => exact hr₂
        | ok fl₂ =>
          cases fl₂ with
          | ret r =>
            obtain ⟨rfl, h', tk, rfl, hS', hk'⟩ := hr₂
            repeat (any_goals (first | assumption | wp_step))
            exact h _ _ hS' hk'
          | _ => exact hr₂.elim
    | _ => exact hr.elim
end

/-! ### the set of texts at a -/
def SetT (P : Program) (w : World) (a : Addr) (xs : List Str) : HO := .ext fun h => Holds P w h a xs
section
variable {X : Cx}
theorem setT_new {w : World} {P : Program} {H : Hp} {h : Heap} {a : Addr} {xs : List Str} (R : Holds P w h a xs) : ObjOk P w H h a (SetT P w a xs) := by
  have ⟨_, _, _, L, _⟩ := R
  obtain ⟨o, ho, _⟩ := L.ob
  exact ⟨R, ⟨o, ho⟩, fun h1 h2 p k => Holds.keep p fun o e => k _ e⟩
theorem setT_get {pins : List (Addr × Obj)} {σ : L2.St} {H : Hp} {s : Shared} {a : Addr} {xs : List Str} (I : Inv X pins σ H s) (ha : H a = some (SetT X.prog X.w a xs)) : Holds X.prog X.w s.heap a xs := (I.hok a _ ha).1
/-- set(xs) -/
def rSetT (K : PySem.W.Frag) (P : Program) (w : World) : List V → Hp → VK → Prop := fun vs H Q => ∃ (p : Addr) (xs : List Str), vs = [V.ref p] ∧ SqL K H p (xs.map V.str) ∧ xs.length + 1 < scanBound ∧ ∀ a, H a = none → Q (.ref a) (upd H a (SetT P w a xs))
theorem cr_setT (hc : X.calm = true) : CallR X (.type "set") (rSetT X.K X.prog X.w) := by
  intro pins s σ H vs us Q I r h
  obtain ⟨p, xs, rfl, hs, hz, q⟩ := h
  obtain ⟨its, rv, hl, _⟩ := I.list hs
  rw [Vals.ref1 r]
  refine call_set_texts (I.ok.hd hc) hl.isList (by simpa using rv.strs) hz fun h' tk R k => ?_
  have J : Inv X pins σ (upd H s.heap.objs.size (SetT X.prog X.w s.heap.objs.size xs)) { s with heap := h', toks := tk } :=
    I.laid (t' := tk) (fun b u e => k b u (Heap.lt_size e) e) (Nat.le_refl _) (setT_new R)
  exact ⟨.ref _, _, J, rfl, q _ (I.hok.fresh (Nat.le_refl _))⟩
/-- sorted(set), fewer than 64 texts -/
def rSortedT (P : Program) (w : World) : List V → Hp → VK → Prop := fun vs H Q => ∃ (a : Addr) (xs : List Str), vs = [V.ref a] ∧ H a = some (SetT P w a xs) ∧ xs.length < 64 ∧
  ∀ (ys : List Str) (p : Addr), ys.Nodup → sortedS ys = true → (∀ x, x ∈ ys ↔ x ∈ xs) → H p = none → Q (.ref p) (upd H p (.lst (ys.map V.str)))
theorem texts_of {P : Program} {w : World} : ∀ (l : List Value) (es : List (Int × Value)), ElemsOf (PySem.strKind P w) es → (∀ v ∈ l, ∃ e ∈ es, e.2 = v) → ∃ xs, StrsAre l xs ∧ xs = l.map (fun v => match v with | .str z _ => z | _ => Str.empty)
  | [], _, _, _ => ⟨[], .nil, rfl⟩
  | v :: l, es, g, h => by
    obtain ⟨xs, h1, h2⟩ := texts_of l es g fun u hu => h u (List.mem_cons_of_mem _ hu)
    obtain ⟨e, he, q⟩ := h v List.mem_cons_self
    obtain ⟨⟨y, hy, _⟩, _⟩ := g e he
    obtain ⟨u, hu⟩ := Value.isStrOf_shape hy
    rw [q] at hu
    subst hu
    exact ⟨y :: xs, .cons y u h1, by rw [h2]; rfl⟩
theorem cr_sortedT (hc : X.calm = true) : CallR X (.builtin "sorted") (rSortedT X.prog X.w) := by
  intro pins s σ H vs us Q I r h
  obtain ⟨a, xs, rfl, ha, h64, q⟩ := h
  obtain ⟨ents, ep, tab, L, mem, size⟩ := setT_get I ha
  obtain ⟨o, get, exact_, dat⟩ := L.ob
  rw [Vals.ref1 r]
  have hes : ents.size < 64 := Nat.lt_of_le_of_lt size h64
  refine Calls.call_function_entry PyProof.Rows.kind_sorted PyProof.Rows.plain_sorted PyProof.Rows.entry_sorted (PyProof.Rows.args_sorted1 _) ?_
  unfold Builtin.«sorted»
  refine wpAny_bind (m := checkCount "sorted" 1 1 _) (wpAny_pure ?_)
  refine wpAny_bind (collect_set (A := X.A.in1) (I.ok.hd hc) ⟨o, get, exact_.1, dat⟩ L.fit L.few L.ris L.led fun s1 vs k1 hz g1 o1 pm => ?_)
  have hvl : vs.length = ents.size := by rw [pm.length_eq, List.length_map, Array.length_toList]
  obtain ⟨zs, hS, ez⟩ := texts_of vs ents.toList L.el fun v hv => by
    obtain ⟨e, he, e2⟩ := List.mem_map.mp (pm.mem_iff.mp hv)
    exact ⟨e, he, e2⟩
  have pz : zs.Perm (ents.toList.map entS) := by
    rw [ez]
    have q := pm.map (fun v => match v with | .str z _ => z | _ => Str.empty)
    rw [List.map_map] at q
    exact q
  refine wpAny_bind (wpAny_newList ?_ (by rw [hvl, sizeLine_eq]; omega))
  have hoL : (s1.heap.push (seqObj "list" vs.toArray 0)).get? s1.heap.objs.size = some (seqObj "list" vs.toArray 0) := Heap.get?_push_size _ rfl
  refine wpAny_bind (wpAny_holding (wpAny_call_entry PyProof.Rows.slot_list_sort ⟨_, hoL, rfl⟩ PyProof.Rows.entry_list_sort
    (list_sort_treeK strKind_oneLt (s := { s1 with heap := s1.heap.push (seqObj "list" vs.toArray 0) }) hoL hS.keysOf (fun v₁ v₂ rest e => keyKind_strs (by rw [← e]; exact hS)) (by rw [hvl]; exact hes) fun st' hp hs => ⟨_, rfl, ?_⟩)
    (PyProof.Rows.args_list_sort _)))
  obtain ⟨ys, f1, f2, f3⟩ := sorted_out_str hS hp hs
  obtain ⟨e', he'⟩ := PyProof.Rows.sortedHeap_at (vs := vs) (out := (arrOf st').map (·.2)) hoL
  have py : ys.Perm (ents.toList.map entS) := f2.trans pz
  have hn : H s1.heap.objs.size = none := I.hok.fresh hz
  have kk : ∀ b u, s.heap.get? b = some u → (sortedHeap (s1.heap.push (seqObj "list" vs.toArray 0)) s1.heap.objs.size vs ((arrOf st').map (·.2))).get? b = some u := fun b u e => by
    have q1 := k1 b u e
    have hlt := Heap.lt_size q1
    rw [PyProof.Rows.sortedHeap_old (Nat.ne_of_lt hlt) (by rw [size_push']; exact Nat.lt_succ_of_lt hlt)]
    exact Heap.get?_push_of_some _ q1
  have hlen : (ys.map V.str).length ≤ sizeLine := by
    rw [List.length_map, py.length_eq, List.length_map, Array.length_toList, sizeLine_eq]; omega
  have J : Inv X pins σ (upd H s1.heap.objs.size (.lst (ys.map V.str))) { s with heap := sortedHeap (s1.heap.push (seqObj "list" vs.toArray 0)) s1.heap.objs.size vs ((arrOf st').map (·.2)), gens := s1.gens, drawn := s1.drawn, toks := s1.toks } :=
    I.call (ch := []) (Un.laid kk hz hn) (I.hok.laid kk hz ⟨hlen, ((arrOf st').map (·.2)).toList, e', vals_of_strs f1, by rw [Array.toArray_toList]; exact he'⟩) (by rw [g1]; exact I.bare) (fun _ z => nomatch z)
  refine wpAny_pure ⟨_, rfl, ?_⟩
  have es1 : ({ s1 with heap := sortedHeap (s1.heap.push (seqObj "list" vs.toArray 0)) s1.heap.objs.size vs ((arrOf st').map (·.2)) } : Shared) = { s with heap := sortedHeap (s1.heap.push (seqObj "list" vs.toArray 0)) s1.heap.objs.size vs ((arrOf st').map (·.2)), gens := s1.gens, drawn := s1.drawn, toks := s1.toks } := by
    cases s1
    cases s
    cases o1
    rfl
  show EP X pins σ Q _ { s1 with heap := sortedHeap (s1.heap.push (seqObj "list" vs.toArray 0)) s1.heap.objs.size vs ((arrOf st').map (·.2)) }
  rw [es1]
  exact ⟨.ref _, _, J, rfl, q ys _ (py.nodup_iff.mpr L.nd) f3 (fun x => by rw [py.mem_iff, mem]) hn⟩
end
end Ow

/-! S4: dict(a list of pairs), the keys tuples of texts and ints. -/
namespace Ow
open PySem PySem.Spec PyProof.Rows L2 Evl
abbrev TQ := List L2.Key × Addr × Value
def mergedH (acc rest : List TQ) : List TQ := rest.foldl (fun a q => storedH a q.1 q.2.1 q.2.2) acc
theorem mem_storedH {xs : List TQ} {k : List L2.Key} {a : Addr} {v : Value} {x : TQ} (h : x ∈ storedH xs k a v) : x.2.1 = a ∨ ∃ y ∈ xs, y.2.1 = x.2.1 := by
  unfold storedH at h
  split at h
  · obtain ⟨y, hy, e⟩ := List.mem_map.mp h
    refine .inr ⟨y, hy, ?_⟩
    rw [← e]
    unfold putAt
    split <;> rfl
  · rcases List.mem_append.mp h with h | h
    · exact .inr ⟨x, h, rfl⟩
    · rw [List.mem_singleton.mp h]; exact .inl rfl
theorem storedH_le (xs : List TQ) (k : List L2.Key) (a : Addr) (v : Value) : (storedH xs k a v).length ≤ xs.length + 1 := by
  unfold storedH
  split
  · rw [List.length_map]; omega
  · rw [List.length_append]; exact Nat.le_refl _
section
variable {prog : Program} {w : World} {A : Around} {E : Value → Shared → Prop}
theorem dictH_keep {h h' : Heap} {d : Addr} {xs : List TQ} (m : h.DictOfH (tupleKind (mixKind prog w)) d xs) (k : ∀ o, h.get? d = some o → h'.get? d = some o) (kk : ∀ x ∈ xs, ∀ o, h.get? x.2.1 = some o → h'.get? x.2.1 = some o) : h'.DictOfH (tupleKind (mixKind prog w)) d xs := by
  obtain ⟨o, es, ep, h1, h2, h3, h4, h5, h6⟩ := m
  refine ⟨o, es, ep, k o h1, h2, h3, h4, fun x hx => ?_, h6⟩
  obtain ⟨o', items, n, g1, g2, g3, g4⟩ := h5 x hx
  exact ⟨o', items, n, kk x hx o' g1, g2, g3, g4⟩
theorem upd_loopT {R : Result → Shared → Prop} {S I l : Addr} {items : Array Value} {res : Value} (hh : A.handled = none) (hlI : l ≠ I) (hSI : S ≠ I) (hSl : S ≠ l) (hu : A.units + 1 < cLine) :
    ∀ (rest : List TQ) (i : Nat) (acc : List TQ) (ix : Int) (t : Tok) (s : Shared), items.size = i + rest.length → acc.length + rest.length ≤ sizeLine →
      (∀ (j : Nat) (q : TQ), rest[j]? = some q → ∃ b : Addr, items[i + j]? = some (.ref b) ∧ b ≠ S ∧ b ≠ I ∧ IsTup s.heap b #[.ref q.2.1, q.2.2]) → (∀ q ∈ rest, q.2.1 ≠ S ∧ q.2.1 ≠ I ∧ (tupleKind (mixKind prog w)).is s.heap q.1 q.2.1) → (∀ q ∈ acc, q.2.1 ≠ S ∧ q.2.1 ≠ I) →
      s.heap.IsListIter I l i → s.heap.IsList l items → s.heap.DictOfH (tupleKind (mixKind prog w)) S acc →
      (∀ h' tk, h'.DictOfH (tupleKind (mixKind prog w)) S (mergedH acc rest) → (∀ b o, b ≠ S → b ≠ I → s.heap.get? b = some o → h'.get? b = some o) → R (.ok (.ret res)) { s with heap := h', toks := tk }) →
      codeAny (model prog w) A (.builtin "dict.update.loop" ⟨[.ref S, .ref I, .int ix t, res], []⟩) R s
  | [], i, acc, ix, t, s, hsz, hln, ht, hk, hac, hit, hl, hm, hR => by
    refine codeAny_builtin ud_entry ?_
    rw [Around.under_plainId ud_plain _]
    show wpAny _ A.in1 (pyNext (.ref I) >>= _) _ _ s
    refine wpAny_bind (wpAny_pyNext_list_end (A := A.in1) hh hit hl (by first | exact Array.getElem?_eq_none (Nat.le_of_eq hsz) | (simp at hsz; simp; omega)) fun h' he => ?_)
    show wpAny _ A.in1 (Builtin.Dict.addKeywords S [] >>= _) _ _ _
    refine wpAny_bind (wpAny_pure (wpAny_pure ?_))
    exact hR h' s.toks (dictH_keep hm (fun o e => he S o hSI e) fun x hx o e => he _ o (hac x hx).2 e) fun b o _ hb e => he b o hb e
  | q :: rest, i, acc, ix, t, s, hsz, hln, ht, hk, hac, hit, hl, hm, hR => by
    obtain ⟨b, hb, hbS, hbI, htup⟩ := ht 0 q rfl
    obtain ⟨kS, kI, kis⟩ := hk q List.mem_cons_self
    rw [List.length_cons] at hsz hln
    refine codeAny_builtin ud_entry ?_
    rw [Around.under_plainId ud_plain _]
    show wpAny _ A.in1 (pyNext (.ref I) >>= _) _ _ s
    refine wpAny_bind (wpAny_pyNext_list_item (x := .ref b) hit hl (by simpa using hb) fun h1 hit1 hs1 => ?_)
    have ht1 : IsTup h1 b #[.ref q.2.1, q.2.2] := htup.extBut hs1.extBut hbI
    have hl1 : h1.IsList l items := hl.extBut hs1.extBut hlI
    have hm1 : h1.DictOfH (tupleKind (mixKind prog w)) S acc := dictH_keep hm (fun o e => hs1.extBut S o hSI e) fun x hx o e => hs1.extBut _ o (hac x hx).2 e
    have kis1 : (tupleKind (mixKind prog w)).is h1 q.1 q.2.1 := by
      obtain ⟨o', its, n, g1, g2, g3, g4⟩ := kis
      exact ⟨o', its, n, hs1.extBut _ o' kI g1, g2, g3, g4⟩
    obtain ⟨o, ho, hc, n, hd⟩ := id ht1
    show wpAny _ A.in1 (holding [Value.ref b] _ >>= _) _ _ _
    refine wpAny_bind (wpAny_holding ?_)
    refine wpAny_bind (wpAny_tryCatch ?_)
    unfold Builtin.Dict.pairItems
    refine wpAny_bind (wpAny_typeOf (T := "tuple") ⟨o, ho, hc⟩ ?_)
    rw [if_pos (by first | decide | rfl | simp)]
    refine wpAny_bind (wpAny_seqItems ho hd (wpAny_pure ?_))
    show wpAny _ A.in1 (holding [.ref q.2.1, q.2.2] (dictSet S (.ref q.2.1) q.2.2)) _ _ _
    refine wpAny_holding (wpAny_dictSet_heap (knd := tupleKind (mixKind prog w)) (k := q.1) (tupleKind_room_in1 hu) kis1 hm1 (fun h2 hm2 hs2 => ?_) (by omega))
    refine wpAny_pure ⟨plainId_quiet ud_plain _, upd_loopT (items := items) hh hlI hSI hSl hu rest (i + 1) (storedH acc q.1 q.2.1 q.2.2) (ix + 1) 0 _ (show items.size = i + 1 + rest.length by omega) ?_ (fun j q' e => ?_) (fun q' hq' => ?_) (fun x hx => ?_) ?_ ?_ hm2 fun h' tk hd' k => ?_⟩
    · have z := storedH_le acc q.1 q.2.1 q.2.2
      omega
    · obtain ⟨b', hb', hbS', hbI', htup'⟩ := ht (j + 1) q' (by simpa using e)
      refine ⟨b', ?_, hbS', hbI', (htup'.extBut hs1.extBut hbI').extBut hs2.extBut hbS'⟩
      rw [show i + 1 + j = i + (j + 1) by omega]
      exact hb'
    · obtain ⟨a1, a2, a3⟩ := hk q' (List.mem_cons_of_mem _ hq')
      obtain ⟨o', its, n', g1, g2, g3, g4⟩ := a3
      exact ⟨a1, a2, o', its, n', hs2.extBut _ o' a1 (hs1.extBut _ o' a2 g1), g2, g3, g4⟩
    · rcases mem_storedH hx with e | ⟨y, hy, e⟩
      · rw [e]; exact ⟨kS, kI⟩
      · rw [← e]; exact hac y hy
    · exact hit1.at fun o' e => hs2.extBut I o' (Ne.symm hSI) e
    · exact hl1.extBut hs2.extBut (Ne.symm hSl)
    · exact hR h' tk hd' fun c oc h3 h4 e => k c oc h3 h4 (hs2.extBut c oc h3 (hs1.extBut c oc h4 e))
theorem call_dict_pairsT {s : Shared} {l : Addr} {ol : Obj} {items : Array Value} {n : Nat} {prs : List TQ} {Q : Value → Shared → Prop} (hh : A.handled = none) (hu : A.units + 64 < cLine) (hl : s.heap.get? l = some ol) (hc : ol.cls = .type "list") (hd : ol.dict = none)
    (hdat : ol.data = .seq items n) (hsz : items.size = prs.length) (hln : prs.length ≤ sizeLine)
    (ht : ∀ (j : Nat) (q : TQ), prs[j]? = some q → ∃ b : Addr, items[j]? = some (.ref b) ∧ IsTup s.heap b #[.ref q.2.1, q.2.2]) (hk : ∀ q ∈ prs, (tupleKind (mixKind prog w)).is s.heap q.1 q.2.1)
    (h : ∀ h' tk, h'.DictOfH (tupleKind (mixKind prog w)) s.heap.objs.size (mergedH [] prs) → (∀ b o, s.heap.get? b = some o → h'.get? b = some o) → Q (.ref s.heap.objs.size) { s with heap := h', toks := tk }) :
    wpAny (model prog w) A (call (.type "dict") [.ref l]) Q E s := by
  refine callType_codes (Q₁ := fun obj s₁ => obj = .ref s.heap.objs.size ∧ s₁ = { s with heap := s.heap.push { cls := .type "dict", data := .dict #[] } }) PySem.F.kt_called_dict (PySem.F.kt_typeCall_dict_1 _) PySem.F.entry_dict_init (kt_code_dict_new _ ⟨rfl, rfl⟩) ?_
  rintro obj s₁ ⟨rfl, rfl⟩
  have hnew : (s.heap.push { cls := .type "dict", data := .dict #[] }).DictOfH (tupleKind (mixKind prog w)) s.heap.objs.size [] := Heap.DictOfH.new s.heap
  have k0 : ∀ b o, s.heap.get? b = some o → (s.heap.push { cls := .type "dict", data := .dict #[] }).get? b = some o := fun b o e => Heap.get?_push_of_some _ e
  have hty : Shared.TypeIs { s with heap := s.heap.push { cls := .type "dict", data := .dict #[] } } (.ref s.heap.objs.size) "dict" := Heap.DictOfH.typeIs (s := { s with heap := s.heap.push { cls := .type "dict", data := .dict #[] } }) hnew
  refine ⟨hty, PySem.F.args_dict_init_2 _ _, ?_⟩
  unfold Builtin.«dict.__init__»
  refine wpAny_bind ?_
  unfold Builtin.Dict.selfAndRest
  refine wpAny_bind (wpAny_notOrdered_dict hty ?_)
  show wpAny _ _ (pure (s.heap.objs.size, [Value.ref l])) _ _ _
  refine wpAny_pure ?_
  show wpAny _ _ (Builtin.Dict.updateFrom "dict.__init__" s.heap.objs.size (.ref l) [] .none) _ _ _
  unfold Builtin.Dict.updateFrom
  refine wpAny_bind (wpAny_typeOf (T := "list") ⟨ol, k0 _ _ hl, hc⟩ ?_)
  rw [if_pos (by first | decide | rfl | simp)]
  refine wpAny_bind (miss_list (k0 _ _ hl) hc hdat hd hh fun h1 tk1 hk1 => ?_)
  rw [if_pos (show (none : Option Value).isNone = true from rfl)]
  refine wpAny_bind (wpAny_rule ?_)
  have hl1 : h1.IsList l items := ⟨ol, hk1 _ _ (k0 _ _ hl), hc, n, hdat⟩
  have hS1 : s.heap.objs.size < h1.objs.size := by
    have e : (s.heap.push { cls := .type "dict", data := .dict #[] }).get? s.heap.objs.size = some { cls := .type "dict", data := .dict #[] } := Heap.get?_push_size _ rfl
    exact Heap.lt_size (hk1 _ _ e)
  refine wpAny_bind (wpAny_pyIter_list hl1 ?_)
  have k2 : ∀ b o, h1.get? b = some o → (h1.push { cls := .type "list_iterator", data := .fields #[.ref l, .int 0 0] }).get? b = some o := fun b o e => Heap.get?_push_of_some _ e
  have hlt : l < s.heap.objs.size := Heap.lt_size hl
  have kis : ∀ q ∈ prs, q.2.1 < s.heap.objs.size := fun q hq => by
    obtain ⟨o', its, n', g1, _⟩ := hk q hq
    exact Heap.lt_size g1
  have key := upd_loopT (prog := prog) (w := w) (A := A.in1) (R := wants (fun r s₂ => r = .none ∧ Q (.ref s.heap.objs.size) s₂) E) (S := s.heap.objs.size) (I := h1.objs.size) (l := l) (items := items) (res := Value.none) hh
    (Nat.ne_of_lt (Nat.lt_trans hlt hS1)) (Nat.ne_of_lt hS1) (Nat.ne_of_gt hlt) (by first | exact Nat.lt_of_le_of_lt (by simp) hu | (show A.units + 1 < cLine; omega)) prs 0 [] 0 0
    { s with heap := h1.push { cls := .type "list_iterator", data := .fields #[.ref l, .int 0 0] }, toks := tk1 } (by rw [hsz, Nat.zero_add]) (by rw [List.length_nil, Nat.zero_add]; exact hln)
    (fun j q e => by
      obtain ⟨b, e1, e2⟩ := ht j q e
      have hb : b < s.heap.objs.size := e2.lt
      exact ⟨b, by rw [Nat.zero_add]; exact e1, Nat.ne_of_lt hb, Nat.ne_of_lt (Nat.lt_trans hb hS1), e2.keeps fun c o z => k2 _ _ (hk1 _ _ (k0 _ _ z))⟩)
    (fun q hq => by
      obtain ⟨o', its, n', g1, g2, g3, g4⟩ := hk q hq
      have hb := kis q hq
      exact ⟨Nat.ne_of_lt hb, Nat.ne_of_lt (Nat.lt_trans hb hS1), o', its, n', k2 _ _ (hk1 _ _ (k0 _ _ g1)), g2, g3, g4⟩)
    (fun q hq => (by cases hq))
    ⟨_, Heap.get?_push_size _ rfl, rfl, rfl⟩ (hl1.at fun o e => k2 _ _ e) (dictH_keep hnew (fun o e => k2 _ _ (hk1 _ _ e)) fun x hx => (by cases hx))
    (fun h' tk hd' k => ⟨rfl, h h' tk hd' fun b o e => k b o (Nat.ne_of_lt (Heap.lt_size e)) (Nat.ne_of_lt (Nat.lt_trans (Heap.lt_size e) hS1)) (k2 _ _ (hk1 _ _ (k0 _ _ e)))⟩)
  first
    | exact wpAny_pure ⟨plainId_quiet ud_plain _, key⟩
    | exact wpAny_bind (wpAny_pure (wpAny_pure ⟨plainId_quiet ud_plain _, key⟩))
end
/-! ### dict(xs) -/
section
variable {X : Cx}
def mergeT (kvs more : List (List L2.Key × V)) : List (List L2.Key × V) := more.foldl (fun acc kv => putK acc kv.1 kv.2) kvs
theorem KT.merge {H : Hp} : ∀ {more : List (List L2.Key × V)} {rs : List TQ} {kvs : List (List L2.Key × V)} {vs : List TQ}, KT H more rs → KT H kvs vs → KT H (mergeT kvs more) (mergedH vs rs)
  | _, _, _, _, .nil, r => r
  | _, _, _, _, .cons (a := p) (b := q) (l₁ := more) (l₂ := rs) h t, r => by
    show KT H (mergeT (putK _ p.1 p.2) more) (mergedH (storedH _ q.1 q.2.1 q.2.2) rs)
    refine KT.merge t ?_
    rw [← h.1]
    exact r.put p.1 h.2.1 h.2.2
theorem mergeT_le : ∀ (more kvs : List (List L2.Key × V)), (mergeT kvs more).length ≤ kvs.length + more.length
  | [], kvs => Nat.le_refl _
  | p :: r, kvs => by
    have h1 := mergeT_le r (putK kvs p.1 p.2)
    have h2 := length_putK kvs p.1 p.2
    show (mergeT (putK kvs p.1 p.2) r).length ≤ _
    rw [List.length_cons]
    omega
theorem pairsT_of {pins : List (Addr × Obj)} {σ : L2.St} {H : Hp} {s : Shared} (I : Inv X pins σ H s) : ∀ {ps : List Addr} {kvs : List (List L2.Key × V)}, Paired (fun p kv => ∃ b, SqT X.K H p [.ref b, kv.2] ∧ H b = some (.tup (kv.1.map kV))) ps kvs →
    ∃ prs : List TQ, KT H kvs prs ∧ prs.length = ps.length ∧ (∀ (j : Nat) (q : TQ), prs[j]? = some q → ∃ b : Addr, ps[j]? = some b ∧ IsTup s.heap b #[.ref q.2.1, q.2.2]) ∧ ∀ q ∈ prs, (tupleKind (mixKind X.prog X.w)).is s.heap q.1 q.2.1
  | _, _, .nil => ⟨[], .nil, rfl, fun j q e => by simp at e, fun q hq => by cases hq⟩
  | _, _, .cons (a := p) (b := kv) h t => by
    obtain ⟨prs, r, hl, hp, hk⟩ := pairsT_of I t
    obtain ⟨b, h1, h2⟩ := h
    obtain ⟨its, rv, ht, _⟩ := I.tuple h1
    obtain ⟨u, y, ei, ru, ry⟩ := vals2 rv
    subst ei
    have eu : u = Value.ref b := ru
    subst eu
    refine ⟨(kv.1, b, y) :: prs, .cons ⟨rfl, h2, ry⟩ r, by rw [List.length_cons, List.length_cons, hl], fun j q e => ?_, fun q hq => ?_⟩
    · cases j with
      | zero =>
        have e' : (kv.1, b, y) = q := Option.some.inj e
        subst e'
        exact ⟨p, rfl, ht⟩
      | succ j =>
        obtain ⟨b', e1, e2⟩ := hp j q (by simpa using e)
        exact ⟨b', by simpa using e1, e2⟩
    · rcases List.mem_cons.mp hq with e | e
      · rw [e]; exact key_of I.hok h2
      · exact hk q e
/-- dict(xs) of a list of pairs (tuple, value) -/
def rDictPT (K : PySem.W.Frag) : List V → Hp → VK → Prop := fun xs H Q => ∃ (a : Addr) (ps : List Addr) (kvs : List (List L2.Key × V)), xs = [.ref a] ∧ SqL K H a (ps.map V.ref) ∧ Paired (fun p kv => ∃ b, SqT K H p [.ref b, kv.2] ∧ H b = some (.tup (kv.1.map kV))) ps kvs ∧
    ∀ p, H p = none → Q (.ref p) (upd H p (.dT (mergeT [] kvs)))
theorem cr_dictPT (hcalm : X.calm = true) (hu : X.A.units + 64 < cLine) : CallR X (.type "dict") (rDictPT X.K) := by
  intro pins s σ H xs us Q I r q
  obtain ⟨a, ps, kvs, ex, hq, hp, q⟩ := q
  subst ex
  obtain ⟨u, eu, rx⟩ := vals1 r
  subst eu
  cases rx
  obtain ⟨its, rv, pl, hz⟩ := I.list hq
  have ei := refs_at rv
  subst ei
  rw [List.length_map] at hz
  obtain ⟨prs, rel, hl, hpr, hkk⟩ := pairsT_of I hp
  obtain ⟨o, n, ho, hc, hd, hdat⟩ := pl
  refine call_dict_pairsT (prs := prs) (I.ok.hd hcalm) hu ho hc hd hdat (by simp [hl]) (by rw [hl]; exact hz) (fun j q' e => ?_) hkk fun h' tk hd' k => ?_
  · obtain ⟨b, e1, e2⟩ := hpr j q' e
    exact ⟨b, by simp [e1], e2⟩
  · have hm : (s.heap.objs.size == sysModules) = false := beq_eq_false_iff_ne.mpr (Nat.ne_of_gt I.big)
    have hn : H s.heap.objs.size = none := I.hok.fresh (Nat.le_refl _)
    have hlen : (mergeT [] kvs).length ≤ sizeLine := by
      refine Nat.le_trans (mergeT_le kvs []) ?_
      rw [List.length_nil, Nat.zero_add, Paired.length rel, hl]
      exact hz
    obtain ⟨o', es, ep, g1, g2, g3, g4, _, g6⟩ := hd'
    refine ⟨.ref s.heap.objs.size, upd H s.heap.objs.size (.dT (mergeT [] kvs)), I.laid (t' := tk) k (Nat.le_refl _) (show ObjOk X.prog X.w _ _ _ (.dT (mergeT [] kvs)) from ⟨hlen, hm, mergedH [] prs, ?_, o', es, ep, g1, g2, g3, g4, g6⟩), rfl, q _ hn⟩
    exact (KT.merge rel .nil).keeps fun b ys hb => by rw [upd_ne (ne_of_none hb hn)]; exact hb
end
end Ow

/-! P21: a table of the module asked by in and [ ]; is True. -/
namespace Ow
open PySem PySem.Spec PyProof.Rows L2 Evl
def rKNi (d : Addr) (kvs : List (Str × V)) : R2 := fun x y H Q => ∃ z : Str, x = .str z ∧ y = .ref d ∧ Q (.bl (!(kvs.lookup z).isSome)) H
def rKIx (d : Addr) (kvs : List (Str × V)) : R2 := fun x y H Q => ∃ (z : Str) (v : V), x = .ref d ∧ y = .str z ∧ kvs.lookup z = some v ∧ Q v H
section
variable {X : Cx} {d : Addr} {kvs : List (Str × V)}
theorem ktab_at (T : KTab X.K X.w d kvs) (z : Str) : ∃ es n, KDict X.K X.w d es n ∧ RelO (kvs.lookup z) (findBy Value.isStrOf es z) := by
  obtain ⟨es, n, T, r⟩ := T
  refine ⟨es, n, T, ?_⟩
  have q := ktab_find (x := z) r
  have eq : findBy Value.isStrOf es z = (es.toList.find? fun e => Value.isStrOf z e.key).map (·.val) := by
    obtain ⟨l⟩ := es
    simp [findBy]
  rw [eq]
  exact q
theorem op_notin_kt (T : KTab X.K X.w d kvs) : OpR X (compareOp .NotIn) (rKNi d kvs) := by
  intro pins s σ H x y v u Q I rx ry h
  obtain ⟨z, rfl, rfl, q⟩ := h
  obtain ⟨t, rfl⟩ := rx
  cases ry
  obtain ⟨es, n, T, r⟩ := ktab_at T z
  refine wpAny_notIn_of (PySem.strKind_is X.prog X.w z t) T.low (PySem.W.mapOf_K (prog := X.prog) I.kIn T.at_ T.lit) ?_
  have e : (findBy Value.isStrOf es z).isSome = (kvs.lookup z).isSome := r.isSome_eq.symm
  rw [e]
  exact ⟨.bl (!(kvs.lookup z).isSome), H, I.tok _, rfl, q⟩
theorem ix_kt (T : KTab X.K X.w d kvs) : IxR X (rKIx d kvs) := by
  intro value slice pins s σ H x y v u Q I rx ry h hs
  obtain ⟨z, r, rfl, rfl, hl, q⟩ := h
  obtain rfl : v = Value.ref d := rx
  obtain ⟨t, rfl⟩ := ry
  obtain ⟨es, n, T, rr⟩ := ktab_at T z
  have hm := PySem.W.mapOf_K (prog := X.prog) (w := X.w) I.kIn T.at_ T.lit
  rw [hl] at rr
  cases e : findBy Value.isStrOf es z with
  | none => rw [e] at rr; exact rr.elim
  | some u0 =>
    rw [e] at rr
    exact tail_any hm.typeIs slot_dict_getitem.lookup (wpAny_getItem_of (strKind_is X.prog X.w z t) hm e ⟨r, H, I.tok _, rr, q⟩) hs
end
section
variable {K : PySem.W.Frag} {σ : L2.St} {H : Hp} {ta tb : TE} {d : Addr} {kvs : List (Str × V)} {z : Str} {dd : D}
theorem ed_kni (h : EvD K ta σ H (.str z)) : EvD K (tOp (rKNi d kvs) ta (tC (.ref d))) σ H (.bool (!(kvs.lookup z).isSome)) := fun H1 e Q q =>
  h H1 e _ fun v H2 e2 hv => ⟨z, dp_str_inv hv, rfl, q _ H2 e2 (.bl _)⟩
theorem ed_kix {v : V} (h : EvD K ta σ H (.str z)) (hl : kvs.lookup z = some v) (hd : ∀ H9, Dp K H9 v dd) : EvD K (tOp (rKIx d kvs) (tC (.ref d)) ta) σ H dd := fun H1 e Q q =>
  h H1 e _ fun u H2 e2 hu => ⟨z, v, rfl, dp_str_inv hu, hl, q _ H2 e2 (hd H2)⟩
theorem rd_isB {a b : Bool} : RD K rIsB (.bool a) (.bool b) H (.bool (decide (a = b))) := fun H1 _ x y hx hy _ q => by
  cases hx; cases hy
  exact ⟨a, b, rfl, rfl, q _ H1 (Ex.refl H1) (.bl _)⟩
theorem rd_notB {a b : Bool} : RD K rNotB (.bool a) (.bool b) H (.bool (!decide (a = b))) := fun H1 _ x y hx hy _ q => by
  cases hx; cases hy
  exact ⟨a, b, rfl, rfl, q _ H1 (Ex.refl H1) (.bl _)⟩
end
end Ow

/-! P22: a display kept in a name; lists of (tuple of texts, data); sets of texts. -/
namespace Ow
open PySem PySem.Spec PyProof.Rows L2 Evl
section
variable {X : Cx}
theorem op_notin_ktK {K : PySem.W.Frag} {w : World} {d : Addr} {kvs : List (Str × V)} (hK : X.K = K) (hw : X.w = w) (T : KTab K w d kvs) : OpR X (compareOp .NotIn) (rKNi d kvs) := by subst hK hw; exact op_notin_kt T
theorem ix_ktK {K : PySem.W.Frag} {w : World} {d : Addr} {kvs : List (Str × V)} (hK : X.K = K) (hw : X.w = w) (T : KTab K w d kvs) : IxR X (rKIx d kvs) := by subst hK hw; exact ix_kt T
theorem cr_dictPTK (K : PySem.W.Frag) (h : X.K = K) (hcalm : X.calm = true) (hu : X.A.units + 64 < cLine) : CallR X (.type "dict") (rDictPT K) := h ▸ cr_dictPT hcalm hu
end
section
variable {K : PySem.W.Frag} {σ : L2.St} {H H' : Hp} {ta tb te td ty tx tv tl : TE} {tr : TA} {Dn : Ends} {tz : TS} {d d1 d2 d3 d4 : D} {s : Str} {i : Nat}
/-! ### found = {k: e, ..} -/
def kvOf (l : List Str) (vs : List V) : List (L2.Key × V) := (l.zip vs).map fun p => ((Sum.inr p.1 : L2.Key), p.2)
theorem kvOf_look : ∀ {l : List Str} {vs : List V} {ds : List D} {s : Str} {d : D}, l.length = ds.length → DpAll K H vs ds → (l.zip ds).lookup s = some d → ∃ v, valV (kvOf l vs) (Sum.inr s) = some v ∧ Dp K H v d
  | [], _, _, s, d, _, _, h => by cases h
  | x :: l, _, _, s, d, hl, .nil, h => by cases hl
  | x :: l, v :: vs, e :: ds, s, d, hl, .cons hv hvs, h => by
    rw [List.zip_cons_cons, List.lookup_cons] at h
    by_cases z : s = x
    · subst z
      have : (s == s) = true := by simp
      rw [this] at h
      cases h
      exact ⟨v, valV_pos rfl, hv⟩
    · have : (s == x) = false := by simpa using z
      rw [this] at h
      obtain ⟨v, h1, h2⟩ := kvOf_look (by simpa using hl) hvs h
      exact ⟨v, (valV_neg (fun w => z (Sum.inr.inj w).symm)).trans h1, h2⟩
/-- a display's pairs -/
def EvPairs (K : PySem.W.Frag) (trs : List (TE × TE)) (σ : L2.St) (H : Hp) (l : List (Str × D)) : Prop := ∀ H1, Ex H H1 → ∀ Q : List (V × V) → Hp → Prop, (∀ vs H2, Ex H1 H2 → DpAll K H2 vs (l.map (·.2)) → Q ((l.map fun x => V.str x.1).zip vs) H2) → tPairs trs σ H1 Q
theorem evp_nil : EvPairs K [] σ H [] := fun H1 e Q q => q [] H1 (Ex.refl H1) .nil
theorem evp_cons {trs : List (TE × TE)} {l : List (Str × D)} (hv : EvD K tv σ H d) (h : EvPairs K trs σ H l) : EvPairs K ((tC (.str s), tv) :: trs) σ H ((s, d) :: l) := fun H1 e Q q =>
  hv H1 e _ fun v H2 e2 hv => h H2 (e.trans e2) _ fun vs H3 e3 a => q (v :: vs) H3 (e2.trans e3) (.cons (Dpx hv e3) a)
theorem zip_str2 : ∀ (l : List (Str × D)) (vs : List V), (l.map fun x => V.str x.1).zip vs = (kvOf (l.map (·.1)) vs).map fun kv => (kV kv.1, kv.2)
  | [], _ => by simp [kvOf]
  | x :: l, [] => by simp [kvOf]
  | x :: l, v :: vs => by
    rw [List.map_cons, List.zip_cons_cons, zip_str2 l vs]; rfl
theorem kvOf_keys : ∀ (l : List Str) (vs : List V), vs.length = l.length → (kvOf l vs).map (·.1) = l.map Sum.inr
  | [], _, _ => by simp [kvOf]
  | x :: l, [], h => by cases h
  | x :: l, v :: vs, h => by
    have := kvOf_keys l vs (by simpa using h)
    unfold kvOf at this ⊢
    rw [List.zip_cons_cons, List.map_cons, List.map_cons, this]; rfl
theorem q_asgDisp {trs : List (TE × TE)} {l : List (Str × D)} (h : EvPairs K trs σ H l) (hn : (l.map (·.1)).Nodup) (h15 : l.length ≤ 15) (nl : noLs (l.map (·.2)) = true)
    (kk : ∀ p vs H1, H p = none → Ex H H1 → H1 p = some (.dK (kvOf (l.map (·.1)) vs)) → DpAll K H1 vs (l.map (·.2)) → tz Dn (σ.set i (some (.ref p))) H1) :
    tSeq (tAsg (tDisp trs) (gName i)) tz Dn σ H := fun p hp => by
  have ep : Ex H (upd H p (.dK [])) := Ex.new hp
  refine h _ ep _ fun vs H2 e2 hvs => ⟨e2 _ _ upd_same, _, zip_str2 l vs, ?_, ?_⟩
  · unfold kvOf
    rw [List.length_map, List.length_zip]
    exact Nat.le_trans (Nat.min_le_left _ _) (by rw [List.length_map]; exact h15)
  have hl : vs.length = (l.map (·.1)).length := by have := dpa_len hvs; rw [List.length_map] at this; rw [List.length_map]; exact this
  have kN : ((kvOf (l.map (·.1)) vs).map (·.1)).Nodup := by
    rw [kvOf_keys _ vs hl]
    exact List.Pairwise.map Sum.inr (fun a b h z => h (Sum.inr.inj z)) hn
  rw [mergeK_nil kN]
  have b : Ex H (upd H2 p (.dK (kvOf (l.map (·.1)) vs))) := ex_chain (ep.trans e2) (ExB.upd List.mem_cons_self) (fun z hz => by rw [List.mem_singleton.mp hz]; exact hp)
  exact kk p vs _ hp b upd_same (Dpat hvs nl (tex_dK (e2 _ _ upd_same)))
/-! ### [((k, ..), e), ..] -/
/-- a pair (a new tuple of texts, data) -/
def EvPr (K : PySem.W.Frag) (te : TE) (σ : L2.St) (H : Hp) (ks : List Str) (d : D) : Prop := ∀ H1, Ex H H1 → ∀ Q : VK, (∀ p b v H2, Ex H1 H2 → H2 p = some (.tup [.ref b, v]) → H2 b = some (.tup (ks.map V.str)) → Dp K H2 v d → Q (.ref p) H2) → te σ H1 Q
theorem epr_mk {tk : TA} (ks : List Str) (hk : EvA tk σ H (ks.map V.str)) (hl : ks.length ≤ 100000) (he : EvD K te σ H d) : EvPr K (tTup (tCons (tTup tk) (tCons te tNil))) σ H ks d := fun H1 e Q q =>
  hk H1 e _ fun H2 e2 => ⟨by rw [List.length_map]; exact sz_of hl, fun b hb => he _ ((e.trans e2).trans (Ex.new hb)) _ fun v H3 e3 hv => ⟨by show 2 ≤ sizeLine; decide, fun p hp => by
    exact q p b v _ (((e2.trans (Ex.new hb)).trans e3).trans (Ex.new hp)) upd_same ((e3.trans (Ex.new hp)) _ _ upd_same) (Dpx hv (Ex.new hp))⟩⟩
/-- what such a list holds -/
structure PrAll (K : PySem.W.Frag) (H : Hp) (ps : List Addr) (kvs : List (List L2.Key × V)) (l : List (List Str × D)) : Prop where
  pr : Paired (fun p kv => ∃ b, SqT K H p [.ref b, kv.2] ∧ H b = some (.tup (kv.1.map kV))) ps kvs
  ks : kvs.map (·.1) = l.map fun x => x.1.map Sum.inr
  ds : DpAll K H (kvs.map (·.2)) (l.map (·.2))
theorem PrAll.ex {ps : List Addr} {kvs : List (List L2.Key × V)} {l : List (List Str × D)} (A : PrAll K H ps kvs l) (e : Ex H H') : PrAll K H' ps kvs l :=
  ⟨Paired.mapP A.pr fun _ _ ⟨b, h1, h2⟩ => ⟨b, ex_t e h1, e _ _ h2⟩, A.ks, Dpax A.ds e⟩
theorem kV_strs (ks : List Str) : (ks.map (Sum.inr : Str → L2.Key)).map kV = ks.map V.str := by rw [List.map_map]; rfl
/-- such a list's items -/
def EvPrs (K : PySem.W.Frag) (tr : TA) (σ : L2.St) (H : Hp) (l : List (List Str × D)) : Prop := ∀ H1, Ex H H1 → ∀ Q : List V → Hp → Prop, (∀ ps kvs H2, Ex H1 H2 → PrAll K H2 ps kvs l → ps.length = l.length → Q (ps.map V.ref) H2) → tr σ H1 Q
theorem eprs_nil : EvPrs K tNil σ H [] := fun H1 e Q q => q [] [] H1 (Ex.refl H1) ⟨.nil, rfl, .nil⟩ rfl
theorem eprs_cons {ks : List Str} {l : List (List Str × D)} (h : EvPr K te σ H ks d) (hr : EvPrs K tr σ H l) : EvPrs K (tCons te tr) σ H ((ks, d) :: l) := fun H1 e Q q => h H1 e _ fun p b v H2 e2 h1 h2 hv =>
    hr H2 (e.trans e2) _ fun ps kvs H3 e3 A hl => by
      refine q (p :: ps) ((ks.map Sum.inr, v) :: kvs) H3 (e2.trans e3) ⟨.cons ⟨b, st_of (e3 _ _ h1), ?_⟩ A.pr, ?_, .cons (Dpx hv e3) A.ds⟩ (by rw [List.length_cons, List.length_cons, hl])
      · show H3 b = some (.tup ((ks.map Sum.inr).map kV))
        rw [kV_strs]; exact e3 _ _ h2
      · rw [List.map_cons, A.ks]; rfl
theorem s_retPr {l l' : List (List Str × D)} (h : EvPrs K tr σ H l) (el : l = l') (hz : l'.length ≤ 100000) (k : ∀ p ps kvs H1, H p = none → Ex H H1 → H1 p = some (.lst (ps.map V.ref)) → PrAll K H1 ps kvs l' → ps.length = l'.length → Dn.rt (.ref p) H1) : tRet (tLst tr) Dn σ H := by
  subst el
  exact h H (Ex.refl H) _ fun ps kvs H2 e2 A hl => ⟨by rw [List.length_map, hl]; exact sz_of hz, fun p hp => k p ps kvs _ (fresh_back e2 hp) (e2.trans (Ex.new hp)) upd_same (A.ex (Ex.new hp)) hl⟩
/-- as data -/
theorem PrAll.dp {ps : List Addr} {kvs : List (List L2.Key × V)} {l : List (List Str × D)} (A : PrAll K H ps kvs l) : DpAll K H (ps.map V.ref) (l.map fun x => .tuple [.tuple (x.1.map PyData.str), x.2]) := by
  obtain ⟨pr, ks, ds⟩ := A
  induction pr generalizing l with
  | nil =>
    cases l with
    | nil => exact .nil
    | cons x l => cases ks
  | cons h t ih =>
    cases l with
    | nil => cases ks
    | cons x l =>
      obtain ⟨b, h1, h2⟩ := h
      rw [List.map_cons, List.map_cons] at ks
      injection ks with k1 k2
      cases ds with
      | cons d1 d2 =>
        refine .cons (.tup h1 (.cons ?_ (.cons d1 .nil))) (ih k2 d2)
        refine dp_tup h2 ?_
        rw [k1, kV_strs]
        exact dpa_strs x.1
theorem valV_look {ks : List (List L2.Key)} : ∀ {kvs : List (List L2.Key × V)} {l : List (List Str × D)} {k : List Str} {d : D}, kvs.map (·.1) = l.map (fun x => x.1.map Sum.inr) → DpAll K H (kvs.map (·.2)) (l.map (·.2)) → l.lookup k = some d → ∃ v, valV kvs (k.map Sum.inr) = some v ∧ Dp K H v d
  | [], [], k, d, _, _, h => by cases h
  | [], _ :: _, k, d, e, _, h => by cases e
  | _ :: _, [], k, d, e, _, h => by cases e
  | kv :: kvs, x :: l, k, d, e, hd, h => by
    rw [List.map_cons, List.map_cons] at e
    injection e with e1 e2
    cases hd with
    | cons d1 d2 =>
    rw [List.lookup_cons] at h
    by_cases z : k = x.1
    · have : (k == x.1) = true := by simpa using z
      rw [this] at h
      cases h
      exact ⟨kv.2, valV_pos (by rw [e1, z]), d1⟩
    · have : (k == x.1) = false := by simpa using z
      rw [this] at h
      have inj : ∀ a b : List Str, a.map (Sum.inr : Str → L2.Key) = b.map Sum.inr → a = b := fun a b q => (List.map_inj_right (fun x y w => Sum.inr.inj w)).mp q
      obtain ⟨v, h1, h2⟩ := valV_look (ks := ks) e2 d2 h
      exact ⟨v, (valV_neg (fun w => z (inj _ _ (e1.symm.trans w)).symm)).trans h1, h2⟩
theorem mergeT_nil : ∀ {kvs : List (List L2.Key × V)}, (kvs.map (·.1)).Nodup → mergeT [] kvs = kvs := fun {kvs} hn => by
  have key : ∀ (more acc : List (List L2.Key × V)), ((acc ++ more).map (·.1)).Nodup → mergeT acc more = acc ++ more := by
    intro more
    induction more with
    | nil => intro acc _; simp [mergeT]
    | cons p r ih =>
      intro acc h
      have hp : putK acc p.1 p.2 = acc ++ [(p.1, p.2)] := by
        unfold putK
        have : (acc.any fun kv => decide (kv.1 = p.1)) = false := by
          rw [List.any_eq_false]
          intro kv hkv z
          rw [List.map_append, List.map_cons] at h
          have := (List.nodup_append.mp h).2.2 kv.1 (List.mem_map.mpr ⟨kv, hkv, rfl⟩) p.1 List.mem_cons_self
          exact this (of_decide_eq_true z)
        rw [this, if_neg (by decide)]
      show mergeT (putK acc p.1 p.2) r = _
      rw [hp, ih (acc ++ [(p.1, p.2)]) (by rw [List.append_assoc]; exact h), List.append_assoc]
      rfl
  exact key kvs [] hn
/-! ### sorted(set(xs)) -/
theorem en_setsort {P : Program} {w : World} {xs : List Str} (h : EvP K te σ H (xs.map PyData.str)) (hz : xs.length < 64) : ∀ H1, Ex H H1 → ∀ Q : VK, (∀ (ys : List Str) p H2, H1 p = none → Ex H1 H2 → H2 p = some (.lst (ys.map V.str)) → ys.Nodup → sortedS ys = true → (∀ x, x ∈ ys ↔ x ∈ xs) → Q (.ref p) H2) →
    (tCB (rSortedT P w) (tCons (tCB (rSetT K P w) (tCons te tNil)) tNil)) σ H1 Q := fun H1 e Q q =>
  h H1 e _ fun p us H2 e2 h2 a2 => by
    have eu := dpa_strs_inv a2
    subst eu
    refine ⟨p, xs, rfl, sq_of h2, Nat.lt_of_lt_of_le (by omega : xs.length + 1 < 66) (by unfold scanBound; decide), fun a ha => ⟨a, xs, rfl, upd_same, hz, fun ys p2 h3 h4 h5 h6 => ?_⟩⟩
    exact q ys p2 _ (fresh_back (e2.trans (Ex.new ha)) h6) ((e2.trans (Ex.new ha)).trans (Ex.new h6)) upd_same h3 h4 h5
end
end Ow

/-! T1: sorted(xs) of data that are alike. -/
namespace Ow
open PySem PySem.Spec PyProof.Rows L2 Evl
def leD (a b : D) : Bool := PySem.W.sortLe (PyProof.Rows.listOrd PyProof.Rows.itemOrd) false PySem.W.keyToks a b
def sortD (ds : List D) : List D := ds.mergeSort leD
theorem leD_total : PySem.W.TotalLe leD := PySem.W.sortLe_total _ _ _
theorem sortD_perm (ds : List D) : (sortD ds).Perm ds := List.mergeSort_perm _ _
mutual
theorem eqv_alike : ∀ (x y : D), PySem.W.alike x y = true → PyData.eqv x y = true → x = y
  | .none, y, h, _ => by cases y <;> first | rfl | exact absurd h (by simp [PySem.W.alike])
  | .bool a, y, h, e => by
    cases y with
    | bool b =>
      have e' : a = b := by simpa [PyData.eqv] using e
      rw [e']
    | _ => exact absurd h (by simp [PySem.W.alike])
  | .int a, y, h, e => by
    cases y with
    | int b =>
      have e' : a = b := by simpa [PyData.eqv] using e
      rw [e']
    | _ => exact absurd h (by simp [PySem.W.alike])
  | .str a, y, h, e => by
    cases y with
    | str b =>
      have e' : a = b := by simpa [PyData.eqv] using e
      rw [e']
    | _ => exact absurd h (by simp [PySem.W.alike])
  | .list xs, y, h, e => by
    cases y with
    | list ys => rw [eqvAll_alike xs ys (by simpa [PySem.W.alike] using h) (by simpa [PyData.eqv] using e)]
    | _ => exact absurd h (by simp [PySem.W.alike])
  | .tuple xs, y, h, e => by
    cases y with
    | tuple ys => rw [eqvAll_alike xs ys (by simpa [PySem.W.alike] using h) (by simpa [PyData.eqv] using e)]
    | _ => exact absurd h (by simp [PySem.W.alike])
  | .dict _, y, h, _ => absurd h (by cases y <;> simp [PySem.W.alike])
theorem eqvAll_alike : ∀ (xs ys : List D), PySem.W.alikeAll xs ys = true → PyData.eqvAll xs ys = true → xs = ys
  | [], [], _, _ => rfl
  | [], y :: ys, _, e => absurd e (by simp [PyData.eqvAll])
  | x :: xs, [], _, e => absurd e (by simp [PyData.eqvAll])
  | x :: xs, y :: ys, h, e => by
    obtain ⟨h1, h2⟩ := PySem.W.alike_all_cons h
    rw [PySem.W.eqv_all_cons, Bool.and_eq_true] at e
    rw [eqv_alike x y h1 e.1, eqvAll_alike xs ys h2 e.2]
end
theorem leD_anti {x y : D} (h : PySem.W.alike x y = true) (h1 : leD x y = true) (h2 : leD y x = true) : x = y := by
  have z1 : lexLt itemOrd (PySem.W.keyToks y) (PySem.W.keyToks x) = false := by
    have z : (!lexLt itemOrd (PySem.W.keyToks y) (PySem.W.keyToks x)) = true := h1
    simpa using z
  have z2 : lexLt itemOrd (PySem.W.keyToks x) (PySem.W.keyToks y) = false := by
    have z : (!lexLt itemOrd (PySem.W.keyToks x) (PySem.W.keyToks y)) = true := h2
    simpa using z
  have t := lex_total (O := itemOrd) _ _ z2 z1
  cases e : PyData.eqv x y with
  | true => exact eqv_alike x y h e
  | false =>
    have q1 := (PySem.W.toks_eqv x y h).2 e [.inl 0] [.inl 1]
    rw [t, PySem.W.lex_pre, lex_irrefl] at q1
    exact absurd q1 (by decide)
/-- two lists in order with the same items are one -/
theorem srt_uniq : ∀ {a b : List D}, a.Perm b → PySem.W.AllAlike a → a.Pairwise (fun x y => leD x y = true) → b.Pairwise (fun x y => leD x y = true) → a = b
  | [], b, p, _, _, _ => by rw [List.nil_perm.mp p]
  | x :: a, [], p, _, _, _ => by have := p.length_eq; cases this
  | x :: a, y :: b, p, al, ha, hb => by
    obtain ⟨h1, h2⟩ := List.pairwise_cons.mp ha
    obtain ⟨g1, g2⟩ := List.pairwise_cons.mp hb
    have e : x = y := by
      have hx : x ∈ y :: b := p.mem_iff.mp List.mem_cons_self
      have hy : y ∈ x :: a := p.mem_iff.mpr List.mem_cons_self
      rcases List.mem_cons.mp hx with z | z
      · exact z
      · rcases List.mem_cons.mp hy with w | w
        · exact w.symm
        · exact leD_anti (al x List.mem_cons_self y hy) (h1 y w) (g1 x z)
    subst e
    rw [srt_uniq (List.Perm.cons_inv p) (fun d hd e he => al d (List.mem_cons_of_mem _ hd) e (List.mem_cons_of_mem _ he)) h2 g2]
theorem sortD_sorted (ds : List D) : (sortD ds).Pairwise (fun x y => leD x y = true) := PySem.W.sort_pairwise leD_total ds
theorem AllAlike.perm {a b : List D} (h : PySem.W.AllAlike a) (p : b.Perm a) : PySem.W.AllAlike b := fun d hd e he => h d (p.mem_iff.mp hd) e (p.mem_iff.mp he)
theorem sortD_eq {a b : List D} (p : a.Perm b) (al : PySem.W.AllAlike a) : sortD a = sortD b :=
  srt_uniq ((sortD_perm a).trans (p.trans (sortD_perm b).symm)) (AllAlike.perm al (sortD_perm a)) (sortD_sorted a) (sortD_sorted b)
/-! ### the calls -/
section
variable {X : Cx} {pins : List (Addr × Obj)} {σ : L2.St} {H : Hp} {s : Shared}
theorem each_reads (I : Inv X pins σ H s) : ∀ {xs : List V} {us : List Value} {ds : List D}, Vals xs us → DpAll X.K H xs ds → PySem.W.EachIs (fun v d => ∃ as, Reads s.heap v d as) us ds
  | _, _, _, .nil, h => by cases h; exact .nil
  | _, _, _, .cons r t, h => by
    cases h with
    | cons h1 h2 => exact .cons (Dp.reads I _ _ _ h1 r) (each_reads I t h2)
theorem each_rel {κ : PyProof.Rows.KeyKind} : ∀ {xs : List V} {us : List Value} {ds : List D}, Vals xs us → xs.length = ds.length → PySem.W.EachIs (fun u (b : V × D) => RelV b.1 u) us (xs.zip ds)
  | _, _, [], .nil, _ => .nil
  | _, _, d :: ds, .cons r t, h => .cons r (each_rel (κ := κ) t (by simpa using h))
theorem each_key {h : Heap} {us : List Value} {D0 : List D} (al : PySem.W.AllAlike D0) : ∀ {us : List Value} {ds : List D} {xs : List V}, (∀ d ∈ ds, d ∈ D0) → PySem.W.EachIs (fun v d => ∃ as, Reads h v d as) us ds → xs.length = ds.length → PySem.W.EachIs (fun u (b : V × D) => (PySem.W.dataKind h D0).keyOf u = some (PySem.W.keyToks b.2)) us (xs.zip ds)
  | _, _, [], _, .nil, _ => .nil
  | _, _, x :: xs, hm, .cons ⟨as, r⟩ t, hl => .cons (PySem.W.dataKind_some al (hm _ List.mem_cons_self) r) (each_key (us := us) al (fun d hd => hm d (List.mem_cons_of_mem _ hd)) t (by simpa using hl))
theorem each_vals : ∀ {us : List Value} {bs : List (V × D)}, PySem.W.EachIs (fun u (b : V × D) => RelV b.1 u) us bs → Vals (bs.map Prod.fst) us
  | _, _, .nil => .nil
  | _, _, .cons r t => .cons r (each_vals t)
theorem dpa_zip {K : PySem.W.Frag} : ∀ {xs : List V} {ds : List D}, DpAll K H xs ds → ∀ b ∈ xs.zip ds, Dp K H b.1 b.2
  | _, _, .nil, b, h => by cases h
  | _, _, .cons h t, b, hb => by
    rw [List.zip_cons_cons] at hb
    rcases List.mem_cons.mp hb with e | e
    · rw [e]; exact h
    · exact dpa_zip t b e
theorem dpa_unzip {K : PySem.W.Frag} : ∀ {bs : List (V × D)}, (∀ b ∈ bs, Dp K H b.1 b.2) → DpAll K H (bs.map Prod.fst) (bs.map Prod.snd)
  | [], _ => .nil
  | b :: bs, h => .cons (h b List.mem_cons_self) (dpa_unzip fun c hc => h c (List.mem_cons_of_mem _ hc))
/-- the sorted values, with what they stand for -/
theorem srt_vals {K : PySem.W.Frag} {h : Heap} {xs : List V} {us : List Value} {ds : List D} (al : PySem.W.AllAlike ds) (rv : Vals xs us) (hd : DpAll K H xs ds) (hr : PySem.W.EachIs (fun v d => ∃ as, Reads h v d as) us ds) :
    ∃ ys, Vals ys (PySem.W.sortVals (PySem.W.dataKind h ds) false us us) ∧ ys.Perm xs ∧ DpAll K H ys (sortD ds) := by
  have hl := dpa_len hd
  have e := PySem.W.sortVals_each (κ := PySem.W.dataKind h ds) (R := fun u (b : V × D) => RelV b.1 u) (rev := false) (ks := us) (vs := us) (bs := xs.zip ds) (fun b => PySem.W.keyToks b.2) (each_rel (κ := PySem.W.dataKind h ds) rv hl) (each_key (us := us) al (fun _ h => h) hr hl)
  have p : ((xs.zip ds).mergeSort (PySem.W.sortLe (PySem.W.dataKind h ds).toKeyOrd false fun b : V × D => PySem.W.keyToks b.2)).Perm (xs.zip ds) := List.mergeSort_perm _ _
  refine ⟨_, each_vals e, ?_, ?_⟩
  · have q := p.map Prod.fst
    rw [List.map_fst_zip (by omega)] at q
    exact q
  · have q0 : ((xs.zip ds).mergeSort fun p q : V × D => leD p.2 q.2).map Prod.snd = sortD ds := by
      rw [PySem.W.sort_maps (s := leD) Prod.snd (fun _ _ _ _ => rfl), List.map_snd_zip (by omega)]; rfl
    have q : sortD ds = ((xs.zip ds).mergeSort (PySem.W.sortLe (PySem.W.dataKind h ds).toKeyOrd false fun b : V × D => PySem.W.keyToks b.2)).map Prod.snd := q0.symm
    rw [q]
    exact dpa_unzip fun b hb => dpa_zip hd b (p.mem_iff.mp hb)
def rSortD (K : PySem.W.Frag) : List V → Hp → VK → Prop := fun vs H Q => ∃ (a : Addr) (xs : List V) (ds : List D), vs = [.ref a] ∧ SqL K H a xs ∧ DpAll K H xs ds ∧ PySem.W.AllAlike ds ∧ PySem.W.Sortable ds ∧ (∀ d ∈ ds, d.depth ≤ 8) ∧
  ∀ ys p, ys.Perm xs → DpAll K H ys (sortD ds) → H p = none → Q (.ref p) (upd H p (.lst ys))
theorem cr_sortedD (hu : X.A.units + 64 < cLine) : CallR X (.builtin "sorted") (rSortD X.K) := by
  intro pins s σ H vs us Q I r h
  obtain ⟨a, xs, ds, rfl, hs, hd, al, so, dp, q⟩ := h
  obtain ⟨its, rv, hl, hz⟩ := I.list hs
  rw [Vals.ref1 r]
  have hz2 : its.length ≤ sizeLine := by rw [← rv.length]; exact hz
  have I1 : Inv X pins σ H { s with heap := PySem.W.sortingHeap (PySem.W.copyHeap s.heap its) (s.heap.objs.size + 1) its } := I.kept (t' := s.toks) fun b o e => PySem.W.sorting_copy_old e
  have hr := each_reads I1 rv hd
  have S : PySem.W.SortsAt X.prog X.w X.A.in1.in1 { s with heap := PySem.W.sortingHeap (PySem.W.copyHeap s.heap its) (s.heap.objs.size + 1) its } _ its := PySem.W.SortsAt.data hr al so fun d h => by
    have := dp d h
    have u2 : X.A.in1.in1.units ≤ X.A.units + 2 := by first | exact Nat.le_refl _ | (show X.A.units + 1 + 1 ≤ _; omega)
    omega
  obtain ⟨ys, hv, hp, hy⟩ := srt_vals al rv hd hr
  refine PySem.W.sorted_vals hl.isList S hz2 ?_
  obtain ⟨ep, he'⟩ := PyProof.Rows.sortedAll_at s.heap its (PySem.W.sortVals (PySem.W.dataKind _ ds) false its its).toArray
  have hlen : ys.length ≤ sizeLine := by rw [hp.length_eq]; exact hz
  exact ⟨.ref _, upd H (s.heap.objs.size + 1) (.lst ys), I.laid (t' := s.toks) (fun _ _ => PyProof.Rows.sortedAll_old) (Nat.le_succ _) ⟨hlen, _, ep, hv, he'⟩, rfl, q ys _ hp hy (I.hok.fresh (Nat.le_succ _))⟩
theorem cr_sortedDK (K : PySem.W.Frag) (h : X.K = K) (hu : X.A.units + 64 < cLine) : CallR X (.builtin "sorted") (rSortD K) := h ▸ cr_sortedD hu
end
/-- sorted(xs) -/
theorem en_sortD {K : PySem.W.Frag} {σ : L2.St} {H : Hp} {te : TE} {ds : List D} (h : EvP K te σ H ds) (al : PySem.W.AllAlike ds) (so : PySem.W.Sortable ds) (dp : ∀ d ∈ ds, d.depth ≤ 8) : EvN K (tCB (rSortD K) (tCons te tNil)) σ H (sortD ds) := fun H1 e Q q =>
  h H1 e _ fun p us H2 e2 h2 a2 => ⟨p, us, ds, rfl, sq_of h2, a2, al, so, dp, fun ys p2 hp hy hn => q p2 ys _ (fresh_back e2 hn) (e2.trans (Ex.new hn)) upd_same (Dpax hy (Ex.new hn))⟩
end Ow

/-! T2: dicts with tuple keys: sorted(d), d.update(pairs), d != {}, {k: v}. -/
namespace Ow
open PySem PySem.Spec PyProof.Rows L2 Evl
def kD : L2.Key → D
  | .inl i => .int i
  | .inr s => .str s
abbrev keyD (k : List L2.Key) : D := .tuple (k.map kD)
theorem dpa_kD {K : PySem.W.Frag} {H : Hp} : ∀ k : List L2.Key, DpAll K H (k.map kV) (k.map kD)
  | [] => .nil
  | .inl i :: k => .cons (.int i) (dpa_kD k)
  | .inr s :: k => .cons (.str s) (dpa_kD k)
theorem dp_key {K : PySem.W.Frag} {H : Hp} {b : Addr} {k : List L2.Key} (h : H b = some (.tup (k.map kV))) : Dp K H (.ref b) (keyD k) := dp_tup h (dpa_kD k)
theorem keys_dpa {K : PySem.W.Frag} {H : Hp} : ∀ {kvs : List (List L2.Key × V)} {ks : List (List L2.Key × Addr × Value)}, KT H kvs ks → DpAll K H ((ks.map fun x => x.2.1).map V.ref) (kvs.map fun p => keyD p.1)
  | _, _, .nil => .nil
  | _, _, .cons h t => .cons (dp_key h.2.1) (keys_dpa t)
section
variable {X : Cx}
/-- sorted(d), the keys tuples -/
def rSortDT (K : PySem.W.Frag) : List V → Hp → VK → Prop := fun vs H Q => ∃ (a : Addr) (kvs : List (List L2.Key × V)), vs = [.ref a] ∧ H a = some (.dT kvs) ∧ PySem.W.AllAlike (kvs.map fun p => keyD p.1) ∧ PySem.W.Sortable (kvs.map fun p => keyD p.1) ∧
  ∀ ys p, DpAll K H ys (sortD (kvs.map fun p => keyD p.1)) → H p = none → Q (.ref p) (upd H p (.lst ys))
theorem depth_key (k : List L2.Key) : (keyD k).depth ≤ 2 := by
  have h : ∀ k : List L2.Key, PyData.depthAll (k.map kD) ≤ 1 := fun k => by
    induction k with
    | nil => show PyData.depthAll [] ≤ 1; rw [PyData.depthAll]; omega
    | cons x k ih =>
      show PyData.depthAll (kD x :: k.map kD) ≤ 1
      rw [PyData.depthAll]
      have : (kD x).depth ≤ 1 := by cases x <;> (show PyData.depth _ ≤ 1; simp only [kD]; rw [PyData.depth]; omega)
      omega
  show PyData.depth (.tuple (k.map kD)) ≤ 2
  rw [PyData.depth]
  have := h k
  omega
theorem cr_sortedDT (hcalm : X.calm = true) (hu : X.A.units + 64 < cLine) : CallR X (.builtin "sorted") (rSortDT X.K) := by
  intro pins s σ H vs us Q I r h
  obtain ⟨a, kvs, rfl, hd, al, so, q⟩ := h
  rw [Vals.ref1 r]
  obtain ⟨z, hs, ks, pr, o, es, ep, ho, hx, hdt, he, hn⟩ := (show ObjOk X.prog X.w H s.heap a (.dT kvs) from I.hok a _ hd)
  have l1 : es.size = ks.length := size_of_entries he
  have l2 : kvs.length = ks.length := Paired.length pr
  refine Calls.call_function_entry PyProof.Rows.kind_sorted PyProof.Rows.plain_sorted PyProof.Rows.entry_sorted (PyProof.Rows.args_sorted1 _) ?_
  unfold Builtin.«sorted»
  refine wpAny_bind (m := checkCount "sorted" 1 1 _) (wpAny_pure ?_)
  refine wpAny_bind (PySem.W.kdu_collect (A := X.A.in1) (kdl_raw hs hx hdt) (I.ok.hd hcalm) ho (by omega) fun h' tk acc hk it => ?_)
  have ea : acc.toList = ks.map fun x => Value.ref x.2.1 := by
    have hl : acc.toList.length = ks.length := by rw [Array.length_toList, it.1]; exact l1
    apply List.ext_getElem?
    intro j
    rw [List.getElem?_map]
    cases hj : acc.toList[j]? with
    | none =>
      have h1 := List.getElem?_eq_none_iff.mp hj
      rw [List.getElem?_eq_none (by omega)]
      all_goals rfl
    | some v =>
      obtain ⟨en, hen, hv⟩ := it.2 j v (by rw [← Array.getElem?_toList]; exact hj)
      have qe := entry_at he j
      rw [hen] at qe
      cases hb : ks[j]? with
      | none =>
        rw [hb] at qe
        exact nomatch (show some en = none from qe)
      | some b =>
        rw [hb] at qe
        have e2 : en = entryOfKey (tupleKind (mixKind X.prog X.w)) b := Option.some.inj qe
        rw [hv, e2]
        all_goals rfl
  have eb : acc.toList = (ks.map fun x => x.2.1).map Value.ref := by rw [ea, List.map_map]; all_goals rfl
  have rv : Vals ((ks.map fun x => x.2.1).map V.ref) acc.toList := by rw [eb]; exact vals_refs _
  have hda : DpAll X.K H ((ks.map fun x => x.2.1).map V.ref) (kvs.map fun p => keyD p.1) := keys_dpa pr
  have hzl : acc.toList.length ≤ sizeLine := by rw [eb, List.length_map, List.length_map, ← l2]; exact z
  have I1 : Inv X pins σ H { s with heap := h', toks := tk } := I.kept hk
  refine wpAny_bind (wpAny_newList ?_ hzl)
  have hoL : (h'.push (seqObj "list" acc.toList.toArray 0)).get? h'.objs.size = some (seqObj "list" acc.toList.toArray 0) := Heap.get?_push_size _ rfl
  show wpAny _ _ _ _ _ { s with heap := h'.push (seqObj "list" acc.toList.toArray 0), toks := tk }
  have I2 : Inv X pins σ H { s with heap := PySem.W.sortingHeap (h'.push (seqObj "list" acc.toList.toArray 0)) h'.objs.size acc.toList, toks := tk } := I.kept (t' := tk) fun b o e => by
    have e1 := hk b o e
    exact PySem.W.sortingHeap_old (Nat.ne_of_lt (Heap.lt_size e1)) (Heap.get?_push_of_some _ e1)
  have hr := each_reads I2 rv hda
  obtain ⟨ys, hv, hp, hy⟩ := srt_vals al rv hda hr
  refine wpAny_bind (wpAny_holding (wpAny_call_entry PyProof.Rows.slot_list_sort ⟨_, hoL, rfl⟩ PyProof.Rows.entry_list_sort
    (PySem.W.list_sort_vals (s := { s with heap := h'.push (seqObj "list" acc.toList.toArray 0), toks := tk }) hoL (PySem.W.SortsAt.data hr al so fun d hd9 => ?_) hzl ⟨_, rfl, ?_⟩)
    (PyProof.Rows.args_list_sort _)))
  · obtain ⟨p, _, rfl⟩ := List.mem_map.mp hd9
    have := depth_key p.1
    have u2 : X.A.in1.in1.units ≤ X.A.units + 2 := by first | exact Nat.le_refl _ | (show X.A.units + 1 + 1 ≤ _; omega)
    omega
  obtain ⟨e', he'⟩ := PyProof.Rows.sortedHeap_at (vs := acc.toList) (out := (PySem.W.sortVals (PySem.W.dataKind (PySem.W.sortingHeap (h'.push (seqObj "list" acc.toList.toArray 0)) h'.objs.size acc.toList) (kvs.map fun p => keyD p.1)) false acc.toList acc.toList).toArray) hoL
  have hlen : ys.length ≤ sizeLine := by
    rw [hp.length_eq, List.length_map, List.length_map, ← l2]; exact z
  refine wpAny_pure ⟨_, rfl, .ref h'.objs.size, upd H h'.objs.size (.lst ys), I1.laid (t' := tk) (fun b u e => ?_) (Nat.le_refl _)
    (show ObjOk X.prog X.w _ _ _ (.lst ys) from ⟨hlen, _, e', hv, he'⟩), rfl, q ys _ hy (I1.hok.fresh (Nat.le_refl _))⟩
  have hb : b < h'.objs.size := Heap.lt_size e
  rw [PyProof.Rows.sortedHeap_old (Nat.ne_of_lt hb) (by rw [size_push']; exact Nat.lt_succ_of_lt hb)]
  exact Heap.get?_push_of_some _ e
/-! ### d.update([(k, v), ..]) -/
abbrev RV (Q : Value → Shared → Prop) (E : Value → Shared → Prop) : Result → Shared → Prop := fun r s' => match r with | .ok (.ret v) => Q v s' | .ok _ => False | .error e => E e s'
theorem call_entry_again {prog : Program} {w : World} {A : Around} {E : Value → Shared → Prop} {s : Shared} {T : String} {name : Str} {id : String} {b : Builtin} {self : Value} {rest : List Value} {Q : Value → Shared → Prop} (h : Slot T name id) (hT : s.TypeIs self T) (hb : entryFor table id = some b)
    (hc : wpAny (model prog w) A.in1 (b ⟨self :: rest, []⟩) (fun fin s' => match fin with | .done f => RV Q E (.ok f) s' | .again c' => c'.quiet = true ∧ codeAny (model prog w) A c' (RV Q E) s') E s) (ha : argsOk id ⟨self :: rest, []⟩) :
    wpAny (model prog w) A (call (.builtin id) (self :: rest)) Q E s := wpAny_call (codeAny_call_builtin h.plain hb (h.check _ _ _ _ _ _ _ _ hT ha (wpAny_mono hc (fun fin s' h' => h') fun _ _ h' => h')))
def rUpdT (K : PySem.W.Frag) : V → List V → Hp → VK → Prop := fun x xs H Q => ∃ (a l : Addr) (kvs : List (List L2.Key × V)) (ps : List Addr) (more : List (List L2.Key × V)), x = .ref a ∧ xs = [.ref l] ∧ H a = some (.dT kvs) ∧ SqL K H l (ps.map V.ref) ∧
  Paired (fun p kv => ∃ b, SqT K H p [.ref b, kv.2] ∧ H b = some (.tup (kv.1.map kV))) ps more ∧ kvs.length + more.length ≤ sizeLine ∧ Q .non (upd H a (.dT (mergeT kvs more)))
theorem mt_updT (hcalm : X.calm = true) (hu : X.A.units + 64 < cLine) : MtR X "dict.update" (rUpdT X.K) := by
  intro pins s σ H x xs v us Q I rx rxs h
  obtain ⟨a, l, kvs, ps, more, rfl, rfl, ha, hq, hp, hz, q⟩ := h
  cases rx
  obtain ⟨u, rfl, ru⟩ := rxs.one
  cases ru
  obtain ⟨its, rv, pl, hzl⟩ := I.list hq
  have ei := refs_at rv
  subst ei
  obtain ⟨prs, rel, hl, hpr, hkk⟩ := pairsT_of I hp
  have hmore : more.length = prs.length := Paired.length rel
  obtain ⟨z, hsm, xs', rel0, dd⟩ := dt_of I.hok ha
  obtain ⟨od, es, ep, hod, hxd, hdat, hes, his, hnod⟩ := id dd
  have hty : s.TypeIs (.ref a) "dict" := dd.typeIs
  obtain ⟨ol, n, hol, hcl, hdl, hdatl⟩ := id pl
  have hal : a ≠ l := fun e => by
    subst e
    have e1 : od = ol := Option.some.inj (hod.symm.trans hol)
    rw [← e1, hxd.1] at hcl
    exact absurd (Value.type.inj hcl) (by decide)
  have hkeys : ∀ (k : List L2.Key) (b : Addr), (tupleKind (mixKind X.prog X.w)).is s.heap k b → a ≠ b := fun k b hk e => by
    subst e
    obtain ⟨o', its', n', g1, g2, g3, g4⟩ := hk
    have e1 : od = o' := Option.some.inj (hod.symm.trans g1)
    rw [← e1, hxd.1] at g2
    exact absurd (Value.type.inj g2) (by decide)
  have hh : X.A.handled = none := I.ok.hd hcalm
  have l0 : kvs.length = xs'.length := Paired.length rel0
  refine call_entry_again PySem.F.slot_dict_update hty PySem.F.entry_dict_update ?_ (PySem.F.args_dict_update_2 _ _)
  unfold Builtin.«dict.update»
  refine wpAny_bind ?_
  unfold Builtin.Dict.selfAndRest
  refine wpAny_bind (wpAny_notOrdered_dict hty ?_)
  show wpAny _ _ (pure (a, [Value.ref l])) _ _ s
  refine wpAny_pure ?_
  show wpAny _ _ (Builtin.Dict.updateFrom "dict.update" a (.ref l) [] .none) _ _ s
  unfold Builtin.Dict.updateFrom
  refine wpAny_bind (wpAny_typeOf (T := "list") ⟨ol, hol, hcl⟩ ?_)
  rw [if_pos (by first | decide | rfl | simp)]
  refine wpAny_bind (miss_list hol hcl hdatl hdl hh fun h1 tk1 hk1 => ?_)
  rw [if_pos (show (none : Option Value).isNone = true from rfl)]
  refine wpAny_bind (wpAny_rule ?_)
  have hl1 : h1.IsList l _ := ⟨ol, hk1 _ _ hol, hcl, n, hdatl⟩
  refine wpAny_bind (wpAny_pyIter_list hl1 ?_)
  have k2 : ∀ b o, h1.get? b = some o → (h1.push { cls := .type "list_iterator", data := .fields #[.ref l, .int 0 0] }).get? b = some o := fun b o e => Heap.get?_push_of_some _ e
  have hlt1 : ∀ b o, s.heap.get? b = some o → b < h1.objs.size := fun b o e => Heap.lt_size (hk1 b o e)
  have key := upd_loopT (prog := X.prog) (w := X.w) (A := X.A) (R := RV (EP X pins σ Q) X.xe) (S := a) (I := h1.objs.size) (l := l) (items := (ps.map Value.ref).toArray) (res := Value.none) hh
    (Nat.ne_of_lt (hlt1 _ _ hol)) (Nat.ne_of_lt (hlt1 _ _ hod)) hal (by omega) prs 0 xs' 0 0
    { s with heap := h1.push { cls := .type "list_iterator", data := .fields #[.ref l, .int 0 0] }, toks := tk1 } (by simp [hl]) (by omega)
    (fun j q e => by
      obtain ⟨b, e1, e2⟩ := hpr j q e
      obtain ⟨ob, hob, hcb, rb⟩ := id e2
      refine ⟨b, by rw [Nat.zero_add]; simp [e1], fun z => ?_, Nat.ne_of_lt (hlt1 _ _ hob), e2.keeps fun c o z => k2 _ _ (hk1 _ _ z)⟩
      rw [z] at hob
      have e3 : od = ob := Option.some.inj (hod.symm.trans hob)
      rw [← e3, hxd.1] at hcb
      exact absurd (Value.type.inj hcb) (by decide))
    (fun q hq => by
      have kq := hkk q hq
      obtain ⟨o', its', n', g1, g2, g3, g4⟩ := id kq
      exact ⟨fun z => hkeys _ _ kq z.symm, Nat.ne_of_lt (hlt1 _ _ g1), o', its', n', k2 _ _ (hk1 _ _ g1), g2, g3, g4⟩)
    (fun x hx => by
      have kq := his x hx
      obtain ⟨o', its', n', g1, g2, g3, g4⟩ := id kq
      exact ⟨fun z => hkeys _ _ kq z.symm, Nat.ne_of_lt (hlt1 _ _ g1)⟩)
    ⟨_, Heap.get?_push_size _ rfl, rfl, rfl⟩ (hl1.at fun o e => k2 _ _ e) (dictH_keep dd (fun o e => k2 _ _ (hk1 _ _ e)) fun x hx o e => k2 _ _ (hk1 _ _ e))
    (fun h' tk hd' k => by
      obtain ⟨o', es', ep', g1, g2, g3, g4, g5, g6⟩ := id hd'
      have hlen : (mergeT kvs more).length ≤ sizeLine := Nat.le_trans (mergeT_le more kvs) hz
      have I2 : Inv X pins σ (upd H a (.dT (mergeT kvs more))) { s with heap := h', toks := tk } :=
        I.write (x := a) (e := a) (by rw [ha]; exact True.intro) (.inl rfl) (fun b u hb e => k b u hb (Nat.ne_of_lt (hlt1 _ _ e)) (k2 _ _ (hk1 _ _ e))) ⟨_, g1⟩
          (show ObjOk X.prog X.w _ _ _ (.dT (mergeT kvs more)) from ⟨hlen, hsm, mergedH xs' prs, (KT.merge rel rel0).keeps (fun c ys ec => (by rw [upd_ne (ne_of ec ha (fun z => nomatch z))]; exact ec)), o', es', ep', g1, g2, g3, g4, g6⟩)
      exact ⟨.non, _, I2, rfl, q⟩)
  first
    | exact wpAny_pure ⟨plainId_quiet ud_plain _, key⟩
    | exact wpAny_bind (wpAny_pure (wpAny_pure ⟨plainId_quiet ud_plain _, key⟩))
theorem mt_updTK (K : PySem.W.Frag) (h : X.K = K) (hcalm : X.calm = true) (hu : X.A.units + 64 < cLine) : MtR X "dict.update" (rUpdT K) := h ▸ mt_updT hcalm hu
theorem cr_sortedDTK (K : PySem.W.Frag) (h : X.K = K) (hcalm : X.calm = true) (hu : X.A.units + 64 < cLine) : CallR X (.builtin "sorted") (rSortDT K) := h ▸ cr_sortedDT hcalm hu
/-! ### d != {} -/
theorem same_nil {prog : Program} {w : World} {A : Around} {E : Value → Shared → Prop} {s : Shared} {nm : String} {a b : Addr} {es : Array DictEntry} {ep ep' : Nat} {Q : Bool → Shared → Prop} (ha : (a == sysModules) = false) (hb : (b == sysModules) = false)
    (da : DT.Raw s.heap a es ep) (db : DT.Raw s.heap b #[] ep') (h : Q (decide (es.size = 0)) s) : wpAny (model prog w) A (Builtin.Dict.samePairs nm a b) Q E s := by
  obtain ⟨oa, hoa, _, hda⟩ := da
  obtain ⟨ob, hob, _, hdb⟩ := db
  unfold Builtin.Dict.samePairs Builtin.Dict.showsAll
  rw [if_neg (show ¬ (a == sysModules) = true by rw [ha]; exact Bool.false_ne_true), if_neg (show ¬ (b == sysModules) = true by rw [hb]; exact Bool.false_ne_true)]
  refine wpAny_bind (wpAny_pure (wpAny_bind (wpAny_pure ?_)))
  refine wpAny_bind (wpAny_dictEntries hoa hda ?_)
  dsimp only
  refine wpAny_bind (wpAny_dictEntries hob hdb ?_)
  by_cases hsz : es.size = 0
  case neg =>
    rw [if_pos (by simpa using hsz)]
    rw [decide_eq_false hsz] at h
    exact wpAny_bind (wpAny_rule (wpAny_pure h))
  case pos =>
    rw [decide_eq_true hsz] at h
    rw [if_neg (by rw [hsz]; simp)]
    refine wpAny_bind (wpAny_dictEpoch hoa hda ?_)
    refine wpAny_bind ?_
    rw [hsz]
    rw [Std.Legacy.Range.forIn_eq_forIn_range']
    simp only [Std.Legacy.Range.size, Nat.sub_zero, Nat.add_sub_cancel, Nat.div_one, List.range'_zero, List.forIn_nil]
    exact wpAny_pure (wpAny_pure h)
def rNeT0 : R2 := fun x y H Q => ∃ a b kvs, x = .ref a ∧ y = .ref b ∧ H a = some (.dT kvs) ∧ H b = some (.dT []) ∧ Q (.bl (decide (kvs ≠ []))) H
theorem op_neT0 (hu : X.A.units < cLine) : OpR X (compareOp .NotEq) rNeT0 := by
  intro pins s σ H x y v u Q I rx ry h
  obtain ⟨a, b, kvs, rfl, rfl, ea, eb, q⟩ := h
  obtain rfl : v = Value.ref a := rx
  obtain rfl : u = Value.ref b := ry
  obtain ⟨_, ya, va, ra, da⟩ := dt_of I.hok ea
  obtain ⟨_, yb, vb, rb, db⟩ := dt_of I.hok eb
  cases rb
  obtain ⟨oa, es, ep, hoa, hxa, hda, hea, _⟩ := id da
  obtain ⟨ob, es', ep', hob, hxb, hdb, heb, _⟩ := id db
  have l1 : es.size = va.length := size_of_entries hea
  have l2 : kvs.length = va.length := Paired.length ra
  have e0 : es' = #[] := by
    have := size_of_entries heb
    exact Array.size_eq_zero_iff.mp this
  subst e0
  refine wpAny_richCompare_same_room (op := .NotEq) da.typeIs db.typeIs PySem.F.slot_dict_ne (wpAny_call_entry PySem.F.slot_dict_ne da.typeIs PySem.F.entry_dict_ne ?_ (PySem.F.args_dict_ne_2 _ _)) hu
  show wpAny _ _ (Builtin.Dict.dictSlotArgs "__ne__" ⟨[.ref a, .ref b], []⟩ >>= _) _ _ s
  refine wpAny_bind ?_
  unfold Builtin.Dict.dictSlotArgs
  refine wpAny_bind (wpAny_notOrdered_dict da.typeIs ?_)
  show wpAny _ _ (pure (Value.ref a, Value.ref b)) _ _ s
  refine wpAny_pure ?_
  refine wpAny_bind (wpAny_isInstance (T := "dict") db.typeIs PySem.F.sub_dict_dict ?_)
  simp only [Bool.not_true, Bool.false_eq_true, if_false]
  refine wpAny_bind (wpAny_pure (wpAny_bind (wpAny_pure ?_)))
  refine wpAny_bind (same_nil ya yb ⟨oa, hoa, hxa, hda⟩ ⟨ob, hob, hxb, hdb⟩ ?_)
  refine wpAny_pure ⟨_, rfl, ?_, ?_⟩
  · exact fun x => nomatch x
  · have e : (decide (es.size = 0) == false) = decide (kvs ≠ []) := by
      rw [l1, ← l2]
      cases kvs with
      | nil => rfl
      | cons p r => simp
    rw [e]
    exact ⟨.bl (decide (kvs ≠ [])), H, I, rfl, q⟩
end
end Ow

/-! T3: sorted(t) of a tuple; {k: v} with a tuple as key; lists of tuples that are told; the keys of a dict with tuple keys. -/
namespace Ow
open PySem PySem.Spec PyProof.Rows L2 Evl
section
variable {prog : Program} {w : World} {A : Around} {E : Value → Shared → Prop} {s : Shared} {κ : PyProof.Rows.KeyKind}
theorem collect_tup {l : Addr} {vs : List Value} {Q : List Value → Shared → Prop} (hl : s.heap.IsTuple l vs.toArray)
    (h : Q vs { s with heap := (s.heap.push (seqObj "list" #[] 0)).update s.heap.objs.size (Obj.mapSeq (· ++ vs.toArray)) }) (hsz : vs.length ≤ sizeLine) :
    wpAny (model prog w) A (collect (.ref l)) Q E s := by
  obtain ⟨o, ho, hc, n, hd⟩ := id hl
  unfold collect
  refine wpAny_bind (wpAny_runValue (codeAny_builtin entry_proto_collect' ?_))
  show wpAny _ _ (do again (.builtin "list.__iadd__" ⟨[← newList [], .ref l], []⟩)) _ _ s
  refine wpAny_bind (wpAny_newList (wpAny_pure ⟨Code.quiet_builtin _ (by decide +kernel), codeAny_builtin entry_list_iadd' ?_⟩))
  show wpAny _ _ (Builtin.List.listExtendWith (.ref s.heap.objs.size) (.ref l) (.ref s.heap.objs.size)) _ _ { s with heap := s.heap.push (seqObj "list" #[] 0) }
  unfold Builtin.List.listExtendWith
  have ho' : (s.heap.push (seqObj "list" #[] 0)).get? l = some o := Heap.get?_push_of_some _ ho
  refine wpAny_bind (wpAny_typeOf (T := "tuple") ⟨o, ho', hc⟩ ?_)
  have ht : (Value.type "tuple" == Value.type "tuple") = true := by rfl
  rw [if_pos (by rw [ht]; simp)]
  refine wpAny_bind (listItems_at ho' hd ?_)
  refine wpAny_bind (listItems_at (xs := #[]) (n := 0) (Heap.get?_push_size _ rfl) rfl ?_)
  rw [if_neg (by simp)]
  refine wpAny_bind (listUpdate_at (xs := #[]) (n := 0) (Heap.get?_push_size _ rfl) rfl ?_ (Nat.zero_le _) (by show (#[] ++ vs.toArray).size ≤ sizeLine + 1; simp only [Array.size_append, List.size_toArray, List.length_nil]; omega))
  refine wpAny_pure ?_
  show wpAny (model prog w) A (do
      let o ← load s.heap.objs.size
      match o.data with
      | .seq xs _ => pure xs.toList
      | _ => unsupported "internal:collect") Q E { s with heap := (s.heap.push (seqObj "list" #[] 0)).update s.heap.objs.size (Obj.mapSeq (· ++ vs.toArray)) }
  refine wpAny_bind (wpAny_load (get?_update_seq (Heap.get?_push_size _ rfl) _) ?_)
  show wpAny _ _ (pure ((#[] : Array Value) ++ vs.toArray).toList) Q E _
  rw [show ((#[] : Array Value) ++ vs.toArray).toList = vs by simp]
  exact wpAny_pure h
theorem sorted_valsT {l : Addr} {vs : List Value} {Q : Value → Shared → Prop} (hl : s.heap.IsTuple l vs.toArray) (S : PySem.W.SortsAt prog w A.in1.in1 { s with heap := PySem.W.sortingHeap (PySem.W.copyHeap s.heap vs) (s.heap.objs.size + 1) vs } κ vs) (hL : vs.length ≤ sizeLine)
    (h : Q (.ref (s.heap.objs.size + 1)) { s with heap := sortedAll s.heap vs (PySem.W.sortVals κ false vs vs).toArray }) : wpAny (model prog w) A (call (.builtin "sorted") [.ref l]) Q E s := by
  refine Calls.call_function_entry kind_sorted plain_sorted entry_sorted (args_sorted1 _) ?_
  unfold Builtin.«sorted»
  refine wpAny_bind (m := checkCount "sorted" 1 1 _) (wpAny_pure ?_)
  refine wpAny_bind (collect_tup hl ?_ hL)
  refine wpAny_bind (wpAny_newList ?_ hL)
  have hsz : ((s.heap.push (seqObj "list" #[] 0)).update s.heap.objs.size (Obj.mapSeq (· ++ vs.toArray))).objs.size = s.heap.objs.size + 1 := by
    rw [Heap.size_update, size_push']
  show wpAny _ _ _ _ _ { s with heap := PySem.W.copyHeap s.heap vs }
  rw [hsz]
  refine wpAny_bind (wpAny_holding (wpAny_call_entry slot_list_sort ⟨_, PySem.W.copyHeap_at s.heap vs, rfl⟩ entry_list_sort (PySem.W.list_sort_vals (s := { s with heap := PySem.W.copyHeap s.heap vs }) (PySem.W.copyHeap_at s.heap vs) S hL ⟨_, rfl, ?_⟩) (args_list_sort _)))
  exact wpAny_pure ⟨_, rfl, h⟩
end
section
variable {X : Cx}
def rSortDTup (K : PySem.W.Frag) : List V → Hp → VK → Prop := fun vs H Q => ∃ (a : Addr) (xs : List V) (ds : List D), vs = [.ref a] ∧ SqT K H a xs ∧ DpAll K H xs ds ∧ PySem.W.AllAlike ds ∧ PySem.W.Sortable ds ∧ (∀ d ∈ ds, d.depth ≤ 8) ∧
  ∀ ys p, ys.Perm xs → DpAll K H ys (sortD ds) → H p = none → Q (.ref p) (upd H p (.lst ys))
theorem cr_sortedDTup (hu : X.A.units + 64 < cLine) : CallR X (.builtin "sorted") (rSortDTup X.K) := by
  intro pins s σ H vs us Q I r h
  obtain ⟨a, xs, ds, rfl, hs, hd, al, so, dp, q⟩ := h
  obtain ⟨its, rv, ht, hz⟩ := I.tuple hs
  rw [Vals.ref1 r]
  have hz2 : its.length ≤ sizeLine := by rw [← rv.length]; exact hz
  have I1 : Inv X pins σ H { s with heap := PySem.W.sortingHeap (PySem.W.copyHeap s.heap its) (s.heap.objs.size + 1) its } := I.kept (t' := s.toks) fun b o e => PySem.W.sorting_copy_old e
  have hr := each_reads I1 rv hd
  have S : PySem.W.SortsAt X.prog X.w X.A.in1.in1 { s with heap := PySem.W.sortingHeap (PySem.W.copyHeap s.heap its) (s.heap.objs.size + 1) its } _ its := PySem.W.SortsAt.data hr al so fun d h => by
    have := dp d h
    have u2 : X.A.in1.in1.units ≤ X.A.units + 2 := by first | exact Nat.le_refl _ | (show X.A.units + 1 + 1 ≤ _; omega)
    omega
  obtain ⟨ys, hv, hp, hy⟩ := srt_vals al rv hd hr
  refine sorted_valsT (by first | exact ht | exact ht.isTuple) S hz2 ?_
  obtain ⟨ep, he'⟩ := PyProof.Rows.sortedAll_at s.heap its (PySem.W.sortVals (PySem.W.dataKind _ ds) false its its).toArray
  have hlen : ys.length ≤ sizeLine := by rw [hp.length_eq]; exact hz
  exact ⟨.ref _, upd H (s.heap.objs.size + 1) (.lst ys), I.laid (t' := s.toks) (fun _ _ => PyProof.Rows.sortedAll_old) (Nat.le_succ _) ⟨hlen, _, ep, hv, he'⟩, rfl, q ys _ hp hy (I.hok.fresh (Nat.le_succ _))⟩
theorem cr_sortedDTupK (K : PySem.W.Frag) (h : X.K = K) (hu : X.A.units + 64 < cLine) : CallR X (.builtin "sorted") (rSortDTup K) := h ▸ cr_sortedDTup hu
/-! ### {k: v, ..} with tuples as keys -/
def tDispT (trs : List (TE × TE)) : TE := fun σ H Q => ∀ p, H p = none → tPairs trs σ (upd H p (.dT [])) fun ps H2 => H2 p = some (.dT []) ∧ ∃ kvs : List (List L2.Key × V), Paired (fun (q : V × V) kv => ∃ b, q.1 = .ref b ∧ H2 b = some (.tup (kv.1.map kV)) ∧ q.2 = kv.2) ps kvs ∧ kvs.length ≤ 15 ∧ Q (.ref p) (upd H2 p (.dT (mergeT [] kvs)))
theorem carriesT {pins : List (Addr × Obj)} {σ : L2.St} {H : Hp} {s : Shared} (I : Inv X pins σ H s) : ∀ {ps : List (V × V)} {kvs : List (List L2.Key × V)} {ws : List (Value × Value)}, VV ps ws → Paired (fun (q : V × V) kv => ∃ b, q.1 = .ref b ∧ H b = some (.tup (kv.1.map kV)) ∧ q.2 = kv.2) ps kvs →
    ∃ rs : List TQ, CarriesH (tupleKind (mixKind X.prog X.w)) s.heap ws rs ∧ KT H kvs rs
  | _, _, _, .nil, .nil => ⟨[], trivial, .nil⟩
  | _, _, _, .cons (b := u) h t, .cons (b := kv) g r => by
    obtain ⟨rs, c, rel⟩ := carriesT I t r
    obtain ⟨b, e1, e2, e3⟩ := g
    obtain ⟨u1, u2⟩ := u
    obtain ⟨h1, h2⟩ := h
    rw [e1] at h1
    rw [e3] at h2
    have h1' : u1 = Value.ref b := h1
    exact ⟨(kv.1, b, u2) :: rs, ⟨h1', rfl, key_of I.hok e2, c⟩, .cons ⟨rfl, e2, h2⟩ rel⟩
theorem storedAll_merged : ∀ (rs acc : List TQ), storedAllH acc rs = mergedH acc rs
  | [], _ => rfl
  | (k, a, v) :: rs, acc => by
    show storedAllH (storedH acc k a v) rs = mergedH (storedH acc k a v) rs
    exact storedAll_merged rs _
theorem pe_dispT {pos : Pos} {keys : List (Option Expr)} {values : List Expr} {trs : List (TE × TE)} (hu : X.A.units + 64 < cLine) (h : PPs X pos keys values trs) (hall : keys.all (·.isSome) = true) (hl : keys.length = values.length) (h0 : keys ≠ [])
    (h15 : keys.length ≤ 15) : PE X (.Dict keys values pos) (tDispT trs) := by
  refine ⟨fun pins s σ H Q I q => ?_⟩
  have hn := I.hok.fresh (Nat.le_refl s.heap.objs.size)
  have I1 := I.laid (a := s.heap.objs.size) (o := .dT []) (h' := s.heap.push { cls := .type "dict", data := .dict #[] }) (t' := s.toks) (fun _ _ q => Heap.get?_push_of_some _ q) (Nat.le_refl _) (dt_empty s.heap I.big)
  have hpl := pairTrees_length keys values X.env pos hall hl
  have h0' : pairTrees keys values X.env pos ≠ [] := fun e => by
    rw [e] at hpl
    exact h0 (List.length_eq_zero_iff.mp hpl.symm)
  rw [arm_eval_Dict, zip_pairTrees keys values X.env pos hall hl, dictDisplay_pairs _ h0' (by omega)]
  refine wpAny_bind (wpAny_standAt (wpAny_bind (wpAny_subDictH (knd := tupleKind (mixKind X.prog X.w)) (Q := fun d s' => wpAny (model X.prog X.w) X.A (pure (Value.ref d)) (EP X pins σ Q) X.xe s') (by first | exact tupleKind_room (by omega) | exact tupleKind_room_in1 (by omega) | (show X.A.units < cLine; omega)) (by omega) (thn (h.run pins _ σ _ _ I1 (q _ hn)) fun ws s2 ⟨ps, H2, I2, rel, e, kvs, ep, lk, q2⟩ => ?_))))
  obtain ⟨rs, c, rk⟩ := carriesT I2 rel ep
  obtain ⟨z, hd, vs0, r0, dd⟩ := dt_of I2.hok e
  cases r0
  refine ⟨rs, c, dd, fun h' tk dd' hs => wpAny_pure ⟨.ref s.heap.objs.size, _, ?_, rfl, q2⟩⟩
  rw [storedAll_merged] at dd'
  have hz : (mergeT [] kvs).length ≤ sizeLine := by
    have h1 := mergeT_le kvs []
    rw [List.length_nil] at h1
    rw [sizeLine_eq]; omega
  obtain ⟨o', es', ep', g1, g2, g3, g4, _, g6⟩ := id dd'
  exact d_write I2 (by rw [e]; exact True.intro) hs ⟨o', g1⟩ (show ObjOk X.prog X.w _ _ _ (.dT (mergeT [] kvs)) from ⟨hz, hd, mergedH [] rs, (KT.merge rk .nil).keeps (fun b ys eb => by rw [upd_ne (ne_of eb e (fun z => nomatch z))]; exact eb), o', es', ep', g1, g2, g3, g4, g6⟩)
end
end Ow

/-! T4: the keys of a dict whose keys are tuples of texts; lists of told tuples. -/
namespace Ow
open PySem PySem.Spec PyProof.Rows L2 Evl
abbrev kS (k : List Str) : List L2.Key := k.map Sum.inr
theorem kS_inj {a b : List Str} (h : kS a = kS b) : a = b := (List.map_inj_right (fun x y w => Sum.inr.inj w)).mp h
theorem kS_kV (k : List Str) : (kS k).map kV = k.map V.str := by unfold kS; rw [List.map_map]; rfl
theorem kS_kD (k : List Str) : keyD (kS k) = .tuple (k.map PyData.str) := by unfold keyD kS; rw [List.map_map]; rfl
theorem kS_mem {k : List Str} {ks : List (List Str)} : kS k ∈ ks.map kS ↔ k ∈ ks := ⟨fun h => by
  obtain ⟨y, hy, e⟩ := List.mem_map.mp h
  rw [← kS_inj e]; exact hy, fun h => List.mem_map.mpr ⟨k, h, rfl⟩⟩
/-- the told tuples stay -/
def TS0 (H H' : Hp) : Prop := ∀ p xs, H p = some (.tup xs) → H' p = some (.tup xs)
theorem TS0.refl (H : Hp) : TS0 H H := fun _ _ h => h
theorem TS0.trans {H H1 H2 : Hp} (a : TS0 H H1) (b : TS0 H1 H2) : TS0 H H2 := fun p xs h => b p xs (a p xs h)
theorem ts0_of {H H' : Hp} (e : Ex H H') : TS0 H H' := fun p xs h => e p _ h
theorem ts0_upd {H : Hp} {a : Addr} {o u : HO} (h : H a = some o) (hn : ∀ xs, o ≠ .tup xs) : TS0 H (upd H a u) := fun p xs g => by
  rw [upd_ne (fun z => by rw [z, h] at g; exact hn xs (Option.some.inj g))]; exact g
theorem ts0_B {S : List Addr} {H H' : Hp} (e : ExB S H H') (h : ∀ p ∈ S, ∀ xs, H p ≠ some (.tup xs)) : TS0 H H' := fun p xs g => e p _ (fun z => h p z xs g) g
def Stb0 {α : Type} (R : Hp → V → α → Prop) : Prop := ∀ H H' v a, TS0 H H' → R H v a → R H' v a
def TupS (H : Hp) (v : V) (k : List Str) : Prop := ∃ b, v = .ref b ∧ H b = some (.tup (k.map V.str))
theorem tupS_stb : Stb0 TupS := fun H H' v a t h => by
  obtain ⟨b, e, hb⟩ := h
  exact ⟨b, e, t _ _ hb⟩
def PrS (H : Hp) (v : V) (k : List Str) : Prop := ∃ p b, v = .ref p ∧ H p = some (.tup [.ref b, .bl true]) ∧ H b = some (.tup (k.map V.str))
theorem prS_stb : Stb0 PrS := fun H H' v a t h => by
  obtain ⟨p, b, e, hp, hb⟩ := h
  exact ⟨p, b, e, t _ _ hp, t _ _ hb⟩
theorem paired_mono {α β : Type} {R R' : α → β → Prop} (h : ∀ a b, R a b → R' a b) : ∀ {l : List α} {m : List β}, Paired R l m → Paired R' l m
  | _, _, .nil => .nil
  | _, _, .cons x t => .cons (h _ _ x) (paired_mono h t)
theorem pairedApp {α β : Type} {R : α → β → Prop} : ∀ {l l2 : List α} {m m2 : List β}, Paired R l m → Paired R l2 m2 → Paired R (l ++ l2) (m ++ m2)
  | _, _, _, _, .nil, h => h
  | _, _, _, _, .cons x t, h => .cons x (pairedApp t h)
theorem paired_at {α β : Type} {R : α → β → Prop} : ∀ {l : List α} {m : List β} {i : Nat} {a : α}, Paired R l m → l[i]? = some a → ∃ b, m[i]? = some b ∧ R a b
  | _, _, _, _, .nil, e => by simp at e
  | _, _, 0, _, .cons x t, e => by cases e; exact ⟨_, rfl, x⟩
  | _, _, i + 1, _, .cons x t, e => by
    obtain ⟨b, h1, h2⟩ := paired_at (i := i) t (by simpa using e)
    exact ⟨b, by simpa using h1, h2⟩
theorem tupS_dp {K : PySem.W.Frag} {H : Hp} : ∀ {us : List V} {ks : List (List Str)}, Paired (TupS H) us ks → DpAll K H us (ks.map fun k => .tuple (k.map PyData.str))
  | _, _, .nil => .nil
  | _, _, .cons h t => by
    obtain ⟨b, rfl, hb⟩ := h
    exact .cons (dp_tup hb (dpa_strs _)) (tupS_dp t)
section
variable {α β : Type} {K : PySem.W.Frag} {σ : L2.St} {H H' : Hp} {te tl : TE} {t : TT} {vs : List Nat} {j : Nat}
/-- an expression that gives something told -/
def EvO (R : Hp → V → β → Prop) (te : TE) (σ : L2.St) (H : Hp) (b : β) : Prop := ∀ H1, Ex H H1 → ∀ Q : VK, (∀ v H2, Ex H1 H2 → R H2 v b → Q v H2) → te σ H1 Q
/-- .. a new list of such -/
def EvR (R : Hp → V → β → Prop) (te : TE) (σ : L2.St) (H : Hp) (bs : List β) : Prop := ∀ H1, Ex H H1 → ∀ Q : VK, (∀ p us H2, H1 p = none → Ex H1 H2 → H2 p = some (.lst us) → Paired (R H2) us bs → Q (.ref p) H2) → te σ H1 Q
def CwR (R : Hp → V → β → Prop) (H : Hp) (bs : List β) (Dl : Addr) (H' : Hp) : Prop := H Dl = none ∧ Ex H H' ∧ ∃ vs, H' Dl = some (.lst vs) ∧ Paired (R H') vs bs
theorem cwr_turn {R : Hp → V → β → Prop} (st : Stb0 R) {Dl : Addr} {bs : List β} {σ2 : L2.St} {c : Bool} {b : β} (p : CwR R H bs Dl H') (hi : bs.length < 50000) (ht : EvT t σ2 H c) (he : c = true → EvO R te σ2 H b) :
    t σ2 H' fun b1 H3 => if b1 = true then te σ2 H3 fun y H4 => ∃ acc, H4 Dl = some (.lst acc) ∧ acc.length < sizeLine ∧ CwR R H (if c then bs ++ [b] else bs) Dl (upd H4 Dl (.lst (acc ++ [y]))) else CwR R H (if c then bs ++ [b] else bs) Dl H3 := by
  obtain ⟨p1, p2, vs, p3, p4⟩ := p
  refine ht H' p2 _ fun H3 e3 => ?_
  cases c with
  | true =>
    refine iteT (he rfl H3 (p2.trans e3) _ fun y H4 e4 hy => ⟨vs, e4 _ _ (e3 _ _ p3), ?_, p1, Ex.mut ((p2.trans e3).trans e4) p1, vs ++ [y], upd_same, ?_⟩)
    · rw [Paired.length p4]; exact sz_lt (by omega)
    · have x : TS0 H4 (upd H4 Dl (.lst (vs ++ [y]))) := ts0_upd (e4 _ _ (e3 _ _ p3)) (fun xs z => nomatch z)
      have x0 : TS0 H' (upd H4 Dl (.lst (vs ++ [y]))) := (ts0_of (e3.trans e4)).trans x
      exact pairedApp (paired_mono (fun a b h => st _ _ _ _ x0 h) p4) (.cons (st _ _ _ _ x hy) .nil)
  | false => exact iteF ⟨p1, p2.trans e3, vs, e3 _ _ p3, paired_mono (fun a b h => st _ _ _ _ (ts0_of e3) h) p4⟩
theorem take_filt {p : α → Bool} {F : α → β} {as : List α} {i : Nat} {a : α} (h : as[i]? = some a) : ((as.take (i + 1)).filter p).map F = if p a then ((as.take i).filter p).map F ++ [F a] else ((as.take i).filter p).map F := by
  rw [List.take_add_one, h, List.filter_append, List.map_append]
  show _ ++ ((List.filter p [a]).map F) = _
  rw [List.filter_cons, List.filter_nil]
  split <;> simp
/-- [F a for a in a list that is told, if p a] -/
theorem er_filtL {R : Hp → V → α → Prop} {R' : Hp → V → β → Prop} (sR : Stb0 R) (st : Stb0 R') (p : α → Bool) (F : α → β) {l : Addr} {us : List V} {as : List α} (hl : Ev tl σ H (.ref l)) (hu : H l = some (.lst us)) (ha : Paired (R H) us as) (hz : as.length ≤ 40000)
    (hw : ∀ x, wipe ((wipe σ vs).set j (some x)) vs = wipe σ vs)
    (ht : ∀ (x : V) (a : α) H1, Ex H H1 → a ∈ as → R H1 x a → EvT t ((wipe σ vs).set j (some x)) H1 (p a))
    (he : ∀ (x : V) (a : α) H1, Ex H H1 → a ∈ as → R H1 x a → p a = true → EvO R' te ((wipe σ vs).set j (some x)) H1 (F a)) : EvR R' (tLc (iList K tl) (gName j) t te vs) σ H ((as.filter p).map F) := fun H0 e Q q =>
  hl H0 e _ fun H1 e1 => by
    have e01 := e.trans e1
    have hu1 := e01 _ _ hu
    have lu : us.length = as.length := Paired.length ha
    refine ⟨l, rfl, ⟨us, sq_of hu1⟩, fun Dl hD => lc_list (xs := us) (fun i H' => CwR R' H1 (((as.take i).filter p).map F) Dl H') ⟨hD, Ex.new hD, [], upd_same, .nil⟩ (fun i H' _ c => sq_of (c.2.1 _ _ hu1)) (fun i x H' hi c => ?_) (fun H' c => ?_)⟩
    · obtain ⟨a, ga, ra⟩ := paired_at ha hi
      have ra1 := sR _ _ _ _ (ts0_of e01) ra
      have ma := List.mem_of_getElem? ga
      have hlt := (List.getElem?_eq_some_iff.mp ga).1
      have hb : (((as.take i).filter p).map F).length < 50000 := by
        rw [List.length_map]
        have h1 := List.length_filter_le p (as.take i)
        have h2 := List.length_take_le i as
        omega
      have key := cwr_turn (t := t) (te := te) (σ2 := (wipe σ vs).set j (some x)) (c := p a) (b := F a) st c hb (ht x a H1 e01 ma ra1) (fun z => he x a H1 e01 ma ra1 z)
      rw [← take_filt ga] at key
      exact ⟨hw x, key⟩
    · obtain ⟨p1, p2, vs', p3, p4⟩ := c
      rw [lu, List.take_length] at p4
      exact q Dl vs' H' (fresh_back e1 p1) (e1.trans p2) p3 p4
/-- .. over a tuple of texts -/
theorem er_filtT {R' : Hp → V → β → Prop} (st : Stb0 R') (p : Str → Bool) (F : Str → β) {as : List Str} (h : EvD K tl σ H (.tuple (as.map PyData.str))) (hz : as.length ≤ 40000)
    (hw : ∀ x, wipe ((wipe σ vs).set j (some x)) vs = wipe σ vs)
    (ht : ∀ (a : Str) H1, Ex H H1 → a ∈ as → EvT t ((wipe σ vs).set j (some (.str a))) H1 (p a))
    (he : ∀ (a : Str) H1, Ex H H1 → a ∈ as → p a = true → EvO R' te ((wipe σ vs).set j (some (.str a))) H1 (F a)) : EvR R' (tLc (iTup K tl) (gName j) t te vs) σ H ((as.filter p).map F) := fun H0 e Q q =>
  h H0 e _ fun v H1 e1 hv => by
    have e01 := e.trans e1
    obtain ⟨l, us, rfl, hu, hd⟩ := dp_tup_inv hv
    have eu := dpa_strs_inv hd
    subst eu
    refine ⟨l, rfl, ⟨_, hu⟩, fun Dl hD => lc_tup (xs := as.map V.str) (fun i H' => CwR R' H1 (((as.take i).filter p).map F) Dl H') ⟨hD, Ex.new hD, [], upd_same, .nil⟩ (fun i H' _ c => ex_t c.2.1 hu) (fun i x H' hi c => ?_) (fun H' c => ?_)⟩
    · rw [List.getElem?_map] at hi
      obtain ⟨a, ga, rfl⟩ := Option.map_eq_some_iff.mp hi
      have ma := List.mem_of_getElem? ga
      have hlt := (List.getElem?_eq_some_iff.mp ga).1
      have hb : (((as.take i).filter p).map F).length < 50000 := by
        rw [List.length_map]
        have h1 := List.length_filter_le p (as.take i)
        have h2 := List.length_take_le i as
        omega
      have key := cwr_turn (t := t) (te := te) (σ2 := (wipe σ vs).set j (some (.str a))) (c := p a) (b := F a) st c hb (ht a H1 e01 ma) (fun z => he a H1 e01 ma z)
      rw [← take_filt ga] at key
      exact ⟨hw _, key⟩
    · obtain ⟨p1, p2, vs', p3, p4⟩ := c
      rw [List.length_map, List.take_length] at p4
      exact q Dl vs' H' (fresh_back e1 p1) (e1.trans p2) p3 p4
end
/-! ### the keys -/
def addK (ks : List (List Str)) (k : List Str) : List (List Str) := if k ∈ ks then ks else ks ++ [k]
def addKs (ks ls : List (List Str)) : List (List Str) := ls.foldl addK ks
theorem addK_mem {ks : List (List Str)} {k x : List Str} : x ∈ addK ks k ↔ x ∈ ks ∨ x = k := by
  unfold addK
  by_cases h : k ∈ ks
  · rw [if_pos h]
    exact ⟨.inl, fun z => z.elim id fun e => by rw [e]; exact h⟩
  · rw [if_neg h, List.mem_append, List.mem_singleton]
theorem addK_nd {ks : List (List Str)} {k : List Str} (h : ks.Nodup) : (addK ks k).Nodup := by
  unfold addK
  by_cases g : k ∈ ks
  · rw [if_pos g]; exact h
  · rw [if_neg g]
    exact List.nodup_append.mpr ⟨h, (by simp), fun a ha b hb e => g (by rw [List.mem_singleton.mp hb] at e; rw [← e]; exact ha)⟩
theorem addKs_mem : ∀ {ls ks : List (List Str)} {x : List Str}, x ∈ addKs ks ls ↔ x ∈ ks ∨ x ∈ ls
  | [], ks, x => by simp [addKs]
  | k :: ls, ks, x => by
    show x ∈ addKs (addK ks k) ls ↔ _
    rw [addKs_mem, addK_mem, List.mem_cons]
    constructor
    · rintro ((h | h) | h)
      · exact .inl h
      · exact .inr (.inl h)
      · exact .inr (.inr h)
    · rintro (h | h | h)
      · exact .inl (.inl h)
      · exact .inl (.inr h)
      · exact .inr h
theorem addKs_nd : ∀ {ls ks : List (List Str)}, ks.Nodup → (addKs ks ls).Nodup
  | [], _, h => h
  | k :: ls, ks, h => addKs_nd (ls := ls) (addK_nd h)
theorem putK_keys {kvs : List (List L2.Key × V)} {ks : List (List Str)} {k : List Str} {v : V} (h : kvs.map (·.1) = ks.map kS) : (putK kvs (kS k) v).map (·.1) = (addK ks k).map kS := by
  unfold putK addK
  have e : (kvs.any fun kv => decide (kv.1 = kS k)) = decide (k ∈ ks) := by
    have e1 : (kvs.any fun kv => decide (kv.1 = kS k)) = (kvs.map (·.1)).any fun x => decide (x = kS k) := by rw [List.any_map]; rfl
    rw [e1, h]
    by_cases g : k ∈ ks
    · rw [decide_eq_true g]
      exact List.any_eq_true.mpr ⟨kS k, kS_mem.mpr g, decide_eq_true rfl⟩
    · rw [decide_eq_false g, List.any_eq_false]
      intro x hx z
      exact g (kS_mem.mp (by rw [← of_decide_eq_true z]; exact hx))
  rw [e]
  by_cases g : k ∈ ks
  · rw [decide_eq_true g, if_pos rfl, if_pos g, List.map_map, ← h]
    refine List.map_congr_left fun kv _ => ?_
    show (if kv.1 = kS k then (kv.1, v) else kv).1 = kv.1
    split <;> rfl
  · rw [decide_eq_false g, if_neg (by decide), if_neg g, List.map_append, List.map_append, h]
    rfl
theorem mergeT_keys : ∀ {more kvs : List (List L2.Key × V)} {ks ls : List (List Str)}, kvs.map (·.1) = ks.map kS → more.map (·.1) = ls.map kS → (mergeT kvs more).map (·.1) = (addKs ks ls).map kS
  | [], kvs, ks, [], h, _ => h
  | [], kvs, ks, _ :: _, h, g => by cases g
  | _ :: _, kvs, ks, [], h, g => by cases g
  | p :: more, kvs, ks, l :: ls, h, g => by
    rw [List.map_cons, List.map_cons] at g
    injection g with g1 g2
    show (mergeT (putK kvs p.1 p.2) more).map (·.1) = (addKs (addK ks l) ls).map kS
    have g1' : p.1 = kS l := g1
    rw [g1']
    exact mergeT_keys (putK_keys h) g2
/-- a dict whose keys are these tuples of texts -/
structure DK (H : Hp) (p : Addr) (ks : List (List Str)) : Prop where
  at_ : ∃ kvs, H p = some (.dT kvs) ∧ kvs.map (·.1) = ks.map kS
  nd : ks.Nodup
theorem DK.len {H : Hp} {p : Addr} {ks : List (List Str)} {kvs : List (List L2.Key × V)} (h : kvs.map (·.1) = ks.map kS) : kvs.length = ks.length := by
  have := congrArg List.length h
  rw [List.length_map, List.length_map] at this
  exact this
theorem DK.keep {H H' : Hp} {p : Addr} {ks : List (List Str)} {S : List Addr} (D : DK H p ks) (e : ExB S H H') (h : p ∉ S) : DK H' p ks := by
  obtain ⟨kvs, h1, h2⟩ := D.at_
  exact ⟨⟨kvs, e _ _ h h1, h2⟩, D.nd⟩
theorem DK.ex {H H' : Hp} {p : Addr} {ks : List (List Str)} (D : DK H p ks) (e : Ex H H') : DK H' p ks := D.keep (S := []) (.of e) (by simp)
theorem DK.ntup {H : Hp} {p : Addr} {ks : List (List Str)} (D : DK H p ks) : ∀ xs, H p ≠ some (.tup xs) := fun xs z => by
  obtain ⟨kvs, h1, _⟩ := D.at_
  rw [h1] at z; cases z
theorem DK.new {H : Hp} {p : Addr} : DK (upd H p (.dT [])) p [] := ⟨⟨[], upd_same, rfl⟩, List.nodup_nil⟩
theorem pairs_more {K : PySem.W.Frag} {H : Hp} : ∀ {us : List V} {ls : List (List Str)}, Paired (PrS H) us ls → ∃ (ps : List Addr) (more : List (List L2.Key × V)), us = ps.map V.ref ∧ Paired (fun p kv => ∃ b, SqT K H p [.ref b, kv.2] ∧ H b = some (.tup (kv.1.map kV))) ps more ∧ more.map (·.1) = ls.map kS
  | _, _, .nil => ⟨[], [], rfl, .nil, rfl⟩
  | _, _, .cons h t => by
    obtain ⟨ps, more, e1, e2, e3⟩ := pairs_more (K := K) t
    obtain ⟨p, b, rfl, hp, hb⟩ := h
    refine ⟨p :: ps, (kS _, .bl true) :: more, by rw [e1]; rfl, .cons ⟨b, st_of hp, by rw [kS_kV]; exact hb⟩ e2, by rw [List.map_cons, e3]; rfl⟩
section
variable {K : PySem.W.Frag} {σ : L2.St} {H H' : Hp} {te tl : TE} {Dn : Ends} {tz : TS}
/-- d.update(pairs) -/
theorem q_upd {d : Addr} {ks ls : List (List Str)} {i : Nat} (D : DK H d ks) (hi : σ[i]? = some (some (.ref d))) (hp : EvR PrS tl σ H ls) (hz : ks.length + ls.length ≤ 100000)
    (k : ∀ H', DK H' d (addKs ks ls) → ExB [d] H H' → tz Dn σ H') : tSeq (tDrop (tBM K "dict" (rUpdT K) (tVar i) (tCons tl tNil))) tz Dn σ H := by
  obtain ⟨kvs, hd, hk⟩ := D.at_
  refine ⟨_, hi, .inr (.inr (.inl ⟨rfl, .inr ⟨kvs, hd⟩⟩)), hp H (Ex.refl H) _ fun p us H2 hp e2 h2 a2 => ?_⟩
  obtain ⟨ps, more, e1, e3, e4⟩ := pairs_more (K := K) a2
  have l1 := DK.len (H := H) (p := d) hk
  have l2 := DK.len (H := H) (p := d) e4
  subst e1
  exact ⟨d, p, kvs, ps, more, rfl, rfl, e2 _ _ hd, sq_of h2, e3, by rw [l1, l2]; exact sz_of hz, k _ ⟨⟨_, upd_same, mergeT_keys hk e4⟩, addKs_nd D.nd⟩ (ExB.trans (.of e2) (.upd List.mem_cons_self))⟩
theorem s_upd {d : Addr} {ks ls : List (List Str)} {i : Nat} (D : DK H d ks) (hi : σ[i]? = some (some (.ref d))) (hp : EvR PrS tl σ H ls) (hz : ks.length + ls.length ≤ 100000)
    (k : ∀ H', DK H' d (addKs ks ls) → ExB [d] H H' → Dn.nx σ H') : tDrop (tBM K "dict" (rUpdT K) (tVar i) (tCons tl tNil)) Dn σ H := q_upd (tz := fun De => De.nx) D hi hp hz k
theorem er_is {β : Type} {R : Hp → V → β → Prop} {as bs : List β} (h : EvR R te σ H as) (e : as = bs) : EvR R te σ H bs := e ▸ h
end
section
variable {X : Cx} {pos : Pos}
theorem pg_tupK (K : PySem.W.Frag) (hK : X.K = K) {es : List Expr} {k : Nat} {t : TGs} {n : Nat} (hc : X.calm = true) (h : PGs X es t)
    (hn : (assignEach es X.env).length = n := by rfl) (hst : (assignEach es X.env).findIdx? (·.1) = none := by rfl) : PG X (.Tuple es k pos) (gTup K n t) := hK ▸ pg_tup hc h hn hst
/-- over a list or a tuple -/
def iSeq (K : PySem.W.Frag) (te : TE) : TI := fun σ H R => iList K te σ H R ∨ iTup K te σ H R
theorem pi_seqK (K : PySem.W.Frag) (hK : X.K = K) {tg e : Expr} {te : TE} (he : PE X e te) : PI X tg e (iSeq K te) := ⟨fun pins s σ H R I h => h.elim (fun h => (pi_listK K hK he).run pins s σ H R I h) (fun h => (pi_tupK K hK he).run pins s σ H R I h)⟩
end
end Ow

namespace Ow
open PySem PySem.Spec PyProof.Rows L2 Evl
local macro_rules | `(tactic| walk_at "as") => `(tactic| first
  | assumption
  | exact Dp.int _ | exact Dp.str _ | exact Dp.bl _ | exact Dp.non
  | exact Dpx (by assumption) (by assumption)
  | exact Dpx (by assumption) (Ex.trans (by assumption) (by assumption)))
local macro_rules | `(tactic| walk_at "ev") => `(tactic| first
  | ((with_reducible show EvD _ (L2.tVar _) _ _ _); exact ed_var rfl (by walk_at "as"))
  | ((with_reducible show EvD _ (L2.tC _) _ _ _); first | exact ed_int | exact ed_str | exact ed_bl | exact ed_non | exact ed_c (by walk_at "as"))
  | ((with_reducible show EvD _ (L2.tCB (rIsi _) _) _ _ _); exact ed_isi (by walk_at "ev"))
  | ((with_reducible show EvD _ (L2.tCB (rIsiT _) _) _ _ _); exact ed_isi2 (by walk_at "ev"))
  | ((with_reducible show EvD _ (L2.tCB _ _) _ _ _); exact ed_cb (by walk_at "es") (by walk_at "rc"))
  | ((with_reducible show EvD _ (L2.tOp _ _ _) _ _ _); exact ed_op (by walk_at "ev") (by walk_at "ev") (by walk_at "rd"))
  | ((with_reducible show EvD _ (L2.tAndV _ _) _ _ _); exact ed_and (by walk_at "ev") (fun _ => by walk_at "ev"))
  | ((with_reducible show EvD _ (L2.tOrV _ _) _ _ _); exact ed_or (by walk_at "ev") (fun _ => by walk_at "ev"))
  | ((with_reducible show EvD _ (L2.tNotV _) _ _ _); exact ed_not (by walk_at "ev"))
  | ((with_reducible show EvD _ (L2.tIf _ _ _) _ _ _); exact ed_if (by walk_at "et") (fun _ => by walk_at "ev") (fun _ => by walk_at "ev"))
  | ((with_reducible show EvD _ (L2.tTup _) _ _ _); exact ed_tup (by walk_at "es") (by simp))
  | ((with_reducible show EvD _ (L2.tChain _ _ _ _ _) _ _ _); exact ed_chain (by walk_at "ev") (by walk_at "ev") (by walk_at "rd") (fun _ => by walk_at "ev") (by walk_at "rd"))
  | ((with_reducible show EvD _ (L2.tCall _ _ _ _) _ _ _); exact ed_call (by walk_at "es") (by walk_at "sp")))
local macro_rules | `(tactic| walk_at "es") => `(tactic| first
  | ((with_reducible show EvDs _ L2.tNil _ _ _); exact eds_nil)
  | exact eds_cons (by walk_at "ev") (by walk_at "es"))
local macro_rules | `(tactic| walk_at "rd") => `(tactic| first
  | ((with_reducible show RD _ rEq _ _ _ _); first | exact rd_eqS | exact rd_eqI)
  | ((with_reducible show RD _ rNe _ _ _ _); first | exact rd_neS | exact rd_neI)
  | ((with_reducible show RD _ (rIxT _) _ _ _ _); exact rd_ixT (by first | exact atD_0 | exact atD_1 | exact atD_2 | rfl | assumption))
  | ((with_reducible show RD _ (rIxL _) _ _ _ _); exact rd_ixL (by first | exact atD_0 | exact atD_1 | exact atD_2 | rfl | assumption))
  | ((with_reducible show RD _ (rEqD _) _ _ _ _); exact rd_eqD (by first | rfl | assumption) (by first | rfl | assumption))
  | ((with_reducible show RD _ (rNeD _) _ _ _ _); exact rd_neD (by first | rfl | assumption) (by first | rfl | assumption))
  | ((with_reducible show RD _ (rIn _ _) _ _ _ _); first | exact rd_inS | exact rd_niS | exact rd_inSL | exact rd_niSL)
  | ((with_reducible show RD _ (rCatA _) _ _ _ _); exact rd_catA (by first | (simp; done) | (simp; omega) | omega))
  | ((with_reducible show RD _ (rI _ _) _ _ _ _); exact rd_intC (by first | assumption | (show (0 : Int) < _; decide)))
  | exact rd_cmp | exact rd_int | exact rd_isN | exact rd_notN)
local macro_rules | `(tactic| walk_at "rc") => `(tactic| first
  | exact rc_lenT | exact rc_lenL | exact rc_all | exact rc_any | exact rc_tupL | exact rc_lenS (by assumption) | exact rc_int1 | exact rc_intB)
local macro_rules | `(tactic| walk_at "et") => `(tactic| first
  | ((with_reducible show EvT (L2.tB _) _ _ _); exact et_edBK (by assumption) (by walk_at "ev"))
  | ((with_reducible show EvT (L2.tTest _) _ _ _); exact et_edK (by assumption) (by walk_at "ev"))
  | ((with_reducible show EvT (L2.tNot _) _ _ _); exact et_not (by walk_at "et"))
  | ((with_reducible show EvT (L2.tAnd _ _) _ _ _); exact et_and (by walk_at "et") (fun _ => by walk_at "et"))
  | ((with_reducible show EvT (L2.tOr _ _) _ _ _); exact et_or (by walk_at "et") (fun _ => by walk_at "et")))
local macro_rules | `(tactic| walk_at "sp") => `(tactic| first
  | exact ⟨_, rfl, rfl⟩ | exact ⟨_, _, rfl, rfl⟩ | exact ⟨_, _, _, rfl, rfl⟩ | exact ⟨_, _, _, _, rfl, rfl⟩
  | exact ⟨_, rfl, by assumption, rfl⟩ | exact ⟨_, rfl, by assumption, by assumption, rfl⟩ | exact ⟨_, _, rfl, by assumption, rfl⟩ | exact ⟨_, _, _, rfl, by assumption, rfl⟩)
local macro_rules | `(tactic| walk_at "shb") => `(tactic| first
  | exact ShB.nil
  | (refine ShB.pl ⟨by decide, by decide, by decide⟩ (by first | (intro h; exact absurd h (by decide)) | (intro _; refine ⟨?_, ?_⟩ <;> (dsimp only [wordOf]; decide +kernel))) ?_; walk_at "shb")
  | (refine ShB.block (by decide) (by decide) ?_ ?_ <;> walk_at "shb")
  | (refine ShB.hands rfl (by decide) (by decide) ?_ ?_ ?_ <;> walk_at "shb"))

section
variable {P : Program} {w : World} {K : PySem.W.Frag} {mg : Str → Option Value} {base : Heap}

def isIntD : D → Bool
  | .int _ => true
  | _ => false
def inD : D → Int → Int → Bool
  | .int i, a, b => decide (a ≤ i) && decide (i ≤ b)
  | _, _, _ => false
def tupN : D → Int → Int → Bool
  | .tuple ds, a, b => decide (a ≤ (ds.length : Int)) && decide ((ds.length : Int) ≤ b)
  | _, _, _ => false


def boundsOf (k : Str) : Option (List Int) :=
  if k = "box" then some [40, 99] else if k = "move" then some [40, 40] else if k = "look" then some [40, 40] else if k = "lend" then some [40, 40] else if k = "show" then some [40]
  else if k = "set" then some [40, 99] else if k = "drop" then some [40] else if k = "end" then some [40] else if k = "aim" then some [40, 40] else none
def plainOf (k : Str) (rest : List D) : Bool := match boundsOf k with
  | some bs => decide (rest.length = bs.length) && (List.range bs.length).all fun i => inD (rest.getD i .none) 0 (bs.getD i 0)
  | none => false
def isPlainD : D → Bool
  | .tuple (.str k :: rest) => plainOf k rest
  | _ => false
def shapeOk (sh : Str) (bs : List Int) : Prop := (sh = "yn" ∧ bs = [40, 99]) ∨ (sh = "yy" ∧ bs = [40, 40]) ∨ (sh = "y" ∧ bs = [40])
theorem shape_cases (k : Str) : (∃ sh bs, shapesL.lookup k = some (.str sh) ∧ boundsOf k = some bs ∧ shapeOk sh bs) ∨ (shapesL.lookup k = none ∧ boundsOf k = none) := by
  have lk : ∀ (a : Str) (v : V) (l : List (Str × V)), List.lookup k ((a, v) :: l) = if k = a then some v else List.lookup k l := fun a v l => by
    rw [List.lookup_cons]
    by_cases h : k = a
    · rw [if_pos h, h]; simp
    · rw [if_neg h, beq_eq_false_iff_ne.mpr h]
  unfold shapesL boundsOf
  simp only [lk, List.lookup_nil]
  by_cases h1 : k = "box"
  · rw [if_pos h1, if_pos h1]; exact .inl ⟨_, _, rfl, rfl, .inl ⟨rfl, rfl⟩⟩
  rw [if_neg h1, if_neg h1]
  by_cases h2 : k = "move"
  · rw [if_pos h2, if_pos h2]; exact .inl ⟨_, _, rfl, rfl, .inr (.inl ⟨rfl, rfl⟩)⟩
  rw [if_neg h2, if_neg h2]
  by_cases h3 : k = "look"
  · rw [if_pos h3, if_pos h3]; exact .inl ⟨_, _, rfl, rfl, .inr (.inl ⟨rfl, rfl⟩)⟩
  rw [if_neg h3, if_neg h3]
  by_cases h4 : k = "lend"
  · rw [if_pos h4, if_pos h4]; exact .inl ⟨_, _, rfl, rfl, .inr (.inl ⟨rfl, rfl⟩)⟩
  rw [if_neg h4, if_neg h4]
  by_cases h5 : k = "show"
  · rw [if_pos h5, if_pos h5]; exact .inl ⟨_, _, rfl, rfl, .inr (.inr ⟨rfl, rfl⟩)⟩
  rw [if_neg h5, if_neg h5]
  by_cases h6 : k = "set"
  · rw [if_pos h6, if_pos h6]; exact .inl ⟨_, _, rfl, rfl, .inl ⟨rfl, rfl⟩⟩
  rw [if_neg h6, if_neg h6]
  by_cases h7 : k = "drop"
  · rw [if_pos h7, if_pos h7]; exact .inl ⟨_, _, rfl, rfl, .inr (.inr ⟨rfl, rfl⟩)⟩
  rw [if_neg h7, if_neg h7]
  by_cases h8 : k = "end"
  · rw [if_pos h8, if_pos h8]; exact .inl ⟨_, _, rfl, rfl, .inr (.inr ⟨rfl, rfl⟩)⟩
  rw [if_neg h8, if_neg h8]
  by_cases h9 : k = "aim"
  · rw [if_pos h9, if_pos h9]; exact .inl ⟨_, _, rfl, rfl, .inr (.inl ⟨rfl, rfl⟩)⟩
  rw [if_neg h9, if_neg h9]
  exact .inr ⟨rfl, rfl⟩
theorem shape_len {sh : Str} {bs : List Int} (h : shapeOk sh bs) : sh.length = bs.length := by
  rcases h with ⟨rfl, rfl⟩ | ⟨rfl, rfl⟩ | ⟨rfl, rfl⟩ <;> decide +kernel
theorem shape_short {sh : Str} {bs : List Int} (h : shapeOk sh bs) : sh.length ≤ 2 ∧ sh.cps.size ≤ 2 := by
  rcases h with ⟨rfl, rfl⟩ | ⟨rfl, rfl⟩ | ⟨rfl, rfl⟩ <;> decide +kernel
def bndD (c : Nat) : D := if (⟨#[c]⟩ : Str) = "y" then .int 40 else .int 99
theorem shape_bnds {sh : Str} {bs : List Int} (h : shapeOk sh bs) : sh.cps.toList.map bndD = bs.map PyData.int := by
  rcases h with ⟨rfl, rfl⟩ | ⟨rfl, rfl⟩ | ⟨rfl, rfl⟩ <;> rfl

end
end Ow

namespace Ow
open PySem PySem.Spec PyProof.Rows L2 Evl
local macro_rules | `(tactic| walk_at "as") => `(tactic| first
  | assumption
  | exact Dp.int _ | exact Dp.str _ | exact Dp.bl _ | exact Dp.non
  | exact Dpx (by assumption) (by assumption)
  | exact Dpx (by assumption) (Ex.trans (by assumption) (by assumption)))
local macro_rules | `(tactic| walk_at "ev") => `(tactic| first
  | ((with_reducible show EvD _ (L2.tVar _) _ _ _); exact ed_var rfl (by walk_at "as"))
  | ((with_reducible show EvD _ (L2.tC _) _ _ _); first | exact ed_int | exact ed_str | exact ed_bl | exact ed_non | exact ed_c (by walk_at "as"))
  | ((with_reducible show EvD _ (L2.tCB (rIsi _) _) _ _ _); exact ed_isi (by walk_at "ev"))
  | ((with_reducible show EvD _ (L2.tCB (rIsiT _) _) _ _ _); exact ed_isi2 (by walk_at "ev"))
  | ((with_reducible show EvD _ (L2.tCB _ _) _ _ _); exact ed_cb (by walk_at "es") (by walk_at "rc"))
  | ((with_reducible show EvD _ (L2.tOp _ _ _) _ _ _); exact ed_op (by walk_at "ev") (by walk_at "ev") (by walk_at "rd"))
  | ((with_reducible show EvD _ (L2.tAndV _ _) _ _ _); exact ed_and (by walk_at "ev") (fun _ => by walk_at "ev"))
  | ((with_reducible show EvD _ (L2.tOrV _ _) _ _ _); exact ed_or (by walk_at "ev") (fun _ => by walk_at "ev"))
  | ((with_reducible show EvD _ (L2.tNotV _) _ _ _); exact ed_not (by walk_at "ev"))
  | ((with_reducible show EvD _ (L2.tIf _ _ _) _ _ _); exact ed_if (by walk_at "et") (fun _ => by walk_at "ev") (fun _ => by walk_at "ev"))
  | ((with_reducible show EvD _ (L2.tTup _) _ _ _); exact ed_tup (by walk_at "es") (by simp))
  | ((with_reducible show EvD _ (L2.tChain _ _ _ _ _) _ _ _); exact ed_chain (by walk_at "ev") (by walk_at "ev") (by walk_at "rd") (fun _ => by walk_at "ev") (by walk_at "rd"))
  | ((with_reducible show EvD _ (L2.tCall _ _ _ _) _ _ _); exact ed_call (by walk_at "es") (by walk_at "sp")))
local macro_rules | `(tactic| walk_at "es") => `(tactic| first
  | ((with_reducible show EvDs _ L2.tNil _ _ _); exact eds_nil)
  | exact eds_cons (by walk_at "ev") (by walk_at "es"))
local macro_rules | `(tactic| walk_at "rd") => `(tactic| first
  | ((with_reducible show RD _ rEq _ _ _ _); first | exact rd_eqS | exact rd_eqI)
  | ((with_reducible show RD _ rNe _ _ _ _); first | exact rd_neS | exact rd_neI)
  | ((with_reducible show RD _ (rIxT _) _ _ _ _); exact rd_ixT (by first | exact atD_0 | exact atD_1 | exact atD_2 | rfl | assumption))
  | ((with_reducible show RD _ (rIxL _) _ _ _ _); exact rd_ixL (by first | exact atD_0 | exact atD_1 | exact atD_2 | rfl | assumption))
  | ((with_reducible show RD _ (rEqD _) _ _ _ _); exact rd_eqD (by first | rfl | assumption) (by first | rfl | assumption))
  | ((with_reducible show RD _ (rNeD _) _ _ _ _); exact rd_neD (by first | rfl | assumption) (by first | rfl | assumption))
  | ((with_reducible show RD _ (rIn _ _) _ _ _ _); first | exact rd_inS | exact rd_niS | exact rd_inSL | exact rd_niSL)
  | ((with_reducible show RD _ (rCatA _) _ _ _ _); exact rd_catA (by first | (simp; done) | (simp; omega) | omega))
  | ((with_reducible show RD _ (rI _ _) _ _ _ _); exact rd_intC (by first | assumption | (show (0 : Int) < _; decide)))
  | exact rd_cmp | exact rd_int | exact rd_isN | exact rd_notN)
local macro_rules | `(tactic| walk_at "rc") => `(tactic| first
  | exact rc_lenT | exact rc_lenL | exact rc_all | exact rc_any | exact rc_tupL | exact rc_lenS (by assumption) | exact rc_int1 | exact rc_intB)
local macro_rules | `(tactic| walk_at "et") => `(tactic| first
  | ((with_reducible show EvT (L2.tB _) _ _ _); exact et_edBK (by assumption) (by walk_at "ev"))
  | ((with_reducible show EvT (L2.tTest _) _ _ _); exact et_edK (by assumption) (by walk_at "ev"))
  | ((with_reducible show EvT (L2.tNot _) _ _ _); exact et_not (by walk_at "et"))
  | ((with_reducible show EvT (L2.tAnd _ _) _ _ _); exact et_and (by walk_at "et") (fun _ => by walk_at "et"))
  | ((with_reducible show EvT (L2.tOr _ _) _ _ _); exact et_or (by walk_at "et") (fun _ => by walk_at "et")))
local macro_rules | `(tactic| walk_at "sp") => `(tactic| first
  | exact ⟨_, rfl, rfl⟩ | exact ⟨_, _, rfl, rfl⟩ | exact ⟨_, _, _, rfl, rfl⟩ | exact ⟨_, _, _, _, rfl, rfl⟩
  | exact ⟨_, rfl, by assumption, rfl⟩ | exact ⟨_, rfl, by assumption, by assumption, rfl⟩ | exact ⟨_, _, rfl, by assumption, rfl⟩ | exact ⟨_, _, _, rfl, by assumption, rfl⟩)
local macro_rules | `(tactic| walk_at "shb") => `(tactic| first
  | exact ShB.nil
  | (refine ShB.pl ⟨by decide, by decide, by decide⟩ (by first | (intro h; exact absurd h (by decide)) | (intro _; refine ⟨?_, ?_⟩ <;> (dsimp only [wordOf]; decide +kernel))) ?_; walk_at "shb")
  | (refine ShB.block (by decide) (by decide) ?_ ?_ <;> walk_at "shb")
  | (refine ShB.hands rfl (by decide) (by decide) ?_ ?_ ?_ <;> walk_at "shb"))

section
variable {P : Program} {w : World} {K : PySem.W.Frag} {mg : Str → Option Value} {base : Heap}

def itemsD : D → List D
  | .tuple xs => xs
  | _ => []
theorem tupN_tup {x : D} {a b : Int} (h : tupN x a b = true) : ∃ xs, x = .tuple xs ∧ a ≤ (xs.length : Int) ∧ (xs.length : Int) ≤ b := by
  cases x with
  | tuple xs =>
    have h2 : (decide (a ≤ (xs.length : Int)) && decide ((xs.length : Int) ≤ b)) = true := h
    rw [Bool.and_eq_true] at h2
    exact ⟨xs, rfl, of_decide_eq_true h2.1, of_decide_eq_true h2.2⟩
  | _ => cases h
/-- (k, x) with k the text "block" and x a tuple of at most six plain ones -/
def isBlockD (d : D) : Bool := tupN d 2 2 && (PyData.eqv ((itemsD d).getD 0 .none) (.str "block") && (tupN ((itemsD d).getD 1 .none) 0 6 && (itemsD ((itemsD d).getD 1 .none)).all isPlainD))
def isHandedD (d : D) : Bool := isBlockD d || (isPlainD d && !(PyData.eqv (.str "box") ((itemsD d).getD 0 .none) || PyData.eqv (.str "move") ((itemsD d).getD 0 .none)))
def isHandD (d : D) : Bool := tupN d 0 4 && (itemsD d).all isHandedD
def isStatementD (d : D) : Bool := isPlainD d || isBlockD d || (tupN d 3 3 && (PyData.eqv ((itemsD d).getD 0 .none) (.str "hands") && (isHandD ((itemsD d).getD 1 .none) && isHandD ((itemsD d).getD 2 .none))))
def isProgramD (d : D) : Bool := tupN d 0 12 && (itemsD d).all isStatementD
theorem isPlain_tup {x : D} (h : isPlainD x = true) : ∃ k rest, x = .tuple (.str k :: rest) ∧ plainOf k rest = true := by
  cases x with
  | tuple xs =>
    cases xs with
    | nil => cases h
    | cons d rest =>
      cases d with
      | str k => exact ⟨k, rest, rfl, h⟩
      | _ => cases h
  | _ => cases h
theorem shp_get {ds : List D} {n : Nat} (h : SeqAt.shaped (.tuple ds) = true) : SeqAt.shaped (ds.getD n .none) = true := by
  rw [List.getD_eq_getElem?_getD]
  cases e : ds[n]? with
  | none => rfl
  | some d => exact shaped_mem h (ge_of e)
theorem two_of {xs : List D} (h1 : (2 : Int) ≤ (xs.length : Int)) (h2 : (xs.length : Int) ≤ 2) : ∃ a b, xs = [a, b] := by
  match xs, h1, h2 with
  | [a, b], _, _ => exact ⟨a, b, rfl⟩
  | [], h, _ => simp at h
  | [_], h, _ => simp at h
  | _ :: _ :: _ :: _, _, h => simp at h; omega
theorem three_of {xs : List D} (h1 : (3 : Int) ≤ (xs.length : Int)) (h2 : (xs.length : Int) ≤ 3) : ∃ a b c, xs = [a, b, c] := by
  match xs, h1, h2 with
  | [a, b, c], _, _ => exact ⟨a, b, c, rfl⟩
  | [], h, _ => simp at h
  | [_], h, _ => simp at h
  | [_, _], h, _ => simp at h
  | _ :: _ :: _ :: _ :: _, _, h => simp at h; omega

end
end Ow

namespace Ow
open PySem PySem.Spec PyProof.Rows L2 Evl
local macro_rules | `(tactic| walk_at "as") => `(tactic| first
  | assumption
  | exact Dp.int _ | exact Dp.str _ | exact Dp.bl _ | exact Dp.non
  | exact Dpx (by assumption) (by assumption)
  | exact Dpx (by assumption) (Ex.trans (by assumption) (by assumption)))
local macro_rules | `(tactic| walk_at "ev") => `(tactic| first
  | ((with_reducible show EvD _ (L2.tVar _) _ _ _); exact ed_var rfl (by walk_at "as"))
  | ((with_reducible show EvD _ (L2.tC _) _ _ _); first | exact ed_int | exact ed_str | exact ed_bl | exact ed_non | exact ed_c (by walk_at "as"))
  | ((with_reducible show EvD _ (L2.tCB (rIsi _) _) _ _ _); exact ed_isi (by walk_at "ev"))
  | ((with_reducible show EvD _ (L2.tCB (rIsiT _) _) _ _ _); exact ed_isi2 (by walk_at "ev"))
  | ((with_reducible show EvD _ (L2.tCB _ _) _ _ _); exact ed_cb (by walk_at "es") (by walk_at "rc"))
  | ((with_reducible show EvD _ (L2.tOp _ _ _) _ _ _); exact ed_op (by walk_at "ev") (by walk_at "ev") (by walk_at "rd"))
  | ((with_reducible show EvD _ (L2.tAndV _ _) _ _ _); exact ed_and (by walk_at "ev") (fun _ => by walk_at "ev"))
  | ((with_reducible show EvD _ (L2.tOrV _ _) _ _ _); exact ed_or (by walk_at "ev") (fun _ => by walk_at "ev"))
  | ((with_reducible show EvD _ (L2.tNotV _) _ _ _); exact ed_not (by walk_at "ev"))
  | ((with_reducible show EvD _ (L2.tIf _ _ _) _ _ _); exact ed_if (by walk_at "et") (fun _ => by walk_at "ev") (fun _ => by walk_at "ev"))
  | ((with_reducible show EvD _ (L2.tTup _) _ _ _); exact ed_tup (by walk_at "es") (by simp))
  | ((with_reducible show EvD _ (L2.tChain _ _ _ _ _) _ _ _); exact ed_chain (by walk_at "ev") (by walk_at "ev") (by walk_at "rd") (fun _ => by walk_at "ev") (by walk_at "rd"))
  | ((with_reducible show EvD _ (L2.tCall _ _ _ _) _ _ _); exact ed_call (by walk_at "es") (by walk_at "sp")))
local macro_rules | `(tactic| walk_at "es") => `(tactic| first
  | ((with_reducible show EvDs _ L2.tNil _ _ _); exact eds_nil)
  | exact eds_cons (by walk_at "ev") (by walk_at "es"))
local macro_rules | `(tactic| walk_at "rd") => `(tactic| first
  | ((with_reducible show RD _ rEq _ _ _ _); first | exact rd_eqS | exact rd_eqI)
  | ((with_reducible show RD _ rNe _ _ _ _); first | exact rd_neS | exact rd_neI)
  | ((with_reducible show RD _ (rIxT _) _ _ _ _); exact rd_ixT (by first | exact atD_0 | exact atD_1 | exact atD_2 | rfl | assumption))
  | ((with_reducible show RD _ (rIxL _) _ _ _ _); exact rd_ixL (by first | exact atD_0 | exact atD_1 | exact atD_2 | rfl | assumption))
  | ((with_reducible show RD _ (rEqD _) _ _ _ _); exact rd_eqD (by first | rfl | assumption) (by first | rfl | assumption))
  | ((with_reducible show RD _ (rNeD _) _ _ _ _); exact rd_neD (by first | rfl | assumption) (by first | rfl | assumption))
  | ((with_reducible show RD _ (rIn _ _) _ _ _ _); first | exact rd_inS | exact rd_niS | exact rd_inSL | exact rd_niSL)
  | ((with_reducible show RD _ (rCatA _) _ _ _ _); exact rd_catA (by first | (simp; done) | (simp; omega) | omega))
  | ((with_reducible show RD _ (rI _ _) _ _ _ _); exact rd_intC (by first | assumption | (show (0 : Int) < _; decide)))
  | exact rd_cmp | exact rd_int | exact rd_isN | exact rd_notN)
local macro_rules | `(tactic| walk_at "rc") => `(tactic| first
  | exact rc_lenT | exact rc_lenL | exact rc_all | exact rc_any | exact rc_tupL | exact rc_lenS (by assumption) | exact rc_int1 | exact rc_intB)
local macro_rules | `(tactic| walk_at "et") => `(tactic| first
  | ((with_reducible show EvT (L2.tB _) _ _ _); exact et_edBK (by assumption) (by walk_at "ev"))
  | ((with_reducible show EvT (L2.tTest _) _ _ _); exact et_edK (by assumption) (by walk_at "ev"))
  | ((with_reducible show EvT (L2.tNot _) _ _ _); exact et_not (by walk_at "et"))
  | ((with_reducible show EvT (L2.tAnd _ _) _ _ _); exact et_and (by walk_at "et") (fun _ => by walk_at "et"))
  | ((with_reducible show EvT (L2.tOr _ _) _ _ _); exact et_or (by walk_at "et") (fun _ => by walk_at "et")))
local macro_rules | `(tactic| walk_at "sp") => `(tactic| first
  | exact ⟨_, rfl, rfl⟩ | exact ⟨_, _, rfl, rfl⟩ | exact ⟨_, _, _, rfl, rfl⟩ | exact ⟨_, _, _, _, rfl, rfl⟩
  | exact ⟨_, rfl, by assumption, rfl⟩ | exact ⟨_, rfl, by assumption, by assumption, rfl⟩ | exact ⟨_, _, rfl, by assumption, rfl⟩ | exact ⟨_, _, _, rfl, by assumption, rfl⟩)
local macro_rules | `(tactic| walk_at "shb") => `(tactic| first
  | exact ShB.nil
  | (refine ShB.pl ⟨by decide, by decide, by decide⟩ (by first | (intro h; exact absurd h (by decide)) | (intro _; refine ⟨?_, ?_⟩ <;> (dsimp only [wordOf]; decide +kernel))) ?_; walk_at "shb")
  | (refine ShB.block (by decide) (by decide) ?_ ?_ <;> walk_at "shb")
  | (refine ShB.hands rfl (by decide) (by decide) ?_ ?_ ?_ <;> walk_at "shb"))

section
variable {P : Program} {w : World} {K : PySem.W.Frag} {mg : Str → Option Value} {base : Heap}
def sp__law_taken (K : PySem.W.Frag) : Sp := sp_taken K
abbrev nm_law_taken : List Str := ["_law_row", "_law_many", "_law_found", "_law_cell"]
abbrev st_law_taken : Stmt := st__law_taken
theorem sc_law_taken : FnScope nm_law_taken ["_law_row", "_law_many"] (defScope st__law_taken) := ⟨rfl, rfl, rfl, by decide +kernel, rfl, by decide +kernel, by decide +kernel⟩
theorem ok__law_taken (F : Def K mg "_law_taken" st__law_taken) (m_int : mg "int" = none) (m_len : mg "len" = none) : Cal P w K mg base CX0 1 "_law_taken" ["_law_row", "_law_many"] (sp__law_taken K) := by
  refine F.ok sc_law_taken (fun vs H Q E h => ?_) (fun _ _ _ _ _ _ us hl => match us, hl with | [_, _], _ => rfl) (fun f cdv A outer s H vs Q E hr h => ?_)
  · obtain ⟨r, a, ns, many, rfl, _⟩ := h; rfl
  · refine ⟨_, PSs.nox (pss_cons (ps_if (pt_cmpR op_gt (pe_ix (ix_listK K rfl) (pv 0) pe_int (fun _ _ => rfl)) pe_int (nomark _)) (pss_cons (ps_set (i := 2) sc_law_taken.nd rfl (Or.inl rfl) (pe_op op_mod (pe_callTy call_int1 (by rfl) m_int (by decide +kernel) (pa_cons (pe_ix (ix_listK K rfl) (pv 0) pe_int (fun _ _ => rfl)) pa_nil)) (pv 1))) (pss_cons (ps_asg (pe_op op_fdiv (pe_ix (ix_listK K rfl) (pv 0) pe_int (fun _ _ => rfl)) (pv 1)) (pg_sub (pv 0) pe_int set_list)) (pss_one (ps_ret (pv 2))))) pss_nil) (pss_cons (ps_asg (pe_op op_add (pe_ix (ix_listK K rfl) (pv 0) pe_int (fun _ _ => rfl)) pe_int) (pg_sub (pv 0) pe_int set_list)) (pss_cons (ps_if (pt_cmpR op_gt (pe_ix (ix_listK K rfl) (pv 0) pe_int (fun _ _ => rfl)) (pe_callB (call_lenK K rfl) (by rfl) m_len (by decide +kernel) (pa_cons (pe_ix (ix_listK K rfl) (pv 0) pe_int (fun _ _ => rfl)) pa_nil)) (nomark _)) (pss_cons (ps_asg (pe_op op_mod (pe_callTy call_int1 (by rfl) m_int (by decide +kernel) (pa_cons (pe_op op_add (pe_op op_mul (pe_ix (ix_listK K rfl) (pv 0) pe_int (fun _ _ => rfl)) pe_int) pe_int) pa_nil)) pe_int) (pg_sub (pv 0) pe_int set_list)) (pss_one (ps_ret (pe_op op_mod (pe_callTy call_int1 (by rfl) m_int (by decide +kernel) (pa_cons (pe_op op_fdiv (pe_ix (ix_listK K rfl) (pv 0) pe_int (fun _ _ => rfl)) pe_int) pa_nil)) (pv 1))))) pss_nil) (pss_cons (ps_set (i := 3) sc_law_taken.nd rfl (Or.inl rfl) (pe_ix (ix_listK K rfl) (pe_ix (ix_listK K rfl) (pv 0) pe_int (fun _ _ => rfl)) (pe_op op_sub (pe_ix (ix_listK K rfl) (pv 0) pe_int (fun _ _ => rfl)) pe_int) (fun _ _ => rfl))) (pss_cons (ps_asg (pe_op op_mod (pe_callTy call_int1 (by rfl) m_int (by decide +kernel) (pa_cons (pe_op op_add (pe_op op_add (pe_op op_mul (pe_ix (ix_listK K rfl) (pv 0) pe_int (fun _ _ => rfl)) pe_int) (pv 3)) pe_int) pa_nil)) pe_int) (pg_sub (pv 0) pe_int set_list)) (pss_cons (ps_if (pt_cmpR op_ge (pv 3) (pe_op op_pow pe_int pe_int) (nomark _)) (pss_one (ps_asg (pe_op op_fdiv (pv 3) (pv 1)) (pg_sub (pv 0) pe_int set_list))) pss_nil) (pss_one (ps_ret (pe_op op_mod (pe_callTy call_int1 (by rfl) m_int (by decide +kernel) (pa_cons (pv 3) pa_nil)) (pv 1)))))))))), ?_⟩
    have kis : KIs K := ⟨⟩
    obtain ⟨r, a, ns, many, rfl, R, hm, hm2, q⟩ := h
    obtain ⟨i, m, c, hr, i0, m0, m1, c0⟩ := R.at_
    have hd := RowAt.dp R.sc hr
    have dmany : Dp K H (.int many) (.int many) := .int _
    have cdm : ∀ x, CDiv x many := fun _ => ⟨hm, by omega⟩
    have ans : ∀ (x : Int) H', RowAt K a ns H' r → ExB [r] H H' → Q (.int (x % many)) H' := fun x H' R' b => q _ H' (Int.emod_nonneg _ (by omega)) (Int.emod_lt_of_pos _ hm) R' b
    by_cases hc : 0 < c
    case pos =>
      refine q_when (b := true) ?_ (fun _ H1 e1 => ?_) (fun z => by cases z)
      · exact et_is (by walk_at "et") (decide_eq_true hc)
      have h1 : Dp K H1 (.ref r) _ := Dpx hd e1
      refine q_asgD (K := K) (d := .int (c % many)) (by walk_at "ev") (fun v H2 e2 hv => ?_)
      cases hv
      have h2 : Dp K H2 (.ref r) _ := Dpx h1 e2
      have c2 := cdm c
      refine q_setB (K := K) [.ref a, .int i, .int m, .int (c / many)] (j := 3) (e2 _ _ (e1 _ _ hr)) (by walk_at "ev") ⟨0, rfl, rfl⟩ rfl (by simp) rfl (fun H3 b3 h3 => ?_)
      have b : ExB [r] H H3 := ExB.trans (.of (e1.trans e2)) b3
      exact ⟨_, rfl, ans c H3 ⟨R.seq b, R.ne, ⟨_, _, _, h3, i0, m0, m1, Int.ediv_nonneg c0 (by omega)⟩, R.len⟩ b⟩
    have hc0 : c = 0 := by omega
    subst hc0
    refine q_when (b := false) ?_ (fun z => by cases z) (fun _ H1 e1 => ?_)
    · exact et_is (by walk_at "et") (decide_eq_false hc)
    have h1 : Dp K H1 (.ref r) _ := Dpx hd e1
    refine q_setB (K := K) [.ref a, .int (i + 1), .int m, .int 0] (j := 1) (e1 _ _ hr) (by walk_at "ev") ⟨0, rfl, rfl⟩ rfl (by simp) rfl (fun H2 b2 h2 => ?_)
    have b02 : ExB [r] H H2 := ExB.trans (.of e1) b2
    have hd2 := RowAt.dp (R.seq b02) h2
    have cm : CMul m 48271 := .inl ⟨by omega, by omega⟩
    have cp : CPow 10 18 := ⟨by decide, by decide, by decide⟩
    by_cases hl : i + 1 > (ns.length : Int)
    case pos =>
      refine q_when (b := true) ?_ (fun _ H3 e3 => ?_) (fun z => by cases z)
      · exact et_is (by walk_at "et") (by rw [List.length_map]; exact decide_eq_true hl)
      have h3 : Dp K H3 (.ref r) _ := Dpx hd2 e3
      refine q_setB (K := K) [.ref a, .int (i + 1), .int ((m * 48271 + 11) % 2147483647), .int 0] (j := 2) (e3 _ _ h2) (by walk_at "ev") ⟨0, rfl, rfl⟩ rfl (by simp) rfl (fun H4 b4 h4 => ?_)
      have b : ExB [r] H H4 := ExB.trans (ExB.trans b02 (.of e3)) b4
      have hd4 := RowAt.dp (R.seq b) h4
      have cd7 : CDiv ((m * 48271 + 11) % 2147483647) 7 := ⟨by decide, by decide⟩
      refine s_retD (K := K) (d := .int (((m * 48271 + 11) % 2147483647) / 7 % many)) (by walk_at "ev") (fun v H5 e5 hv => ?_)
      cases hv
      have b5 : ExB [r] H H5 := ExB.trans b (.of e5)
      exact ans _ H5 ⟨R.seq b5, R.ne, ⟨_, _, _, e5 _ _ h4, by omega, by omega, by omega, by omega⟩, R.len⟩ b5
    refine q_when (b := false) ?_ (fun z => by cases z) (fun _ H3 e3 => ?_)
    · exact et_is (by walk_at "et") (by rw [List.length_map]; exact decide_eq_false hl)
    have h3 : Dp K H3 (.ref r) _ := Dpx hd2 e3
    obtain ⟨j, hj⟩ : ∃ j : Nat, i = (j : Int) := ⟨i.toNat, by omega⟩
    subst hj
    obtain ⟨cell, hcell⟩ : ∃ cell, ns[j]? = some cell := ⟨ns[j]'(by omega), List.getElem?_eq_getElem (by omega)⟩
    have gc : atD (ns.map PyData.int) ((j : Int) + 1 - 1) = some (.int cell) := by
      have : (j : Int) + 1 - 1 = (j : Int) := by omega
      rw [this]
      exact atD_nat (by rw [List.getElem?_map, hcell]; rfl)
    refine q_asgD (K := K) (d := .int cell) (by walk_at "ev") (fun v H4 e4 hv => ?_)
    cases hv
    have h4 : Dp K H4 (.ref r) _ := Dpx h3 e4
    have dc : Dp K H4 (.int cell) (.int cell) := .int _
    refine q_setB (K := K) [.ref a, .int ((j : Int) + 1), .int ((m * 48271 + cell + 11) % 2147483647), .int 0] (j := 2) (e4 _ _ (e3 _ _ h2)) (by walk_at "ev") ⟨0, rfl, rfl⟩ rfl (by simp) rfl (fun H5 b5 h5 => ?_)
    have b05 : ExB [r] H H5 := ExB.trans (ExB.trans b02 (.of (e3.trans e4))) b5
    have hd5 := RowAt.dp (R.seq b05) h5
    have c2 := cdm cell
    by_cases hb : cell ≥ (10 : Int) ^ (18 : Int).toNat
    case pos =>
      refine q_when (b := true) ?_ (fun _ H6 e6 => ?_) (fun z => by cases z)
      · exact et_is (by walk_at "et") (decide_eq_true hb)
      have h6 : Dp K H6 (.ref r) _ := Dpx hd5 e6
      have cn : 0 ≤ cell := by
        have : (0 : Int) ≤ (10 : Int) ^ (18 : Int).toNat := by decide
        omega
      clear hb
      refine s_setB (K := K) [.ref a, .int ((j : Int) + 1), .int ((m * 48271 + cell + 11) % 2147483647), .int (cell / many)] (j := 3) (e6 _ _ h5) (by walk_at "ev") ⟨0, rfl, rfl⟩ rfl (by simp) rfl (fun H7 b7 h7 => ?_)
      have b : ExB [r] H H7 := ExB.trans (ExB.trans b05 (.of e6)) b7
      dsimp only
      refine s_retD (K := K) (d := .int (cell % many)) (by walk_at "ev") (fun v H8 e8 hv => ?_)
      cases hv
      have b8 : ExB [r] H H8 := ExB.trans b (.of e8)
      exact ans _ H8 ⟨R.seq b8, R.ne, ⟨_, _, _, e8 _ _ h7, by omega, by omega, by omega, Int.ediv_nonneg cn (by omega)⟩, R.len⟩ b8
    refine q_when (b := false) ?_ (fun z => by cases z) (fun _ H6 e6 => ?_)
    · exact et_is (by walk_at "et") (decide_eq_false hb)
    clear hb
    refine s_retD (K := K) (d := .int (cell % many)) (by walk_at "ev") (fun v H8 e8 hv => ?_)
    cases hv
    have b8 : ExB [r] H H8 := ExB.trans b05 (.of (e6.trans e8))
    exact ans _ H8 ⟨R.seq b8, R.ne, ⟨_, _, _, e8 _ _ (e6 _ _ h5), by omega, by omega, by omega, by omega⟩, R.len⟩ b8
end
end Ow

namespace Ow
open PySem PySem.Spec PyProof.Rows L2 Evl
local macro_rules | `(tactic| walk_at "as") => `(tactic| first
  | assumption
  | exact Dp.int _ | exact Dp.str _ | exact Dp.bl _ | exact Dp.non
  | exact Dpx (by assumption) (by assumption)
  | exact Dpx (by assumption) (Ex.trans (by assumption) (by assumption)))
local macro_rules | `(tactic| walk_at "ev") => `(tactic| first
  | ((with_reducible show EvD _ (L2.tVar _) _ _ _); exact ed_var rfl (by walk_at "as"))
  | ((with_reducible show EvD _ (L2.tC _) _ _ _); first | exact ed_int | exact ed_str | exact ed_bl | exact ed_non | exact ed_c (by walk_at "as"))
  | ((with_reducible show EvD _ (L2.tCB (rIsi _) _) _ _ _); exact ed_isi (by walk_at "ev"))
  | ((with_reducible show EvD _ (L2.tCB (rIsiT _) _) _ _ _); exact ed_isi2 (by walk_at "ev"))
  | ((with_reducible show EvD _ (L2.tCB _ _) _ _ _); exact ed_cb (by walk_at "es") (by walk_at "rc"))
  | ((with_reducible show EvD _ (L2.tOp _ _ _) _ _ _); exact ed_op (by walk_at "ev") (by walk_at "ev") (by walk_at "rd"))
  | ((with_reducible show EvD _ (L2.tAndV _ _) _ _ _); exact ed_and (by walk_at "ev") (fun _ => by walk_at "ev"))
  | ((with_reducible show EvD _ (L2.tOrV _ _) _ _ _); exact ed_or (by walk_at "ev") (fun _ => by walk_at "ev"))
  | ((with_reducible show EvD _ (L2.tNotV _) _ _ _); exact ed_not (by walk_at "ev"))
  | ((with_reducible show EvD _ (L2.tIf _ _ _) _ _ _); exact ed_if (by walk_at "et") (fun _ => by walk_at "ev") (fun _ => by walk_at "ev"))
  | ((with_reducible show EvD _ (L2.tTup _) _ _ _); exact ed_tup (by walk_at "es") (by simp))
  | ((with_reducible show EvD _ (L2.tChain _ _ _ _ _) _ _ _); exact ed_chain (by walk_at "ev") (by walk_at "ev") (by walk_at "rd") (fun _ => by walk_at "ev") (by walk_at "rd"))
  | ((with_reducible show EvD _ (L2.tCall _ _ _ _) _ _ _); exact ed_call (by walk_at "es") (by walk_at "sp")))
local macro_rules | `(tactic| walk_at "es") => `(tactic| first
  | ((with_reducible show EvDs _ L2.tNil _ _ _); exact eds_nil)
  | exact eds_cons (by walk_at "ev") (by walk_at "es"))
local macro_rules | `(tactic| walk_at "rd") => `(tactic| first
  | ((with_reducible show RD _ rEq _ _ _ _); first | exact rd_eqS | exact rd_eqI)
  | ((with_reducible show RD _ rNe _ _ _ _); first | exact rd_neS | exact rd_neI)
  | ((with_reducible show RD _ (rIxT _) _ _ _ _); exact rd_ixT (by first | exact atD_0 | exact atD_1 | exact atD_2 | rfl | assumption))
  | ((with_reducible show RD _ (rIxL _) _ _ _ _); exact rd_ixL (by first | exact atD_0 | exact atD_1 | exact atD_2 | rfl | assumption))
  | ((with_reducible show RD _ (rEqD _) _ _ _ _); exact rd_eqD (by first | rfl | assumption) (by first | rfl | assumption))
  | ((with_reducible show RD _ (rNeD _) _ _ _ _); exact rd_neD (by first | rfl | assumption) (by first | rfl | assumption))
  | ((with_reducible show RD _ (rIn _ _) _ _ _ _); first | exact rd_inS | exact rd_niS | exact rd_inSL | exact rd_niSL)
  | ((with_reducible show RD _ (rCatA _) _ _ _ _); exact rd_catA (by first | (simp; done) | (simp; omega) | omega))
  | ((with_reducible show RD _ (rI _ _) _ _ _ _); exact rd_intC (by first | assumption | (show (0 : Int) < _; decide)))
  | exact rd_cmp | exact rd_int | exact rd_isN | exact rd_notN)
local macro_rules | `(tactic| walk_at "rc") => `(tactic| first
  | exact rc_lenT | exact rc_lenL | exact rc_all | exact rc_any | exact rc_tupL | exact rc_lenS (by assumption) | exact rc_int1 | exact rc_intB)
local macro_rules | `(tactic| walk_at "et") => `(tactic| first
  | ((with_reducible show EvT (L2.tB _) _ _ _); exact et_edBK (by assumption) (by walk_at "ev"))
  | ((with_reducible show EvT (L2.tTest _) _ _ _); exact et_edK (by assumption) (by walk_at "ev"))
  | ((with_reducible show EvT (L2.tNot _) _ _ _); exact et_not (by walk_at "et"))
  | ((with_reducible show EvT (L2.tAnd _ _) _ _ _); exact et_and (by walk_at "et") (fun _ => by walk_at "et"))
  | ((with_reducible show EvT (L2.tOr _ _) _ _ _); exact et_or (by walk_at "et") (fun _ => by walk_at "et")))
local macro_rules | `(tactic| walk_at "sp") => `(tactic| first
  | exact ⟨_, rfl, rfl⟩ | exact ⟨_, _, rfl, rfl⟩ | exact ⟨_, _, _, rfl, rfl⟩ | exact ⟨_, _, _, _, rfl, rfl⟩
  | exact ⟨_, rfl, by assumption, rfl⟩ | exact ⟨_, rfl, by assumption, by assumption, rfl⟩ | exact ⟨_, _, rfl, by assumption, rfl⟩ | exact ⟨_, _, _, rfl, by assumption, rfl⟩)
local macro_rules | `(tactic| walk_at "shb") => `(tactic| first
  | exact ShB.nil
  | (refine ShB.pl ⟨by decide, by decide, by decide⟩ (by first | (intro h; exact absurd h (by decide)) | (intro _; refine ⟨?_, ?_⟩ <;> (dsimp only [wordOf]; decide +kernel))) ?_; walk_at "shb")
  | (refine ShB.block (by decide) (by decide) ?_ ?_ <;> walk_at "shb")
  | (refine ShB.hands rfl (by decide) (by decide) ?_ ?_ ?_ <;> walk_at "shb"))

section
variable {P : Program} {w : World} {K : PySem.W.Frag} {mg : Str → Option Value} {base : Heap}

theorem ne_fresh {H : Hp} {a b : Addr} {o : L2.HO} (h : H a = some o) (g : H b = none) : b ≠ a := fun z => by rw [z, h] at g; cases g
def WORDS : List Str := ["blocks", "drop", "drop looked", "far", "hands", "lend looked", "move looked", "set", "set looked", "share", "two names", "use lent"]

def sp__law_pick (K : PySem.W.Frag) : Sp := fun vs H Q _ => ∃ (r a : Addr) (ns : List Int) (vk : V) (ds : List D), vs = [.ref r, vk] ∧ RowAt K a ns H r ∧ Dp K H vk (.list ds) ∧ vk ≠ .ref r ∧ noLs ds = true ∧ 0 < ds.length ∧ ds.length ≤ 100000 ∧ ∀ d ∈ ds, ∀ v H', RowAt K a ns H' r → ExB [r] H H' → Dp K H' v d → Q v H'
abbrev nm_law_pick : List Str := ["_law_row", "_law_kinds"]
abbrev st_law_pick : Stmt := st__law_pick
theorem sc_law_pick : FnScope nm_law_pick ["_law_row", "_law_kinds"] (defScope st__law_pick) := ⟨rfl, rfl, rfl, by decide +kernel, rfl, by decide +kernel, by decide +kernel⟩
theorem ok__law_pick (F : Def K mg "_law_pick" st__law_pick) (c__law_taken : Cal P w K mg base CX0 1 "_law_taken" ["_law_row", "_law_many"] (sp__law_taken K)) (m_len : mg "len" = none) : Cal P w K mg base CX0 2 "_law_pick" ["_law_row", "_law_kinds"] (sp__law_pick K) := by
  refine F.ok sc_law_pick (fun vs H Q E h => ?_) (fun _ _ _ _ _ _ us hl => match us, hl with | [_, _], _ => rfl) (fun f cdv A outer s H vs Q E hr h => ?_)
  · obtain ⟨r, a, ns, vk, ds, rfl, _⟩ := h; rfl
  · refine ⟨_, PSs.nox (pss_one (ps_ret (pe_ix (ix_listK K rfl) (pv 1) (pe_cal c__law_taken (hr.mono (by decide)) (by rfl) pass0 (pa_cons (pv 0) (pa_cons (pe_callB (call_lenK K rfl) (by rfl) m_len (by decide +kernel) (pa_cons (pv 1) pa_nil)) pa_nil))) (fun _ _ => rfl)))), ?_⟩
    have kis : KIs K := ⟨⟩
    obtain ⟨r, a, ns, vk, ds, rfl, R, hk, hne, nl, l0, l1, q⟩ := h
    obtain ⟨l, us, rfl, hs, hds⟩ := dp_lst_inv hk
    have lr : l ∉ [r] := fun w => hne (by rw [List.mem_singleton.mp w])
    refine ⟨_, rfl, _, rfl, (ev_int (K := K) (ed_cb (eds_cons (ed_var rfl hk) eds_nil) rc_lenL)) H (Ex.refl H) _ fun H1 e1 => ?_⟩
    refine ⟨r, a, ns, (ds.length : Int), rfl, R.ex e1, by omega, by omega, fun n H2 h0 h2 R2 b2 => ?_⟩
    obtain ⟨i, rfl⟩ : ∃ i : Nat, n = (i : Int) := ⟨n.toNat, by omega⟩
    have hi : i < ds.length := by omega
    have b := ExB.trans (.of e1) b2
    obtain ⟨v, g1, g2⟩ := dpa_get hds (List.getElem?_eq_getElem hi)
    have tx : TEx H H2 := b.tex (fun p hp => by
      obtain ⟨i, m, c, hr, _⟩ := R.at_
      rw [List.mem_singleton.mp hp]; exact not_tup_lst hr)
    refine ⟨l, us, (i : Int), v, rfl, rfl, b.seqL lr hs, atI_nat g1, ?_⟩
    exact q _ (List.getElem_mem hi) v H2 R2 b (Dpt g2 (noLs_mem nl _ (List.getElem_mem hi)) tx)
def sp__law_words (K : PySem.W.Frag) : Sp := spN K fun ds es => ds = [] ∧ es = WORDS.map PyData.str
abbrev nm_law_words : List Str := ["_law_some"]
abbrev st_law_words : Stmt := st__law_words
theorem sc_law_words : FnScope nm_law_words [] (defScope st__law_words) := ⟨rfl, rfl, rfl, by decide +kernel, rfl, by decide +kernel, by decide +kernel⟩
theorem ok__law_words (F : Def K mg "_law_words" st__law_words) : Cal P w K mg base CX0 1 "_law_words" [] (sp__law_words K) := by
  refine F.ok sc_law_words (fun vs H Q E h => ?_) (fun _ _ _ _ _ _ us hl => match us, hl with | [], _ => rfl) (fun f cdv A outer s H vs Q E hr h => ?_)
  · exact spN_len h (by rintro ds d ⟨rfl, _⟩; rfl)
  · refine ⟨_, PSs.nox (pss_cons (ps_set (i := 0) sc_law_words.nd rfl (Or.inl rfl) (pe_lst (pa_cons pe_str (pa_cons pe_str (pa_cons pe_str (pa_cons pe_str (pa_cons pe_str (pa_cons pe_str (pa_cons pe_str (pa_cons pe_str (pa_cons pe_str (pa_cons pe_str pa_nil)))))))))))) (pss_one (ps_ret (pe_op op_cat (pv 0) (pe_lst (pa_cons pe_str (pa_cons pe_str pa_nil))))))), ?_⟩
    have kis : KIs K := ⟨⟩
    obtain ⟨ds, es, hd, ⟨rfl, rfl⟩, q⟩ := h
    cases hd
    refine q_asgN (K := K) (ds := [.str "blocks", .str "drop", .str "drop looked", .str "far", .str "hands", .str "lend looked", .str "move looked", .str "set", .str "set looked", .str "share"]) (en_lst (by walk_at "es") (by simp)) (fun p us H1 hp e1 h1 a1 => ?_)
    exact s_retN (K := K) (ds := WORDS.map PyData.str) (en_cat (ds := [.str "blocks", .str "drop", .str "drop looked", .str "far", .str "hands", .str "lend looked", .str "move looked", .str "set", .str "set looked", .str "share"]) (es := [.str "two names", .str "use lent"]) (ep_var rfl h1 a1) (en_lst (by walk_at "es") (by simp)).ep (by decide)) (fun p us H2 hp2 e2 h2 a2 => q p us H2 (fresh_back e1 hp2) (e1.trans e2) h2 a2)
end
end Ow

namespace Ow
open PySem PySem.Spec PyProof.Rows L2 Evl
local macro_rules | `(tactic| walk_at "as") => `(tactic| first
  | assumption
  | exact Dp.int _ | exact Dp.str _ | exact Dp.bl _ | exact Dp.non
  | exact Dpx (by assumption) (by assumption)
  | exact Dpx (by assumption) (Ex.trans (by assumption) (by assumption)))
local macro_rules | `(tactic| walk_at "ev") => `(tactic| first
  | ((with_reducible show EvD _ (L2.tVar _) _ _ _); exact ed_var rfl (by walk_at "as"))
  | ((with_reducible show EvD _ (L2.tC _) _ _ _); first | exact ed_int | exact ed_str | exact ed_bl | exact ed_non | exact ed_c (by walk_at "as"))
  | ((with_reducible show EvD _ (L2.tCB (rIsi _) _) _ _ _); exact ed_isi (by walk_at "ev"))
  | ((with_reducible show EvD _ (L2.tCB (rIsiT _) _) _ _ _); exact ed_isi2 (by walk_at "ev"))
  | ((with_reducible show EvD _ (L2.tCB _ _) _ _ _); exact ed_cb (by walk_at "es") (by walk_at "rc"))
  | ((with_reducible show EvD _ (L2.tOp _ _ _) _ _ _); exact ed_op (by walk_at "ev") (by walk_at "ev") (by walk_at "rd"))
  | ((with_reducible show EvD _ (L2.tAndV _ _) _ _ _); exact ed_and (by walk_at "ev") (fun _ => by walk_at "ev"))
  | ((with_reducible show EvD _ (L2.tOrV _ _) _ _ _); exact ed_or (by walk_at "ev") (fun _ => by walk_at "ev"))
  | ((with_reducible show EvD _ (L2.tNotV _) _ _ _); exact ed_not (by walk_at "ev"))
  | ((with_reducible show EvD _ (L2.tIf _ _ _) _ _ _); exact ed_if (by walk_at "et") (fun _ => by walk_at "ev") (fun _ => by walk_at "ev"))
  | ((with_reducible show EvD _ (L2.tTup _) _ _ _); exact ed_tup (by walk_at "es") (by simp))
  | ((with_reducible show EvD _ (L2.tChain _ _ _ _ _) _ _ _); exact ed_chain (by walk_at "ev") (by walk_at "ev") (by walk_at "rd") (fun _ => by walk_at "ev") (by walk_at "rd"))
  | ((with_reducible show EvD _ (L2.tCall _ _ _ _) _ _ _); exact ed_call (by walk_at "es") (by walk_at "sp")))
local macro_rules | `(tactic| walk_at "es") => `(tactic| first
  | ((with_reducible show EvDs _ L2.tNil _ _ _); exact eds_nil)
  | exact eds_cons (by walk_at "ev") (by walk_at "es"))
local macro_rules | `(tactic| walk_at "rd") => `(tactic| first
  | ((with_reducible show RD _ rEq _ _ _ _); first | exact rd_eqS | exact rd_eqI)
  | ((with_reducible show RD _ rNe _ _ _ _); first | exact rd_neS | exact rd_neI)
  | ((with_reducible show RD _ (rIxT _) _ _ _ _); exact rd_ixT (by first | exact atD_0 | exact atD_1 | exact atD_2 | rfl | assumption))
  | ((with_reducible show RD _ (rIxL _) _ _ _ _); exact rd_ixL (by first | exact atD_0 | exact atD_1 | exact atD_2 | rfl | assumption))
  | ((with_reducible show RD _ (rEqD _) _ _ _ _); exact rd_eqD (by first | rfl | assumption) (by first | rfl | assumption))
  | ((with_reducible show RD _ (rNeD _) _ _ _ _); exact rd_neD (by first | rfl | assumption) (by first | rfl | assumption))
  | ((with_reducible show RD _ (rIn _ _) _ _ _ _); first | exact rd_inS | exact rd_niS | exact rd_inSL | exact rd_niSL)
  | ((with_reducible show RD _ (rCatA _) _ _ _ _); exact rd_catA (by first | (simp; done) | (simp; omega) | omega))
  | ((with_reducible show RD _ (rI _ _) _ _ _ _); exact rd_intC (by first | assumption | (show (0 : Int) < _; decide)))
  | exact rd_cmp | exact rd_int | exact rd_isN | exact rd_notN)
local macro_rules | `(tactic| walk_at "rc") => `(tactic| first
  | exact rc_lenT | exact rc_lenL | exact rc_all | exact rc_any | exact rc_tupL | exact rc_lenS (by assumption) | exact rc_int1 | exact rc_intB)
local macro_rules | `(tactic| walk_at "et") => `(tactic| first
  | ((with_reducible show EvT (L2.tB _) _ _ _); exact et_edBK (by assumption) (by walk_at "ev"))
  | ((with_reducible show EvT (L2.tTest _) _ _ _); exact et_edK (by assumption) (by walk_at "ev"))
  | ((with_reducible show EvT (L2.tNot _) _ _ _); exact et_not (by walk_at "et"))
  | ((with_reducible show EvT (L2.tAnd _ _) _ _ _); exact et_and (by walk_at "et") (fun _ => by walk_at "et"))
  | ((with_reducible show EvT (L2.tOr _ _) _ _ _); exact et_or (by walk_at "et") (fun _ => by walk_at "et")))
local macro_rules | `(tactic| walk_at "sp") => `(tactic| first
  | exact ⟨_, rfl, rfl⟩ | exact ⟨_, _, rfl, rfl⟩ | exact ⟨_, _, _, rfl, rfl⟩ | exact ⟨_, _, _, _, rfl, rfl⟩
  | exact ⟨_, rfl, by assumption, rfl⟩ | exact ⟨_, rfl, by assumption, by assumption, rfl⟩ | exact ⟨_, _, rfl, by assumption, rfl⟩ | exact ⟨_, _, _, rfl, by assumption, rfl⟩)
local macro_rules | `(tactic| walk_at "shb") => `(tactic| first
  | exact ShB.nil
  | (refine ShB.pl ⟨by decide, by decide, by decide⟩ (by first | (intro h; exact absurd h (by decide)) | (intro _; refine ⟨?_, ?_⟩ <;> (dsimp only [wordOf]; decide +kernel))) ?_; walk_at "shb")
  | (refine ShB.block (by decide) (by decide) ?_ ?_ <;> walk_at "shb")
  | (refine ShB.hands rfl (by decide) (by decide) ?_ ?_ ?_ <;> walk_at "shb"))

section
variable {P : Program} {w : World} {K : PySem.W.Frag} {mg : Str → Option Value} {base : Heap}

def DesOk (ws : List Str) : Prop := ws.Nodup ∧ (∀ w ∈ ws, w ∈ WORDS) ∧ sortedS ws = true
section
variable {σ : L2.St} {H : Hp} {tm : TE} {i : Nat} {r a : Addr} {ns : List Int} {many : Int}
theorem t_taken {Q : Bool → Hp → Prop} (R : RowAt K a ns H r) (hr : σ[i]? = some (some (.ref r))) (hm : EvD K tm σ H (.int many)) (h0 : 0 < many) (h1 : many ≤ 100000) (k : ∀ b H', RowAt K a ns H' r → ExB [r] H H' → Q b H') :
    (tTest (tOp rEq (tCall (sp__law_taken K) [] E0 (tCons (tVar i) (tCons tm tNil))) (tC (.int 0)))) σ H Q := by
  refine ⟨_, hr, (ev_int hm) H (Ex.refl H) _ fun H1 e1 => ⟨r, a, ns, many, rfl, R.ex e1, h0, h1, fun n H2 _ _ R2 b2 => ⟨rfl, decide (V.int n = V.int 0), rfl, k _ H2 R2 (ExB.trans (.of e1) b2)⟩⟩⟩
theorem q_ifTaken {tu tw tz : TS} {Dn : Ends} (R : RowAt K a ns H r) (hr : σ[i]? = some (some (.ref r))) (hm : EvD K tm σ H (.int many)) (h0 : 0 < many) (h1 : many ≤ 100000) (k1 : ∀ H', RowAt K a ns H' r → ExB [r] H H' → tu { Dn with nx := tz Dn } σ H') (k2 : ∀ H', RowAt K a ns H' r → ExB [r] H H' → tw { Dn with nx := tz Dn } σ H') :
    tSeq (tIfS (tTest (tOp rEq (tCall (sp__law_taken K) [] E0 (tCons (tVar i) (tCons tm tNil))) (tC (.int 0)))) tu tw) tz Dn σ H := t_taken R hr hm h0 h1 fun b H' R' b' => by
  cases b with
  | true => exact iteT (k1 H' R' b')
  | false => exact iteF (k2 H' R' b')
theorem RowAt.dpx (R : RowAt K a ns H r) : ∀ p ∈ [r], ∀ xs, ¬ Rd H p (.tup xs) := fun p hp => by
  obtain ⟨i, m, c, hr, _⟩ := R.at_
  rw [List.mem_singleton.mp hp]; exact not_tup_lst hr
theorem RowAt.keepF {H0 : Hp} {p : Addr} {o : L2.HO} (h0 : RowAt K a ns H0 r) (hp : H0 p = none) (h : RowAt K a ns H r) : RowAt K a ns (upd H p o) r := by
  have hr : r ∉ [p] := fun z => by
    obtain ⟨i, m, c, hr, _⟩ := h0.at_
    rw [List.mem_singleton.mp z, hp] at hr; cases hr
  obtain ⟨i, m, c, h2, b⟩ := h.at_
  refine ⟨?_, h.ne, ⟨i, m, c, (ExB.upd List.mem_cons_self : ExB [p] H _) _ _ hr h2, b⟩, h.len⟩
  have na : ∀ o, H0 a = some o → a ∉ [p] := fun o ho z => by rw [List.mem_singleton.mp z, hp] at ho; cases ho
  rcases h0.sc with (h1 | ⟨o, h1⟩) | h1
  · exact (ExB.upd List.mem_cons_self : ExB [p] H _).seqL (na _ h1) h.sc
  · exact (ExB.upd List.mem_cons_self : ExB [p] H _).seqL (na _ h1) h.sc
  · exact .inr h1
theorem ret_sorted {Dn : Ends} {p : Addr} {l : List Str} (hi : σ[i]? = some (some (.ref p))) (hp : H p = some (.lst (l.map V.str))) (hl : l.length ≤ 16) (hn : l.Nodup) (hw : ∀ w ∈ l, w ∈ WORDS)
    (k : ∀ ws v H', DesOk ws → Ex H H' → Dp K H' v (.tuple (ws.map PyData.str)) → Dn.rt v H') :
    tRet (tCB (fun xs H Q => ∃ p ys, xs = [V.ref p] ∧ ((SqL K H p ys ∧ ∀ (l : Addr), H l = none → Q (V.ref l) (upd H l (HO.tup ys))) ∨ SqT K H p ys ∧ Q (V.ref p) H)) (tCons (tCB (rSortedS K) (tCons (tVar i) tNil)) tNil)) Dn σ H := by
  refine ⟨_, hi, p, l, rfl, sq_of hp, by omega, fun ys q hperm hs hq => ⟨q, ys.map V.str, rfl, .inl ⟨sq_of upd_same, fun t ht => ?_⟩⟩⟩
  exact k ys _ _ ⟨hperm.nodup_iff.mpr hn, fun w hw2 => hw w (hperm.mem_iff.mp hw2), hs⟩ ((Ex.new hq).trans (Ex.new ht)) (dp_tup upd_same (dpa_strs ys))
theorem RowAt.nref (R : RowAt K a ns H r) {p : Addr} (h : H p = none) : p ≠ r := fun z => by
  obtain ⟨i, m, c, hr, _⟩ := R.at_
  rw [z, hr] at h; cases h
end
theorem words_nodup : WORDS.Nodup := by decide +kernel

def sp__law_design (K : PySem.W.Frag) : Sp := fun vs H Q _ => ∃ (r a : Addr) (ns : List Int), vs = [.ref r] ∧ RowAt K a ns H r ∧ ∀ ws v H', DesOk ws → Dp K H' v (.tuple (ws.map PyData.str)) → RowAt K a ns H' r → ExB [r] H H' → Q v H'
abbrev nm_law_design : List Str := ["_law_row", "_law_odds", "_law_found", "_law_word"]
abbrev st_law_design : Stmt := st__law_design
theorem sc_law_design : FnScope nm_law_design ["_law_row"] (defScope st__law_design) := ⟨rfl, rfl, rfl, by decide +kernel, rfl, by decide +kernel, by decide +kernel⟩
theorem ok__law_design (F : Def K mg "_law_design" st__law_design) (c__law_pick : Cal P w K mg base CX0 2 "_law_pick" ["_law_row", "_law_kinds"] (sp__law_pick K)) (c__law_words : Cal P w K mg base CX0 1 "_law_words" [] (sp__law_words K)) (c__law_taken : Cal P w K mg base CX0 1 "_law_taken" ["_law_row", "_law_many"] (sp__law_taken K)) (m_tuple : mg "tuple" = none) (m_sorted : mg "sorted" = none) : Cal P w K mg base CX0 3 "_law_design" ["_law_row"] (sp__law_design K) := by
  refine F.ok sc_law_design (fun vs H Q E h => ?_) (fun _ _ _ _ _ _ us hl => match us, hl with | [_], _ => rfl) (fun f cdv A outer s H vs Q E hr h => ?_)
  · obtain ⟨r, a, ns, rfl, _⟩ := h; rfl
  · refine ⟨_, PSs.nox (pss_cons (ps_set (i := 1) sc_law_design.nd rfl (Or.inr rfl) (pe_cal c__law_pick (hr.mono (by decide)) (by rfl) pass0 (pa_cons (pv 0) (pa_cons (pe_lst (pa_cons pe_int (pa_cons pe_int (pa_cons pe_int pa_nil)))) pa_nil)))) (pss_cons (ps_set (i := 2) sc_law_design.nd rfl (Or.inr rfl) (pe_lc (own := [("_law_word", 3)]) (tt := _) rfl sc_law_design.nd (pi_listK K rfl (pe_cal0 c__law_words (hr.mono (by decide)) (by rfl) pass0)) (blkOk_by (by first | (show blkC nm_law_design (defScope st_law_design) _ _ = true; decide +kernel) | rfl)) (fun _ _ _ _ _ => (pg_name (i := 3) sc_law_design.nd rfl (Or.inl rfl))) (fun _ _ _ _ _ => pts_one (pt_cmpR op_eq (pe_cal c__law_taken (hr.mono (by decide)) (by rfl) pass0 (pa_cons (pv 0) (pa_cons (pv 1) pa_nil))) pe_int (nomark _))) (fun _ _ _ _ _ => (pv 3)))) (pss_cons (ps_if (pt_cmpR op_eq (pe_cal c__law_taken (hr.mono (by decide)) (by rfl) pass0 (pa_cons (pv 0) (pa_cons pe_int pa_nil))) pe_int (nomark _)) (pss_one (ps_set (i := 2) sc_law_design.nd rfl (Or.inr rfl) (pe_op op_cat (pv 2) (pe_lc (own := [("_law_word", 3)]) (tt := _) rfl sc_law_design.nd (pi_listK K rfl (pe_lst (pa_cons pe_str (pa_cons pe_str (pa_cons pe_str (pa_cons pe_str pa_nil)))))) (blkOk_by (by first | (show blkC nm_law_design (defScope st_law_design) _ _ = true; decide +kernel) | rfl)) (fun _ _ _ _ _ => (pg_name (i := 3) sc_law_design.nd rfl (Or.inl rfl))) (fun _ _ _ _ _ => pts_one (pt_cmpR (op_niK K rfl) (pv 3) (pv 2) (by rfl))) (fun _ _ _ _ _ => (pv 3)))))) pss_nil) (pss_one (ps_ret (pe_callTy (call_tupleK K rfl) (by rfl) m_tuple (by decide +kernel) (pa_cons (pe_callB (cr_sortedSK K rfl) (by rfl) m_sorted (by decide +kernel) (pa_cons (pv 2) pa_nil)) pa_nil))))))), ?_⟩
    have kis : KIs K := ⟨⟩
    obtain ⟨r, a, ns, rfl, R, q⟩ := h
    refine ⟨_, rfl, (en_lst (K := K) (ds := [.int 2, .int 2, .int 3]) (by walk_at "es") (by simp)) H (Ex.refl H) _ fun pk us H1 hp e1 h1 a1 => ?_⟩
    refine ⟨r, a, ns, .ref pk, [.int 2, .int 2, .int 3], rfl, R.ex e1, dp_lst h1 a1, fun z => R.nref hp (V.ref.inj z), rfl, by decide, by decide, fun d hd v H2 R2 b2 hv => ?_⟩
    obtain ⟨od, rfl, ho1, ho2⟩ : ∃ o, d = .int o ∧ 0 < o ∧ o ≤ 100000 := by
      rcases List.mem_cons.mp hd with z | z
      · exact ⟨2, z, by decide, by decide⟩
      · rcases List.mem_cons.mp z with z | z
        · exact ⟨2, z, by decide, by decide⟩
        · exact ⟨3, List.mem_singleton.mp z, by decide, by decide⟩
    cases hv
    have b02 : ExB [r] H H2 := ExB.trans (.of e1) b2
    have hwords : EvN K (tCall (sp__law_words K) [] E0 tNil) [some (.ref r), some (.int od), none, none] H2 (WORDS.map PyData.str) := en_call (R := fun ds es => ds = [] ∧ es = WORDS.map PyData.str) eds_nil ⟨rfl, rfl⟩
    refine q_asgLcI hwords (fun pw us H3 hpw e3 h3 a3 Dl hD => ?_)
    have eus := dpa_strs_inv a3
    have R3 := R2.ex e3
    have nDr : Dl ≠ r := R3.nref hD
    refine ⟨fun i H' => RowAt K a ns H' r ∧ ExB [r] H3 H' ∧ ∃ l : List Str, l.Sublist (WORDS.take i) ∧ H' Dl = some (.lst (l.map V.str)), ⟨R3.ex (Ex.new hD), .of (Ex.new hD), [], List.Sublist.refl _, upd_same⟩, fun i H' _ p => ?_, fun i x H' hi p => ?_, fun H' p => ?_⟩
    · exact p.2.1.seqL (fun z => R2.nref hpw (List.mem_singleton.mp z)) (sq_of h3)
    · obtain ⟨R', b', l, hl, hDl⟩ := p
      rw [eus, List.getElem?_map] at hi
      obtain ⟨w, hw, rfl⟩ := Option.map_eq_some_iff.mp hi
      have e9 : WORDS.take (i + 1) = WORDS.take i ++ [w] := by rw [List.take_add_one, hw]; rfl
      refine ⟨rfl, t_taken (K := K) (σ := [some (.ref r), some (.int od), none, some (.str w)]) R' rfl (ed_var rfl (.int od)) ho1 ho2 (fun bb H4 R4 b4 => ?_)⟩
      have hD4 : H4 Dl = some (.lst (l.map V.str)) := b4 _ _ (by simpa using nDr) hDl
      cases bb with
      | false => exact iteF ⟨R4, ExB.trans b' b4, l, by rw [e9]; exact hl.trans (List.sublist_append_left _ _), hD4⟩
      | true =>
        refine iteT ⟨_, rfl, l.map V.str, hD4, ?_, R3.keepF hD R4, ?_, l ++ [w], by rw [e9]; exact List.Sublist.append hl (List.Sublist.refl _), by rw [List.map_append]; exact upd_same⟩
        · rw [List.length_map]
          have h1 := hl.length_le
          have h2 := List.length_take_le i WORDS
          have h3 : WORDS.length = 12 := rfl
          have h4 : (WORDS.take i).length ≤ WORDS.length := by rw [List.length_take]; exact Nat.min_le_right _ _
          exact sz_lt (by omega)
        · intro x o hx hh
          have : x ≠ Dl := fun z => by rw [z, hD] at hh; cases hh
          rw [upd_ne this]
          exact (ExB.trans b' b4) x o hx hh
    obtain ⟨R4, b4, l, hl, hDl⟩ := p
    have lenW : WORDS.length = 12 := rfl
    have hl2 : l.Sublist WORDS := by
      rw [eus, List.length_map] at hl
      rw [List.take_length] at hl
      exact hl
    have b04 := ExB.trans (ExB.trans b02 (.of e3)) b4
    have ln := hl2.length_le
    have nd : l.Nodup := List.Pairwise.sublist hl2 words_nodup
    have hsub : ∀ w ∈ l, w ∈ WORDS := fun w hw => hl2.subset hw
    refine q_ifTaken (K := K) R4 rfl (ed_int (i := 2)) (by decide) (by decide) (fun H5 R5 b5 => ?_) (fun H5 R5 b5 => ?_)
    case refine_2 =>
      have b05 := ExB.trans b04 b5
      have hD5 : H5 Dl = some (.lst (l.map V.str)) := b5 _ _ (by simpa using nDr) hDl
      exact ret_sorted (K := K) rfl hD5 (by omega) nd hsub (fun ws v H' d e hv => q ws v H' d hv (R5.ex e) (ExB.trans b05 (.of e)))
    have b05 := ExB.trans b04 b5
    have hD5 : H5 Dl = some (.lst (l.map V.str)) := b5 _ _ (by simpa using nDr) hDl
    refine s_asgN (K := K) (ds := l.map PyData.str ++ ((["blocks", "drop", "hands", "set"] : List Str).filter fun w => !decide (w ∈ l)).map PyData.str) (en_cat (ep_var rfl hD5 (dpa_strs l)) ?_ ?_) (fun p6 us6 H6 hp6 e6 h6 a6 => ?_)
    · have := filt_strs (p := fun z => !((l.map PyData.str).any fun y => PyData.eqv y z)) (f := fun w => !decide (w ∈ l)) (fun m => by rw [any_str]) ["blocks", "drop", "hands", "set"]
      rw [← this]
      refine (en_filtL (K := K) (j := 3) (vs := [3]) _ id (ed_lst (by walk_at "es") (by simp)) (by decide) (fun z hz => ?_) (fun _ => rfl) (fun x z H6 e6 hz hx => ?_) (fun x z H6 e6 hz hx _ => ed_var (i := 3) rfl hx)).ep
      · obtain ⟨y, _, rfl⟩ := List.mem_map.mp hz
        rfl
      · obtain ⟨y, _, rfl⟩ := List.mem_map.mp hz
        have h9 : Dp K H6 (.ref Dl) (.list (l.map PyData.str)) := dp_lst (e6 _ _ hD5) (dpa_strs _)
        exact et_is (et_edK kis (ed_op (ed_var (i := 3) rfl hx) (ed_var (i := 2) rfl h9) (rd_inL rfl (flat_strs _)))) (by rfl)
    · rw [List.length_map, List.length_map]
      have := List.length_filter_le (fun w => !decide (w ∈ l)) (["blocks", "drop", "hands", "set"] : List Str)
      have h4 : (["blocks", "drop", "hands", "set"] : List Str).length = 4 := rfl
      omega
    have h6b : H6 p6 = some (.lst ((l ++ (["blocks", "drop", "hands", "set"] : List Str).filter fun w => !decide (w ∈ l)).map V.str)) := by
      rw [← List.map_append] at a6
      rw [dpa_strs_inv a6] at h6
      exact h6
    have hX : ∀ w ∈ (["blocks", "drop", "hands", "set"] : List Str), w ∈ WORDS := by decide +kernel
    have hXn : (["blocks", "drop", "hands", "set"] : List Str).Nodup := by decide +kernel
    refine ret_sorted (K := K) rfl h6b ?_ ?_ ?_ (fun ws v H' d e hv => q ws v H' d hv (R5.ex (e6.trans e)) (ExB.trans b05 (.of (e6.trans e))))
    · rw [List.length_append]
      have := List.length_filter_le (fun w => !decide (w ∈ l)) (["blocks", "drop", "hands", "set"] : List Str)
      have h4 : (["blocks", "drop", "hands", "set"] : List Str).length = 4 := rfl
      omega
    · refine List.nodup_append.mpr ⟨nd, List.Pairwise.sublist List.filter_sublist hXn, fun x hx y hy z => ?_⟩
      have := (List.mem_filter.mp hy).2
      rw [← z, decide_eq_true hx] at this
      cases this
    · intro w hw
      rcases List.mem_append.mp hw with h | h
      · exact hsub w h
      · exact hX w (List.mem_filter.mp h).1
end
end Ow

namespace Ow
open PySem PySem.Spec PyProof.Rows L2 Evl
local macro_rules | `(tactic| walk_at "as") => `(tactic| first
  | assumption
  | exact Dp.int _ | exact Dp.str _ | exact Dp.bl _ | exact Dp.non
  | exact Dpx (by assumption) (by assumption)
  | exact Dpx (by assumption) (Ex.trans (by assumption) (by assumption)))
local macro_rules | `(tactic| walk_at "ev") => `(tactic| first
  | ((with_reducible show EvD _ (L2.tVar _) _ _ _); exact ed_var rfl (by walk_at "as"))
  | ((with_reducible show EvD _ (L2.tC _) _ _ _); first | exact ed_int | exact ed_str | exact ed_bl | exact ed_non | exact ed_c (by walk_at "as"))
  | ((with_reducible show EvD _ (L2.tCB (rIsi _) _) _ _ _); exact ed_isi (by walk_at "ev"))
  | ((with_reducible show EvD _ (L2.tCB (rIsiT _) _) _ _ _); exact ed_isi2 (by walk_at "ev"))
  | ((with_reducible show EvD _ (L2.tCB _ _) _ _ _); exact ed_cb (by walk_at "es") (by walk_at "rc"))
  | ((with_reducible show EvD _ (L2.tOp _ _ _) _ _ _); exact ed_op (by walk_at "ev") (by walk_at "ev") (by walk_at "rd"))
  | ((with_reducible show EvD _ (L2.tAndV _ _) _ _ _); exact ed_and (by walk_at "ev") (fun _ => by walk_at "ev"))
  | ((with_reducible show EvD _ (L2.tOrV _ _) _ _ _); exact ed_or (by walk_at "ev") (fun _ => by walk_at "ev"))
  | ((with_reducible show EvD _ (L2.tNotV _) _ _ _); exact ed_not (by walk_at "ev"))
  | ((with_reducible show EvD _ (L2.tIf _ _ _) _ _ _); exact ed_if (by walk_at "et") (fun _ => by walk_at "ev") (fun _ => by walk_at "ev"))
  | ((with_reducible show EvD _ (L2.tTup _) _ _ _); exact ed_tup (by walk_at "es") (by simp))
  | ((with_reducible show EvD _ (L2.tChain _ _ _ _ _) _ _ _); exact ed_chain (by walk_at "ev") (by walk_at "ev") (by walk_at "rd") (fun _ => by walk_at "ev") (by walk_at "rd"))
  | ((with_reducible show EvD _ (L2.tCall _ _ _ _) _ _ _); exact ed_call (by walk_at "es") (by walk_at "sp")))
local macro_rules | `(tactic| walk_at "es") => `(tactic| first
  | ((with_reducible show EvDs _ L2.tNil _ _ _); exact eds_nil)
  | exact eds_cons (by walk_at "ev") (by walk_at "es"))
local macro_rules | `(tactic| walk_at "rd") => `(tactic| first
  | ((with_reducible show RD _ rEq _ _ _ _); first | exact rd_eqS | exact rd_eqI)
  | ((with_reducible show RD _ rNe _ _ _ _); first | exact rd_neS | exact rd_neI)
  | ((with_reducible show RD _ (rIxT _) _ _ _ _); exact rd_ixT (by first | exact atD_0 | exact atD_1 | exact atD_2 | rfl | assumption))
  | ((with_reducible show RD _ (rIxL _) _ _ _ _); exact rd_ixL (by first | exact atD_0 | exact atD_1 | exact atD_2 | rfl | assumption))
  | ((with_reducible show RD _ (rEqD _) _ _ _ _); exact rd_eqD (by first | rfl | assumption) (by first | rfl | assumption))
  | ((with_reducible show RD _ (rNeD _) _ _ _ _); exact rd_neD (by first | rfl | assumption) (by first | rfl | assumption))
  | ((with_reducible show RD _ (rIn _ _) _ _ _ _); first | exact rd_inS | exact rd_niS | exact rd_inSL | exact rd_niSL)
  | ((with_reducible show RD _ (rCatA _) _ _ _ _); exact rd_catA (by first | (simp; done) | (simp; omega) | omega))
  | ((with_reducible show RD _ (rI _ _) _ _ _ _); exact rd_intC (by first | assumption | (show (0 : Int) < _; decide)))
  | exact rd_cmp | exact rd_int | exact rd_isN | exact rd_notN)
local macro_rules | `(tactic| walk_at "rc") => `(tactic| first
  | exact rc_lenT | exact rc_lenL | exact rc_all | exact rc_any | exact rc_tupL | exact rc_lenS (by assumption) | exact rc_int1 | exact rc_intB)
local macro_rules | `(tactic| walk_at "et") => `(tactic| first
  | ((with_reducible show EvT (L2.tB _) _ _ _); exact et_edBK (by assumption) (by walk_at "ev"))
  | ((with_reducible show EvT (L2.tTest _) _ _ _); exact et_edK (by assumption) (by walk_at "ev"))
  | ((with_reducible show EvT (L2.tNot _) _ _ _); exact et_not (by walk_at "et"))
  | ((with_reducible show EvT (L2.tAnd _ _) _ _ _); exact et_and (by walk_at "et") (fun _ => by walk_at "et"))
  | ((with_reducible show EvT (L2.tOr _ _) _ _ _); exact et_or (by walk_at "et") (fun _ => by walk_at "et")))
local macro_rules | `(tactic| walk_at "sp") => `(tactic| first
  | exact ⟨_, rfl, rfl⟩ | exact ⟨_, _, rfl, rfl⟩ | exact ⟨_, _, _, rfl, rfl⟩ | exact ⟨_, _, _, _, rfl, rfl⟩
  | exact ⟨_, rfl, by assumption, rfl⟩ | exact ⟨_, rfl, by assumption, by assumption, rfl⟩ | exact ⟨_, _, rfl, by assumption, rfl⟩ | exact ⟨_, _, _, rfl, by assumption, rfl⟩)
local macro_rules | `(tactic| walk_at "shb") => `(tactic| first
  | exact ShB.nil
  | (refine ShB.pl ⟨by decide, by decide, by decide⟩ (by first | (intro h; exact absurd h (by decide)) | (intro _; refine ⟨?_, ?_⟩ <;> (dsimp only [wordOf]; decide +kernel))) ?_; walk_at "shb")
  | (refine ShB.block (by decide) (by decide) ?_ ?_ <;> walk_at "shb")
  | (refine ShB.hands rfl (by decide) (by decide) ?_ ?_ ?_ <;> walk_at "shb"))

section
variable {P : Program} {w : World} {K : PySem.W.Frag} {mg : Str → Option Value} {base : Heap}

def LOTS : List (List Str × List St) := [(["blocks", "far"], [.pl (.box 0 1), .pl (.look 1 0), .block [.pl (.box 2 2), .pl (.aim 1 2)], .pl (.show 1)]),
  (["blocks", "hands", "share"], [.pl (.box 0 1), .hands [.block [.pl (.move 1 0)]] [.pl (.show 0)]]),
  (["blocks", "move looked"], [.pl (.box 0 1), .pl (.look 1 0), .block [.pl (.move 2 0)], .pl (.show 1)]),
  (["blocks", "two names"], [.pl (.box 0 1), .block [.pl (.move 1 0)], .pl (.show 0)]),
  (["blocks", "use lent"], [.pl (.box 0 1), .pl (.lend 1 0), .block [.pl (.move 2 0)], .pl (.show 1)]),
  (["drop", "drop looked"], [.pl (.box 0 1), .pl (.look 1 0), .pl (.drop 0), .pl (.show 1)]),
  (["drop", "hands", "share"], [.pl (.box 0 1), .hands [.pl (.drop 0)] [.pl (.show 0)]]),
  (["drop", "move looked"], [.pl (.box 0 1), .pl (.look 1 0), .pl (.move 2 0), .pl (.drop 2), .pl (.show 1)]),
  (["drop", "two names"], [.pl (.box 0 1), .pl (.move 1 0), .pl (.drop 1), .pl (.show 0)]),
  (["drop", "use lent"], [.pl (.box 0 1), .pl (.lend 1 0), .pl (.drop 0), .pl (.show 1)]),
  (["hands", "set", "share"], [.pl (.box 0 1), .hands [.pl (.set 0 2)] [.pl (.show 0)]]),
  (["lend looked", "set"], [.pl (.box 0 1), .pl (.look 1 0), .pl (.lend 2 0), .pl (.set 2 2), .pl (.show 1)]),
  (["move looked", "set"], [.pl (.box 0 1), .pl (.look 1 0), .pl (.move 2 0), .pl (.set 2 2), .pl (.show 1)]),
  (["set", "set looked"], [.pl (.box 0 1), .pl (.look 1 0), .pl (.set 0 2), .pl (.show 1)]),
  (["set", "two names"], [.pl (.box 0 1), .pl (.move 1 0), .pl (.look 2 0), .pl (.set 1 2), .pl (.show 2)]),
  (["set", "use lent"], [.pl (.box 0 1), .pl (.lend 1 0), .pl (.set 0 2), .pl (.show 1)])]

def sp__law_lots (K : PySem.W.Frag) : Sp := spN K fun ds es => ds = [] ∧ es = LOTS.map fun l => .tuple (l.1.map PyData.str)
abbrev nm_law_lots : List Str := ["_law_found"]
abbrev st_law_lots : Stmt := st__law_lots
theorem sc_law_lots : FnScope nm_law_lots [] (defScope st__law_lots) := ⟨rfl, rfl, rfl, by decide +kernel, rfl, by decide +kernel, by decide +kernel⟩
theorem ok__law_lots (F : Def K mg "_law_lots" st__law_lots) : Cal P w K mg base CX0 1 "_law_lots" [] (sp__law_lots K) := by
  refine F.ok sc_law_lots (fun vs H Q E h => ?_) (fun _ _ _ _ _ _ us hl => match us, hl with | [], _ => rfl) (fun f cdv A outer s H vs Q E hr h => ?_)
  · exact spN_len h (by rintro ds d ⟨rfl, _⟩; rfl)
  · refine ⟨_, PSs.nox (pss_cons (ps_set (i := 0) sc_law_lots.nd rfl (Or.inl rfl) (pe_lst (pa_cons (pe_tup (pa_cons pe_str (pa_cons pe_str pa_nil))) (pa_cons (pe_tup (pa_cons pe_str (pa_cons pe_str (pa_cons pe_str pa_nil)))) (pa_cons (pe_tup (pa_cons pe_str (pa_cons pe_str pa_nil))) (pa_cons (pe_tup (pa_cons pe_str (pa_cons pe_str pa_nil))) pa_nil)))))) (pss_cons (ps_set (i := 0) sc_law_lots.nd rfl (Or.inl rfl) (pe_op op_cat (pv 0) (pe_lst (pa_cons (pe_tup (pa_cons pe_str (pa_cons pe_str pa_nil))) (pa_cons (pe_tup (pa_cons pe_str (pa_cons pe_str pa_nil))) (pa_cons (pe_tup (pa_cons pe_str (pa_cons pe_str (pa_cons pe_str pa_nil)))) (pa_cons (pe_tup (pa_cons pe_str (pa_cons pe_str pa_nil))) pa_nil))))))) (pss_cons (ps_set (i := 0) sc_law_lots.nd rfl (Or.inl rfl) (pe_op op_cat (pv 0) (pe_lst (pa_cons (pe_tup (pa_cons pe_str (pa_cons pe_str pa_nil))) (pa_cons (pe_tup (pa_cons pe_str (pa_cons pe_str pa_nil))) (pa_cons (pe_tup (pa_cons pe_str (pa_cons pe_str (pa_cons pe_str pa_nil)))) (pa_cons (pe_tup (pa_cons pe_str (pa_cons pe_str pa_nil))) pa_nil))))))) (pss_one (ps_ret (pe_op op_cat (pv 0) (pe_lst (pa_cons (pe_tup (pa_cons pe_str (pa_cons pe_str pa_nil))) (pa_cons (pe_tup (pa_cons pe_str (pa_cons pe_str pa_nil))) (pa_cons (pe_tup (pa_cons pe_str (pa_cons pe_str pa_nil))) (pa_cons (pe_tup (pa_cons pe_str (pa_cons pe_str pa_nil))) pa_nil))))))))))), ?_⟩
    have kis : KIs K := ⟨⟩
    obtain ⟨ds, es, hd, ⟨rfl, rfl⟩, q⟩ := h
    cases hd
    refine q_asgN (K := K) (ds := [.tuple [.str "blocks", .str "far"], .tuple [.str "blocks", .str "hands", .str "share"], .tuple [.str "blocks", .str "move looked"], .tuple [.str "blocks", .str "two names"]]) (en_lst (by walk_at "es") (by simp)) (fun p us H1 hp e1 h1 a1 => ?_)
    refine q_asgN (K := K) (ds := [.tuple [.str "blocks", .str "far"], .tuple [.str "blocks", .str "hands", .str "share"], .tuple [.str "blocks", .str "move looked"], .tuple [.str "blocks", .str "two names"], .tuple [.str "blocks", .str "use lent"], .tuple [.str "drop", .str "drop looked"], .tuple [.str "drop", .str "hands", .str "share"], .tuple [.str "drop", .str "move looked"]]) (en_cat (ds := [.tuple [.str "blocks", .str "far"], .tuple [.str "blocks", .str "hands", .str "share"], .tuple [.str "blocks", .str "move looked"], .tuple [.str "blocks", .str "two names"]]) (es := [.tuple [.str "blocks", .str "use lent"], .tuple [.str "drop", .str "drop looked"], .tuple [.str "drop", .str "hands", .str "share"], .tuple [.str "drop", .str "move looked"]]) (ep_var rfl h1 a1) (en_lst (by walk_at "es") (by simp)).ep (by decide)) (fun p2 us2 H2 hp2 e2 h2 a2 => ?_)
    refine q_asgN (K := K) (ds := [.tuple [.str "blocks", .str "far"], .tuple [.str "blocks", .str "hands", .str "share"], .tuple [.str "blocks", .str "move looked"], .tuple [.str "blocks", .str "two names"], .tuple [.str "blocks", .str "use lent"], .tuple [.str "drop", .str "drop looked"], .tuple [.str "drop", .str "hands", .str "share"], .tuple [.str "drop", .str "move looked"], .tuple [.str "drop", .str "two names"], .tuple [.str "drop", .str "use lent"], .tuple [.str "hands", .str "set", .str "share"], .tuple [.str "lend looked", .str "set"]]) (en_cat (ds := [.tuple [.str "blocks", .str "far"], .tuple [.str "blocks", .str "hands", .str "share"], .tuple [.str "blocks", .str "move looked"], .tuple [.str "blocks", .str "two names"], .tuple [.str "blocks", .str "use lent"], .tuple [.str "drop", .str "drop looked"], .tuple [.str "drop", .str "hands", .str "share"], .tuple [.str "drop", .str "move looked"]]) (es := [.tuple [.str "drop", .str "two names"], .tuple [.str "drop", .str "use lent"], .tuple [.str "hands", .str "set", .str "share"], .tuple [.str "lend looked", .str "set"]]) (ep_var rfl h2 a2) (en_lst (by walk_at "es") (by simp)).ep (by decide)) (fun p3 us3 H3 hp3 e3 h3 a3 => ?_)
    exact s_retN (K := K) (ds := LOTS.map fun l => .tuple (l.1.map PyData.str)) (en_cat (ds := [.tuple [.str "blocks", .str "far"], .tuple [.str "blocks", .str "hands", .str "share"], .tuple [.str "blocks", .str "move looked"], .tuple [.str "blocks", .str "two names"], .tuple [.str "blocks", .str "use lent"], .tuple [.str "drop", .str "drop looked"], .tuple [.str "drop", .str "hands", .str "share"], .tuple [.str "drop", .str "move looked"], .tuple [.str "drop", .str "two names"], .tuple [.str "drop", .str "use lent"], .tuple [.str "hands", .str "set", .str "share"], .tuple [.str "lend looked", .str "set"]]) (es := [.tuple [.str "move looked", .str "set"], .tuple [.str "set", .str "set looked"], .tuple [.str "set", .str "two names"], .tuple [.str "set", .str "use lent"]]) (ep_var rfl h3 a3) (en_lst (by walk_at "es") (by simp)).ep (by decide)) (fun p4 us4 H4 hp4 e4 h4 a4 => q p4 us4 H4 (fresh_back ((e1.trans e2).trans e3) hp4) (((e1.trans e2).trans e3).trans e4) h4 a4)
end
end Ow

namespace Ow
open PySem PySem.Spec PyProof.Rows L2 Evl
local macro_rules | `(tactic| walk_at "as") => `(tactic| first
  | assumption
  | exact Dp.int _ | exact Dp.str _ | exact Dp.bl _ | exact Dp.non
  | exact Dpx (by assumption) (by assumption)
  | exact Dpx (by assumption) (Ex.trans (by assumption) (by assumption)))
local macro_rules | `(tactic| walk_at "ev") => `(tactic| first
  | ((with_reducible show EvD _ (L2.tVar _) _ _ _); exact ed_var rfl (by walk_at "as"))
  | ((with_reducible show EvD _ (L2.tC _) _ _ _); first | exact ed_int | exact ed_str | exact ed_bl | exact ed_non | exact ed_c (by walk_at "as"))
  | ((with_reducible show EvD _ (L2.tCB (rIsi _) _) _ _ _); exact ed_isi (by walk_at "ev"))
  | ((with_reducible show EvD _ (L2.tCB (rIsiT _) _) _ _ _); exact ed_isi2 (by walk_at "ev"))
  | ((with_reducible show EvD _ (L2.tCB _ _) _ _ _); exact ed_cb (by walk_at "es") (by walk_at "rc"))
  | ((with_reducible show EvD _ (L2.tOp _ _ _) _ _ _); exact ed_op (by walk_at "ev") (by walk_at "ev") (by walk_at "rd"))
  | ((with_reducible show EvD _ (L2.tAndV _ _) _ _ _); exact ed_and (by walk_at "ev") (fun _ => by walk_at "ev"))
  | ((with_reducible show EvD _ (L2.tOrV _ _) _ _ _); exact ed_or (by walk_at "ev") (fun _ => by walk_at "ev"))
  | ((with_reducible show EvD _ (L2.tNotV _) _ _ _); exact ed_not (by walk_at "ev"))
  | ((with_reducible show EvD _ (L2.tIf _ _ _) _ _ _); exact ed_if (by walk_at "et") (fun _ => by walk_at "ev") (fun _ => by walk_at "ev"))
  | ((with_reducible show EvD _ (L2.tTup _) _ _ _); exact ed_tup (by walk_at "es") (by simp))
  | ((with_reducible show EvD _ (L2.tChain _ _ _ _ _) _ _ _); exact ed_chain (by walk_at "ev") (by walk_at "ev") (by walk_at "rd") (fun _ => by walk_at "ev") (by walk_at "rd"))
  | ((with_reducible show EvD _ (L2.tCall _ _ _ _) _ _ _); exact ed_call (by walk_at "es") (by walk_at "sp")))
local macro_rules | `(tactic| walk_at "es") => `(tactic| first
  | ((with_reducible show EvDs _ L2.tNil _ _ _); exact eds_nil)
  | exact eds_cons (by walk_at "ev") (by walk_at "es"))
local macro_rules | `(tactic| walk_at "rd") => `(tactic| first
  | ((with_reducible show RD _ rEq _ _ _ _); first | exact rd_eqS | exact rd_eqI)
  | ((with_reducible show RD _ rNe _ _ _ _); first | exact rd_neS | exact rd_neI)
  | ((with_reducible show RD _ (rIxT _) _ _ _ _); exact rd_ixT (by first | exact atD_0 | exact atD_1 | exact atD_2 | rfl | assumption))
  | ((with_reducible show RD _ (rIxL _) _ _ _ _); exact rd_ixL (by first | exact atD_0 | exact atD_1 | exact atD_2 | rfl | assumption))
  | ((with_reducible show RD _ (rEqD _) _ _ _ _); exact rd_eqD (by first | rfl | assumption) (by first | rfl | assumption))
  | ((with_reducible show RD _ (rNeD _) _ _ _ _); exact rd_neD (by first | rfl | assumption) (by first | rfl | assumption))
  | ((with_reducible show RD _ (rIn _ _) _ _ _ _); first | exact rd_inS | exact rd_niS | exact rd_inSL | exact rd_niSL)
  | ((with_reducible show RD _ (rCatA _) _ _ _ _); exact rd_catA (by first | (simp; done) | (simp; omega) | omega))
  | ((with_reducible show RD _ (rI _ _) _ _ _ _); exact rd_intC (by first | assumption | (show (0 : Int) < _; decide)))
  | exact rd_cmp | exact rd_int | exact rd_isN | exact rd_notN)
local macro_rules | `(tactic| walk_at "rc") => `(tactic| first
  | exact rc_lenT | exact rc_lenL | exact rc_all | exact rc_any | exact rc_tupL | exact rc_lenS (by assumption) | exact rc_int1 | exact rc_intB)
local macro_rules | `(tactic| walk_at "et") => `(tactic| first
  | ((with_reducible show EvT (L2.tB _) _ _ _); exact et_edBK (by assumption) (by walk_at "ev"))
  | ((with_reducible show EvT (L2.tTest _) _ _ _); exact et_edK (by assumption) (by walk_at "ev"))
  | ((with_reducible show EvT (L2.tNot _) _ _ _); exact et_not (by walk_at "et"))
  | ((with_reducible show EvT (L2.tAnd _ _) _ _ _); exact et_and (by walk_at "et") (fun _ => by walk_at "et"))
  | ((with_reducible show EvT (L2.tOr _ _) _ _ _); exact et_or (by walk_at "et") (fun _ => by walk_at "et")))
local macro_rules | `(tactic| walk_at "sp") => `(tactic| first
  | exact ⟨_, rfl, rfl⟩ | exact ⟨_, _, rfl, rfl⟩ | exact ⟨_, _, _, rfl, rfl⟩ | exact ⟨_, _, _, _, rfl, rfl⟩
  | exact ⟨_, rfl, by assumption, rfl⟩ | exact ⟨_, rfl, by assumption, by assumption, rfl⟩ | exact ⟨_, _, rfl, by assumption, rfl⟩ | exact ⟨_, _, _, rfl, by assumption, rfl⟩)
local macro_rules | `(tactic| walk_at "shb") => `(tactic| first
  | exact ShB.nil
  | (refine ShB.pl ⟨by decide, by decide, by decide⟩ (by first | (intro h; exact absurd h (by decide)) | (intro _; refine ⟨?_, ?_⟩ <;> (dsimp only [wordOf]; decide +kernel))) ?_; walk_at "shb")
  | (refine ShB.block (by decide) (by decide) ?_ ?_ <;> walk_at "shb")
  | (refine ShB.hands rfl (by decide) (by decide) ?_ ?_ ?_ <;> walk_at "shb"))

section
variable {P : Program} {w : World} {K : PySem.W.Frag} {mg : Str → Option Value} {base : Heap}

/-- data that alike looks through: how deep -/
def Al : Nat → D → Prop
  | 0, _ => False
  | n + 1, .tuple ds => ds.length ≤ 40000 ∧ ∀ d ∈ ds, Al n d
  | _ + 1, .list _ => False
  | _ + 1, .str s => PyData.strOk s = true
  | _ + 1, .int _ => True
  | _ + 1, .bool _ => True
  | _ + 1, .none => True
  | _ + 1, .dict _ => False
def sp__law_alike (n : Nat) (K : PySem.W.Frag) : Sp := spD K fun ds d => ∃ x, ds = [x, x] ∧ Al n x ∧ d = .bool true

abbrev nm_law_alike : List Str := ["_law_found", "_law_due", "_law_k"]
abbrev st_law_alike : Stmt := st__law_alike
theorem sc_law_alike : FnScope nm_law_alike ["_law_found", "_law_due"] (defScope st__law_alike) := ⟨rfl, rfl, rfl, by decide +kernel, rfl, by decide +kernel, by decide +kernel⟩
theorem ok__law_alike (n : Nat) (F : Def K mg "_law_alike" st__law_alike) (c__law_alike : Cal P w K mg base CX0 (n + 1) "_law_alike" ["_law_found", "_law_due"] (sp__law_alike n K)) (m_isinstance : mg "isinstance" = none) (m_list : mg "list" = none) (m_tuple : mg "tuple" = none) (m_len : mg "len" = none) (m_range : mg "range" = none) (m_str : mg "str" = none) (m_bool : mg "bool" = none) (m_int : mg "int" = none) : Cal P w K mg base CX0 (n + 2) "_law_alike" ["_law_found", "_law_due"] (sp__law_alike (n + 1) K) := by
  refine F.ok sc_law_alike (fun vs H Q E h => ?_) (fun _ _ _ _ _ _ us hl => match us, hl with | [_, _], _ => rfl) (fun f cdv A outer s H vs Q E hr h => ?_)
  · exact spD_len h (by rintro ds d ⟨_, rfl, _⟩; rfl)
  · refine ⟨_, PSs.nox (pss_cons (ps_if (pt_val (pe_callB (call_isiTK_ K rfl) (by rfl) m_isinstance (by decide +kernel) (pa_cons (pv 1) (pa_cons (pe_tup (pa_cons (pe_bltn (v := .ty "tuple") (by rfl) m_tuple (by decide +kernel) rfl) (pa_cons (pe_bltn (v := .ty "list") (by rfl) m_list (by decide +kernel) rfl) pa_nil))) pa_nil)))) (pss_cons (ps_if (PW.pt (pw_or (pt_not (pt_val (pe_callB (call_isiTK_ K rfl) (by rfl) m_isinstance (by decide +kernel) (pa_cons (pv 0) (pa_cons (pe_tup (pa_cons (pe_bltn (v := .ty "tuple") (by rfl) m_tuple (by decide +kernel) rfl) (pa_cons (pe_bltn (v := .ty "list") (by rfl) m_list (by decide +kernel) rfl) pa_nil))) pa_nil))))) (pw_or1 (pt_cmpR op_ne (pe_callB (call_isiK_ K rfl) (by rfl) m_isinstance (by decide +kernel) (pa_cons (pv 0) (pa_cons (pe_bltn (v := .ty "list") (by rfl) m_list (by decide +kernel) rfl) pa_nil))) (pe_callB (call_isiK_ K rfl) (by rfl) m_isinstance (by decide +kernel) (pa_cons (pv 1) (pa_cons (pe_bltn (v := .ty "list") (by rfl) m_list (by decide +kernel) rfl) pa_nil))) (nomark _))))) (pss_one (ps_ret pe_bl)) pss_nil) (pss_cons (ps_if (pt_cmpR op_ne (pe_callB (call_lenK K rfl) (by rfl) m_len (by decide +kernel) (pa_cons (pv 0) pa_nil)) (pe_callB (call_lenK K rfl) (by rfl) m_len (by decide +kernel) (pa_cons (pv 1) pa_nil)) (nomark _)) (pss_one (ps_ret pe_bl)) pss_nil) (pss_one (ps_ret (pe_cmpR (op_eqDK K rfl hr.units) (pe_lc (own := [("_law_k", 2)]) (tt := _) rfl sc_law_alike.nd (pi_range1 (by rfl) m_range (pa_cons (pe_callB (call_lenK K rfl) (by rfl) m_len (by decide +kernel) (pa_cons (pv 1) pa_nil)) pa_nil)) (blkOk_by (by first | (show blkC nm_law_alike (defScope st_law_alike) _ _ = true; decide +kernel) | rfl)) (fun _ _ _ _ _ => (pg_name (i := 2) sc_law_alike.nd rfl (Or.inl rfl))) (fun _ _ _ _ _ => pts_one (pt_not (pt_val (pe_cal c__law_alike (hr.mono (by omega)) (by rfl) pass0 (pa_cons (pe_ix (ix_tupK K rfl) (pv 0) (pv 2) (fun _ _ => rfl)) (pa_cons (pe_ix (ix_tupK K rfl) (pv 1) (pv 2) (fun _ _ => rfl)) pa_nil)))))) (fun _ _ _ _ _ => (pv 2))) (pe_lst pa_nil) (nomark _)))))) pss_nil) (pss_cons (ps_if (PW.pt (pw_or (pt_cmpR op_isN (pv 1) pe_non (nomark _)) (pw_or1 (pt_val (pe_callB (call_isiK_ K rfl) (by rfl) m_isinstance (by decide +kernel) (pa_cons (pv 1) (pa_cons (pe_bltn (v := .ty "str") (by rfl) m_str (by decide +kernel) rfl) pa_nil))))))) (pss_one (ps_ret (pe_and (pe_cmpR (op_eqDK K rfl hr.units) (pv 0) (pv 1) (nomark _)) (pe_one (pe_cmpR op_eq (pe_callB (call_isiK_ K rfl) (by rfl) m_isinstance (by decide +kernel) (pa_cons (pv 0) (pa_cons (pe_bltn (v := .ty "str") (by rfl) m_str (by decide +kernel) rfl) pa_nil))) (pe_callB (call_isiK_ K rfl) (by rfl) m_isinstance (by decide +kernel) (pa_cons (pv 1) (pa_cons (pe_bltn (v := .ty "str") (by rfl) m_str (by decide +kernel) rfl) pa_nil))) (nomark _)))))) pss_nil) (pss_one (ps_ret (pe_and (pe_callB (call_isiK_ K rfl) (by rfl) m_isinstance (by decide +kernel) (pa_cons (pv 0) (pa_cons (pe_bltn (v := .ty "int") (by rfl) m_int (by decide +kernel) rfl) pa_nil))) (pe_and (pe_cmpR op_eq (pe_callB (call_isiK_ K rfl) (by rfl) m_isinstance (by decide +kernel) (pa_cons (pv 0) (pa_cons (pe_bltn (v := .ty "bool") (by rfl) m_bool (by decide +kernel) rfl) pa_nil))) (pe_callB (call_isiK_ K rfl) (by rfl) m_isinstance (by decide +kernel) (pa_cons (pv 1) (pa_cons (pe_bltn (v := .ty "bool") (by rfl) m_bool (by decide +kernel) rfl) pa_nil))) (nomark _)) (pe_one (pe_cmpR (op_eqDK K rfl hr.units) (pv 0) (pv 1) (nomark _))))))))), ?_⟩
    have kis : KIs K := ⟨⟩
    obtain ⟨ds, d, hd, ⟨x, rfl, ha, rfl⟩, q⟩ := h
    obtain ⟨v, v2, rfl, hv, hv2⟩ := dpa2 hd
    have yes : ∀ H1, Ex H H1 → Q (.bl true) H1 := fun H1 e => q _ H1 e (.bl true)
    cases x with
    | tuple ds =>
      obtain ⟨hl, ha⟩ := ha
      refine q_when (b := true) (et_is (by walk_at "et") (by rfl)) (fun _ H1 e1 => ?_) (fun z => by cases z)
      refine q_when (b := false) (et_is (et_or (b := false) (by walk_at "et") (fun _ => et_edK kis (ed_op (by walk_at "ev") (by walk_at "ev") rd_neB))) (by rfl)) (fun z => by cases z) (fun _ H2 e2 => ?_)
      refine q_when (b := false) (et_is (et_edK kis (ed_op (by walk_at "ev") (by walk_at "ev") rd_neI)) (by simp)) (fun z => by cases z) (fun _ H3 e3 => ?_)
      have e13 := (e1.trans e2).trans e3
      have hv3 := Dpx hv e13
      have fe : (List.range ds.length).filter (fun _ => false) = [] := List.filter_eq_nil_iff.mpr fun _ _ z => by cases z
      have hw3 := Dpx hv2 e13
      refine s_retD (K := K) (d := .bool true) (ed_is (ed_op (EvN.ed (en_filtR (K := K) ds.length (fun _ => false) (fun i => .int i) (by walk_at "es") hl (fun _ _ => rfl) (fun _ => rfl) (fun i H4 e4 hi => ?_) (fun i H4 e4 hi z => by cases z))) (ed_lst eds_nil (by simp)) (rd_eqD (by rw [fe]; rfl) rfl)) (by rw [fe]; rfl)) (fun w H4 e4 hw => by cases hw; exact yes H4 (e13.trans e4))
      have hv4 := Dpx hv3 e4
      have hw4 := Dpx hw3 e4
      obtain ⟨dd, hd⟩ : ∃ dd, ds[i]? = some dd := ⟨ds[i], List.getElem?_eq_getElem hi⟩
      exact et_is (et_not (et_edBK kis (ed_call (eds_cons (ed_op (ed_var rfl hv4) (ed_var rfl (.int _)) (rd_ixT (atD_nat hd))) (eds_cons (ed_op (ed_var rfl hw4) (ed_var rfl (.int _)) (rd_ixT (atD_nat hd))) eds_nil)) ⟨dd, rfl, ha dd (ge_of hd), rfl⟩))) rfl
    | str s =>
      have ss : SeqAt.shaped (.str s) = true := (shp_str (n := 0) ha).shaped (by decide)
      refine q_when (b := false) (et_is (by walk_at "et") (by rfl)) (fun z => by cases z) (fun _ H1 e1 => ?_)
      refine q_when (b := true) (et_is (et_or (by walk_at "et") (fun _ => by walk_at "et")) (by rfl)) (fun _ H2 e2 => ?_) (fun z => by cases z)
      exact s_retD (K := K) (d := .bool true) (ed_is (ed_and (ed_op (by walk_at "ev") (by walk_at "ev") (rd_eqD ss ss)) (fun _ => ed_op (by walk_at "ev") (by walk_at "ev") rd_eqB)) (by simp [PyData.eqv])) (fun w H3 e3 hw => by cases hw; exact yes H3 ((e1.trans e2).trans e3))
    | none =>
      refine q_when (b := false) (et_is (by walk_at "et") (by rfl)) (fun z => by cases z) (fun _ H1 e1 => ?_)
      refine q_when (b := true) (et_is (et_or (by walk_at "et") (fun _ => by walk_at "et")) (by rfl)) (fun _ H2 e2 => ?_) (fun z => by cases z)
      exact s_retD (K := K) (d := .bool true) (ed_is (ed_and (ed_op (by walk_at "ev") (by walk_at "ev") (rd_eqD rfl rfl)) (fun _ => ed_op (by walk_at "ev") (by walk_at "ev") rd_eqB)) (by simp [PyData.eqv])) (fun w H3 e3 hw => by cases hw; exact yes H3 ((e1.trans e2).trans e3))
    | int i =>
      refine q_when (b := false) (et_is (by walk_at "et") (by rfl)) (fun z => by cases z) (fun _ H1 e1 => ?_)
      refine q_when (b := false) (et_is (et_or (by walk_at "et") (fun _ => by walk_at "et")) (by rfl)) (fun z => by cases z) (fun _ H2 e2 => ?_)
      exact s_retD (K := K) (d := .bool true) (ed_is (ed_and (by walk_at "ev") (fun _ => ed_and (ed_op (by walk_at "ev") (by walk_at "ev") rd_eqB) (fun _ => ed_op (by walk_at "ev") (by walk_at "ev") (rd_eqD rfl rfl)))) (by simp [PyData.eqv, isT])) (fun w H3 e3 hw => by cases hw; exact yes H3 ((e1.trans e2).trans e3))
    | bool b =>
      refine q_when (b := false) (et_is (by walk_at "et") (by rfl)) (fun z => by cases z) (fun _ H1 e1 => ?_)
      refine q_when (b := false) (et_is (et_or (by walk_at "et") (fun _ => by walk_at "et")) (by rfl)) (fun z => by cases z) (fun _ H2 e2 => ?_)
      exact s_retD (K := K) (d := .bool true) (ed_is (ed_and (by walk_at "ev") (fun _ => ed_and (ed_op (by walk_at "ev") (by walk_at "ev") rd_eqB) (fun _ => ed_op (by walk_at "ev") (by walk_at "ev") (rd_eqD rfl rfl)))) (by simp [PyData.eqv, isT])) (fun w H3 e3 hw => by cases hw; exact yes H3 ((e1.trans e2).trans e3))
    | list ds => exact absurd ha id
    | dict kvs => exact absurd ha id

theorem vac_alike (F : Def K mg "_law_alike" st__law_alike) : Cal P w K mg base CX0 (1) "_law_alike" ["_law_found", "_law_due"] (sp__law_alike 0 K) :=
  F.ok sc_law_alike (fun vs H Q E h => by exact spD_len h (by rintro ds d ⟨_, rfl, _⟩; rfl)) (fun _ _ _ _ _ _ us hl => match us, hl with | [_, _], _ => rfl) (fun f cdv A outer s H vs Q E hr h => by
    obtain ⟨_, _, _, ⟨_, _, ha, _⟩, _⟩ := h
    exact absurd ha id)
theorem all_alike (F : Def K mg "_law_alike" st__law_alike) (m_isinstance : mg "isinstance" = none) (m_list : mg "list" = none) (m_tuple : mg "tuple" = none) (m_len : mg "len" = none) (m_range : mg "range" = none) (m_str : mg "str" = none) (m_bool : mg "bool" = none) (m_int : mg "int" = none) : ∀ n : Nat, Cal P w K mg base CX0 (n + 1) "_law_alike" ["_law_found", "_law_due"] (sp__law_alike n K)
  | 0 => vac_alike F
  | n + 1 => ok__law_alike (n := n) (F := F) (c__law_alike := all_alike F m_isinstance m_list m_tuple m_len m_range m_str m_bool m_int n) (m_isinstance := m_isinstance) (m_list := m_list) (m_tuple := m_tuple) (m_len := m_len) (m_range := m_range) (m_str := m_str) (m_bool := m_bool) (m_int := m_int)

end
end Ow

namespace Ow
open PySem PySem.Spec PyProof.Rows L2 Evl
local macro_rules | `(tactic| walk_at "as") => `(tactic| first
  | assumption
  | exact Dp.int _ | exact Dp.str _ | exact Dp.bl _ | exact Dp.non
  | exact Dpx (by assumption) (by assumption)
  | exact Dpx (by assumption) (Ex.trans (by assumption) (by assumption)))
local macro_rules | `(tactic| walk_at "ev") => `(tactic| first
  | ((with_reducible show EvD _ (L2.tVar _) _ _ _); exact ed_var rfl (by walk_at "as"))
  | ((with_reducible show EvD _ (L2.tC _) _ _ _); first | exact ed_int | exact ed_str | exact ed_bl | exact ed_non | exact ed_c (by walk_at "as"))
  | ((with_reducible show EvD _ (L2.tCB (rIsi _) _) _ _ _); exact ed_isi (by walk_at "ev"))
  | ((with_reducible show EvD _ (L2.tCB (rIsiT _) _) _ _ _); exact ed_isi2 (by walk_at "ev"))
  | ((with_reducible show EvD _ (L2.tCB _ _) _ _ _); exact ed_cb (by walk_at "es") (by walk_at "rc"))
  | ((with_reducible show EvD _ (L2.tOp _ _ _) _ _ _); exact ed_op (by walk_at "ev") (by walk_at "ev") (by walk_at "rd"))
  | ((with_reducible show EvD _ (L2.tAndV _ _) _ _ _); exact ed_and (by walk_at "ev") (fun _ => by walk_at "ev"))
  | ((with_reducible show EvD _ (L2.tOrV _ _) _ _ _); exact ed_or (by walk_at "ev") (fun _ => by walk_at "ev"))
  | ((with_reducible show EvD _ (L2.tNotV _) _ _ _); exact ed_not (by walk_at "ev"))
  | ((with_reducible show EvD _ (L2.tIf _ _ _) _ _ _); exact ed_if (by walk_at "et") (fun _ => by walk_at "ev") (fun _ => by walk_at "ev"))
  | ((with_reducible show EvD _ (L2.tTup _) _ _ _); exact ed_tup (by walk_at "es") (by simp))
  | ((with_reducible show EvD _ (L2.tChain _ _ _ _ _) _ _ _); exact ed_chain (by walk_at "ev") (by walk_at "ev") (by walk_at "rd") (fun _ => by walk_at "ev") (by walk_at "rd"))
  | ((with_reducible show EvD _ (L2.tCall _ _ _ _) _ _ _); exact ed_call (by walk_at "es") (by walk_at "sp")))
local macro_rules | `(tactic| walk_at "es") => `(tactic| first
  | ((with_reducible show EvDs _ L2.tNil _ _ _); exact eds_nil)
  | exact eds_cons (by walk_at "ev") (by walk_at "es"))
local macro_rules | `(tactic| walk_at "rd") => `(tactic| first
  | ((with_reducible show RD _ rEq _ _ _ _); first | exact rd_eqS | exact rd_eqI)
  | ((with_reducible show RD _ rNe _ _ _ _); first | exact rd_neS | exact rd_neI)
  | ((with_reducible show RD _ (rIxT _) _ _ _ _); exact rd_ixT (by first | exact atD_0 | exact atD_1 | exact atD_2 | rfl | assumption))
  | ((with_reducible show RD _ (rIxL _) _ _ _ _); exact rd_ixL (by first | exact atD_0 | exact atD_1 | exact atD_2 | rfl | assumption))
  | ((with_reducible show RD _ (rEqD _) _ _ _ _); exact rd_eqD (by first | rfl | assumption) (by first | rfl | assumption))
  | ((with_reducible show RD _ (rNeD _) _ _ _ _); exact rd_neD (by first | rfl | assumption) (by first | rfl | assumption))
  | ((with_reducible show RD _ (rIn _ _) _ _ _ _); first | exact rd_inS | exact rd_niS | exact rd_inSL | exact rd_niSL)
  | ((with_reducible show RD _ (rCatA _) _ _ _ _); exact rd_catA (by first | (simp; done) | (simp; omega) | omega))
  | ((with_reducible show RD _ (rI _ _) _ _ _ _); exact rd_intC (by first | assumption | (show (0 : Int) < _; decide)))
  | exact rd_cmp | exact rd_int | exact rd_isN | exact rd_notN)
local macro_rules | `(tactic| walk_at "rc") => `(tactic| first
  | exact rc_lenT | exact rc_lenL | exact rc_all | exact rc_any | exact rc_tupL | exact rc_lenS (by assumption) | exact rc_int1 | exact rc_intB)
local macro_rules | `(tactic| walk_at "et") => `(tactic| first
  | ((with_reducible show EvT (L2.tB _) _ _ _); exact et_edBK (by assumption) (by walk_at "ev"))
  | ((with_reducible show EvT (L2.tTest _) _ _ _); exact et_edK (by assumption) (by walk_at "ev"))
  | ((with_reducible show EvT (L2.tNot _) _ _ _); exact et_not (by walk_at "et"))
  | ((with_reducible show EvT (L2.tAnd _ _) _ _ _); exact et_and (by walk_at "et") (fun _ => by walk_at "et"))
  | ((with_reducible show EvT (L2.tOr _ _) _ _ _); exact et_or (by walk_at "et") (fun _ => by walk_at "et")))
local macro_rules | `(tactic| walk_at "sp") => `(tactic| first
  | exact ⟨_, rfl, rfl⟩ | exact ⟨_, _, rfl, rfl⟩ | exact ⟨_, _, _, rfl, rfl⟩ | exact ⟨_, _, _, _, rfl, rfl⟩
  | exact ⟨_, rfl, by assumption, rfl⟩ | exact ⟨_, rfl, by assumption, by assumption, rfl⟩ | exact ⟨_, _, rfl, by assumption, rfl⟩ | exact ⟨_, _, _, rfl, by assumption, rfl⟩)
local macro_rules | `(tactic| walk_at "shb") => `(tactic| first
  | exact ShB.nil
  | (refine ShB.pl ⟨by decide, by decide, by decide⟩ (by first | (intro h; exact absurd h (by decide)) | (intro _; refine ⟨?_, ?_⟩ <;> (dsimp only [wordOf]; decide +kernel))) ?_; walk_at "shb")
  | (refine ShB.block (by decide) (by decide) ?_ ?_ <;> walk_at "shb")
  | (refine ShB.hands rfl (by decide) (by decide) ?_ ?_ ?_ <;> walk_at "shb"))

section
variable {P : Program} {w : World} {K : PySem.W.Frag} {mg : Str → Option Value} {base : Heap}

theorem rd_ltS {H : Hp} {a b : Str} : RD K (fun x y H Q => ∃ i j, x = .str i ∧ y = .str j ∧ Q (.bl (decide (i.cps.toList < j.cps.toList))) H) (.str a) (.str b) H (.bool (sLt a b)) := fun H1 _ x y hx hy _ q => by
  cases hx; cases hy
  exact ⟨_, _, rfl, rfl, q _ H1 (Ex.refl H1) (.bl _)⟩
theorem words_lt : (WORDS.all fun a => WORDS.all fun b => decide (a = b) || (ltCps b.cps.toList a.cps.toList || sLt a b)) = true := by decide +kernel
theorem DesOk.adj {ws : List Str} (h : DesOk ws) {i : Nat} {a b : Str} (ha : ws[i]? = some a) (hb : ws[i + 1]? = some b) : sLt a b = true := by
  obtain ⟨h1, h2, h3⟩ := h
  have h4 := sorted_adj h3 ha hb
  have h5 := List.all_eq_true.mp (List.all_eq_true.mp words_lt a (h2 a (List.mem_of_getElem? ha))) b (h2 b (List.mem_of_getElem? hb))
  have h6 : a ≠ b := fun z => by
    subst z
    obtain ⟨l1, e1⟩ := List.getElem?_eq_some_iff.mp ha
    obtain ⟨l2, e2⟩ := List.getElem?_eq_some_iff.mp hb
    have := (List.getElem_inj h1).mp (e1.trans e2.symm)
    omega
  rw [decide_eq_false h6, h4] at h5
  exact h5
theorem nodup_sub {α : Type} [BEq α] [LawfulBEq α] : ∀ {l m : List α}, l.Nodup → (∀ x ∈ l, x ∈ m) → l.length ≤ m.length
  | [], m, _, _ => Nat.zero_le _
  | a :: l, m, h, hs => by
    have ha := hs a List.mem_cons_self
    have h1 := List.nodup_cons.mp h
    have ih := nodup_sub (m := m.erase a) h1.2 (fun x hx => (List.mem_erase_of_ne (fun z => h1.1 (by rw [← z]; exact hx))).mpr (hs x (List.mem_cons_of_mem _ hx)))
    have le := List.length_erase_of_mem ha
    have : 0 < m.length := List.length_pos_of_mem ha
    rw [List.length_cons]
    omega
theorem DesOk.len {ws : List Str} (h : DesOk ws) : ws.length ≤ 12 := nodup_sub h.1 h.2.1

def sp_is_design (K : PySem.W.Frag) : Sp := spD K fun ds d => ∃ ws : List Str, ds = [.tuple (ws.map PyData.str)] ∧ DesOk ws ∧ d = .bool true
abbrev nm_is_design : List Str := ["value", "index", "one"]
theorem sc_is_design : FnScope nm_is_design ["value"] (defScope st_is_design) := ⟨rfl, rfl, rfl, by decide +kernel, rfl, by decide +kernel, by decide +kernel⟩
theorem ok_is_design {a_WORDS : Addr} (F : Def K mg "is_design" st_is_design) (m_all : mg "all" = none) (m_WORDS : mg "WORDS" = some (.ref a_WORDS)) (m_isinstance : mg "isinstance" = none) (m_str : mg "str" = none) (m_tuple : mg "tuple" = none) (m_range : mg "range" = none) (m_len : mg "len" = none) (T_WORDS : ∀ H : Hp, SqT K H a_WORDS (WORDS.map V.str)) : Cal P w K mg base CX0 1 "is_design" ["value"] (sp_is_design K) := by
  refine F.ok sc_is_design (fun vs H Q E h => ?_) (fun _ _ _ _ _ _ us hl => match us, hl with | [_], _ => rfl) (fun f cdv A outer s H vs Q E hr h => ?_)
  · exact spD_len h (by rintro ds d ⟨_, rfl, _⟩; rfl)
  · refine ⟨_, PSs.nox (pss_cons (ps_if (PW.pt (pw_or (pt_not (pt_val (pe_callB (call_isiK_ K rfl) (by rfl) m_isinstance (by decide +kernel) (pa_cons (pv 0) (pa_cons (pe_bltn (v := .ty "tuple") (by rfl) m_tuple (by decide +kernel) rfl) pa_nil))))) (pw_or1 (pt_not (pt_val (pe_callB (cr_allK K rfl rfl) (by rfl) m_all (by decide +kernel) (pa_cons (pe_lc (own := [("one", 2)]) (tt := tYes) rfl sc_is_design.nd (pi_tupK K rfl (pv 0)) (blkOk_by (by first | (show blkC nm_is_design (defScope st_is_design) _ _ = true; decide +kernel) | rfl)) (fun _ _ _ _ _ => (pg_name (i := 2) sc_is_design.nd rfl (Or.inl rfl))) (fun _ _ _ _ _ => pts_nil) (fun _ _ _ _ _ => (pe_and (pe_callB (call_isiK_ K rfl) (by rfl) m_isinstance (by decide +kernel) (pa_cons (pv 2) (pa_cons (pe_bltn (v := .ty "str") (by rfl) m_str (by decide +kernel) rfl) pa_nil))) (pe_one (pe_cmpR (op_inK K rfl) (pv 2) (pe_gref (by rfl) m_WORDS) (by rfl)))))) pa_nil))))))) (pss_one (ps_ret pe_bl)) pss_nil) (pss_one (ps_ret (pe_callB (cr_allK K rfl rfl) (by rfl) m_all (by decide +kernel) (pa_cons (pe_lc (own := [("index", 1)]) (tt := tYes) rfl sc_is_design.nd (pi_range2 (by rfl) m_range (pa_cons pe_int (pa_cons (pe_callB (call_lenK K rfl) (by rfl) m_len (by decide +kernel) (pa_cons (pv 0) pa_nil)) pa_nil))) (blkOk_by (by first | (show blkC nm_is_design (defScope st_is_design) _ _ = true; decide +kernel) | rfl)) (fun _ _ _ _ _ => (pg_name (i := 1) sc_is_design.nd rfl (Or.inl rfl))) (fun _ _ _ _ _ => pts_nil) (fun _ _ _ _ _ => (pe_cmpR op_lt_str (pe_ix (ix_tupK K rfl) (pv 0) (pe_op op_sub (pv 1) pe_int) (fun _ _ => rfl)) (pe_ix (ix_tupK K rfl) (pv 0) (pv 1) (fun _ _ => rfl)) (nomark _)))) pa_nil))))), ?_⟩
    have kis : KIs K := ⟨⟩
    obtain ⟨ds, d, hd, ⟨ws, rfl, hw, rfl⟩, q⟩ := h
    obtain ⟨v, rfl, hv⟩ := dpa1 hd
    have ln := hw.len
    have wn := hw.2.1
    have cw : ∀ H9, EvD K (tC (.ref a_WORDS)) [some v, none, none] H9 (.tuple (WORDS.map PyData.str)) := fun H9 => ed_c (.tup (T_WORDS _) (dpa_strs WORDS))
    refine q_when (b := false) (et_is (et_or (b := false) (et_is (et_not (a := true) (et_is (et_edBK kis (ed_isi (ed_var rfl hv))) (by rfl))) (by rfl)) (fun _ => et_is (et_not (a := true) (et_edBK kis (ed_is (ed_cb (eds_cons (EvN.ed (en_is (en_mapT (K := K) (fun _ => .bool true) (ed_var rfl hv) (by rw [List.length_map]; omega) (fun _ _ => rfl) (fun _ => rfl) (fun x d H1 e1 hd hx => ?_)) (es := (ws.map fun _ => true).map PyData.bool) (by rw [List.map_map, List.map_map]; rfl))) eds_nil) rc_all) ?_))) (by rfl))) (by rfl)) (fun z => by cases z) (fun _ H1 e1 => ?_)
    · obtain ⟨w9, hw9, rfl⟩ := List.mem_map.mp hd
      refine ed_is (d1 := .bool (true && decide (w9 ∈ WORDS))) (ed_and (ed_is (ed_isi (ed_var (i := 2) rfl hx)) (by rfl)) (fun _ => ed_op (ed_var (i := 2) rfl hx) (ed_c (.tup (T_WORDS _) (dpa_strs WORDS))) rd_inS)) ?_
      rw [decide_eq_true (wn w9 hw9)]; rfl
    · have : (ws.map fun _ => true).all id = true := List.all_eq_true.mpr fun x hx => by obtain ⟨y, _, rfl⟩ := List.mem_map.mp hx; rfl
      rw [this]
    have hv1 := Dpx hv e1
    refine s_retD (K := K) (d := .bool true) (ed_is (ed_cb (eds_cons (EvN.ed (en_is (en_mapR2 (K := K) 1 (ws.length : Int) (ws.length - 1) (fun _ => .bool true) (eds_cons ed_int (eds_cons (ed_is (ed_cb (eds_cons (ed_var rfl hv1) eds_nil) rc_lenT) (by rw [List.length_map])) eds_nil)) (by omega) (by omega) (fun _ _ => rfl) (fun _ => rfl) (fun i H2 e2 hi => ?_)) (es := ((List.range (ws.length - 1)).map fun _ => true).map PyData.bool) (by rw [List.map_map]; rfl))) eds_nil) rc_all) ?_) (fun u H2 e2 hu => q u H2 (e1.trans e2) hu)
    · have hv2 := Dpx hv1 e2
      obtain ⟨a, ha⟩ : ∃ a, ws[i]? = some a := ⟨_, List.getElem?_eq_getElem (by omega)⟩
      obtain ⟨b, hb⟩ : ∃ b, ws[i + 1]? = some b := ⟨_, List.getElem?_eq_getElem (by omega)⟩
      have ga : (ws.map PyData.str)[i]? = some (.str a) := by rw [List.getElem?_map, ha]; rfl
      have gb : (ws.map PyData.str)[i + 1]? = some (.str b) := by rw [List.getElem?_map, hb]; rfl
      have lt := hw.adj ha hb
      refine ed_is (ed_op (ed_op (ed_var (i := 0) rfl hv2) (ed_op (ed_var (i := 1) rfl (.int _)) ed_int rd_int) (rd_ixT (d := .str a) ?_)) (ed_op (ed_var (i := 0) rfl hv2) (ed_var (i := 1) rfl (.int _)) (rd_ixT (d := .str b) ?_)) rd_ltS) (by rw [lt])
      · have e : (1 + (i : Int)) - 1 = (i : Int) := by omega
        rw [e]; exact atD_nat ga
      · have e : (1 + (i : Int)) = ((i + 1 : Nat) : Int) := by omega
        rw [e]; exact atD_nat gb
    · have : ((List.range (ws.length - 1)).map fun _ => true).all id = true := List.all_eq_true.mpr fun x hx => by obtain ⟨y, _, rfl⟩ := List.mem_map.mp hx; rfl
      rw [this]
def sp_need_design (K : PySem.W.Frag) : Sp := spD K fun ds d => ∃ ws : List Str, ds = [.tuple (ws.map PyData.str)] ∧ DesOk ws ∧ d = .none
abbrev nm_need_design : List Str := ["design"]
theorem sc_need_design : FnScope nm_need_design ["design"] (defScope st_need_design) := ⟨rfl, rfl, rfl, by decide +kernel, rfl, by decide +kernel, by decide +kernel⟩
theorem ok_need_design (F : Def K mg "need_design" st_need_design) (c_is_design : Cal P w K mg base CX0 1 "is_design" ["value"] (sp_is_design K)) : Cal P w K mg base CX0 2 "need_design" ["design"] (sp_need_design K) := by
  refine F.ok sc_need_design (fun vs H Q E h => ?_) (fun _ _ _ _ _ _ us hl => match us, hl with | [_], _ => rfl) (fun f cdv A outer s H vs Q E hr h => ?_)
  · exact spD_len h (by rintro ds d ⟨_, rfl, _⟩; rfl)
  · refine ⟨_, PSs.nox (pss_one (ps_if (pt_not (pt_val (pe_cal c_is_design (hr.mono (by decide)) (by rfl) pass0 (pa_cons (pv 0) pa_nil)))) (pss_one (ps_never)) pss_nil)), ?_⟩
    have kis : KIs K := ⟨⟩
    obtain ⟨ds, d, hd, ⟨ws, rfl, hw, rfl⟩, q⟩ := h
    obtain ⟨v, rfl, hv⟩ := dpa1 hd
    exact s_when (b := false) (et_is (et_not (et_edBK kis (ed_call (eds_cons (ed_var rfl hv) eds_nil) ⟨ws, rfl, hw, rfl⟩))) (by rfl)) (fun z => by cases z) (fun _ H1 e1 => q _ H1 e1 .non)
end
end Ow

namespace Ow
open PySem PySem.Spec PyProof.Rows L2 Evl
local macro_rules | `(tactic| walk_at "as") => `(tactic| first
  | assumption
  | exact Dp.int _ | exact Dp.str _ | exact Dp.bl _ | exact Dp.non
  | exact Dpx (by assumption) (by assumption)
  | exact Dpx (by assumption) (Ex.trans (by assumption) (by assumption)))
local macro_rules | `(tactic| walk_at "ev") => `(tactic| first
  | ((with_reducible show EvD _ (L2.tVar _) _ _ _); exact ed_var rfl (by walk_at "as"))
  | ((with_reducible show EvD _ (L2.tC _) _ _ _); first | exact ed_int | exact ed_str | exact ed_bl | exact ed_non | exact ed_c (by walk_at "as"))
  | ((with_reducible show EvD _ (L2.tCB (rIsi _) _) _ _ _); exact ed_isi (by walk_at "ev"))
  | ((with_reducible show EvD _ (L2.tCB (rIsiT _) _) _ _ _); exact ed_isi2 (by walk_at "ev"))
  | ((with_reducible show EvD _ (L2.tCB _ _) _ _ _); exact ed_cb (by walk_at "es") (by walk_at "rc"))
  | ((with_reducible show EvD _ (L2.tOp _ _ _) _ _ _); exact ed_op (by walk_at "ev") (by walk_at "ev") (by walk_at "rd"))
  | ((with_reducible show EvD _ (L2.tAndV _ _) _ _ _); exact ed_and (by walk_at "ev") (fun _ => by walk_at "ev"))
  | ((with_reducible show EvD _ (L2.tOrV _ _) _ _ _); exact ed_or (by walk_at "ev") (fun _ => by walk_at "ev"))
  | ((with_reducible show EvD _ (L2.tNotV _) _ _ _); exact ed_not (by walk_at "ev"))
  | ((with_reducible show EvD _ (L2.tIf _ _ _) _ _ _); exact ed_if (by walk_at "et") (fun _ => by walk_at "ev") (fun _ => by walk_at "ev"))
  | ((with_reducible show EvD _ (L2.tTup _) _ _ _); exact ed_tup (by walk_at "es") (by simp))
  | ((with_reducible show EvD _ (L2.tChain _ _ _ _ _) _ _ _); exact ed_chain (by walk_at "ev") (by walk_at "ev") (by walk_at "rd") (fun _ => by walk_at "ev") (by walk_at "rd"))
  | ((with_reducible show EvD _ (L2.tCall _ _ _ _) _ _ _); exact ed_call (by walk_at "es") (by walk_at "sp")))
local macro_rules | `(tactic| walk_at "es") => `(tactic| first
  | ((with_reducible show EvDs _ L2.tNil _ _ _); exact eds_nil)
  | exact eds_cons (by walk_at "ev") (by walk_at "es"))
local macro_rules | `(tactic| walk_at "rd") => `(tactic| first
  | ((with_reducible show RD _ rEq _ _ _ _); first | exact rd_eqS | exact rd_eqI)
  | ((with_reducible show RD _ rNe _ _ _ _); first | exact rd_neS | exact rd_neI)
  | ((with_reducible show RD _ (rIxT _) _ _ _ _); exact rd_ixT (by first | exact atD_0 | exact atD_1 | exact atD_2 | rfl | assumption))
  | ((with_reducible show RD _ (rIxL _) _ _ _ _); exact rd_ixL (by first | exact atD_0 | exact atD_1 | exact atD_2 | rfl | assumption))
  | ((with_reducible show RD _ (rEqD _) _ _ _ _); exact rd_eqD (by first | rfl | assumption) (by first | rfl | assumption))
  | ((with_reducible show RD _ (rNeD _) _ _ _ _); exact rd_neD (by first | rfl | assumption) (by first | rfl | assumption))
  | ((with_reducible show RD _ (rIn _ _) _ _ _ _); first | exact rd_inS | exact rd_niS | exact rd_inSL | exact rd_niSL)
  | ((with_reducible show RD _ (rCatA _) _ _ _ _); exact rd_catA (by first | (simp; done) | (simp; omega) | omega))
  | ((with_reducible show RD _ (rI _ _) _ _ _ _); exact rd_intC (by first | assumption | (show (0 : Int) < _; decide)))
  | exact rd_cmp | exact rd_int | exact rd_isN | exact rd_notN)
local macro_rules | `(tactic| walk_at "rc") => `(tactic| first
  | exact rc_lenT | exact rc_lenL | exact rc_all | exact rc_any | exact rc_tupL | exact rc_lenS (by assumption) | exact rc_int1 | exact rc_intB)
local macro_rules | `(tactic| walk_at "et") => `(tactic| first
  | ((with_reducible show EvT (L2.tB _) _ _ _); exact et_edBK (by assumption) (by walk_at "ev"))
  | ((with_reducible show EvT (L2.tTest _) _ _ _); exact et_edK (by assumption) (by walk_at "ev"))
  | ((with_reducible show EvT (L2.tNot _) _ _ _); exact et_not (by walk_at "et"))
  | ((with_reducible show EvT (L2.tAnd _ _) _ _ _); exact et_and (by walk_at "et") (fun _ => by walk_at "et"))
  | ((with_reducible show EvT (L2.tOr _ _) _ _ _); exact et_or (by walk_at "et") (fun _ => by walk_at "et")))
local macro_rules | `(tactic| walk_at "sp") => `(tactic| first
  | exact ⟨_, rfl, rfl⟩ | exact ⟨_, _, rfl, rfl⟩ | exact ⟨_, _, _, rfl, rfl⟩ | exact ⟨_, _, _, _, rfl, rfl⟩
  | exact ⟨_, rfl, by assumption, rfl⟩ | exact ⟨_, rfl, by assumption, by assumption, rfl⟩ | exact ⟨_, _, rfl, by assumption, rfl⟩ | exact ⟨_, _, _, rfl, by assumption, rfl⟩)
local macro_rules | `(tactic| walk_at "shb") => `(tactic| first
  | exact ShB.nil
  | (refine ShB.pl ⟨by decide, by decide, by decide⟩ (by first | (intro h; exact absurd h (by decide)) | (intro _; refine ⟨?_, ?_⟩ <;> (dsimp only [wordOf]; decide +kernel))) ?_; walk_at "shb")
  | (refine ShB.block (by decide) (by decide) ?_ ?_ <;> walk_at "shb")
  | (refine ShB.hands rfl (by decide) (by decide) ?_ ?_ ?_ <;> walk_at "shb"))

section
variable {P : Program} {w : World} {K : PySem.W.Frag} {mg : Str → Option Value} {base : Heap}

def toldL : List (List Str × D) := LOTS.map fun l => (l.1, .tuple (encs l.2))
def partOf (w : Str) : List St := if w = "blocks" then [.block []] else
  if w = "drop" then [.pl (.box 0 1), .pl (.drop 0)] else
  if w = "drop looked" then [.pl (.box 0 1), .pl (.look 1 0), .pl (.drop 0), .pl (.show 1)] else
  if w = "far" then [.pl (.box 0 1), .pl (.look 1 0), .block [.pl (.box 2 2), .pl (.aim 1 2)], .pl (.show 1)] else
  if w = "hands" then [.hands [] []] else
  if w = "lend looked" then [.pl (.box 0 1), .pl (.look 1 0), .pl (.lend 2 0)] else
  if w = "move looked" then [.pl (.box 0 1), .pl (.look 1 0), .pl (.move 2 0)] else
  if w = "set" then [.pl (.box 0 1), .pl (.set 0 2)] else
  if w = "set looked" then [.pl (.box 0 1), .pl (.look 1 0), .pl (.set 0 2), .pl (.show 1)] else
  if w = "share" then [.pl (.box 0 1), .hands [.pl (.lend 1 0)] [.pl (.show 0)]] else
  if w = "two names" then [.pl (.box 0 1), .pl (.move 1 0), .pl (.show 0)] else
  if w = "use lent" then [.pl (.box 0 1), .pl (.lend 1 0), .pl (.show 0)] else []

def sp_told (K : PySem.W.Frag) : Sp := fun vs H Q _ => vs = [] ∧ ∀ p ps kvs H', H p = none → Ex H H' → H' p = some (.lst (ps.map V.ref)) → PrAll K H' ps kvs toldL → ps.length = 16 → Q (.ref p) H'
abbrev nm_told : List Str := []
theorem sc_told : FnScope nm_told [] (defScope st_told) := ⟨rfl, rfl, rfl, by decide +kernel, rfl, by decide +kernel, by decide +kernel⟩
theorem ok_told {a_BOX a_LOOK a_LEND a_MOVE a_AWAY a_SHOW a_SEE a_SET a_LATER a_DROP : Addr} (F : Def K mg "told" st_told) (m_SEE : mg "SEE" = some (.ref a_SEE)) (m_SET : mg "SET" = some (.ref a_SET)) (m_LEND : mg "LEND" = some (.ref a_LEND)) (m_BOX : mg "BOX" = some (.ref a_BOX)) (m_MOVE : mg "MOVE" = some (.ref a_MOVE)) (m_LOOK : mg "LOOK" = some (.ref a_LOOK)) (m_LATER : mg "LATER" = some (.ref a_LATER)) (m_AWAY : mg "AWAY" = some (.ref a_AWAY)) (m_SHOW : mg "SHOW" = some (.ref a_SHOW)) (m_DROP : mg "DROP" = some (.ref a_DROP)) (T_BOX : ∀ H : Hp, SqT K H a_BOX [.str "box", .int 0, .int 1]) (T_LOOK : ∀ H : Hp, SqT K H a_LOOK [.str "look", .int 1, .int 0]) (T_LEND : ∀ H : Hp, SqT K H a_LEND [.str "lend", .int 1, .int 0]) (T_MOVE : ∀ H : Hp, SqT K H a_MOVE [.str "move", .int 1, .int 0]) (T_AWAY : ∀ H : Hp, SqT K H a_AWAY [.str "move", .int 2, .int 0]) (T_SHOW : ∀ H : Hp, SqT K H a_SHOW [.str "show", .int 0]) (T_SEE : ∀ H : Hp, SqT K H a_SEE [.str "show", .int 1]) (T_SET : ∀ H : Hp, SqT K H a_SET [.str "set", .int 0, .int 2]) (T_LATER : ∀ H : Hp, SqT K H a_LATER [.str "set", .int 2, .int 2]) (T_DROP : ∀ H : Hp, SqT K H a_DROP [.str "drop", .int 0]) : Cal P w K mg base CX0 1 "told" [] (sp_told K) := by
  refine F.ok sc_told (fun vs H Q E h => ?_) (fun _ _ _ _ _ _ us hl => match us, hl with | [], _ => rfl) (fun f cdv A outer s H vs Q E hr h => ?_)
  · obtain ⟨rfl, _⟩ := h; rfl
  · refine ⟨_, PSs.nox (pss_one (ps_ret (pe_lst (pa_cons (pe_tup (pa_cons (pe_tup (pa_cons pe_str (pa_cons pe_str pa_nil))) (pa_cons (pe_tup (pa_cons (pe_gref (by rfl) m_BOX) (pa_cons (pe_gref (by rfl) m_LOOK) (pa_cons (pe_tup (pa_cons pe_str (pa_cons (pe_tup (pa_cons (pe_tup (pa_cons pe_str (pa_cons pe_int (pa_cons pe_int pa_nil)))) (pa_cons (pe_tup (pa_cons pe_str (pa_cons pe_int (pa_cons pe_int pa_nil)))) pa_nil))) pa_nil))) (pa_cons (pe_gref (by rfl) m_SEE) pa_nil))))) pa_nil))) (pa_cons (pe_tup (pa_cons (pe_tup (pa_cons pe_str (pa_cons pe_str (pa_cons pe_str pa_nil)))) (pa_cons (pe_tup (pa_cons (pe_gref (by rfl) m_BOX) (pa_cons (pe_tup (pa_cons pe_str (pa_cons (pe_tup (pa_cons (pe_tup (pa_cons pe_str (pa_cons (pe_tup (pa_cons (pe_gref (by rfl) m_MOVE) pa_nil)) pa_nil))) pa_nil)) (pa_cons (pe_tup (pa_cons (pe_gref (by rfl) m_SHOW) pa_nil)) pa_nil)))) pa_nil))) pa_nil))) (pa_cons (pe_tup (pa_cons (pe_tup (pa_cons pe_str (pa_cons pe_str pa_nil))) (pa_cons (pe_tup (pa_cons (pe_gref (by rfl) m_BOX) (pa_cons (pe_gref (by rfl) m_LOOK) (pa_cons (pe_tup (pa_cons pe_str (pa_cons (pe_tup (pa_cons (pe_gref (by rfl) m_AWAY) pa_nil)) pa_nil))) (pa_cons (pe_gref (by rfl) m_SEE) pa_nil))))) pa_nil))) (pa_cons (pe_tup (pa_cons (pe_tup (pa_cons pe_str (pa_cons pe_str pa_nil))) (pa_cons (pe_tup (pa_cons (pe_gref (by rfl) m_BOX) (pa_cons (pe_tup (pa_cons pe_str (pa_cons (pe_tup (pa_cons (pe_gref (by rfl) m_MOVE) pa_nil)) pa_nil))) (pa_cons (pe_gref (by rfl) m_SHOW) pa_nil)))) pa_nil))) (pa_cons (pe_tup (pa_cons (pe_tup (pa_cons pe_str (pa_cons pe_str pa_nil))) (pa_cons (pe_tup (pa_cons (pe_gref (by rfl) m_BOX) (pa_cons (pe_gref (by rfl) m_LEND) (pa_cons (pe_tup (pa_cons pe_str (pa_cons (pe_tup (pa_cons (pe_gref (by rfl) m_AWAY) pa_nil)) pa_nil))) (pa_cons (pe_gref (by rfl) m_SEE) pa_nil))))) pa_nil))) (pa_cons (pe_tup (pa_cons (pe_tup (pa_cons pe_str (pa_cons pe_str pa_nil))) (pa_cons (pe_tup (pa_cons (pe_gref (by rfl) m_BOX) (pa_cons (pe_gref (by rfl) m_LOOK) (pa_cons (pe_gref (by rfl) m_DROP) (pa_cons (pe_gref (by rfl) m_SEE) pa_nil))))) pa_nil))) (pa_cons (pe_tup (pa_cons (pe_tup (pa_cons pe_str (pa_cons pe_str (pa_cons pe_str pa_nil)))) (pa_cons (pe_tup (pa_cons (pe_gref (by rfl) m_BOX) (pa_cons (pe_tup (pa_cons pe_str (pa_cons (pe_tup (pa_cons (pe_gref (by rfl) m_DROP) pa_nil)) (pa_cons (pe_tup (pa_cons (pe_gref (by rfl) m_SHOW) pa_nil)) pa_nil)))) pa_nil))) pa_nil))) (pa_cons (pe_tup (pa_cons (pe_tup (pa_cons pe_str (pa_cons pe_str pa_nil))) (pa_cons (pe_tup (pa_cons (pe_gref (by rfl) m_BOX) (pa_cons (pe_gref (by rfl) m_LOOK) (pa_cons (pe_gref (by rfl) m_AWAY) (pa_cons (pe_tup (pa_cons pe_str (pa_cons pe_int pa_nil))) (pa_cons (pe_gref (by rfl) m_SEE) pa_nil)))))) pa_nil))) (pa_cons (pe_tup (pa_cons (pe_tup (pa_cons pe_str (pa_cons pe_str pa_nil))) (pa_cons (pe_tup (pa_cons (pe_gref (by rfl) m_BOX) (pa_cons (pe_gref (by rfl) m_MOVE) (pa_cons (pe_tup (pa_cons pe_str (pa_cons pe_int pa_nil))) (pa_cons (pe_gref (by rfl) m_SHOW) pa_nil))))) pa_nil))) (pa_cons (pe_tup (pa_cons (pe_tup (pa_cons pe_str (pa_cons pe_str pa_nil))) (pa_cons (pe_tup (pa_cons (pe_gref (by rfl) m_BOX) (pa_cons (pe_gref (by rfl) m_LEND) (pa_cons (pe_gref (by rfl) m_DROP) (pa_cons (pe_gref (by rfl) m_SEE) pa_nil))))) pa_nil))) (pa_cons (pe_tup (pa_cons (pe_tup (pa_cons pe_str (pa_cons pe_str (pa_cons pe_str pa_nil)))) (pa_cons (pe_tup (pa_cons (pe_gref (by rfl) m_BOX) (pa_cons (pe_tup (pa_cons pe_str (pa_cons (pe_tup (pa_cons (pe_gref (by rfl) m_SET) pa_nil)) (pa_cons (pe_tup (pa_cons (pe_gref (by rfl) m_SHOW) pa_nil)) pa_nil)))) pa_nil))) pa_nil))) (pa_cons (pe_tup (pa_cons (pe_tup (pa_cons pe_str (pa_cons pe_str pa_nil))) (pa_cons (pe_tup (pa_cons (pe_gref (by rfl) m_BOX) (pa_cons (pe_gref (by rfl) m_LOOK) (pa_cons (pe_tup (pa_cons pe_str (pa_cons pe_int (pa_cons pe_int pa_nil)))) (pa_cons (pe_gref (by rfl) m_LATER) (pa_cons (pe_gref (by rfl) m_SEE) pa_nil)))))) pa_nil))) (pa_cons (pe_tup (pa_cons (pe_tup (pa_cons pe_str (pa_cons pe_str pa_nil))) (pa_cons (pe_tup (pa_cons (pe_gref (by rfl) m_BOX) (pa_cons (pe_gref (by rfl) m_LOOK) (pa_cons (pe_gref (by rfl) m_AWAY) (pa_cons (pe_gref (by rfl) m_LATER) (pa_cons (pe_gref (by rfl) m_SEE) pa_nil)))))) pa_nil))) (pa_cons (pe_tup (pa_cons (pe_tup (pa_cons pe_str (pa_cons pe_str pa_nil))) (pa_cons (pe_tup (pa_cons (pe_gref (by rfl) m_BOX) (pa_cons (pe_gref (by rfl) m_LOOK) (pa_cons (pe_gref (by rfl) m_SET) (pa_cons (pe_gref (by rfl) m_SEE) pa_nil))))) pa_nil))) (pa_cons (pe_tup (pa_cons (pe_tup (pa_cons pe_str (pa_cons pe_str pa_nil))) (pa_cons (pe_tup (pa_cons (pe_gref (by rfl) m_BOX) (pa_cons (pe_gref (by rfl) m_MOVE) (pa_cons (pe_tup (pa_cons pe_str (pa_cons pe_int (pa_cons pe_int pa_nil)))) (pa_cons (pe_tup (pa_cons pe_str (pa_cons pe_int (pa_cons pe_int pa_nil)))) (pa_cons (pe_tup (pa_cons pe_str (pa_cons pe_int pa_nil))) pa_nil)))))) pa_nil))) (pa_cons (pe_tup (pa_cons (pe_tup (pa_cons pe_str (pa_cons pe_str pa_nil))) (pa_cons (pe_tup (pa_cons (pe_gref (by rfl) m_BOX) (pa_cons (pe_gref (by rfl) m_LEND) (pa_cons (pe_gref (by rfl) m_SET) (pa_cons (pe_gref (by rfl) m_SEE) pa_nil))))) pa_nil))) pa_nil))))))))))))))))))), ?_⟩
    have kis : KIs K := ⟨⟩
    obtain ⟨rfl, q⟩ := h
    have b_BOX : ∀ H9 : Hp, Dp K H9 (.ref a_BOX) (.tuple [.str "box", .int 0, .int 1]) := fun H9 => .tup (T_BOX H9) (.cons (.str _) (.cons (.int _) (.cons (.int _) .nil)))
    have b_LOOK : ∀ H9 : Hp, Dp K H9 (.ref a_LOOK) (.tuple [.str "look", .int 1, .int 0]) := fun H9 => .tup (T_LOOK H9) (.cons (.str _) (.cons (.int _) (.cons (.int _) .nil)))
    have b_LEND : ∀ H9 : Hp, Dp K H9 (.ref a_LEND) (.tuple [.str "lend", .int 1, .int 0]) := fun H9 => .tup (T_LEND H9) (.cons (.str _) (.cons (.int _) (.cons (.int _) .nil)))
    have b_MOVE : ∀ H9 : Hp, Dp K H9 (.ref a_MOVE) (.tuple [.str "move", .int 1, .int 0]) := fun H9 => .tup (T_MOVE H9) (.cons (.str _) (.cons (.int _) (.cons (.int _) .nil)))
    have b_AWAY : ∀ H9 : Hp, Dp K H9 (.ref a_AWAY) (.tuple [.str "move", .int 2, .int 0]) := fun H9 => .tup (T_AWAY H9) (.cons (.str _) (.cons (.int _) (.cons (.int _) .nil)))
    have b_SHOW : ∀ H9 : Hp, Dp K H9 (.ref a_SHOW) (.tuple [.str "show", .int 0]) := fun H9 => .tup (T_SHOW H9) (.cons (.str _) (.cons (.int _) .nil))
    have b_SEE : ∀ H9 : Hp, Dp K H9 (.ref a_SEE) (.tuple [.str "show", .int 1]) := fun H9 => .tup (T_SEE H9) (.cons (.str _) (.cons (.int _) .nil))
    have b_SET : ∀ H9 : Hp, Dp K H9 (.ref a_SET) (.tuple [.str "set", .int 0, .int 2]) := fun H9 => .tup (T_SET H9) (.cons (.str _) (.cons (.int _) (.cons (.int _) .nil)))
    have b_LATER : ∀ H9 : Hp, Dp K H9 (.ref a_LATER) (.tuple [.str "set", .int 2, .int 2]) := fun H9 => .tup (T_LATER H9) (.cons (.str _) (.cons (.int _) (.cons (.int _) .nil)))
    have b_DROP : ∀ H9 : Hp, Dp K H9 (.ref a_DROP) (.tuple [.str "drop", .int 0]) := fun H9 => .tup (T_DROP H9) (.cons (.str _) (.cons (.int _) .nil))
    exact s_retPr (l' := toldL) (eprs_cons (epr_mk ["blocks", "far"] (ea_cons ev_c (ea_cons ev_c (ea_nil))) (by decide) (ed_tup (eds_cons (ed_c (b_BOX _)) (eds_cons (ed_c (b_LOOK _)) (eds_cons (ed_tup (eds_cons (ed_str) (eds_cons (ed_tup (eds_cons (ed_tup (eds_cons (ed_str) (eds_cons (ed_int) (eds_cons (ed_int) (eds_nil)))) (by simp)) (eds_cons (ed_tup (eds_cons (ed_str) (eds_cons (ed_int) (eds_cons (ed_int) (eds_nil)))) (by simp)) (eds_nil))) (by simp)) (eds_nil))) (by simp)) (eds_cons (ed_c (b_SEE _)) (eds_nil))))) (by simp))) (eprs_cons (epr_mk ["blocks", "hands", "share"] (ea_cons ev_c (ea_cons ev_c (ea_cons ev_c (ea_nil)))) (by decide) (ed_tup (eds_cons (ed_c (b_BOX _)) (eds_cons (ed_tup (eds_cons (ed_str) (eds_cons (ed_tup (eds_cons (ed_tup (eds_cons (ed_str) (eds_cons (ed_tup (eds_cons (ed_c (b_MOVE _)) (eds_nil)) (by simp)) (eds_nil))) (by simp)) (eds_nil)) (by simp)) (eds_cons (ed_tup (eds_cons (ed_c (b_SHOW _)) (eds_nil)) (by simp)) (eds_nil)))) (by simp)) (eds_nil))) (by simp))) (eprs_cons (epr_mk ["blocks", "move looked"] (ea_cons ev_c (ea_cons ev_c (ea_nil))) (by decide) (ed_tup (eds_cons (ed_c (b_BOX _)) (eds_cons (ed_c (b_LOOK _)) (eds_cons (ed_tup (eds_cons (ed_str) (eds_cons (ed_tup (eds_cons (ed_c (b_AWAY _)) (eds_nil)) (by simp)) (eds_nil))) (by simp)) (eds_cons (ed_c (b_SEE _)) (eds_nil))))) (by simp))) (eprs_cons (epr_mk ["blocks", "two names"] (ea_cons ev_c (ea_cons ev_c (ea_nil))) (by decide) (ed_tup (eds_cons (ed_c (b_BOX _)) (eds_cons (ed_tup (eds_cons (ed_str) (eds_cons (ed_tup (eds_cons (ed_c (b_MOVE _)) (eds_nil)) (by simp)) (eds_nil))) (by simp)) (eds_cons (ed_c (b_SHOW _)) (eds_nil)))) (by simp))) (eprs_cons (epr_mk ["blocks", "use lent"] (ea_cons ev_c (ea_cons ev_c (ea_nil))) (by decide) (ed_tup (eds_cons (ed_c (b_BOX _)) (eds_cons (ed_c (b_LEND _)) (eds_cons (ed_tup (eds_cons (ed_str) (eds_cons (ed_tup (eds_cons (ed_c (b_AWAY _)) (eds_nil)) (by simp)) (eds_nil))) (by simp)) (eds_cons (ed_c (b_SEE _)) (eds_nil))))) (by simp))) (eprs_cons (epr_mk ["drop", "drop looked"] (ea_cons ev_c (ea_cons ev_c (ea_nil))) (by decide) (ed_tup (eds_cons (ed_c (b_BOX _)) (eds_cons (ed_c (b_LOOK _)) (eds_cons (ed_c (b_DROP _)) (eds_cons (ed_c (b_SEE _)) (eds_nil))))) (by simp))) (eprs_cons (epr_mk ["drop", "hands", "share"] (ea_cons ev_c (ea_cons ev_c (ea_cons ev_c (ea_nil)))) (by decide) (ed_tup (eds_cons (ed_c (b_BOX _)) (eds_cons (ed_tup (eds_cons (ed_str) (eds_cons (ed_tup (eds_cons (ed_c (b_DROP _)) (eds_nil)) (by simp)) (eds_cons (ed_tup (eds_cons (ed_c (b_SHOW _)) (eds_nil)) (by simp)) (eds_nil)))) (by simp)) (eds_nil))) (by simp))) (eprs_cons (epr_mk ["drop", "move looked"] (ea_cons ev_c (ea_cons ev_c (ea_nil))) (by decide) (ed_tup (eds_cons (ed_c (b_BOX _)) (eds_cons (ed_c (b_LOOK _)) (eds_cons (ed_c (b_AWAY _)) (eds_cons (ed_tup (eds_cons (ed_str) (eds_cons (ed_int) (eds_nil))) (by simp)) (eds_cons (ed_c (b_SEE _)) (eds_nil)))))) (by simp))) (eprs_cons (epr_mk ["drop", "two names"] (ea_cons ev_c (ea_cons ev_c (ea_nil))) (by decide) (ed_tup (eds_cons (ed_c (b_BOX _)) (eds_cons (ed_c (b_MOVE _)) (eds_cons (ed_tup (eds_cons (ed_str) (eds_cons (ed_int) (eds_nil))) (by simp)) (eds_cons (ed_c (b_SHOW _)) (eds_nil))))) (by simp))) (eprs_cons (epr_mk ["drop", "use lent"] (ea_cons ev_c (ea_cons ev_c (ea_nil))) (by decide) (ed_tup (eds_cons (ed_c (b_BOX _)) (eds_cons (ed_c (b_LEND _)) (eds_cons (ed_c (b_DROP _)) (eds_cons (ed_c (b_SEE _)) (eds_nil))))) (by simp))) (eprs_cons (epr_mk ["hands", "set", "share"] (ea_cons ev_c (ea_cons ev_c (ea_cons ev_c (ea_nil)))) (by decide) (ed_tup (eds_cons (ed_c (b_BOX _)) (eds_cons (ed_tup (eds_cons (ed_str) (eds_cons (ed_tup (eds_cons (ed_c (b_SET _)) (eds_nil)) (by simp)) (eds_cons (ed_tup (eds_cons (ed_c (b_SHOW _)) (eds_nil)) (by simp)) (eds_nil)))) (by simp)) (eds_nil))) (by simp))) (eprs_cons (epr_mk ["lend looked", "set"] (ea_cons ev_c (ea_cons ev_c (ea_nil))) (by decide) (ed_tup (eds_cons (ed_c (b_BOX _)) (eds_cons (ed_c (b_LOOK _)) (eds_cons (ed_tup (eds_cons (ed_str) (eds_cons (ed_int) (eds_cons (ed_int) (eds_nil)))) (by simp)) (eds_cons (ed_c (b_LATER _)) (eds_cons (ed_c (b_SEE _)) (eds_nil)))))) (by simp))) (eprs_cons (epr_mk ["move looked", "set"] (ea_cons ev_c (ea_cons ev_c (ea_nil))) (by decide) (ed_tup (eds_cons (ed_c (b_BOX _)) (eds_cons (ed_c (b_LOOK _)) (eds_cons (ed_c (b_AWAY _)) (eds_cons (ed_c (b_LATER _)) (eds_cons (ed_c (b_SEE _)) (eds_nil)))))) (by simp))) (eprs_cons (epr_mk ["set", "set looked"] (ea_cons ev_c (ea_cons ev_c (ea_nil))) (by decide) (ed_tup (eds_cons (ed_c (b_BOX _)) (eds_cons (ed_c (b_LOOK _)) (eds_cons (ed_c (b_SET _)) (eds_cons (ed_c (b_SEE _)) (eds_nil))))) (by simp))) (eprs_cons (epr_mk ["set", "two names"] (ea_cons ev_c (ea_cons ev_c (ea_nil))) (by decide) (ed_tup (eds_cons (ed_c (b_BOX _)) (eds_cons (ed_c (b_MOVE _)) (eds_cons (ed_tup (eds_cons (ed_str) (eds_cons (ed_int) (eds_cons (ed_int) (eds_nil)))) (by simp)) (eds_cons (ed_tup (eds_cons (ed_str) (eds_cons (ed_int) (eds_cons (ed_int) (eds_nil)))) (by simp)) (eds_cons (ed_tup (eds_cons (ed_str) (eds_cons (ed_int) (eds_nil))) (by simp)) (eds_nil)))))) (by simp))) (eprs_cons (epr_mk ["set", "use lent"] (ea_cons ev_c (ea_cons ev_c (ea_nil))) (by decide) (ed_tup (eds_cons (ed_c (b_BOX _)) (eds_cons (ed_c (b_LEND _)) (eds_cons (ed_c (b_SET _)) (eds_cons (ed_c (b_SEE _)) (eds_nil))))) (by simp))) (eprs_nil))))))))))))))))) (by rfl) (by decide) (fun p ps kvs H1 hp e1 h1 A hl => q p ps kvs H1 hp e1 h1 A hl)
end
end Ow

namespace Ow
open PySem PySem.Spec PyProof.Rows L2 Evl
local macro_rules | `(tactic| walk_at "as") => `(tactic| first
  | assumption
  | exact Dp.int _ | exact Dp.str _ | exact Dp.bl _ | exact Dp.non
  | exact Dpx (by assumption) (by assumption)
  | exact Dpx (by assumption) (Ex.trans (by assumption) (by assumption)))
local macro_rules | `(tactic| walk_at "ev") => `(tactic| first
  | ((with_reducible show EvD _ (L2.tVar _) _ _ _); exact ed_var rfl (by walk_at "as"))
  | ((with_reducible show EvD _ (L2.tC _) _ _ _); first | exact ed_int | exact ed_str | exact ed_bl | exact ed_non | exact ed_c (by walk_at "as"))
  | ((with_reducible show EvD _ (L2.tCB (rIsi _) _) _ _ _); exact ed_isi (by walk_at "ev"))
  | ((with_reducible show EvD _ (L2.tCB (rIsiT _) _) _ _ _); exact ed_isi2 (by walk_at "ev"))
  | ((with_reducible show EvD _ (L2.tCB _ _) _ _ _); exact ed_cb (by walk_at "es") (by walk_at "rc"))
  | ((with_reducible show EvD _ (L2.tOp _ _ _) _ _ _); exact ed_op (by walk_at "ev") (by walk_at "ev") (by walk_at "rd"))
  | ((with_reducible show EvD _ (L2.tAndV _ _) _ _ _); exact ed_and (by walk_at "ev") (fun _ => by walk_at "ev"))
  | ((with_reducible show EvD _ (L2.tOrV _ _) _ _ _); exact ed_or (by walk_at "ev") (fun _ => by walk_at "ev"))
  | ((with_reducible show EvD _ (L2.tNotV _) _ _ _); exact ed_not (by walk_at "ev"))
  | ((with_reducible show EvD _ (L2.tIf _ _ _) _ _ _); exact ed_if (by walk_at "et") (fun _ => by walk_at "ev") (fun _ => by walk_at "ev"))
  | ((with_reducible show EvD _ (L2.tTup _) _ _ _); exact ed_tup (by walk_at "es") (by simp))
  | ((with_reducible show EvD _ (L2.tChain _ _ _ _ _) _ _ _); exact ed_chain (by walk_at "ev") (by walk_at "ev") (by walk_at "rd") (fun _ => by walk_at "ev") (by walk_at "rd"))
  | ((with_reducible show EvD _ (L2.tCall _ _ _ _) _ _ _); exact ed_call (by walk_at "es") (by walk_at "sp")))
local macro_rules | `(tactic| walk_at "es") => `(tactic| first
  | ((with_reducible show EvDs _ L2.tNil _ _ _); exact eds_nil)
  | exact eds_cons (by walk_at "ev") (by walk_at "es"))
local macro_rules | `(tactic| walk_at "rd") => `(tactic| first
  | ((with_reducible show RD _ rEq _ _ _ _); first | exact rd_eqS | exact rd_eqI)
  | ((with_reducible show RD _ rNe _ _ _ _); first | exact rd_neS | exact rd_neI)
  | ((with_reducible show RD _ (rIxT _) _ _ _ _); exact rd_ixT (by first | exact atD_0 | exact atD_1 | exact atD_2 | rfl | assumption))
  | ((with_reducible show RD _ (rIxL _) _ _ _ _); exact rd_ixL (by first | exact atD_0 | exact atD_1 | exact atD_2 | rfl | assumption))
  | ((with_reducible show RD _ (rEqD _) _ _ _ _); exact rd_eqD (by first | rfl | assumption) (by first | rfl | assumption))
  | ((with_reducible show RD _ (rNeD _) _ _ _ _); exact rd_neD (by first | rfl | assumption) (by first | rfl | assumption))
  | ((with_reducible show RD _ (rIn _ _) _ _ _ _); first | exact rd_inS | exact rd_niS | exact rd_inSL | exact rd_niSL)
  | ((with_reducible show RD _ (rCatA _) _ _ _ _); exact rd_catA (by first | (simp; done) | (simp; omega) | omega))
  | ((with_reducible show RD _ (rI _ _) _ _ _ _); exact rd_intC (by first | assumption | (show (0 : Int) < _; decide)))
  | exact rd_cmp | exact rd_int | exact rd_isN | exact rd_notN)
local macro_rules | `(tactic| walk_at "rc") => `(tactic| first
  | exact rc_lenT | exact rc_lenL | exact rc_all | exact rc_any | exact rc_tupL | exact rc_lenS (by assumption) | exact rc_int1 | exact rc_intB)
local macro_rules | `(tactic| walk_at "et") => `(tactic| first
  | ((with_reducible show EvT (L2.tB _) _ _ _); exact et_edBK (by assumption) (by walk_at "ev"))
  | ((with_reducible show EvT (L2.tTest _) _ _ _); exact et_edK (by assumption) (by walk_at "ev"))
  | ((with_reducible show EvT (L2.tNot _) _ _ _); exact et_not (by walk_at "et"))
  | ((with_reducible show EvT (L2.tAnd _ _) _ _ _); exact et_and (by walk_at "et") (fun _ => by walk_at "et"))
  | ((with_reducible show EvT (L2.tOr _ _) _ _ _); exact et_or (by walk_at "et") (fun _ => by walk_at "et")))
local macro_rules | `(tactic| walk_at "sp") => `(tactic| first
  | exact ⟨_, rfl, rfl⟩ | exact ⟨_, _, rfl, rfl⟩ | exact ⟨_, _, _, rfl, rfl⟩ | exact ⟨_, _, _, _, rfl, rfl⟩
  | exact ⟨_, rfl, by assumption, rfl⟩ | exact ⟨_, rfl, by assumption, by assumption, rfl⟩ | exact ⟨_, _, rfl, by assumption, rfl⟩ | exact ⟨_, _, _, rfl, by assumption, rfl⟩)
local macro_rules | `(tactic| walk_at "shb") => `(tactic| first
  | exact ShB.nil
  | (refine ShB.pl ⟨by decide, by decide, by decide⟩ (by first | (intro h; exact absurd h (by decide)) | (intro _; refine ⟨?_, ?_⟩ <;> (dsimp only [wordOf]; decide +kernel))) ?_; walk_at "shb")
  | (refine ShB.block (by decide) (by decide) ?_ ?_ <;> walk_at "shb")
  | (refine ShB.hands rfl (by decide) (by decide) ?_ ?_ ?_ <;> walk_at "shb"))

section
variable {P : Program} {w : World} {K : PySem.W.Frag} {mg : Str → Option Value} {base : Heap}
/-! ### designs as sublists of the words -/
def lotsW : List (List Str) := LOTS.map (·.1)
def lotsIn (ws : List Str) : List (List Str) := lotsW.filter fun l => l.all fun w => decide (w ∈ ws)
def Sound (ws : List Str) : Prop := lotsIn ws = []
instance (ws : List Str) : Decidable (Sound ws) := inferInstanceAs (Decidable (lotsIn ws = []))
theorem sound_iff {ws : List Str} : Sound ws ↔ ∀ l ∈ lotsW, ∃ w ∈ l, w ∉ ws := by
  unfold Sound lotsIn
  rw [List.filter_eq_nil_iff]
  constructor
  · intro h l hl
    have := h l hl
    simp only [List.all_eq_true, decide_eq_true_eq] at this
    exact Classical.byContradiction fun z => this fun w hw => Classical.byContradiction fun y => z ⟨w, hw, y⟩
  · intro h l hl z
    obtain ⟨w, h1, h2⟩ := h l hl
    exact h2 (of_decide_eq_true (List.all_eq_true.mp z w h1))
theorem sound_mono {a b : List Str} (h : ∀ w ∈ a, w ∈ b) (s : Sound b) : Sound a := sound_iff.mpr fun l hl => by
  obtain ⟨w, h1, h2⟩ := sound_iff.mp s l hl
  exact ⟨w, h1, fun z => h2 (h w z)⟩
def canon (S : List Str) : List Str := WORDS.filter fun w => decide (w ∈ S)
theorem canon_mem {S : List Str} {w : Str} : w ∈ canon S ↔ w ∈ WORDS ∧ w ∈ S := by
  unfold canon
  rw [List.mem_filter, decide_eq_true_eq]
theorem canon_congr {S T : List Str} (h : ∀ w ∈ WORDS, (w ∈ S ↔ w ∈ T)) : canon S = canon T := by
  unfold canon
  exact List.filter_congr fun w hw => by simp only [h w hw]
theorem canon_nd (S : List Str) : (canon S).Nodup := List.Pairwise.sublist List.filter_sublist words_nodup
theorem words_pw : (WORDS.map PyData.str).Pairwise (fun x y => leD x y = true) := by
  have h : (WORDS.map PyData.str).Pairwise (fun x y => leD x y = true) ↔ _ := Iff.rfl
  decide +kernel
theorem canon_pw (S : List Str) : ((canon S).map PyData.str).Pairwise (fun x y => leD x y = true) := List.Pairwise.sublist (List.Sublist.map _ List.filter_sublist) words_pw
theorem alike_strs (l : List Str) : PySem.W.AllAlike (l.map PyData.str) := fun d hd e he => by
  obtain ⟨a, _, rfl⟩ := List.mem_map.mp hd
  obtain ⟨b, _, rfl⟩ := List.mem_map.mp he
  simp [PySem.W.alike]
theorem sortable_strs (l : List Str) : PySem.W.Sortable (l.map PyData.str) := .inr fun d hd => by
  obtain ⟨a, _, rfl⟩ := List.mem_map.mp hd
  exact ⟨(fun z => by cases z), (fun xs z => by cases z)⟩
theorem perm_of {α : Type} [DecidableEq α] {a b : List α} (ha : a.Nodup) (hb : b.Nodup) (h : ∀ x, x ∈ a ↔ x ∈ b) : a.Perm b := (List.perm_ext_iff_of_nodup ha hb).mpr h
/-- words sorted -/
theorem sortD_words {l : List Str} (hn : l.Nodup) (hw : ∀ w ∈ l, w ∈ WORDS) : sortD (l.map PyData.str) = (canon l).map PyData.str := by
  have p : l.Perm (canon l) := perm_of hn (canon_nd l) fun x => ⟨fun h => canon_mem.mpr ⟨hw x h, h⟩, fun h => (canon_mem.mp h).2⟩
  refine srt_uniq ((sortD_perm _).trans (p.map _)) (AllAlike.perm (alike_strs l) (sortD_perm _)) (sortD_sorted _) (canon_pw l)
theorem words_le : (WORDS.all fun a => WORDS.all fun b => (ltCps b.cps.toList a.cps.toList || leD (.str a) (.str b))) = true := by decide +kernel
theorem pw_adj {α : Type} {R : α → α → Prop} (tr : ∀ a b c, R a b → R b c → R a c) : ∀ {l : List α}, (∀ i a b, l[i]? = some a → l[i + 1]? = some b → R a b) → l.Pairwise R
  | [], _ => List.Pairwise.nil
  | [a], _ => List.pairwise_singleton _ _
  | a :: b :: l, h => by
    have ih := pw_adj tr (l := b :: l) fun i x y h1 h2 => h (i + 1) x y (by simpa using h1) (by simpa using h2)
    have h0 := h 0 a b rfl rfl
    refine List.pairwise_cons.mpr ⟨fun y hy => ?_, ih⟩
    rcases List.mem_cons.mp hy with e | e
    · rw [e]; exact h0
    · exact tr _ _ _ h0 ((List.pairwise_cons.mp ih).1 y e)
theorem DesOk.canon {ws : List Str} (h : DesOk ws) : ws = canon ws := by
  have p : ws.Perm (Ow.canon ws) := perm_of h.1 (canon_nd ws) fun x => ⟨fun z => canon_mem.mpr ⟨h.2.1 x z, z⟩, fun z => (canon_mem.mp z).2⟩
  have q : (ws.map PyData.str).Pairwise (fun x y => leD x y = true) := by
    have q0 : ws.Pairwise (fun x y => leD (.str x) (.str y) = true) := pw_adj (R := fun x y => leD (.str x) (.str y) = true) (fun a b c h1 h2 => leD_total.trans _ _ _ h1 h2) fun i a b ha hb => by
      have h4 := sorted_adj h.2.2 ha hb
      have h5 := List.all_eq_true.mp (List.all_eq_true.mp words_le a (h.2.1 a (List.mem_of_getElem? ha))) b (h.2.1 b (List.mem_of_getElem? hb))
      rw [h4, Bool.false_or] at h5
      exact h5
    exact List.pairwise_map.mpr q0
  have e := srt_uniq (p.map PyData.str) (alike_strs ws) q (canon_pw ws)
  exact (List.map_inj_right fun x y z => by cases z; rfl).mp e
theorem canon_desok (S : List Str) : DesOk (canon S) := by
  refine ⟨canon_nd S, fun w hw => (canon_mem.mp hw).1, ?_⟩
  have key : ∀ l : List Str, l.Pairwise (fun x y => ltCps y.cps.toList x.cps.toList = false) → sortedS l = true := by
    have key2 : ∀ (l : List Str) (p : Str), (p :: l).Pairwise (fun x y => ltCps y.cps.toList x.cps.toList = false) → risingS p l = true := by
      intro l
      induction l with
      | nil => intro p _; rfl
      | cons x l ih =>
        intro p h
        obtain ⟨h1, h2⟩ := List.pairwise_cons.mp h
        show (!ltCps x.cps.toList p.cps.toList && risingS x l) = true
        rw [h1 x List.mem_cons_self, ih x h2]; rfl
    intro l h
    cases l with
    | nil => rfl
    | cons p l => exact key2 l p h
  refine key _ (List.Pairwise.sublist List.filter_sublist ?_)
  decide +kernel
theorem desok_ext {a b : List Str} (ha : DesOk a) (hb : DesOk b) (h : ∀ w, w ∈ a ↔ w ∈ b) : a = b := by
  rw [ha.canon, hb.canon]
  exact canon_congr fun w _ => h w
theorem desok_sub {a b : List Str} (hb : DesOk b) (h : a.Sublist b) : DesOk a := by
  have e : a = canon a := by
    have h1 : a.Nodup := List.Pairwise.sublist h hb.1
    have h2 : ∀ w ∈ a, w ∈ WORDS := fun w hw => hb.2.1 w (h.subset hw)
    have p : a.Perm (canon a) := perm_of h1 (canon_nd a) fun x => ⟨fun z => canon_mem.mpr ⟨h2 x z, z⟩, fun z => (canon_mem.mp z).2⟩
    have q : (a.map PyData.str).Pairwise (fun x y => leD x y = true) := by
      have := canon_pw b
      rw [← hb.canon] at this
      exact List.Pairwise.sublist (h.map _) this
    have e := srt_uniq (p.map PyData.str) (alike_strs a) q (canon_pw a)
    exact (List.map_inj_right fun x y z => by cases z; rfl).mp e
  rw [e]
  exact canon_desok a
/-! ### one word more -/
def plusW (one : List Str) (w : Str) : List Str := canon (one ++ [w])
def moreW (one : List Str) : List (List Str) := ((WORDS.filter fun w => !decide (w ∈ one)).map (plusW one)).filter fun g => decide (Sound g)
theorem plus_mem {one : List Str} {w u : Str} (h : DesOk one) (hw : w ∈ WORDS) : u ∈ plusW one w ↔ u ∈ one ∨ u = w := by
  unfold plusW
  rw [canon_mem, List.mem_append, List.mem_singleton]
  constructor
  · exact fun z => z.2
  · rintro (z | z)
    · exact ⟨h.2.1 u z, .inl z⟩
    · rw [z]; exact ⟨hw, .inr rfl⟩
theorem plus_len {one : List Str} {w : Str} (h : DesOk one) (hw : w ∈ WORDS) (hn : w ∉ one) : (plusW one w).length = one.length + 1 := by
  have p : (plusW one w).Perm (one ++ [w]) := perm_of (canon_nd _) (List.nodup_append.mpr ⟨h.1, by simp, fun a ha b hb e => hn (by rw [List.mem_singleton.mp hb] at e; rw [← e]; exact ha)⟩) fun x => by
    rw [plus_mem h hw, List.mem_append, List.mem_singleton]
  rw [p.length_eq, List.length_append]; rfl
theorem moreW_mem {one g : List Str} : g ∈ moreW one ↔ ∃ w ∈ WORDS, w ∉ one ∧ g = plusW one w ∧ Sound g := by
  unfold moreW
  rw [List.mem_filter, List.mem_map, decide_eq_true_eq]
  constructor
  · rintro ⟨⟨w, hw, rfl⟩, s⟩
    obtain ⟨h1, h2⟩ := List.mem_filter.mp hw
    exact ⟨w, h1, by simpa using h2, rfl, s⟩
  · rintro ⟨w, h1, h2, rfl, s⟩
    exact ⟨⟨w, List.mem_filter.mpr ⟨h1, by simpa using h2⟩, rfl⟩, s⟩
theorem moreW_len (one : List Str) : (moreW one).length ≤ 12 := by
  refine Nat.le_trans (List.length_filter_le _ _) ?_
  rw [List.length_map]
  exact List.length_filter_le _ _
/-- a greatest sound design over ws -/
def Great (ws g : List Str) : Prop := DesOk g ∧ (∀ w ∈ ws, w ∈ g) ∧ Sound g ∧ ∀ w ∈ WORDS, w ∉ g → ¬ Sound (g ++ [w])
def Lay (ws : List Str) (n : Nat) (g : List Str) : Prop := DesOk g ∧ (∀ w ∈ ws, w ∈ g) ∧ Sound g ∧ g.length = ws.length + n
theorem sound_plus {g : List Str} {w : Str} (h : DesOk g) (hw : w ∈ WORDS) : Sound (plusW g w) ↔ Sound (g ++ [w]) :=
  ⟨sound_mono fun u hu => (plus_mem h hw).mpr ((List.mem_append.mp hu).imp id List.mem_singleton.mp), sound_mono fun u hu => List.mem_append.mpr (((plus_mem h hw).mp hu).imp id List.mem_singleton.mpr)⟩
theorem great_more {ws g : List Str} {n : Nat} (h : Lay ws n g) : moreW g = [] ↔ Great ws g := by
  obtain ⟨h1, h2, h3, h4⟩ := h
  constructor
  · intro e
    refine ⟨h1, h2, h3, fun w hw hn s => ?_⟩
    have : plusW g w ∈ moreW g := moreW_mem.mpr ⟨w, hw, hn, rfl, (sound_plus h1 hw).mpr s⟩
    rw [e] at this; cases this
  · rintro ⟨_, _, _, g4⟩
    rw [List.eq_nil_iff_forall_not_mem]
    intro x hx
    obtain ⟨w, a1, a2, rfl, a4⟩ := moreW_mem.mp hx
    exact g4 w a1 a2 ((sound_plus h1 a1).mp a4)
theorem lay_up {ws one g : List Str} {n : Nat} (h : Lay ws n one) (hg : g ∈ moreW one) : Lay ws (n + 1) g := by
  obtain ⟨h1, h2, h3, h4⟩ := h
  obtain ⟨w, a1, a2, rfl, a4⟩ := moreW_mem.mp hg
  refine ⟨canon_desok _, fun u hu => (plus_mem h1 a1).mpr (.inl (h2 u hu)), a4, ?_⟩
  rw [plus_len h1 a1 a2, h4]; rfl
theorem lay_down {ws g : List Str} {n : Nat} (hws : ws.Nodup) (h : Lay ws (n + 1) g) : ∃ one, Lay ws n one ∧ g ∈ moreW one := by
  obtain ⟨h1, h2, h3, h4⟩ := h
  obtain ⟨w, hw, hn⟩ : ∃ w ∈ g, w ∉ ws := Classical.byContradiction fun z => by
    have : ∀ w ∈ g, w ∈ ws := fun w hw => Classical.byContradiction fun y => z ⟨w, hw, y⟩
    have := nodup_sub h1.1 this
    omega
  have sb : (g.filter fun u => !decide (u = w)).Sublist g := List.filter_sublist
  have d1 := desok_sub h1 sb
  have mem1 : ∀ u, u ∈ g.filter (fun u => !decide (u = w)) ↔ u ∈ g ∧ u ≠ w := fun u => by rw [List.mem_filter]; simp
  have hwW := h1.2.1 w hw
  have e : g = plusW (g.filter fun u => !decide (u = w)) w := desok_ext h1 (canon_desok _) fun u => by
    show u ∈ g ↔ u ∈ plusW (g.filter fun u => !decide (u = w)) w
    rw [plus_mem d1 hwW, mem1]
    constructor
    · intro z
      by_cases y : u = w
      · exact .inr y
      · exact .inl ⟨z, y⟩
    · rintro (z | z)
      · exact z.1
      · rw [z]; exact hw
  have nw : w ∉ g.filter (fun u => !decide (u = w)) := fun z => ((mem1 w).mp z).2 rfl
  have ln := plus_len d1 hwW nw
  rw [← e] at ln
  refine ⟨_, ⟨d1, fun u hu => (mem1 u).mpr ⟨h2 u hu, fun z => hn (by rw [← z]; exact hu)⟩, sound_mono (fun u hu => ((mem1 u).mp hu).1) h3, by omega⟩, moreW_mem.mpr ⟨w, hwW, nw, e, h3⟩⟩
theorem lay_any {ws : List Str} {n : Nat} (hws : ws.Nodup) : ∀ (k : Nat) (g : List Str), Lay ws (n + k) g → ∃ g', Lay ws n g'
  | 0, g, h => ⟨g, h⟩
  | k + 1, g, h => by
    obtain ⟨one, h1, _⟩ := lay_down hws (n := n + k) h
    exact lay_any hws k one h1
/-- the search by layers: the state at layer n -/
structure Layer (ws : List Str) (n : Nat) (A F : List (List Str)) : Prop where
  a : ∀ g, g ∈ A ↔ Lay ws n g
  f : ∀ g, g ∈ F ↔ Great ws g ∧ g.length < ws.length + n
theorem Layer.start {ws : List Str} (h : DesOk ws) (s : Sound ws) : Layer ws 0 [ws] [] := ⟨fun g => by
  rw [List.mem_singleton]
  constructor
  · rintro rfl; exact ⟨h, fun _ h => h, s, rfl⟩
  · rintro ⟨h1, h2, h3, h4⟩
    refine desok_ext h1 h fun w => ⟨fun z => Classical.byContradiction fun y => ?_, h2 w⟩
    have := nodup_sub (l := w :: ws) (m := g) (List.nodup_cons.mpr ⟨y, h.1⟩) (fun x hx => by
      rcases List.mem_cons.mp hx with e | e
      · rw [e]; exact z
      · exact h2 x e)
    rw [List.length_cons] at this
    omega, fun g => ⟨(fun z => by cases z), fun z => by
      obtain ⟨⟨g1, g2, _⟩, g5⟩ := z
      have := nodup_sub h.1 g2
      omega⟩⟩
theorem Layer.next {ws : List Str} {n : Nat} {A F L F' : List (List Str)} (hws : ws.Nodup) (h : Layer ws n A F) (hL : ∀ g, g ∈ L ↔ ∃ one ∈ A, g ∈ moreW one) (hF : ∀ g, g ∈ F' ↔ g ∈ F ∨ g ∈ A ∧ moreW g = []) : Layer ws (n + 1) L F' := ⟨fun g => by
  rw [hL]
  constructor
  · rintro ⟨one, h1, h2⟩
    exact lay_up ((h.a one).mp h1) h2
  · intro z
    obtain ⟨one, h1, h2⟩ := lay_down hws z
    exact ⟨one, (h.a one).mpr h1, h2⟩, fun g => by
  rw [hF]
  constructor
  · rintro (z | ⟨z1, z2⟩)
    · have := (h.f g).mp z
      exact ⟨this.1, by omega⟩
    · have l := (h.a g).mp z1
      exact ⟨(great_more l).mp z2, by have := l.2.2.2; omega⟩
  · rintro ⟨z1, z2⟩
    by_cases y : g.length < ws.length + n
    · exact .inl ((h.f g).mpr ⟨z1, y⟩)
    · have l : Lay ws n g := ⟨z1.1, z1.2.1, z1.2.2.1, by omega⟩
      exact .inr ⟨(h.a g).mpr l, (great_more l).mpr z1⟩⟩
theorem Layer.fin {ws : List Str} {n : Nat} {F : List (List Str)} (hws : ws.Nodup) (h : Layer ws n [] F) (g : List Str) : g ∈ F ↔ Great ws g := by
  rw [h.f]
  refine ⟨fun z => z.1, fun z => ⟨z, Classical.byContradiction fun y => ?_⟩⟩
  obtain ⟨g', hg⟩ := lay_any (n := n) hws (g.length - (ws.length + n)) g ⟨z.1, z.2.1, z.2.2.1, by omega⟩
  have := (h.a g').mpr hg
  cases this
theorem Layer.small {ws : List Str} {n : Nat} {A F : List (List Str)} (h : Layer ws n A F) (ne : A ≠ []) : n ≤ 12 := by
  obtain ⟨g, hg⟩ := List.exists_mem_of_ne_nil _ ne
  obtain ⟨h1, _, _, h4⟩ := (h.a g).mp hg
  have := h1.len
  omega
/-! ### all groups of words -/
def grpF (ws : List Str) : List (List Str) := ws.foldl (fun acc w => acc ++ acc.map (· ++ [w])) [[]]
theorem grpF_snoc (ws : List Str) (w : Str) : grpF (ws ++ [w]) = grpF ws ++ (grpF ws).map (· ++ [w]) := by
  unfold grpF
  rw [List.foldl_append]; rfl
theorem grpF_len : ∀ ws : List Str, (grpF ws).length = 2 ^ ws.length := fun ws => by
  have key : ∀ (n : Nat) (ws : List Str), ws.length = n → (grpF ws).length = 2 ^ n := by
    intro n
    induction n with
    | zero => intro ws h; rw [List.length_eq_zero_iff.mp h]; rfl
    | succ n ih =>
      intro ws h
      have hne : ws ≠ [] := fun z => by rw [z] at h; cases h
      obtain ⟨a, w, rfl⟩ : ∃ a w, ws = a ++ [w] := ⟨ws.dropLast, ws.getLast hne, (List.dropLast_concat_getLast hne).symm⟩
      rw [List.length_append, List.length_singleton] at h
      rw [grpF_snoc, List.length_append, List.length_map, ih a (by omega), Nat.pow_succ]; omega
  exact key _ ws rfl
theorem sub_one {y : List Str} {w : Str} (h : y.Sublist [w]) : y = [] ∨ y = [w] := by
  cases h with
  | cons _ h => exact .inl (List.sublist_nil.mp h)
  | cons_cons _ h => exact .inr (by rw [List.sublist_nil.mp h])
theorem grpF_mem : ∀ (n : Nat) {ws g : List Str}, ws.length = n → (g ∈ grpF ws ↔ g.Sublist ws)
  | 0, ws, g, h => by
    rw [List.length_eq_zero_iff.mp h]
    show g ∈ [[]] ↔ _
    rw [List.mem_singleton, List.sublist_nil]
  | n + 1, ws, g, h => by
    have hne : ws ≠ [] := fun z => by rw [z] at h; cases h
    obtain ⟨a, w, rfl⟩ : ∃ a w, ws = a ++ [w] := ⟨ws.dropLast, ws.getLast hne, (List.dropLast_concat_getLast hne).symm⟩
    rw [List.length_append, List.length_singleton] at h
    rw [grpF_snoc, List.mem_append, List.mem_map, grpF_mem n (by omega : a.length = n)]
    constructor
    · rintro (z | ⟨g', z, rfl⟩)
      · exact z.trans (List.sublist_append_left _ _)
      · exact ((grpF_mem n (by omega : a.length = n)).mp z).append (List.Sublist.refl _)
    · intro z
      obtain ⟨x, y, rfl, hx, hy⟩ := List.sublist_append_iff.mp z
      rcases sub_one hy with e | e
      · rw [e, List.append_nil]; exact .inl hx
      · rw [e]; exact .inr ⟨x, (grpF_mem n (by omega : a.length = n)).mpr hx, rfl⟩
theorem grp_mem {ws g : List Str} : g ∈ grpF ws ↔ g.Sublist ws := grpF_mem _ rfl
theorem grp_nd : ∀ (n : Nat) {ws : List Str}, ws.length = n → ws.Nodup → (grpF ws).Nodup
  | 0, ws, h, _ => by rw [List.length_eq_zero_iff.mp h]; simp [grpF]
  | n + 1, ws, h, hn => by
    have hne : ws ≠ [] := fun z => by rw [z] at h; cases h
    obtain ⟨a, w, rfl⟩ : ∃ a w, ws = a ++ [w] := ⟨ws.dropLast, ws.getLast hne, (List.dropLast_concat_getLast hne).symm⟩
    rw [List.length_append, List.length_singleton] at h
    obtain ⟨n1, n2, n3⟩ := List.nodup_append.mp hn
    have ih := grp_nd n (by omega : a.length = n) n1
    rw [grpF_snoc]
    refine List.nodup_append.mpr ⟨ih, List.Pairwise.map _ (fun x y h z => h (List.append_cancel_right z)) ih, fun x hx y hy e => ?_⟩
    obtain ⟨g, _, rfl⟩ := List.mem_map.mp hy
    have : w ∈ a := (grp_mem.mp hx).subset (by rw [e]; simp)
    exact n3 w this w (by simp) rfl
/-! ### what the law lays out -/
def restW (small : List Str) : List Str := WORDS.filter fun w => !decide (w ∈ small)
def topG (small : List Str) (g : List Str) : Bool := ((restW small).filter fun w => !decide (w ∈ g) && decide (Sound (small ++ g ++ [w]))).isEmpty
def dueW (small : List Str) : List (List Str) := (((grpF (restW small)).filter fun g => decide (Sound (small ++ g))).filter (topG small)).map fun g => canon (small ++ g)
theorem rest_mem {small : List Str} {w : Str} : w ∈ restW small ↔ w ∈ WORDS ∧ w ∉ small := by unfold restW; rw [List.mem_filter]; simp
theorem due_mem {small d : List Str} (hs : DesOk small) : d ∈ dueW small ↔ Great small d := by
  unfold dueW
  rw [List.mem_map]
  have cm : ∀ {g : List Str}, g.Sublist (restW small) → ∀ w, w ∈ canon (small ++ g) ↔ w ∈ small ∨ w ∈ g := fun {g} hg w => by
    rw [canon_mem, List.mem_append]
    refine ⟨fun z => z.2, fun z => ⟨?_, z⟩⟩
    rcases z with z | z
    · exact hs.2.1 w z
    · exact (rest_mem.mp (hg.subset z)).1
  constructor
  · rintro ⟨g, hg, rfl⟩
    obtain ⟨h1, h3⟩ := List.mem_filter.mp hg
    obtain ⟨h1, h2⟩ := List.mem_filter.mp h1
    have hg := grp_mem.mp h1
    have h2 := of_decide_eq_true h2
    refine ⟨canon_desok _, fun w hw => (cm hg w).mpr (.inl hw), sound_mono (fun w hw => List.mem_append.mpr ((cm hg w).mp hw)) h2, fun w hw hn s => ?_⟩
    have n1 : w ∉ small := fun z => hn ((cm hg w).mpr (.inl z))
    have n2 : w ∉ g := fun z => hn ((cm hg w).mpr (.inr z))
    unfold topG at h3
    rw [List.isEmpty_iff, List.filter_eq_nil_iff] at h3
    have := h3 w (rest_mem.mpr ⟨hw, n1⟩)
    rw [decide_eq_false n2, decide_eq_true (sound_mono (fun u hu => by
      rcases List.mem_append.mp hu with z | z
      · exact List.mem_append.mpr (.inl ((cm hg u).mpr (List.mem_append.mp z)))
      · exact List.mem_append.mpr (.inr z)) s)] at this
    exact this rfl
  · rintro ⟨g1, g2, g3, g4⟩
    have hg : (canon (d.filter fun w => !decide (w ∈ small))).Sublist (restW small) := by
      have : canon (d.filter fun w => !decide (w ∈ small)) = (restW small).filter fun w => decide (w ∈ d) := by
        unfold canon restW
        rw [List.filter_filter]
        refine List.filter_congr fun w _ => ?_
        by_cases a : w ∈ d <;> by_cases b : w ∈ small <;> simp [List.mem_filter, a, b]
      rw [this]
      exact List.filter_sublist
    have gm : ∀ w, w ∈ canon (d.filter fun w => !decide (w ∈ small)) ↔ w ∈ d ∧ w ∉ small := fun w => by
      rw [canon_mem, List.mem_filter]
      constructor
      · rintro ⟨_, z1, z2⟩; exact ⟨z1, by simpa using z2⟩
      · rintro ⟨z1, z2⟩; exact ⟨g1.2.1 w z1, z1, by simpa using z2⟩
    have both : ∀ w, w ∈ small ∨ w ∈ canon (d.filter fun w => !decide (w ∈ small)) ↔ w ∈ d := fun w => by
      rw [gm]
      constructor
      · rintro (z | z)
        · exact g2 w z
        · exact z.1
      · intro z
        by_cases y : w ∈ small
        · exact .inl y
        · exact .inr ⟨z, y⟩
    refine ⟨_, List.mem_filter.mpr ⟨List.mem_filter.mpr ⟨grp_mem.mpr hg, decide_eq_true (sound_mono (fun w hw => (both w).mp (List.mem_append.mp hw)) g3)⟩, ?_⟩, desok_ext (canon_desok _) g1 fun w => (cm hg w).trans (both w)⟩
    unfold topG
    rw [List.isEmpty_iff, List.filter_eq_nil_iff]
    intro w hw z
    rw [Bool.and_eq_true] at z
    have n2 : w ∉ canon (d.filter fun w => !decide (w ∈ small)) := by simpa using z.1
    obtain ⟨w1, w2⟩ := rest_mem.mp hw
    have nd : w ∉ d := fun y => ((both w).mpr y).elim w2 n2
    refine g4 w w1 nd (sound_mono (fun u hu => ?_) (of_decide_eq_true z.2))
    rcases List.mem_append.mp hu with y | y
    · exact List.mem_append.mpr (.inl (List.mem_append.mpr ((both u).mpr y)))
    · exact List.mem_append.mpr (.inr y)
theorem due_nd {small : List Str} (hs : DesOk small) : (dueW small).Nodup := by
  unfold dueW
  have rn : (restW small).Nodup := List.Pairwise.sublist List.filter_sublist words_nodup
  have gn := grp_nd _ rfl rn
  have n2 := List.Pairwise.sublist (List.filter_sublist (p := topG small)) (List.Pairwise.sublist (List.filter_sublist (p := fun g => decide (Sound (small ++ g)))) gn)
  rw [List.Nodup, List.pairwise_map]
  refine List.Pairwise.imp_of_mem (fun {x y} hx hy hne e => hne ?_) n2
  have sx := grp_mem.mp (List.mem_filter.mp (List.mem_filter.mp hx).1).1
  have sy := grp_mem.mp (List.mem_filter.mp (List.mem_filter.mp hy).1).1
  have dr : DesOk (restW small) := desok_sub (canon_desok WORDS) (by
    have : canon WORDS = WORDS := List.filter_eq_self.mpr fun w hw => decide_eq_true hw
    rw [this]; exact List.filter_sublist)
  refine desok_ext (desok_sub dr sx) (desok_sub dr sy) fun w => ?_
  have key : ∀ {a b : List Str}, a.Sublist (restW small) → canon (small ++ a) = canon (small ++ b) → w ∈ a → w ∈ b := fun {a b} ha e hw => by
    obtain ⟨r1, r2⟩ := rest_mem.mp (ha.subset hw)
    have : w ∈ canon (small ++ b) := by rw [← e]; exact canon_mem.mpr ⟨r1, List.mem_append.mpr (.inr hw)⟩
    rcases List.mem_append.mp (canon_mem.mp this).2 with z | z
    · exact absurd z r2
    · exact z
  exact ⟨key sx e, key sy e.symm⟩
/-- the greatest ones, sorted: the same from either side -/
theorem great_same {small : List Str} {ks : List (List Str)} (hs : DesOk small) (hn : ks.Nodup) (hk : ∀ g, g ∈ ks ↔ Great small g) : ks.Perm (dueW small) := perm_of hn (due_nd hs) fun g => by rw [hk, due_mem hs]
/-! ### fewest -/
def gD (g : List Str) : D := .tuple [.int (g.length : Int), .tuple (g.map PyData.str)]
def ordG (ws : List Str) : List (List Str) := (grpF ws).mergeSort fun a b => leD (gD a) (gD b)
theorem ordG_map (ws : List Str) : sortD ((grpF ws).map gD) = (ordG ws).map gD := (PySem.W.sort_maps (s := leD) gD (fun _ _ _ _ => rfl)).symm
theorem ordG_mem {ws g : List Str} : g ∈ ordG ws ↔ g.Sublist ws := by
  have p : (ordG ws).Perm (grpF ws) := List.mergeSort_perm _ _
  rw [p.mem_iff, grp_mem]
theorem ordG_len (ws : List Str) : (ordG ws).length = 2 ^ ws.length := by
  have p : (ordG ws).Perm (grpF ws) := List.mergeSort_perm _ _
  rw [p.length_eq, grpF_len]
def lessW (ws g : List Str) : List Str := ws.filter fun w => !decide (w ∈ g)
def fewW (ws : List Str) : Option (List Str) := (ordG ws).find? fun g => decide (Sound (lessW ws g))
theorem few_some (ws : List Str) : ∃ g, fewW ws = some g ∧ g.Sublist ws := by
  have h : (fewW ws).isSome = true := by
    unfold fewW
    rw [List.find?_isSome]
    refine ⟨ws, ordG_mem.mpr (List.Sublist.refl _), decide_eq_true ?_⟩
    have : lessW ws ws = [] := List.filter_eq_nil_iff.mpr fun w hw => by rw [decide_eq_true hw]; decide
    rw [this]
    decide +kernel
  obtain ⟨g, hg⟩ := Option.isSome_iff_exists.mp h
  exact ⟨g, hg, ordG_mem.mp (List.mem_of_find?_eq_some hg)⟩
theorem alikeAll_strs : ∀ (a b : List Str), PySem.W.alikeAll (a.map PyData.str) (b.map PyData.str) = true
  | [], _ => by simp [PySem.W.alikeAll]
  | _ :: _, [] => by simp [PySem.W.alikeAll]
  | x :: a, y :: b => by
    show PySem.W.alikeAll (.str x :: a.map PyData.str) (.str y :: b.map PyData.str) = true
    rw [PySem.W.alikeAll, alikeAll_strs a b]
    simp [PySem.W.alike]
theorem alike_gD (G : List (List Str)) : PySem.W.AllAlike (G.map gD) := fun d hd e he => by
  obtain ⟨a, _, rfl⟩ := List.mem_map.mp hd
  obtain ⟨b, _, rfl⟩ := List.mem_map.mp he
  have := alikeAll_strs a b
  simp [gD, PySem.W.alike, PySem.W.alikeAll, this]
theorem sortable_gD (G : List (List Str)) : PySem.W.Sortable (G.map gD) := .inl fun d hd => by
  obtain ⟨a, _, rfl⟩ := List.mem_map.mp hd
  exact ⟨_, _, rfl⟩
theorem depth_strs (l : List Str) : PyData.depth (.tuple (l.map PyData.str)) ≤ 2 := by
  have h : ∀ k : List Str, PyData.depthAll (k.map PyData.str) ≤ 1 := fun k => by
    refine depthAll_le fun d hd => ?_
    obtain ⟨x, _, rfl⟩ := List.mem_map.mp hd
    rw [PyData.depth]; omega
  rw [PyData.depth]
  have := h l
  omega
theorem depth_gD (g : List Str) : (gD g).depth ≤ 8 := by
  have h := depth_strs g
  show PyData.depth (.tuple [.int (g.length : Int), .tuple (g.map PyData.str)]) ≤ 8
  rw [PyData.depth]
  have : PyData.depthAll [.int (g.length : Int), .tuple (g.map PyData.str)] ≤ 7 := depthAll_le fun d hd => by
    simp only [List.mem_cons, List.not_mem_nil, or_false] at hd
    rcases hd with rfl | rfl
    · rw [PyData.depth]; omega
    · omega
  omega
abbrev tS (k : List Str) : D := .tuple (k.map PyData.str)
theorem alike_tS (G : List (List Str)) : PySem.W.AllAlike (G.map tS) := fun d hd e he => by
  obtain ⟨a, _, rfl⟩ := List.mem_map.mp hd
  obtain ⟨b, _, rfl⟩ := List.mem_map.mp he
  have := alikeAll_strs a b
  simp [PySem.W.alike, this]
theorem great_ne {ws g : List Str} (h : Great ws g) : g ≠ [] := fun e => by
  subst e
  exact h.2.2.2 "blocks" (by decide +kernel) (by simp) (by decide +kernel)
theorem sortable_tS {G : List (List Str)} (h : ∀ g ∈ G, g ≠ []) : PySem.W.Sortable (G.map tS) := .inl fun d hd => by
  obtain ⟨a, ha, rfl⟩ := List.mem_map.mp hd
  cases a with
  | nil => exact absurd rfl (h _ ha)
  | cons x a => exact ⟨.str x, a.map PyData.str, rfl⟩
/-! ### the fifteen -/
def soundP (p : Str → Bool) : Bool := lotsW.all fun l => !(l.all p)
theorem sound_P {g : List Str} : decide (Sound g) = soundP fun w => decide (w ∈ g) := by
  have h : (soundP fun w => decide (w ∈ g)) = true ↔ Sound g := by
    unfold soundP
    rw [List.all_eq_true, sound_iff]
    refine ⟨fun h l hl => ?_, fun h l hl => ?_⟩
    · have := h l hl
      refine Classical.byContradiction fun z => ?_
      have e : (l.all fun w => decide (w ∈ g)) = true := List.all_eq_true.mpr fun w hw => decide_eq_true (Classical.byContradiction fun y => z ⟨w, hw, y⟩)
      rw [e] at this
      cases this
    · obtain ⟨w, h1, h2⟩ := h l hl
      cases e : (l.all fun w => decide (w ∈ g)) with
      | false => rfl
      | true => exact absurd (of_decide_eq_true (List.all_eq_true.mp e w h1)) h2
  by_cases y : Sound g
  · rw [decide_eq_true y, h.mpr y]
  · rw [decide_eq_false y]
    cases e : (soundP fun w => decide (w ∈ g)) with
    | false => rfl
    | true => exact absurd (h.mp e) y
def L15 : List (List Str) := [["drop looked", "far", "set", "share"], ["drop looked", "far", "hands", "set"], ["drop looked", "far", "hands", "lend looked", "move looked", "set looked", "share", "two names", "use lent"], ["drop", "far", "set", "share"], ["drop", "far", "lend looked", "set looked", "share"], ["drop", "far", "hands", "set"], ["drop", "far", "hands", "lend looked", "set looked"], ["blocks", "drop looked", "set", "share"], ["blocks", "drop looked", "lend looked", "set looked", "share"], ["blocks", "drop looked", "hands", "set"], ["blocks", "drop looked", "hands", "lend looked", "set looked"], ["blocks", "drop", "set", "share"], ["blocks", "drop", "lend looked", "set looked", "share"], ["blocks", "drop", "hands", "set"], ["blocks", "drop", "hands", "lend looked", "set looked"]]
def noLot (b0 b1 b2 b3 b4 b5 b6 b7 b8 b9 b10 b11 : Bool) : Bool := (!(b0 && (b3 && true)) && (!(b0 && (b4 && (b9 && true))) && (!(b0 && (b6 && true)) && (!(b0 && (b10 && true)) && (!(b0 && (b11 && true)) && (!(b1 && (b2 && true)) && (!(b1 && (b4 && (b9 && true))) && (!(b1 && (b6 && true)) && (!(b1 && (b10 && true)) && (!(b1 && (b11 && true)) && (!(b4 && (b7 && (b9 && true))) && (!(b5 && (b7 && true)) && (!(b6 && (b7 && true)) && (!(b7 && (b8 && true)) && (!(b7 && (b10 && true)) && (!(b7 && (b11 && true)) && true))))))))))))))))
def selV (bs : List Bool) : List Str := ((WORDS.zip bs).filter (·.2)).map (·.1)
def greatV (b0 b1 b2 b3 b4 b5 b6 b7 b8 b9 b10 b11 : Bool) : Bool := noLot b0 b1 b2 b3 b4 b5 b6 b7 b8 b9 b10 b11 && (b0 || !noLot true b1 b2 b3 b4 b5 b6 b7 b8 b9 b10 b11) && (b1 || !noLot b0 true b2 b3 b4 b5 b6 b7 b8 b9 b10 b11) && (b2 || !noLot b0 b1 true b3 b4 b5 b6 b7 b8 b9 b10 b11) && (b3 || !noLot b0 b1 b2 true b4 b5 b6 b7 b8 b9 b10 b11) && (b4 || !noLot b0 b1 b2 b3 true b5 b6 b7 b8 b9 b10 b11) && (b5 || !noLot b0 b1 b2 b3 b4 true b6 b7 b8 b9 b10 b11) && (b6 || !noLot b0 b1 b2 b3 b4 b5 true b7 b8 b9 b10 b11) && (b7 || !noLot b0 b1 b2 b3 b4 b5 b6 true b8 b9 b10 b11) && (b8 || !noLot b0 b1 b2 b3 b4 b5 b6 b7 true b9 b10 b11) && (b9 || !noLot b0 b1 b2 b3 b4 b5 b6 b7 b8 true b10 b11) && (b10 || !noLot b0 b1 b2 b3 b4 b5 b6 b7 b8 b9 true b11) && (b11 || !noLot b0 b1 b2 b3 b4 b5 b6 b7 b8 b9 b10 true)
theorem great15 : ∀ b0 b1 b2 b3 b4 b5 b6 b7 b8 b9 b10 b11 : Bool, greatV b0 b1 b2 b3 b4 b5 b6 b7 b8 b9 b10 b11 = true → selV [b0, b1, b2, b3, b4, b5, b6, b7, b8, b9, b10, b11] ∈ L15 := by decide +kernel
theorem soundP_V (p : Str → Bool) : soundP p = noLot (p "blocks") (p "drop") (p "drop looked") (p "far") (p "hands") (p "lend looked") (p "move looked") (p "set") (p "set looked") (p "share") (p "two names") (p "use lent") := rfl
theorem filt_sel (p : Str → Bool) : ∀ l : List Str, l.filter p = ((l.zip (l.map p)).filter (·.2)).map (·.1)
  | [] => rfl
  | x :: l => by
    rw [List.map_cons, List.zip_cons_cons, List.filter_cons, List.filter_cons, filt_sel p l]
    cases p x <;> simp
theorem orT {b : Bool} {w : Str} : (b || decide (w = w)) = true := by simp
theorem orF {b : Bool} {u w : Str} (h : u ≠ w) : (b || decide (u = w)) = b := by rw [decide_eq_false h, Bool.or_false]
theorem in15 {g : List Str} (h : Great [] g) : g ∈ L15 := by
  obtain ⟨h1, _, h3, h4⟩ := h
  have e : g = selV (WORDS.map fun w => decide (w ∈ g)) := by
    have := h1.canon
    unfold canon at this
    rw [filt_sel] at this
    exact this
  have s0 : soundP (fun w => decide (w ∈ g)) = true := by rw [← sound_P]; exact decide_eq_true h3
  rw [soundP_V] at s0
  have up : ∀ w ∈ WORDS, (decide (w ∈ g) || !soundP fun u => (decide (u ∈ g) || decide (u = w))) = true := fun w hw => by
    by_cases y : w ∈ g
    · rw [decide_eq_true y]; rfl
    · have h5 := h4 w hw y
      have e2 : (fun u => (decide (u ∈ g) || decide (u = w))) = fun u => decide (u ∈ g ++ [w]) := by
        funext u
        by_cases a : u ∈ g <;> by_cases b : u = w <;> simp [a, b]
      rw [e2, ← sound_P, decide_eq_false h5]; simp
  rw [e]
  have u0 := up "blocks" (by decide +kernel)
  rw [soundP_V] at u0
  have u0 : ((decide (("blocks" : Str) ∈ g)) || !noLot true (decide (("drop" : Str) ∈ g)) (decide (("drop looked" : Str) ∈ g)) (decide (("far" : Str) ∈ g)) (decide (("hands" : Str) ∈ g)) (decide (("lend looked" : Str) ∈ g)) (decide (("move looked" : Str) ∈ g)) (decide (("set" : Str) ∈ g)) (decide (("set looked" : Str) ∈ g)) (decide (("share" : Str) ∈ g)) (decide (("two names" : Str) ∈ g)) (decide (("use lent" : Str) ∈ g))) = true := by
    have f0 : (decide (("blocks" : Str) ∈ g) || decide (("blocks" : Str) = "blocks")) = true := orT
    have f1 : (decide (("drop" : Str) ∈ g) || decide (("drop" : Str) = "blocks")) = decide (("drop" : Str) ∈ g) := orF (by decide +kernel)
    have f2 : (decide (("drop looked" : Str) ∈ g) || decide (("drop looked" : Str) = "blocks")) = decide (("drop looked" : Str) ∈ g) := orF (by decide +kernel)
    have f3 : (decide (("far" : Str) ∈ g) || decide (("far" : Str) = "blocks")) = decide (("far" : Str) ∈ g) := orF (by decide +kernel)
    have f4 : (decide (("hands" : Str) ∈ g) || decide (("hands" : Str) = "blocks")) = decide (("hands" : Str) ∈ g) := orF (by decide +kernel)
    have f5 : (decide (("lend looked" : Str) ∈ g) || decide (("lend looked" : Str) = "blocks")) = decide (("lend looked" : Str) ∈ g) := orF (by decide +kernel)
    have f6 : (decide (("move looked" : Str) ∈ g) || decide (("move looked" : Str) = "blocks")) = decide (("move looked" : Str) ∈ g) := orF (by decide +kernel)
    have f7 : (decide (("set" : Str) ∈ g) || decide (("set" : Str) = "blocks")) = decide (("set" : Str) ∈ g) := orF (by decide +kernel)
    have f8 : (decide (("set looked" : Str) ∈ g) || decide (("set looked" : Str) = "blocks")) = decide (("set looked" : Str) ∈ g) := orF (by decide +kernel)
    have f9 : (decide (("share" : Str) ∈ g) || decide (("share" : Str) = "blocks")) = decide (("share" : Str) ∈ g) := orF (by decide +kernel)
    have f10 : (decide (("two names" : Str) ∈ g) || decide (("two names" : Str) = "blocks")) = decide (("two names" : Str) ∈ g) := orF (by decide +kernel)
    have f11 : (decide (("use lent" : Str) ∈ g) || decide (("use lent" : Str) = "blocks")) = decide (("use lent" : Str) ∈ g) := orF (by decide +kernel)
    rw [f0, f1, f2, f3, f4, f5, f6, f7, f8, f9, f10, f11] at u0
    exact u0
  have u1 := up "drop" (by decide +kernel)
  rw [soundP_V] at u1
  have u1 : ((decide (("drop" : Str) ∈ g)) || !noLot (decide (("blocks" : Str) ∈ g)) true (decide (("drop looked" : Str) ∈ g)) (decide (("far" : Str) ∈ g)) (decide (("hands" : Str) ∈ g)) (decide (("lend looked" : Str) ∈ g)) (decide (("move looked" : Str) ∈ g)) (decide (("set" : Str) ∈ g)) (decide (("set looked" : Str) ∈ g)) (decide (("share" : Str) ∈ g)) (decide (("two names" : Str) ∈ g)) (decide (("use lent" : Str) ∈ g))) = true := by
    have f0 : (decide (("blocks" : Str) ∈ g) || decide (("blocks" : Str) = "drop")) = decide (("blocks" : Str) ∈ g) := orF (by decide +kernel)
    have f1 : (decide (("drop" : Str) ∈ g) || decide (("drop" : Str) = "drop")) = true := orT
    have f2 : (decide (("drop looked" : Str) ∈ g) || decide (("drop looked" : Str) = "drop")) = decide (("drop looked" : Str) ∈ g) := orF (by decide +kernel)
    have f3 : (decide (("far" : Str) ∈ g) || decide (("far" : Str) = "drop")) = decide (("far" : Str) ∈ g) := orF (by decide +kernel)
    have f4 : (decide (("hands" : Str) ∈ g) || decide (("hands" : Str) = "drop")) = decide (("hands" : Str) ∈ g) := orF (by decide +kernel)
    have f5 : (decide (("lend looked" : Str) ∈ g) || decide (("lend looked" : Str) = "drop")) = decide (("lend looked" : Str) ∈ g) := orF (by decide +kernel)
    have f6 : (decide (("move looked" : Str) ∈ g) || decide (("move looked" : Str) = "drop")) = decide (("move looked" : Str) ∈ g) := orF (by decide +kernel)
    have f7 : (decide (("set" : Str) ∈ g) || decide (("set" : Str) = "drop")) = decide (("set" : Str) ∈ g) := orF (by decide +kernel)
    have f8 : (decide (("set looked" : Str) ∈ g) || decide (("set looked" : Str) = "drop")) = decide (("set looked" : Str) ∈ g) := orF (by decide +kernel)
    have f9 : (decide (("share" : Str) ∈ g) || decide (("share" : Str) = "drop")) = decide (("share" : Str) ∈ g) := orF (by decide +kernel)
    have f10 : (decide (("two names" : Str) ∈ g) || decide (("two names" : Str) = "drop")) = decide (("two names" : Str) ∈ g) := orF (by decide +kernel)
    have f11 : (decide (("use lent" : Str) ∈ g) || decide (("use lent" : Str) = "drop")) = decide (("use lent" : Str) ∈ g) := orF (by decide +kernel)
    rw [f0, f1, f2, f3, f4, f5, f6, f7, f8, f9, f10, f11] at u1
    exact u1
  have u2 := up "drop looked" (by decide +kernel)
  rw [soundP_V] at u2
  have u2 : ((decide (("drop looked" : Str) ∈ g)) || !noLot (decide (("blocks" : Str) ∈ g)) (decide (("drop" : Str) ∈ g)) true (decide (("far" : Str) ∈ g)) (decide (("hands" : Str) ∈ g)) (decide (("lend looked" : Str) ∈ g)) (decide (("move looked" : Str) ∈ g)) (decide (("set" : Str) ∈ g)) (decide (("set looked" : Str) ∈ g)) (decide (("share" : Str) ∈ g)) (decide (("two names" : Str) ∈ g)) (decide (("use lent" : Str) ∈ g))) = true := by
    have f0 : (decide (("blocks" : Str) ∈ g) || decide (("blocks" : Str) = "drop looked")) = decide (("blocks" : Str) ∈ g) := orF (by decide +kernel)
    have f1 : (decide (("drop" : Str) ∈ g) || decide (("drop" : Str) = "drop looked")) = decide (("drop" : Str) ∈ g) := orF (by decide +kernel)
    have f2 : (decide (("drop looked" : Str) ∈ g) || decide (("drop looked" : Str) = "drop looked")) = true := orT
    have f3 : (decide (("far" : Str) ∈ g) || decide (("far" : Str) = "drop looked")) = decide (("far" : Str) ∈ g) := orF (by decide +kernel)
    have f4 : (decide (("hands" : Str) ∈ g) || decide (("hands" : Str) = "drop looked")) = decide (("hands" : Str) ∈ g) := orF (by decide +kernel)
    have f5 : (decide (("lend looked" : Str) ∈ g) || decide (("lend looked" : Str) = "drop looked")) = decide (("lend looked" : Str) ∈ g) := orF (by decide +kernel)
    have f6 : (decide (("move looked" : Str) ∈ g) || decide (("move looked" : Str) = "drop looked")) = decide (("move looked" : Str) ∈ g) := orF (by decide +kernel)
    have f7 : (decide (("set" : Str) ∈ g) || decide (("set" : Str) = "drop looked")) = decide (("set" : Str) ∈ g) := orF (by decide +kernel)
    have f8 : (decide (("set looked" : Str) ∈ g) || decide (("set looked" : Str) = "drop looked")) = decide (("set looked" : Str) ∈ g) := orF (by decide +kernel)
    have f9 : (decide (("share" : Str) ∈ g) || decide (("share" : Str) = "drop looked")) = decide (("share" : Str) ∈ g) := orF (by decide +kernel)
    have f10 : (decide (("two names" : Str) ∈ g) || decide (("two names" : Str) = "drop looked")) = decide (("two names" : Str) ∈ g) := orF (by decide +kernel)
    have f11 : (decide (("use lent" : Str) ∈ g) || decide (("use lent" : Str) = "drop looked")) = decide (("use lent" : Str) ∈ g) := orF (by decide +kernel)
    rw [f0, f1, f2, f3, f4, f5, f6, f7, f8, f9, f10, f11] at u2
    exact u2
  have u3 := up "far" (by decide +kernel)
  rw [soundP_V] at u3
  have u3 : ((decide (("far" : Str) ∈ g)) || !noLot (decide (("blocks" : Str) ∈ g)) (decide (("drop" : Str) ∈ g)) (decide (("drop looked" : Str) ∈ g)) true (decide (("hands" : Str) ∈ g)) (decide (("lend looked" : Str) ∈ g)) (decide (("move looked" : Str) ∈ g)) (decide (("set" : Str) ∈ g)) (decide (("set looked" : Str) ∈ g)) (decide (("share" : Str) ∈ g)) (decide (("two names" : Str) ∈ g)) (decide (("use lent" : Str) ∈ g))) = true := by
    have f0 : (decide (("blocks" : Str) ∈ g) || decide (("blocks" : Str) = "far")) = decide (("blocks" : Str) ∈ g) := orF (by decide +kernel)
    have f1 : (decide (("drop" : Str) ∈ g) || decide (("drop" : Str) = "far")) = decide (("drop" : Str) ∈ g) := orF (by decide +kernel)
    have f2 : (decide (("drop looked" : Str) ∈ g) || decide (("drop looked" : Str) = "far")) = decide (("drop looked" : Str) ∈ g) := orF (by decide +kernel)
    have f3 : (decide (("far" : Str) ∈ g) || decide (("far" : Str) = "far")) = true := orT
    have f4 : (decide (("hands" : Str) ∈ g) || decide (("hands" : Str) = "far")) = decide (("hands" : Str) ∈ g) := orF (by decide +kernel)
    have f5 : (decide (("lend looked" : Str) ∈ g) || decide (("lend looked" : Str) = "far")) = decide (("lend looked" : Str) ∈ g) := orF (by decide +kernel)
    have f6 : (decide (("move looked" : Str) ∈ g) || decide (("move looked" : Str) = "far")) = decide (("move looked" : Str) ∈ g) := orF (by decide +kernel)
    have f7 : (decide (("set" : Str) ∈ g) || decide (("set" : Str) = "far")) = decide (("set" : Str) ∈ g) := orF (by decide +kernel)
    have f8 : (decide (("set looked" : Str) ∈ g) || decide (("set looked" : Str) = "far")) = decide (("set looked" : Str) ∈ g) := orF (by decide +kernel)
    have f9 : (decide (("share" : Str) ∈ g) || decide (("share" : Str) = "far")) = decide (("share" : Str) ∈ g) := orF (by decide +kernel)
    have f10 : (decide (("two names" : Str) ∈ g) || decide (("two names" : Str) = "far")) = decide (("two names" : Str) ∈ g) := orF (by decide +kernel)
    have f11 : (decide (("use lent" : Str) ∈ g) || decide (("use lent" : Str) = "far")) = decide (("use lent" : Str) ∈ g) := orF (by decide +kernel)
    rw [f0, f1, f2, f3, f4, f5, f6, f7, f8, f9, f10, f11] at u3
    exact u3
  have u4 := up "hands" (by decide +kernel)
  rw [soundP_V] at u4
  have u4 : ((decide (("hands" : Str) ∈ g)) || !noLot (decide (("blocks" : Str) ∈ g)) (decide (("drop" : Str) ∈ g)) (decide (("drop looked" : Str) ∈ g)) (decide (("far" : Str) ∈ g)) true (decide (("lend looked" : Str) ∈ g)) (decide (("move looked" : Str) ∈ g)) (decide (("set" : Str) ∈ g)) (decide (("set looked" : Str) ∈ g)) (decide (("share" : Str) ∈ g)) (decide (("two names" : Str) ∈ g)) (decide (("use lent" : Str) ∈ g))) = true := by
    have f0 : (decide (("blocks" : Str) ∈ g) || decide (("blocks" : Str) = "hands")) = decide (("blocks" : Str) ∈ g) := orF (by decide +kernel)
    have f1 : (decide (("drop" : Str) ∈ g) || decide (("drop" : Str) = "hands")) = decide (("drop" : Str) ∈ g) := orF (by decide +kernel)
    have f2 : (decide (("drop looked" : Str) ∈ g) || decide (("drop looked" : Str) = "hands")) = decide (("drop looked" : Str) ∈ g) := orF (by decide +kernel)
    have f3 : (decide (("far" : Str) ∈ g) || decide (("far" : Str) = "hands")) = decide (("far" : Str) ∈ g) := orF (by decide +kernel)
    have f4 : (decide (("hands" : Str) ∈ g) || decide (("hands" : Str) = "hands")) = true := orT
    have f5 : (decide (("lend looked" : Str) ∈ g) || decide (("lend looked" : Str) = "hands")) = decide (("lend looked" : Str) ∈ g) := orF (by decide +kernel)
    have f6 : (decide (("move looked" : Str) ∈ g) || decide (("move looked" : Str) = "hands")) = decide (("move looked" : Str) ∈ g) := orF (by decide +kernel)
    have f7 : (decide (("set" : Str) ∈ g) || decide (("set" : Str) = "hands")) = decide (("set" : Str) ∈ g) := orF (by decide +kernel)
    have f8 : (decide (("set looked" : Str) ∈ g) || decide (("set looked" : Str) = "hands")) = decide (("set looked" : Str) ∈ g) := orF (by decide +kernel)
    have f9 : (decide (("share" : Str) ∈ g) || decide (("share" : Str) = "hands")) = decide (("share" : Str) ∈ g) := orF (by decide +kernel)
    have f10 : (decide (("two names" : Str) ∈ g) || decide (("two names" : Str) = "hands")) = decide (("two names" : Str) ∈ g) := orF (by decide +kernel)
    have f11 : (decide (("use lent" : Str) ∈ g) || decide (("use lent" : Str) = "hands")) = decide (("use lent" : Str) ∈ g) := orF (by decide +kernel)
    rw [f0, f1, f2, f3, f4, f5, f6, f7, f8, f9, f10, f11] at u4
    exact u4
  have u5 := up "lend looked" (by decide +kernel)
  rw [soundP_V] at u5
  have u5 : ((decide (("lend looked" : Str) ∈ g)) || !noLot (decide (("blocks" : Str) ∈ g)) (decide (("drop" : Str) ∈ g)) (decide (("drop looked" : Str) ∈ g)) (decide (("far" : Str) ∈ g)) (decide (("hands" : Str) ∈ g)) true (decide (("move looked" : Str) ∈ g)) (decide (("set" : Str) ∈ g)) (decide (("set looked" : Str) ∈ g)) (decide (("share" : Str) ∈ g)) (decide (("two names" : Str) ∈ g)) (decide (("use lent" : Str) ∈ g))) = true := by
    have f0 : (decide (("blocks" : Str) ∈ g) || decide (("blocks" : Str) = "lend looked")) = decide (("blocks" : Str) ∈ g) := orF (by decide +kernel)
    have f1 : (decide (("drop" : Str) ∈ g) || decide (("drop" : Str) = "lend looked")) = decide (("drop" : Str) ∈ g) := orF (by decide +kernel)
    have f2 : (decide (("drop looked" : Str) ∈ g) || decide (("drop looked" : Str) = "lend looked")) = decide (("drop looked" : Str) ∈ g) := orF (by decide +kernel)
    have f3 : (decide (("far" : Str) ∈ g) || decide (("far" : Str) = "lend looked")) = decide (("far" : Str) ∈ g) := orF (by decide +kernel)
    have f4 : (decide (("hands" : Str) ∈ g) || decide (("hands" : Str) = "lend looked")) = decide (("hands" : Str) ∈ g) := orF (by decide +kernel)
    have f5 : (decide (("lend looked" : Str) ∈ g) || decide (("lend looked" : Str) = "lend looked")) = true := orT
    have f6 : (decide (("move looked" : Str) ∈ g) || decide (("move looked" : Str) = "lend looked")) = decide (("move looked" : Str) ∈ g) := orF (by decide +kernel)
    have f7 : (decide (("set" : Str) ∈ g) || decide (("set" : Str) = "lend looked")) = decide (("set" : Str) ∈ g) := orF (by decide +kernel)
    have f8 : (decide (("set looked" : Str) ∈ g) || decide (("set looked" : Str) = "lend looked")) = decide (("set looked" : Str) ∈ g) := orF (by decide +kernel)
    have f9 : (decide (("share" : Str) ∈ g) || decide (("share" : Str) = "lend looked")) = decide (("share" : Str) ∈ g) := orF (by decide +kernel)
    have f10 : (decide (("two names" : Str) ∈ g) || decide (("two names" : Str) = "lend looked")) = decide (("two names" : Str) ∈ g) := orF (by decide +kernel)
    have f11 : (decide (("use lent" : Str) ∈ g) || decide (("use lent" : Str) = "lend looked")) = decide (("use lent" : Str) ∈ g) := orF (by decide +kernel)
    rw [f0, f1, f2, f3, f4, f5, f6, f7, f8, f9, f10, f11] at u5
    exact u5
  have u6 := up "move looked" (by decide +kernel)
  rw [soundP_V] at u6
  have u6 : ((decide (("move looked" : Str) ∈ g)) || !noLot (decide (("blocks" : Str) ∈ g)) (decide (("drop" : Str) ∈ g)) (decide (("drop looked" : Str) ∈ g)) (decide (("far" : Str) ∈ g)) (decide (("hands" : Str) ∈ g)) (decide (("lend looked" : Str) ∈ g)) true (decide (("set" : Str) ∈ g)) (decide (("set looked" : Str) ∈ g)) (decide (("share" : Str) ∈ g)) (decide (("two names" : Str) ∈ g)) (decide (("use lent" : Str) ∈ g))) = true := by
    have f0 : (decide (("blocks" : Str) ∈ g) || decide (("blocks" : Str) = "move looked")) = decide (("blocks" : Str) ∈ g) := orF (by decide +kernel)
    have f1 : (decide (("drop" : Str) ∈ g) || decide (("drop" : Str) = "move looked")) = decide (("drop" : Str) ∈ g) := orF (by decide +kernel)
    have f2 : (decide (("drop looked" : Str) ∈ g) || decide (("drop looked" : Str) = "move looked")) = decide (("drop looked" : Str) ∈ g) := orF (by decide +kernel)
    have f3 : (decide (("far" : Str) ∈ g) || decide (("far" : Str) = "move looked")) = decide (("far" : Str) ∈ g) := orF (by decide +kernel)
    have f4 : (decide (("hands" : Str) ∈ g) || decide (("hands" : Str) = "move looked")) = decide (("hands" : Str) ∈ g) := orF (by decide +kernel)
    have f5 : (decide (("lend looked" : Str) ∈ g) || decide (("lend looked" : Str) = "move looked")) = decide (("lend looked" : Str) ∈ g) := orF (by decide +kernel)
    have f6 : (decide (("move looked" : Str) ∈ g) || decide (("move looked" : Str) = "move looked")) = true := orT
    have f7 : (decide (("set" : Str) ∈ g) || decide (("set" : Str) = "move looked")) = decide (("set" : Str) ∈ g) := orF (by decide +kernel)
    have f8 : (decide (("set looked" : Str) ∈ g) || decide (("set looked" : Str) = "move looked")) = decide (("set looked" : Str) ∈ g) := orF (by decide +kernel)
    have f9 : (decide (("share" : Str) ∈ g) || decide (("share" : Str) = "move looked")) = decide (("share" : Str) ∈ g) := orF (by decide +kernel)
    have f10 : (decide (("two names" : Str) ∈ g) || decide (("two names" : Str) = "move looked")) = decide (("two names" : Str) ∈ g) := orF (by decide +kernel)
    have f11 : (decide (("use lent" : Str) ∈ g) || decide (("use lent" : Str) = "move looked")) = decide (("use lent" : Str) ∈ g) := orF (by decide +kernel)
    rw [f0, f1, f2, f3, f4, f5, f6, f7, f8, f9, f10, f11] at u6
    exact u6
  have u7 := up "set" (by decide +kernel)
  rw [soundP_V] at u7
  have u7 : ((decide (("set" : Str) ∈ g)) || !noLot (decide (("blocks" : Str) ∈ g)) (decide (("drop" : Str) ∈ g)) (decide (("drop looked" : Str) ∈ g)) (decide (("far" : Str) ∈ g)) (decide (("hands" : Str) ∈ g)) (decide (("lend looked" : Str) ∈ g)) (decide (("move looked" : Str) ∈ g)) true (decide (("set looked" : Str) ∈ g)) (decide (("share" : Str) ∈ g)) (decide (("two names" : Str) ∈ g)) (decide (("use lent" : Str) ∈ g))) = true := by
    have f0 : (decide (("blocks" : Str) ∈ g) || decide (("blocks" : Str) = "set")) = decide (("blocks" : Str) ∈ g) := orF (by decide +kernel)
    have f1 : (decide (("drop" : Str) ∈ g) || decide (("drop" : Str) = "set")) = decide (("drop" : Str) ∈ g) := orF (by decide +kernel)
    have f2 : (decide (("drop looked" : Str) ∈ g) || decide (("drop looked" : Str) = "set")) = decide (("drop looked" : Str) ∈ g) := orF (by decide +kernel)
    have f3 : (decide (("far" : Str) ∈ g) || decide (("far" : Str) = "set")) = decide (("far" : Str) ∈ g) := orF (by decide +kernel)
    have f4 : (decide (("hands" : Str) ∈ g) || decide (("hands" : Str) = "set")) = decide (("hands" : Str) ∈ g) := orF (by decide +kernel)
    have f5 : (decide (("lend looked" : Str) ∈ g) || decide (("lend looked" : Str) = "set")) = decide (("lend looked" : Str) ∈ g) := orF (by decide +kernel)
    have f6 : (decide (("move looked" : Str) ∈ g) || decide (("move looked" : Str) = "set")) = decide (("move looked" : Str) ∈ g) := orF (by decide +kernel)
    have f7 : (decide (("set" : Str) ∈ g) || decide (("set" : Str) = "set")) = true := orT
    have f8 : (decide (("set looked" : Str) ∈ g) || decide (("set looked" : Str) = "set")) = decide (("set looked" : Str) ∈ g) := orF (by decide +kernel)
    have f9 : (decide (("share" : Str) ∈ g) || decide (("share" : Str) = "set")) = decide (("share" : Str) ∈ g) := orF (by decide +kernel)
    have f10 : (decide (("two names" : Str) ∈ g) || decide (("two names" : Str) = "set")) = decide (("two names" : Str) ∈ g) := orF (by decide +kernel)
    have f11 : (decide (("use lent" : Str) ∈ g) || decide (("use lent" : Str) = "set")) = decide (("use lent" : Str) ∈ g) := orF (by decide +kernel)
    rw [f0, f1, f2, f3, f4, f5, f6, f7, f8, f9, f10, f11] at u7
    exact u7
  have u8 := up "set looked" (by decide +kernel)
  rw [soundP_V] at u8
  have u8 : ((decide (("set looked" : Str) ∈ g)) || !noLot (decide (("blocks" : Str) ∈ g)) (decide (("drop" : Str) ∈ g)) (decide (("drop looked" : Str) ∈ g)) (decide (("far" : Str) ∈ g)) (decide (("hands" : Str) ∈ g)) (decide (("lend looked" : Str) ∈ g)) (decide (("move looked" : Str) ∈ g)) (decide (("set" : Str) ∈ g)) true (decide (("share" : Str) ∈ g)) (decide (("two names" : Str) ∈ g)) (decide (("use lent" : Str) ∈ g))) = true := by
    have f0 : (decide (("blocks" : Str) ∈ g) || decide (("blocks" : Str) = "set looked")) = decide (("blocks" : Str) ∈ g) := orF (by decide +kernel)
    have f1 : (decide (("drop" : Str) ∈ g) || decide (("drop" : Str) = "set looked")) = decide (("drop" : Str) ∈ g) := orF (by decide +kernel)
    have f2 : (decide (("drop looked" : Str) ∈ g) || decide (("drop looked" : Str) = "set looked")) = decide (("drop looked" : Str) ∈ g) := orF (by decide +kernel)
    have f3 : (decide (("far" : Str) ∈ g) || decide (("far" : Str) = "set looked")) = decide (("far" : Str) ∈ g) := orF (by decide +kernel)
    have f4 : (decide (("hands" : Str) ∈ g) || decide (("hands" : Str) = "set looked")) = decide (("hands" : Str) ∈ g) := orF (by decide +kernel)
    have f5 : (decide (("lend looked" : Str) ∈ g) || decide (("lend looked" : Str) = "set looked")) = decide (("lend looked" : Str) ∈ g) := orF (by decide +kernel)
    have f6 : (decide (("move looked" : Str) ∈ g) || decide (("move looked" : Str) = "set looked")) = decide (("move looked" : Str) ∈ g) := orF (by decide +kernel)
    have f7 : (decide (("set" : Str) ∈ g) || decide (("set" : Str) = "set looked")) = decide (("set" : Str) ∈ g) := orF (by decide +kernel)
    have f8 : (decide (("set looked" : Str) ∈ g) || decide (("set looked" : Str) = "set looked")) = true := orT
    have f9 : (decide (("share" : Str) ∈ g) || decide (("share" : Str) = "set looked")) = decide (("share" : Str) ∈ g) := orF (by decide +kernel)
    have f10 : (decide (("two names" : Str) ∈ g) || decide (("two names" : Str) = "set looked")) = decide (("two names" : Str) ∈ g) := orF (by decide +kernel)
    have f11 : (decide (("use lent" : Str) ∈ g) || decide (("use lent" : Str) = "set looked")) = decide (("use lent" : Str) ∈ g) := orF (by decide +kernel)
    rw [f0, f1, f2, f3, f4, f5, f6, f7, f8, f9, f10, f11] at u8
    exact u8
  have u9 := up "share" (by decide +kernel)
  rw [soundP_V] at u9
  have u9 : ((decide (("share" : Str) ∈ g)) || !noLot (decide (("blocks" : Str) ∈ g)) (decide (("drop" : Str) ∈ g)) (decide (("drop looked" : Str) ∈ g)) (decide (("far" : Str) ∈ g)) (decide (("hands" : Str) ∈ g)) (decide (("lend looked" : Str) ∈ g)) (decide (("move looked" : Str) ∈ g)) (decide (("set" : Str) ∈ g)) (decide (("set looked" : Str) ∈ g)) true (decide (("two names" : Str) ∈ g)) (decide (("use lent" : Str) ∈ g))) = true := by
    have f0 : (decide (("blocks" : Str) ∈ g) || decide (("blocks" : Str) = "share")) = decide (("blocks" : Str) ∈ g) := orF (by decide +kernel)
    have f1 : (decide (("drop" : Str) ∈ g) || decide (("drop" : Str) = "share")) = decide (("drop" : Str) ∈ g) := orF (by decide +kernel)
    have f2 : (decide (("drop looked" : Str) ∈ g) || decide (("drop looked" : Str) = "share")) = decide (("drop looked" : Str) ∈ g) := orF (by decide +kernel)
    have f3 : (decide (("far" : Str) ∈ g) || decide (("far" : Str) = "share")) = decide (("far" : Str) ∈ g) := orF (by decide +kernel)
    have f4 : (decide (("hands" : Str) ∈ g) || decide (("hands" : Str) = "share")) = decide (("hands" : Str) ∈ g) := orF (by decide +kernel)
    have f5 : (decide (("lend looked" : Str) ∈ g) || decide (("lend looked" : Str) = "share")) = decide (("lend looked" : Str) ∈ g) := orF (by decide +kernel)
    have f6 : (decide (("move looked" : Str) ∈ g) || decide (("move looked" : Str) = "share")) = decide (("move looked" : Str) ∈ g) := orF (by decide +kernel)
    have f7 : (decide (("set" : Str) ∈ g) || decide (("set" : Str) = "share")) = decide (("set" : Str) ∈ g) := orF (by decide +kernel)
    have f8 : (decide (("set looked" : Str) ∈ g) || decide (("set looked" : Str) = "share")) = decide (("set looked" : Str) ∈ g) := orF (by decide +kernel)
    have f9 : (decide (("share" : Str) ∈ g) || decide (("share" : Str) = "share")) = true := orT
    have f10 : (decide (("two names" : Str) ∈ g) || decide (("two names" : Str) = "share")) = decide (("two names" : Str) ∈ g) := orF (by decide +kernel)
    have f11 : (decide (("use lent" : Str) ∈ g) || decide (("use lent" : Str) = "share")) = decide (("use lent" : Str) ∈ g) := orF (by decide +kernel)
    rw [f0, f1, f2, f3, f4, f5, f6, f7, f8, f9, f10, f11] at u9
    exact u9
  have u10 := up "two names" (by decide +kernel)
  rw [soundP_V] at u10
  have u10 : ((decide (("two names" : Str) ∈ g)) || !noLot (decide (("blocks" : Str) ∈ g)) (decide (("drop" : Str) ∈ g)) (decide (("drop looked" : Str) ∈ g)) (decide (("far" : Str) ∈ g)) (decide (("hands" : Str) ∈ g)) (decide (("lend looked" : Str) ∈ g)) (decide (("move looked" : Str) ∈ g)) (decide (("set" : Str) ∈ g)) (decide (("set looked" : Str) ∈ g)) (decide (("share" : Str) ∈ g)) true (decide (("use lent" : Str) ∈ g))) = true := by
    have f0 : (decide (("blocks" : Str) ∈ g) || decide (("blocks" : Str) = "two names")) = decide (("blocks" : Str) ∈ g) := orF (by decide +kernel)
    have f1 : (decide (("drop" : Str) ∈ g) || decide (("drop" : Str) = "two names")) = decide (("drop" : Str) ∈ g) := orF (by decide +kernel)
    have f2 : (decide (("drop looked" : Str) ∈ g) || decide (("drop looked" : Str) = "two names")) = decide (("drop looked" : Str) ∈ g) := orF (by decide +kernel)
    have f3 : (decide (("far" : Str) ∈ g) || decide (("far" : Str) = "two names")) = decide (("far" : Str) ∈ g) := orF (by decide +kernel)
    have f4 : (decide (("hands" : Str) ∈ g) || decide (("hands" : Str) = "two names")) = decide (("hands" : Str) ∈ g) := orF (by decide +kernel)
    have f5 : (decide (("lend looked" : Str) ∈ g) || decide (("lend looked" : Str) = "two names")) = decide (("lend looked" : Str) ∈ g) := orF (by decide +kernel)
    have f6 : (decide (("move looked" : Str) ∈ g) || decide (("move looked" : Str) = "two names")) = decide (("move looked" : Str) ∈ g) := orF (by decide +kernel)
    have f7 : (decide (("set" : Str) ∈ g) || decide (("set" : Str) = "two names")) = decide (("set" : Str) ∈ g) := orF (by decide +kernel)
    have f8 : (decide (("set looked" : Str) ∈ g) || decide (("set looked" : Str) = "two names")) = decide (("set looked" : Str) ∈ g) := orF (by decide +kernel)
    have f9 : (decide (("share" : Str) ∈ g) || decide (("share" : Str) = "two names")) = decide (("share" : Str) ∈ g) := orF (by decide +kernel)
    have f10 : (decide (("two names" : Str) ∈ g) || decide (("two names" : Str) = "two names")) = true := orT
    have f11 : (decide (("use lent" : Str) ∈ g) || decide (("use lent" : Str) = "two names")) = decide (("use lent" : Str) ∈ g) := orF (by decide +kernel)
    rw [f0, f1, f2, f3, f4, f5, f6, f7, f8, f9, f10, f11] at u10
    exact u10
  have u11 := up "use lent" (by decide +kernel)
  rw [soundP_V] at u11
  have u11 : ((decide (("use lent" : Str) ∈ g)) || !noLot (decide (("blocks" : Str) ∈ g)) (decide (("drop" : Str) ∈ g)) (decide (("drop looked" : Str) ∈ g)) (decide (("far" : Str) ∈ g)) (decide (("hands" : Str) ∈ g)) (decide (("lend looked" : Str) ∈ g)) (decide (("move looked" : Str) ∈ g)) (decide (("set" : Str) ∈ g)) (decide (("set looked" : Str) ∈ g)) (decide (("share" : Str) ∈ g)) (decide (("two names" : Str) ∈ g)) true) = true := by
    have f0 : (decide (("blocks" : Str) ∈ g) || decide (("blocks" : Str) = "use lent")) = decide (("blocks" : Str) ∈ g) := orF (by decide +kernel)
    have f1 : (decide (("drop" : Str) ∈ g) || decide (("drop" : Str) = "use lent")) = decide (("drop" : Str) ∈ g) := orF (by decide +kernel)
    have f2 : (decide (("drop looked" : Str) ∈ g) || decide (("drop looked" : Str) = "use lent")) = decide (("drop looked" : Str) ∈ g) := orF (by decide +kernel)
    have f3 : (decide (("far" : Str) ∈ g) || decide (("far" : Str) = "use lent")) = decide (("far" : Str) ∈ g) := orF (by decide +kernel)
    have f4 : (decide (("hands" : Str) ∈ g) || decide (("hands" : Str) = "use lent")) = decide (("hands" : Str) ∈ g) := orF (by decide +kernel)
    have f5 : (decide (("lend looked" : Str) ∈ g) || decide (("lend looked" : Str) = "use lent")) = decide (("lend looked" : Str) ∈ g) := orF (by decide +kernel)
    have f6 : (decide (("move looked" : Str) ∈ g) || decide (("move looked" : Str) = "use lent")) = decide (("move looked" : Str) ∈ g) := orF (by decide +kernel)
    have f7 : (decide (("set" : Str) ∈ g) || decide (("set" : Str) = "use lent")) = decide (("set" : Str) ∈ g) := orF (by decide +kernel)
    have f8 : (decide (("set looked" : Str) ∈ g) || decide (("set looked" : Str) = "use lent")) = decide (("set looked" : Str) ∈ g) := orF (by decide +kernel)
    have f9 : (decide (("share" : Str) ∈ g) || decide (("share" : Str) = "use lent")) = decide (("share" : Str) ∈ g) := orF (by decide +kernel)
    have f10 : (decide (("two names" : Str) ∈ g) || decide (("two names" : Str) = "use lent")) = decide (("two names" : Str) ∈ g) := orF (by decide +kernel)
    have f11 : (decide (("use lent" : Str) ∈ g) || decide (("use lent" : Str) = "use lent")) = true := orT
    rw [f0, f1, f2, f3, f4, f5, f6, f7, f8, f9, f10, f11] at u11
    exact u11
  have key := great15 (decide (("blocks" : Str) ∈ g)) (decide (("drop" : Str) ∈ g)) (decide (("drop looked" : Str) ∈ g)) (decide (("far" : Str) ∈ g)) (decide (("hands" : Str) ∈ g)) (decide (("lend looked" : Str) ∈ g)) (decide (("move looked" : Str) ∈ g)) (decide (("set" : Str) ∈ g)) (decide (("set looked" : Str) ∈ g)) (decide (("share" : Str) ∈ g)) (decide (("two names" : Str) ∈ g)) (decide (("use lent" : Str) ∈ g))
  refine key ?_
  unfold greatV
  rw [s0, u0, u1, u2, u3, u4, u5, u6, u7, u8, u9, u10, u11]
  rfl
theorem great_15 {ks : List (List Str)} (hn : ks.Nodup) (hk : ∀ g, g ∈ ks ↔ Great [] g) : ks.length = 15 := by
  have p : ks.Perm L15 := perm_of hn (by decide +kernel) fun g => by
    rw [hk]
    refine ⟨in15, fun h => ?_⟩
    have key : (L15.all fun g => decide (g = canon g) && (decide (Sound g) && WORDS.all fun w => decide (w ∈ g) || !decide (Sound (g ++ [w])))) = true := by decide +kernel
    have k := List.all_eq_true.mp key g h
    rw [Bool.and_eq_true, Bool.and_eq_true] at k
    refine ⟨by rw [of_decide_eq_true k.1]; exact canon_desok g, fun w hw => (by cases hw), of_decide_eq_true k.2.1, fun w hw hnn s => ?_⟩
    have := List.all_eq_true.mp k.2.2 w hw
    rw [decide_eq_false hnn, decide_eq_true s] at this
    cases this
  rw [p.length_eq]; rfl

end
end Ow

namespace Ow
open PySem PySem.Spec PyProof.Rows L2 Evl
local macro_rules | `(tactic| walk_at "as") => `(tactic| first
  | assumption
  | exact Dp.int _ | exact Dp.str _ | exact Dp.bl _ | exact Dp.non
  | exact Dpx (by assumption) (by assumption)
  | exact Dpx (by assumption) (Ex.trans (by assumption) (by assumption)))
local macro_rules | `(tactic| walk_at "ev") => `(tactic| first
  | ((with_reducible show EvD _ (L2.tVar _) _ _ _); exact ed_var rfl (by walk_at "as"))
  | ((with_reducible show EvD _ (L2.tC _) _ _ _); first | exact ed_int | exact ed_str | exact ed_bl | exact ed_non | exact ed_c (by walk_at "as"))
  | ((with_reducible show EvD _ (L2.tCB (rIsi _) _) _ _ _); exact ed_isi (by walk_at "ev"))
  | ((with_reducible show EvD _ (L2.tCB (rIsiT _) _) _ _ _); exact ed_isi2 (by walk_at "ev"))
  | ((with_reducible show EvD _ (L2.tCB _ _) _ _ _); exact ed_cb (by walk_at "es") (by walk_at "rc"))
  | ((with_reducible show EvD _ (L2.tOp _ _ _) _ _ _); exact ed_op (by walk_at "ev") (by walk_at "ev") (by walk_at "rd"))
  | ((with_reducible show EvD _ (L2.tAndV _ _) _ _ _); exact ed_and (by walk_at "ev") (fun _ => by walk_at "ev"))
  | ((with_reducible show EvD _ (L2.tOrV _ _) _ _ _); exact ed_or (by walk_at "ev") (fun _ => by walk_at "ev"))
  | ((with_reducible show EvD _ (L2.tNotV _) _ _ _); exact ed_not (by walk_at "ev"))
  | ((with_reducible show EvD _ (L2.tIf _ _ _) _ _ _); exact ed_if (by walk_at "et") (fun _ => by walk_at "ev") (fun _ => by walk_at "ev"))
  | ((with_reducible show EvD _ (L2.tTup _) _ _ _); exact ed_tup (by walk_at "es") (by simp))
  | ((with_reducible show EvD _ (L2.tChain _ _ _ _ _) _ _ _); exact ed_chain (by walk_at "ev") (by walk_at "ev") (by walk_at "rd") (fun _ => by walk_at "ev") (by walk_at "rd"))
  | ((with_reducible show EvD _ (L2.tCall _ _ _ _) _ _ _); exact ed_call (by walk_at "es") (by walk_at "sp")))
local macro_rules | `(tactic| walk_at "es") => `(tactic| first
  | ((with_reducible show EvDs _ L2.tNil _ _ _); exact eds_nil)
  | exact eds_cons (by walk_at "ev") (by walk_at "es"))
local macro_rules | `(tactic| walk_at "rd") => `(tactic| first
  | ((with_reducible show RD _ rEq _ _ _ _); first | exact rd_eqS | exact rd_eqI)
  | ((with_reducible show RD _ rNe _ _ _ _); first | exact rd_neS | exact rd_neI)
  | ((with_reducible show RD _ (rIxT _) _ _ _ _); exact rd_ixT (by first | exact atD_0 | exact atD_1 | exact atD_2 | rfl | assumption))
  | ((with_reducible show RD _ (rIxL _) _ _ _ _); exact rd_ixL (by first | exact atD_0 | exact atD_1 | exact atD_2 | rfl | assumption))
  | ((with_reducible show RD _ (rEqD _) _ _ _ _); exact rd_eqD (by first | rfl | assumption) (by first | rfl | assumption))
  | ((with_reducible show RD _ (rNeD _) _ _ _ _); exact rd_neD (by first | rfl | assumption) (by first | rfl | assumption))
  | ((with_reducible show RD _ (rIn _ _) _ _ _ _); first | exact rd_inS | exact rd_niS | exact rd_inSL | exact rd_niSL)
  | ((with_reducible show RD _ (rCatA _) _ _ _ _); exact rd_catA (by first | (simp; done) | (simp; omega) | omega))
  | ((with_reducible show RD _ (rI _ _) _ _ _ _); exact rd_intC (by first | assumption | (show (0 : Int) < _; decide)))
  | exact rd_cmp | exact rd_int | exact rd_isN | exact rd_notN)
local macro_rules | `(tactic| walk_at "rc") => `(tactic| first
  | exact rc_lenT | exact rc_lenL | exact rc_all | exact rc_any | exact rc_tupL | exact rc_lenS (by assumption) | exact rc_int1 | exact rc_intB)
local macro_rules | `(tactic| walk_at "et") => `(tactic| first
  | ((with_reducible show EvT (L2.tB _) _ _ _); exact et_edBK (by assumption) (by walk_at "ev"))
  | ((with_reducible show EvT (L2.tTest _) _ _ _); exact et_edK (by assumption) (by walk_at "ev"))
  | ((with_reducible show EvT (L2.tNot _) _ _ _); exact et_not (by walk_at "et"))
  | ((with_reducible show EvT (L2.tAnd _ _) _ _ _); exact et_and (by walk_at "et") (fun _ => by walk_at "et"))
  | ((with_reducible show EvT (L2.tOr _ _) _ _ _); exact et_or (by walk_at "et") (fun _ => by walk_at "et")))
local macro_rules | `(tactic| walk_at "sp") => `(tactic| first
  | exact ⟨_, rfl, rfl⟩ | exact ⟨_, _, rfl, rfl⟩ | exact ⟨_, _, _, rfl, rfl⟩ | exact ⟨_, _, _, _, rfl, rfl⟩
  | exact ⟨_, rfl, by assumption, rfl⟩ | exact ⟨_, rfl, by assumption, by assumption, rfl⟩ | exact ⟨_, _, rfl, by assumption, rfl⟩ | exact ⟨_, _, _, rfl, by assumption, rfl⟩)
local macro_rules | `(tactic| walk_at "shb") => `(tactic| first
  | exact ShB.nil
  | (refine ShB.pl ⟨by decide, by decide, by decide⟩ (by first | (intro h; exact absurd h (by decide)) | (intro _; refine ⟨?_, ?_⟩ <;> (dsimp only [wordOf]; decide +kernel))) ?_; walk_at "shb")
  | (refine ShB.block (by decide) (by decide) ?_ ?_ <;> walk_at "shb")
  | (refine ShB.hands rfl (by decide) (by decide) ?_ ?_ ?_ <;> walk_at "shb"))

section
variable {P : Program} {w : World} {K : PySem.W.Frag} {mg : Str → Option Value} {base : Heap}

/-- a design as a tuple or as a list -/
def DesD (d : D) (ws : List Str) : Prop := d = tS ws ∨ d = .list (ws.map PyData.str)
theorem ed_inDes {σ : L2.St} {H : Hp} {ta tb : TE} {w : Str} {ws : List Str} {dd : D} (h : DesD dd ws) (ha : EvD K ta σ H (.str w)) (hb : EvD K tb σ H dd) : EvD K (tOp (rIn K false) ta tb) σ H (.bool (decide (w ∈ ws))) := by
  rcases h with rfl | rfl
  · exact ed_op ha hb rd_inS
  · exact ed_op ha hb rd_inSL
theorem ed_niDes {σ : L2.St} {H : Hp} {ta tb : TE} {w : Str} {ws : List Str} {dd : D} (h : DesD dd ws) (ha : EvD K ta σ H (.str w)) (hb : EvD K tb σ H dd) : EvD K (tOp (rIn K true) ta tb) σ H (.bool (!decide (w ∈ ws))) := by
  rcases h with rfl | rfl
  · exact ed_op ha hb rd_niS
  · exact ed_op ha hb rd_niSL
def inDes (ws : List Str) : D → D
  | .str w => .bool (decide (w ∈ ws))
  | _ => .none
theorem lot_len {l : List Str} (h : l ∈ lotsW) : l.length ≤ 10 := by
  have k : (lotsW.all fun l => decide (l.length ≤ 10)) = true := by decide +kernel
  exact of_decide_eq_true (List.all_eq_true.mp k l h)

def sp_holds (K : PySem.W.Frag) : Sp := spD K fun ds d => ∃ (dd : D) (ws l : List Str), ds = [dd, tS l] ∧ DesD dd ws ∧ l.length ≤ 10 ∧ d = .bool (l.all fun w => decide (w ∈ ws))
abbrev nm_holds : List Str := ["design", "lot", "word"]
theorem sc_holds : FnScope nm_holds ["design", "lot"] (defScope st_holds) := ⟨rfl, rfl, rfl, by decide +kernel, rfl, by decide +kernel, by decide +kernel⟩
theorem ok_holds (F : Def K mg "holds" st_holds) (m_all : mg "all" = none) : Cal P w K mg base CX0 1 "holds" ["design", "lot"] (sp_holds K) := by
  refine F.ok sc_holds (fun vs H Q E h => ?_) (fun _ _ _ _ _ _ us hl => match us, hl with | [_, _], _ => rfl) (fun f cdv A outer s H vs Q E hr h => ?_)
  · exact spD_len h (by rintro ds d ⟨_, _, _, rfl, _⟩; rfl)
  · refine ⟨_, PSs.nox (pss_one (ps_ret (pe_callB (cr_allK K rfl rfl) (by rfl) m_all (by decide +kernel) (pa_cons (pe_lc (own := [("word", 2)]) (tt := tYes) rfl sc_holds.nd (pi_tupK K rfl (pv 1)) (blkOk_by (by first | (show blkC nm_holds (defScope st_holds) _ _ = true; decide +kernel) | rfl)) (fun _ _ _ _ _ => (pg_name (i := 2) sc_holds.nd rfl (Or.inl rfl))) (fun _ _ _ _ _ => pts_nil) (fun _ _ _ _ _ => (pe_cmpR (op_inK K rfl) (pv 2) (pv 0) (by rfl)))) pa_nil)))), ?_⟩
    have kis : KIs K := ⟨⟩
    obtain ⟨ds, d, hd, ⟨dd, ws, l, rfl, hD, hl, rfl⟩, q⟩ := h
    obtain ⟨v, u, rfl, hv, hu⟩ := dpa2 hd
    refine s_retD (K := K) (d := .bool (l.all fun w => decide (w ∈ ws))) (ed_is (ed_cb (eds_cons (EvN.ed (en_is (en_mapT (K := K) (inDes ws) (ed_var rfl hu) (by rw [List.length_map]; omega) (fun d hd => ?_) (fun _ => rfl) (fun x d H1 e1 hd hx => ?_)) (es := (l.map fun w => decide (w ∈ ws)).map PyData.bool) (by rw [List.map_map, List.map_map]; rfl))) eds_nil) rc_all) (by rw [List.all_map]; rfl)) (fun u H2 e2 hu => q u H2 e2 hu)
    · obtain ⟨w, _, rfl⟩ := List.mem_map.mp hd; rfl
    · obtain ⟨w, _, rfl⟩ := List.mem_map.mp hd
      exact ed_inDes hD (ed_var (i := 2) rfl hx) (ed_var (i := 0) rfl (Dpx hv e1))

def heldF (ws : List Str) (i : Nat) : Option D := (toldL[i]?).bind fun x => if (x.1.all fun w => decide (w ∈ ws)) then some (tS x.1) else none
theorem held_all (ws : List Str) : (List.range toldL.length).filterMap (heldF ws) = (lotsIn ws).map tS := by
  unfold heldF
  rw [fm_map]
  unfold lotsIn lotsW toldL
  generalize LOTS = L
  induction L with
  | nil => rfl
  | cons x L ih =>
    rw [List.map_cons, List.map_cons, List.filterMap_cons, List.filter_cons]
    dsimp only
    split
    · rename_i h
      split at h
      · cases h
      · rename_i g
        rw [if_neg g, ih]
    · rename_i h
      split at h
      · rename_i g
        cases h
        rw [if_pos g, List.map_cons, ih]
      · cases h

def sp_held_lots (K : PySem.W.Frag) : Sp := spN K fun ds es => ∃ (dd : D) (ws : List Str), ds = [dd] ∧ DesD dd ws ∧ es = (lotsIn ws).map tS
abbrev nm_held_lots : List Str := ["design", "lot", "program"]
theorem sc_held_lots : FnScope nm_held_lots ["design"] (defScope st_held_lots) := ⟨rfl, rfl, rfl, by decide +kernel, rfl, by decide +kernel, by decide +kernel⟩
theorem ok_held_lots (F : Def K mg "held_lots" st_held_lots) (c_told : Cal P w K mg base CX0 1 "told" [] (sp_told K)) (c_holds : Cal P w K mg base CX0 1 "holds" ["design", "lot"] (sp_holds K)) : Cal P w K mg base CX0 2 "held_lots" ["design"] (sp_held_lots K) := by
  refine F.ok sc_held_lots (fun vs H Q E h => ?_) (fun _ _ _ _ _ _ us hl => match us, hl with | [_], _ => rfl) (fun f cdv A outer s H vs Q E hr h => ?_)
  · exact spN_len h (by rintro ds d ⟨_, _, rfl, _⟩; rfl)
  · refine ⟨_, PSs.nox (pss_one (ps_ret (pe_lc (own := [("lot", 1), ("program", 2)]) (tt := _) rfl sc_held_lots.nd (pi_listK K rfl (pe_cal0 c_told (hr.mono (by decide)) (by rfl) pass0)) (blkOk_by (by first | (show blkC nm_held_lots (defScope st_held_lots) _ _ = true; decide +kernel) | rfl)) (fun _ _ _ _ _ => (pg_tupK K rfl (n := 2) (by rfl) (pgs_cons (pg_name (i := 1) sc_held_lots.nd rfl (Or.inl rfl)) (pgs_cons (pg_name (i := 2) sc_held_lots.nd rfl (Or.inl rfl)) pgs_nil)))) (fun _ _ _ _ _ => pts_one (pt_val (pe_cal c_holds (hr.mono (by decide)) (by rfl) pass0 (pa_cons (pv 0) (pa_cons (pv 1) pa_nil))))) (fun _ _ _ _ _ => (pv 1))))), ?_⟩
    have kis : KIs K := ⟨⟩
    obtain ⟨ds, es, hd, ⟨dd, ws, rfl, hD, rfl⟩, q⟩ := h
    obtain ⟨v, rfl, hv⟩ := dpa1 hd
    have ht : EvD K (tCall (sp_told K) [] E0 tNil) [some v, none, none] H (.list (toldL.map fun x => .tuple [.tuple (x.1.map PyData.str), x.2])) := fun H1 e1 Q1 q1 => ⟨rfl, fun p ps kvs H2 hp e2 h2 A hl => q1 _ H2 e2 (dp_lst h2 A.dp)⟩
    have el : (toldL.map fun x => (.tuple [.tuple (x.1.map PyData.str), x.2] : D)).length = toldL.length := List.length_map _
    have h16 : toldL.length = 16 := by rfl
    have key := en_lcL (K := K) (te := tVar 1) (g := gTup K 2 (gCons (gName 1) (gCons (gName 2) gNil))) (t := tB (tCall (sp_holds K) [] E0 (tCons (tVar 0) (tCons (tVar 1) tNil)))) (vs := [1, 2]) (heldF ws) (fun i d e => by
        unfold heldF at e
        obtain ⟨x, _, h2⟩ := Option.bind_eq_some_iff.mp e
        split at h2
        · cases h2; exact noL_strs _
        · cases h2) ht (by rw [el, h16]; decide) (fun i x d H1 e1 hi hx => ?_)
    · rw [el, held_all] at key
      exact s_retN (K := K) (ds := (lotsIn ws).map tS) key (fun p us H1 hp e1 h1 a1 => q p us H1 hp e1 h1 a1)
    rw [List.getElem?_map] at hi
    obtain ⟨y, hy, rfl⟩ := Option.map_eq_some_iff.mp hi
    obtain ⟨y1, y2, hy1, hy2, gv⟩ := gv_pair (σ := wipe [some v, none, none] [1, 2]) (j := 1) (k := 2) hx
    have hm : y.1 ∈ lotsW := by
      have := List.mem_of_getElem? hy
      unfold toldL at this
      obtain ⟨z, hz, rfl⟩ := List.mem_map.mp this
      exact List.mem_map.mpr ⟨z, hz, rfl⟩
    refine ⟨_, y.1.all fun w => decide (w ∈ ws), gv, rfl, et_edBK kis (ed_call (eds_cons (ed_var (i := 0) rfl (Dpx hv e1)) (eds_cons (ed_var (i := 1) rfl hy1) eds_nil)) ⟨dd, ws, y.1, rfl, hD, lot_len hm, rfl⟩), fun z => ⟨tS y.1, ?_, ed_var (i := 1) rfl hy1⟩, fun z => ?_⟩
    · unfold heldF; rw [hy]; show (if _ then _ else _) = _; rw [if_pos z]
    · unfold heldF; rw [hy]; show (if _ then _ else _) = _; rw [if_neg (by rw [z]; decide)]

theorem eqv_tSs : ∀ l : List (List Str), PyData.eqv (.list (l.map tS)) (.list []) = decide (l = [])
  | [] => rfl
  | x :: l => by
    rw [decide_eq_false (by simp)]
    rfl
theorem words_ok {w : Str} (h : w ∈ WORDS) : PyData.strOk w = true := by
  have : (WORDS.all PyData.strOk) = true := by decide +kernel
  exact List.all_eq_true.mp this w h
theorem shp_tS {l : List Str} (h : ∀ w ∈ l, w ∈ WORDS) : Shp 1 (tS l) := shp_tup fun d hd => by
  obtain ⟨w, hw, rfl⟩ := List.mem_map.mp hd
  exact shp_str (words_ok (h w hw))
theorem shaped_tSs {G : List (List Str)} (h : ∀ g ∈ G, ∀ w ∈ g, w ∈ WORDS) : SeqAt.shaped (.list (G.map tS)) = true := (shp_lst fun d hd => by
  obtain ⟨g, hg, rfl⟩ := List.mem_map.mp hd
  exact shp_tS (h g hg)).shaped (by decide)
theorem lots_words {l : List Str} (h : l ∈ lotsW) : ∀ w ∈ l, w ∈ WORDS := fun w hw => by
  have k : (lotsW.all fun l => l.all fun w => decide (w ∈ WORDS)) = true := by decide +kernel
  exact of_decide_eq_true (List.all_eq_true.mp (List.all_eq_true.mp k l h) w hw)
theorem lotsIn_words {ws l : List Str} (h : l ∈ lotsIn ws) : ∀ w ∈ l, w ∈ WORDS := lots_words (List.mem_filter.mp h).1
theorem ed_soundEq {σ : L2.St} {H : Hp} {ta : TE} {ws : List Str} (h : EvD K ta σ H (.list ((lotsIn ws).map tS))) : EvD K (tOp (rEqD K) ta (tLst tNil)) σ H (.bool (decide (Sound ws))) := ed_is (ed_op h (ed_lst eds_nil (by simp)) (rd_eqD (shaped_tSs fun g hg => lotsIn_words hg) rfl)) (by rw [eqv_tSs]; rfl)
theorem ed_soundNe {σ : L2.St} {H : Hp} {ta : TE} {ws : List Str} (h : EvD K ta σ H (.list ((lotsIn ws).map tS))) : EvD K (tOp (rNeD K) ta (tLst tNil)) σ H (.bool (!decide (Sound ws))) := ed_is (ed_op h (ed_lst eds_nil (by simp)) (rd_neD (shaped_tSs fun g hg => lotsIn_words hg) rfl)) (by rw [eqv_tSs]; rfl)

def sp_with_word (K : PySem.W.Frag) : Sp := fun vs H Q _ => ∃ (v : V) (ws : List Str) (w : Str), vs = [v, .str w] ∧ Dp K H v (tS ws) ∧ DesOk ws ∧ w ∈ WORDS ∧ w ∉ ws ∧ ∀ b H', H b = none → Ex H H' → H' b = some (.tup ((plusW ws w).map V.str)) → Q (.ref b) H'
abbrev nm_with_word : List Str := ["design", "word"]
theorem sc_with_word : FnScope nm_with_word ["design", "word"] (defScope st_with_word) := ⟨rfl, rfl, rfl, by decide +kernel, rfl, by decide +kernel, by decide +kernel⟩
theorem ok_with_word (F : Def K mg "with_word" st_with_word) (m_tuple : mg "tuple" = none) (m_sorted : mg "sorted" = none) : Cal P w K mg base CX0 1 "with_word" ["design", "word"] (sp_with_word K) := by
  refine F.ok sc_with_word (fun vs H Q E h => ?_) (fun _ _ _ _ _ _ us hl => match us, hl with | [_, _], _ => rfl) (fun f cdv A outer s H vs Q E hr h => ?_)
  · obtain ⟨v, ws, w, rfl, _⟩ := h; rfl
  · refine ⟨_, PSs.nox (pss_one (ps_ret (pe_callTy (call_tupleK K rfl) (by rfl) m_tuple (by decide +kernel) (pa_cons (pe_callB (cr_sortedDTupK K rfl hr.units) (by rfl) m_sorted (by decide +kernel) (pa_cons (pe_op (op_catAK K rfl) (pv 0) (pe_tup (pa_cons (pv 1) pa_nil))) pa_nil)) pa_nil)))), ?_⟩
    have kis : KIs K := ⟨⟩
    obtain ⟨v, ws, w, rfl, hv, hd, hw, hn, q⟩ := h
    have ln := hd.len
    have nd : (ws ++ [w]).Nodup := List.nodup_append.mpr ⟨hd.1, by simp, fun a ha b hb e => hn (by rw [List.mem_singleton.mp hb] at e; rw [← e]; exact ha)⟩
    have hW : ∀ x ∈ ws ++ [w], x ∈ WORDS := fun x hx => (List.mem_append.mp hx).elim (hd.2.1 x) (fun z => by rw [List.mem_singleton.mp z]; exact hw)
    refine (ed_op (K := K) (ed_var (i := 0) rfl hv) (ed_tup (eds_cons (ed_var (i := 1) rfl (.str w)) eds_nil) (by simp)) (rd_catA (by rw [List.length_map]; simp; omega))) H (Ex.refl H) _ fun u H1 e1 hu => ?_
    obtain ⟨p, xs, rfl, s1, s2⟩ := dp_tup_inv hu
    have ec : ws.map PyData.str ++ [.str w] = (ws ++ [w]).map PyData.str := by rw [List.map_append]; rfl
    rw [ec] at s2
    refine ⟨p, xs, _, rfl, s1, s2, alike_strs _, sortable_strs _, fun d hd => ?_, fun ys p2 hp hy hn2 => ⟨p2, ys, rfl, .inl ⟨sq_of upd_same, fun b hb => ?_⟩⟩⟩
    · obtain ⟨x, _, rfl⟩ := List.mem_map.mp hd
      rw [PyData.depth]; omega
    rw [sortD_words nd hW] at hy
    have ey := dpa_strs_inv hy
    subst ey
    exact q b _ (fresh_back (e1.trans (Ex.new hn2)) hb) ((e1.trans (Ex.new hn2)).trans (Ex.new hb)) upd_same
def sp_is_sound (K : PySem.W.Frag) : Sp := spD K fun ds d => ∃ ws : List Str, ds = [tS ws] ∧ DesOk ws ∧ d = .bool (decide (Sound ws))
abbrev nm_is_sound : List Str := ["design"]
theorem sc_is_sound : FnScope nm_is_sound ["design"] (defScope st_is_sound) := ⟨rfl, rfl, rfl, by decide +kernel, rfl, by decide +kernel, by decide +kernel⟩
theorem ok_is_sound (F : Def K mg "is_sound" st_is_sound) (c_need_design : Cal P w K mg base CX0 2 "need_design" ["design"] (sp_need_design K)) (c_held_lots : Cal P w K mg base CX0 2 "held_lots" ["design"] (sp_held_lots K)) : Cal P w K mg base CX0 3 "is_sound" ["design"] (sp_is_sound K) := by
  refine F.ok sc_is_sound (fun vs H Q E h => ?_) (fun _ _ _ _ _ _ us hl => match us, hl with | [_], _ => rfl) (fun f cdv A outer s H vs Q E hr h => ?_)
  · exact spD_len h (by rintro ds d ⟨_, rfl, _⟩; rfl)
  · refine ⟨_, PSs.nox (pss_cons (ps_expr (pe_cal c_need_design (hr.mono (by decide)) (by rfl) pass0 (pa_cons (pv 0) pa_nil))) (pss_one (ps_ret (pe_cmpR (op_eqDK K rfl hr.units) (pe_cal c_held_lots (hr.mono (by decide)) (by rfl) pass0 (pa_cons (pv 0) pa_nil)) (pe_lst pa_nil) (nomark _))))), ?_⟩
    have kis : KIs K := ⟨⟩
    obtain ⟨ds, d, hd, ⟨ws, rfl, hw, rfl⟩, q⟩ := h
    obtain ⟨v, rfl, hv⟩ := dpa1 hd
    refine q_callC (vs := [v]) (ea_cons (ev_var rfl) ea_nil) (fun H1 e1 => ⟨[.tuple (ws.map PyData.str)], .none, .cons (Dpx hv e1) .nil, ⟨ws, rfl, hw, rfl⟩, fun u H2 e2 _ => ?_⟩)
    exact s_retD (K := K) (d := .bool (decide (Sound ws))) (ed_soundEq (EvN.ed (en_call (eds_cons (ed_var rfl (Dpx hv (e1.trans e2))) eds_nil) ⟨_, ws, rfl, .inl rfl, rfl⟩))) (fun u H3 e3 hu => q u H3 ((e1.trans e2).trans e3) hu)
end
end Ow

namespace Ow
open PySem PySem.Spec PyProof.Rows L2 Evl
local macro_rules | `(tactic| walk_at "as") => `(tactic| first
  | assumption
  | exact Dp.int _ | exact Dp.str _ | exact Dp.bl _ | exact Dp.non
  | exact Dpx (by assumption) (by assumption)
  | exact Dpx (by assumption) (Ex.trans (by assumption) (by assumption)))
local macro_rules | `(tactic| walk_at "ev") => `(tactic| first
  | ((with_reducible show EvD _ (L2.tVar _) _ _ _); exact ed_var rfl (by walk_at "as"))
  | ((with_reducible show EvD _ (L2.tC _) _ _ _); first | exact ed_int | exact ed_str | exact ed_bl | exact ed_non | exact ed_c (by walk_at "as"))
  | ((with_reducible show EvD _ (L2.tCB (rIsi _) _) _ _ _); exact ed_isi (by walk_at "ev"))
  | ((with_reducible show EvD _ (L2.tCB (rIsiT _) _) _ _ _); exact ed_isi2 (by walk_at "ev"))
  | ((with_reducible show EvD _ (L2.tCB _ _) _ _ _); exact ed_cb (by walk_at "es") (by walk_at "rc"))
  | ((with_reducible show EvD _ (L2.tOp _ _ _) _ _ _); exact ed_op (by walk_at "ev") (by walk_at "ev") (by walk_at "rd"))
  | ((with_reducible show EvD _ (L2.tAndV _ _) _ _ _); exact ed_and (by walk_at "ev") (fun _ => by walk_at "ev"))
  | ((with_reducible show EvD _ (L2.tOrV _ _) _ _ _); exact ed_or (by walk_at "ev") (fun _ => by walk_at "ev"))
  | ((with_reducible show EvD _ (L2.tNotV _) _ _ _); exact ed_not (by walk_at "ev"))
  | ((with_reducible show EvD _ (L2.tIf _ _ _) _ _ _); exact ed_if (by walk_at "et") (fun _ => by walk_at "ev") (fun _ => by walk_at "ev"))
  | ((with_reducible show EvD _ (L2.tTup _) _ _ _); exact ed_tup (by walk_at "es") (by simp))
  | ((with_reducible show EvD _ (L2.tChain _ _ _ _ _) _ _ _); exact ed_chain (by walk_at "ev") (by walk_at "ev") (by walk_at "rd") (fun _ => by walk_at "ev") (by walk_at "rd"))
  | ((with_reducible show EvD _ (L2.tCall _ _ _ _) _ _ _); exact ed_call (by walk_at "es") (by walk_at "sp")))
local macro_rules | `(tactic| walk_at "es") => `(tactic| first
  | ((with_reducible show EvDs _ L2.tNil _ _ _); exact eds_nil)
  | exact eds_cons (by walk_at "ev") (by walk_at "es"))
local macro_rules | `(tactic| walk_at "rd") => `(tactic| first
  | ((with_reducible show RD _ rEq _ _ _ _); first | exact rd_eqS | exact rd_eqI)
  | ((with_reducible show RD _ rNe _ _ _ _); first | exact rd_neS | exact rd_neI)
  | ((with_reducible show RD _ (rIxT _) _ _ _ _); exact rd_ixT (by first | exact atD_0 | exact atD_1 | exact atD_2 | rfl | assumption))
  | ((with_reducible show RD _ (rIxL _) _ _ _ _); exact rd_ixL (by first | exact atD_0 | exact atD_1 | exact atD_2 | rfl | assumption))
  | ((with_reducible show RD _ (rEqD _) _ _ _ _); exact rd_eqD (by first | rfl | assumption) (by first | rfl | assumption))
  | ((with_reducible show RD _ (rNeD _) _ _ _ _); exact rd_neD (by first | rfl | assumption) (by first | rfl | assumption))
  | ((with_reducible show RD _ (rIn _ _) _ _ _ _); first | exact rd_inS | exact rd_niS | exact rd_inSL | exact rd_niSL)
  | ((with_reducible show RD _ (rCatA _) _ _ _ _); exact rd_catA (by first | (simp; done) | (simp; omega) | omega))
  | ((with_reducible show RD _ (rI _ _) _ _ _ _); exact rd_intC (by first | assumption | (show (0 : Int) < _; decide)))
  | exact rd_cmp | exact rd_int | exact rd_isN | exact rd_notN)
local macro_rules | `(tactic| walk_at "rc") => `(tactic| first
  | exact rc_lenT | exact rc_lenL | exact rc_all | exact rc_any | exact rc_tupL | exact rc_lenS (by assumption) | exact rc_int1 | exact rc_intB)
local macro_rules | `(tactic| walk_at "et") => `(tactic| first
  | ((with_reducible show EvT (L2.tB _) _ _ _); exact et_edBK (by assumption) (by walk_at "ev"))
  | ((with_reducible show EvT (L2.tTest _) _ _ _); exact et_edK (by assumption) (by walk_at "ev"))
  | ((with_reducible show EvT (L2.tNot _) _ _ _); exact et_not (by walk_at "et"))
  | ((with_reducible show EvT (L2.tAnd _ _) _ _ _); exact et_and (by walk_at "et") (fun _ => by walk_at "et"))
  | ((with_reducible show EvT (L2.tOr _ _) _ _ _); exact et_or (by walk_at "et") (fun _ => by walk_at "et")))
local macro_rules | `(tactic| walk_at "sp") => `(tactic| first
  | exact ⟨_, rfl, rfl⟩ | exact ⟨_, _, rfl, rfl⟩ | exact ⟨_, _, _, rfl, rfl⟩ | exact ⟨_, _, _, _, rfl, rfl⟩
  | exact ⟨_, rfl, by assumption, rfl⟩ | exact ⟨_, rfl, by assumption, by assumption, rfl⟩ | exact ⟨_, _, rfl, by assumption, rfl⟩ | exact ⟨_, _, _, rfl, by assumption, rfl⟩)
local macro_rules | `(tactic| walk_at "shb") => `(tactic| first
  | exact ShB.nil
  | (refine ShB.pl ⟨by decide, by decide, by decide⟩ (by first | (intro h; exact absurd h (by decide)) | (intro _; refine ⟨?_, ?_⟩ <;> (dsimp only [wordOf]; decide +kernel))) ?_; walk_at "shb")
  | (refine ShB.block (by decide) (by decide) ?_ ?_ <;> walk_at "shb")
  | (refine ShB.hands rfl (by decide) (by decide) ?_ ?_ ?_ <;> walk_at "shb"))

section
variable {P : Program} {w : World} {K : PySem.W.Frag} {mg : Str → Option Value} {base : Heap}

section
variable {β : Type} {σ : L2.St} {H : Hp} {te : TE} {Dn : Ends} {tz : TS} {i : Nat}
theorem q_asgR {R : Hp → V → β → Prop} {bs : List β} (h : EvR R te σ H bs) (k : ∀ p us H1, H p = none → Ex H H1 → H1 p = some (.lst us) → Paired (R H1) us bs → tz Dn (σ.set i (some (.ref p))) H1) : tSeq (tAsg te (gName i)) tz Dn σ H := h H (Ex.refl H) _ k
theorem tupS_D {v : V} {k : List Str} (h : TupS H v k) : Dp K H v (tS k) := by
  obtain ⟨b, rfl, hb⟩ := h
  exact dp_tup hb (dpa_strs _)
theorem er_one {v : V} {k : List Str} {ta : TE} (h : Ev ta σ H v) (ht : TupS H v k) : EvR PrS (tLst (tCons (tTup (tCons ta (tCons (tC (.bl true)) tNil))) tNil)) σ H [k] := fun H1 e Q q =>
  h H1 e _ fun H2 e2 => ⟨by show 2 ≤ sizeLine; decide, fun p hp => ⟨by show 1 ≤ sizeLine; decide, fun l hl => by
    obtain ⟨b, rfl, hb⟩ := ht
    have x1 := Ex.new (o := .tup [.ref b, .bl true]) hp
    have x2 := Ex.new (o := .lst [.ref p]) hl
    refine q l [.ref p] _ (fresh_back (e2.trans x1) hl) ((e2.trans x1).trans x2) upd_same (.cons ⟨p, b, rfl, x2 _ _ upd_same, x2 _ _ (x1 _ _ ((e.trans e2) _ _ hb))⟩ .nil)⟩⟩
theorem er_none {R : Hp → V → β → Prop} : EvR R (tLst tNil) σ H [] := fun H1 e Q q => ⟨by show 0 ≤ sizeLine; decide, fun l hl => q l [] _ hl (Ex.new hl) upd_same .nil⟩
theorem er_if {R : Hp → V → β → Prop} {t : TT} {b : Bool} {ta tb : TE} {bs : List β} (h : EvT t σ H b) (h1 : b = true → EvR R ta σ H bs) (h2 : b = false → EvR R tb σ H bs) : EvR R (tIf t ta tb) σ H bs := fun H1 e Q q => h H1 e _ fun H2 e2 => by
  cases b with
  | true => exact iteT (h1 rfl H2 (e.trans e2) Q fun p us H3 hp e3 h3 a3 => q p us H3 (fresh_back e2 hp) (e2.trans e3) h3 a3)
  | false => exact iteF (h2 rfl H2 (e.trans e2) Q fun p us H3 hp e3 h3 a3 => q p us H3 (fresh_back e2 hp) (e2.trans e3) h3 a3)
end
theorem few_desok {A : List (List Str)} (hn : A.Nodup) (h : ∀ g ∈ A, DesOk g) : A.length ≤ 4096 := by
  have h2 : ∀ g ∈ A, g ∈ grpF WORDS := fun g hg => grp_mem.mpr (by rw [(h g hg).canon]; exact List.filter_sublist)
  have h3 := nodup_sub hn h2
  rw [grpF_len] at h3
  exact h3
structure GrAt (H H' : Hp) (ws : List Str) (n : Nat) (A F : List (List Str)) (pa pf : Addr) : Prop where
  lay : Layer ws n A F
  da : DK H' pa A
  df : DK H' pf F
  ne : pa ≠ pf
  fa : H pa = none
  ff : H pf = none
  ex : Ex H H'
structure GrIn (H H' : Hp) (A F L F' : List (List Str)) (kvs : List (List L2.Key × V)) (od : Obj) (pa pf pl : Addr) (i : Nat) : Prop where
  fz : H' pa = some (.frz od (.dT kvs))
  dl : DK H' pl L
  df : DK H' pf F'
  ex : Ex H H'
  hL : ∀ g, g ∈ L ↔ ∃ one ∈ A.take i, g ∈ moreW one
  hF : ∀ g, g ∈ F' ↔ g ∈ F ∨ g ∈ A.take i ∧ moreW g = []
theorem mem_take1 {α : Type} {A : List α} {i : Nat} {a x : α} (h : A[i]? = some a) : x ∈ A.take (i + 1) ↔ x ∈ A.take i ∨ x = a := by
  rw [List.take_add_one, h, List.mem_append]
  show _ ∨ x ∈ [a] ↔ _
  rw [List.mem_singleton]

def sp_greatest (K : PySem.W.Frag) : Sp := fun vs H Q _ => ∃ (a : Addr) (ws : List Str), vs = [.ref a] ∧ H a = some (.tup (ws.map V.str)) ∧ DesOk ws ∧ Sound ws ∧ ∀ p ks H', H p = none → Ex H H' → DK H' p ks → (∀ g, g ∈ ks ↔ Great ws g) → Q (.ref p) H'
abbrev nm_greatest : List Str := ["design", "ahead", "found", "later", "one", "more", "word", "other"]
theorem sc_greatest : FnScope nm_greatest ["design"] (defScope st_greatest) := ⟨rfl, rfl, rfl, by decide +kernel, rfl, by decide +kernel, by decide +kernel⟩
theorem ok_greatest {a_WORDS : Addr} (F : Def K mg "greatest" st_greatest) (c_with_word : Cal P w K mg base CX0 1 "with_word" ["design", "word"] (sp_with_word K)) (c_held_lots : Cal P w K mg base CX0 2 "held_lots" ["design"] (sp_held_lots K)) (m_WORDS : mg "WORDS" = some (.ref a_WORDS)) (T_WORDS : ∀ H : Hp, SqT K H a_WORDS (WORDS.map V.str)) : Cal P w K mg base CX0 3 "greatest" ["design"] (sp_greatest K) := by
  refine F.ok sc_greatest (fun vs H Q E h => ?_) (fun _ _ _ _ _ _ us hl => match us, hl with | [_], _ => rfl) (fun f cdv A outer s H vs Q E hr h => ?_)
  · obtain ⟨a, ws, rfl, _⟩ := h; rfl
  · refine ⟨_, PSs.nox (pss_cons (ps_par (i := 1) (j := 2) (by rfl) sc_greatest.nd rfl rfl (by decide) rfl rfl (pa_cons (pe_dispT hr.units (pps_cons (pv 0) pe_bl pps_nil) rfl rfl (by simp) (by simp)) (pa_cons pe_dnewT pa_nil)) (by rfl)) (pss_cons (ps_while PassesOwn.never (pt_cmpR (op_neT0 (Nat.lt_of_le_of_lt (Nat.le_add_right _ 64) hr.units)) (pv 1) pe_dnewT (nomark _)) (pss_cons (ps_set (i := 3) sc_greatest.nd rfl (Or.inl rfl) pe_dnewT) (pss_cons (ps_lock (ps_for PassesOwn.never rfl (pi_keys (pv 1)) (pg_name (i := 4) sc_greatest.nd rfl (Or.inr rfl)) (pss_cons (ps_setLc (i := 5) (own := [("word", 6)]) (tt := _) rfl sc_greatest.nd rfl rfl (sw_true rfl rfl rfl (by decide +kernel)) (pi_tupK K rfl (pe_gref (by rfl) m_WORDS)) (blkOk_by (by first | (show blkC nm_greatest (defScope st_greatest) _ _ = true; decide +kernel) | rfl)) (fun _ _ _ _ _ => (pg_name (i := 6) sc_greatest.nd rfl (Or.inl rfl))) (fun _ _ _ _ _ => pts_one (pt_cmpR (op_niK K rfl) (pv 6) (pv 4) (by rfl))) (fun _ _ _ _ _ => (pe_cal c_with_word (hr.mono (by decide)) (by rfl) pass0 (pa_cons (pv 4) (pa_cons (pv 6) pa_nil))))) (pss_cons (ps_setLc (i := 5) (own := [("other", 7)]) (tt := _) rfl sc_greatest.nd rfl rfl (sw_true rfl rfl rfl (by decide +kernel)) (pi_listK K rfl (pv 5)) (blkOk_by (by first | (show blkC nm_greatest (defScope st_greatest) _ _ = true; decide +kernel) | rfl)) (fun _ _ _ _ _ => (pg_name (i := 7) sc_greatest.nd rfl (Or.inl rfl))) (fun _ _ _ _ _ => pts_one (pt_cmpR (op_eqDK K rfl hr.units) (pe_cal c_held_lots (hr.mono (by decide)) (by rfl) pass0 (pa_cons (pv 7) pa_nil)) (pe_lst pa_nil) (nomark _))) (fun _ _ _ _ _ => (pv 7))) (pss_cons (ps_expr (pe_bm PySem.F.plainAttrs_dict PySem.F.slot_dict_update PySem.F.type_dict_update (mt_updTK K rfl (by rfl) hr.units) (pv 3) (pa_cons (pe_lc (own := [("other", 7)]) (tt := tYes) rfl sc_greatest.nd (pi_listK K rfl (pv 5)) (blkOk_by (by first | (show blkC nm_greatest (defScope st_greatest) _ _ = true; decide +kernel) | rfl)) (fun _ _ _ _ _ => (pg_name (i := 7) sc_greatest.nd rfl (Or.inl rfl))) (fun _ _ _ _ _ => pts_nil) (fun _ _ _ _ _ => (pe_tup (pa_cons (pv 7) (pa_cons pe_bl pa_nil))))) pa_nil))) (pss_one (ps_expr (pe_bm PySem.F.plainAttrs_dict PySem.F.slot_dict_update PySem.F.type_dict_update (mt_updTK K rfl (by rfl) hr.units) (pv 2) (pa_cons (pe_ifExp (pt_cmpR (op_eqDK K rfl hr.units) (pv 5) (pe_lst pa_nil) (nomark _)) (pe_lst (pa_cons (pe_tup (pa_cons (pv 4) (pa_cons pe_bl pa_nil))) pa_nil)) (pe_lst pa_nil)) pa_nil))))))))) (pss_one (ps_set (i := 1) sc_greatest.nd rfl (Or.inl rfl) (pv 3)))))) (pss_one (ps_ret (pv 2))))), ?_⟩
    have kis : KIs K := ⟨⟩
    obtain ⟨a, ws, rfl, ha, hws, hs, q⟩ := h
    refine fun p hp => ⟨_, rfl, upd_same, [(kS ws, .bl true)], .cons ⟨a, rfl, ?_, rfl⟩ .nil, by show 1 ≤ 15; decide, fun p2 hp2 => ⟨_, _, rfl, ?_⟩⟩
    · rw [kS_kV, upd_ne (fun z => by rw [z, hp] at ha; cases ha)]; exact ha
    have x1 : Ex H (upd (upd H p (.dT [])) p (.dT (mergeT [] [(kS ws, .bl true)]))) := ex_chain (Ex.new hp) (ExB.upd List.mem_cons_self) (fun z hz => by rw [List.mem_singleton.mp hz]; exact hp)
    have x2 := x1.trans (Ex.new (o := .dT []) hp2)
    have d1 : DK (upd (upd H p (.dT [])) p (.dT (mergeT [] [(kS ws, .bl true)]))) p [ws] := ⟨⟨_, upd_same, rfl⟩, by simp⟩
    have d2 := d1.ex (Ex.new (o := .dT []) hp2)
    have n12 : p ≠ p2 := fun z => by
      rw [← z, upd_same] at hp2; cases hp2
    have G0 : GrAt H _ ws 0 [ws] [] p p2 := ⟨Layer.start hws hs, d2, DK.new, n12, hp, fresh_back x1 hp2, x2⟩
    refine ⟨fun m σ' H' => ∃ n A F pa pf y3 y4 y5 y6 y7, m = 13 - n ∧ σ' = [some (.ref a), some (.ref pa), some (.ref pf), y3, y4, y5, y6, y7] ∧ GrAt H H' ws n A F pa pf, ⟨_, 0, [ws], [], p, p2, _, _, _, _, _, rfl, rfl, G0⟩, fun m σ' H' W => ?_⟩
    obtain ⟨n, A, F, pa, pf, y3, y4, y5, y6, y7, rfl, rfl, G⟩ := W
    obtain ⟨kvs, hpa, hka⟩ := G.da.at_
    have lkv := DK.len (H := H') (p := pa) hka
    refine ⟨_, rfl, fun pe he => ⟨pa, pe, kvs, rfl, rfl, (Ex.new he) _ _ hpa, upd_same, decide (kvs ≠ []), rfl, ?_⟩⟩
    have xe := Ex.new (o := .dT []) he
    by_cases hA : A = []
    case pos =>
      have ek : kvs = [] := by rw [hA] at lkv; exact List.length_eq_zero_iff.mp lkv
      rw [decide_eq_false (by rw [ek]; exact fun z => z rfl)]
      rw [hA] at G
      exact iteF ⟨_, rfl, q pf F _ G.ff (G.ex.trans xe) (G.df.ex xe) (fun g => G.lay.fin hws.1 g)⟩
    have ek : kvs ≠ [] := fun z => hA (by rw [z] at lkv; exact List.length_eq_zero_iff.mp lkv.symm)
    rw [decide_eq_true ek]
    have hn12 := G.lay.small hA
    refine iteT ⟨fun σ'' H'' => ∃ m', m' < 13 - n ∧ ∃ n A F pa pf y3 y4 y5 y6 y7, m' = 13 - n ∧ σ'' = [some (.ref a), some (.ref pa), some (.ref pf), y3, y4, y5, y6, y7] ∧ GrAt H H'' ws n A F pa pf, fun σ'' H'' w => w, fun pl hl => ?_⟩
    have xl := Ex.new (o := .dT []) hl
    have xel := xe.trans xl
    have hpa2 := xel _ _ hpa
    have nla : pl ≠ pa := fun z => by rw [z, xe _ _ hpa] at hl; cases hl
    have nlf : pl ≠ pf := fun z => by
      obtain ⟨k9, h9, _⟩ := (G.df.ex xe).at_
      rw [z, h9] at hl; cases hl
    have flH : H pl = none := fresh_back (G.ex.trans xe) hl
    refine ⟨pa, .dT kvs, hpa2, True.intro, fun od => ⟨_, rfl, pa, od, rfl, .inr ⟨kvs, upd_same, ?_⟩⟩⟩
    have nA : ∀ g ∈ A, DesOk g := fun g hg => ((G.lay.a g).mp hg).1
    refine for_it walk_keysT (fun i σ'' H'' => ∃ L F' y4 y5 y6 y7, σ'' = [some (.ref a), some (.ref pa), some (.ref pf), some (.ref pl), y4, y5, y6, y7] ∧ GrIn H H'' A F L F' kvs od pa pf pl i) ⟨[], F, y4, y5, y6, y7, rfl, upd_same, ?_, ?_, ?_, ?_, ?_⟩ (fun i σ'' H'' _ p => by obtain ⟨_, _, _, _, _, _, _, g⟩ := p; exact g.fz) (fun i x σ'' H'' H3 hi p y => ?_) (fun σ'' H'' p => ?_)
    · exact (DK.new (H := upd H' pe (.dT []))).keep (S := [pa]) (.upd List.mem_cons_self) (by simpa using nla)
    · exact (G.df.ex xel).keep (S := [pa]) (.upd List.mem_cons_self) (by simpa using G.ne.symm)
    · exact ex_chain (G.ex.trans xel) (ExB.upd List.mem_cons_self) (fun z hz => by rw [List.mem_singleton.mp hz]; exact G.fa)
    · intro g; simp
    · intro g; simp
    · obtain ⟨rfl, k, v9, qk, hk, rfl, hqk⟩ := y
      obtain ⟨L, F', y4, y5, y6, y7, rfl, g⟩ := p
      obtain ⟨one, hone, rfl⟩ : ∃ one, A[i]? = some one ∧ k = kS one := by
        have e1 : (kvs.map (·.1))[i]? = some k := by rw [List.getElem?_map, hk]; rfl
        rw [hka, List.getElem?_map] at e1
        obtain ⟨one, h1, h2⟩ := Option.map_eq_some_iff.mp e1
        exact ⟨one, h1, h2.symm⟩
      rw [kS_kV] at hqk
      have mA := List.mem_of_getElem? hone
      have hok := nA one mA
      have tone : TupS H3 (.ref qk) one := ⟨qk, rfl, hqk⟩
      have don : Dp K H3 (.ref qk) (tS one) := tupS_D tone
      -- more = [with_word ..]
      refine q_asgR (R := TupS) (er_filtT (K := K) (te := tCall (sp_with_word K) [] E0 (tCons (tVar 4) (tCons (tVar 6) tNil))) tupS_stb (fun w => !decide (w ∈ one)) (plusW one) (as := WORDS) (ed_c (.tup (T_WORDS _) (dpa_strs WORDS))) (by decide) (fun _ => rfl) (fun w H4 e4 hw => ?_) (fun w H4 e4 hw hp => ?_)) (fun p1 us1 H4 hp1 e4 h4 a4 => ?_)
      · exact et_edK kis (ed_op (ed_var (i := 6) rfl (.str w)) (ed_var (i := 4) rfl (Dpx don e4)) rd_niS)
      · have hn : w ∉ one := by simpa using hp
        exact fun H5 e5 Q5 q5 => ⟨_, rfl, _, rfl, .ref qk, one, w, rfl, Dpx (Dpx don e4) e5, hok, hw, hn, fun b H6 hb e6 h6 => q5 _ H6 e6 ⟨b, rfl, h6⟩⟩
      -- more = [other ..]
      have G4 : ∀ x ∈ (WORDS.filter fun w => !decide (w ∈ one)).map (plusW one), ∀ w ∈ x, w ∈ WORDS := fun x hx => by
        obtain ⟨u, _, rfl⟩ := List.mem_map.mp hx
        exact fun w hw => (canon_mem.mp hw).1
      refine q_asgR (R := TupS) (bs := moreW one) (er_is (er_filtL (K := K) (R := TupS) (R' := TupS) (te := tVar 7) tupS_stb tupS_stb (fun g => decide (Sound g)) id (ev_var rfl) h4 a4 (by rw [List.length_map]; exact Nat.le_trans (List.length_filter_le _ _) (by decide)) (fun _ => rfl) (fun x u H5 e5 hu hx => ?_) (fun x u H5 e5 hu hx _ => ?_)) (by rw [List.map_id]; rfl)) (fun p2 us2 H5 hp2 e5 h5 a5 => ?_)
      · exact et_edK kis (ed_soundEq (EvN.ed (en_call (eds_cons (ed_var (i := 7) rfl (tupS_D hx)) eds_nil) ⟨_, u, rfl, .inl rfl, rfl⟩)))
      · exact fun H6 e6 Q6 q6 => ⟨x, rfl, q6 x H6 (Ex.refl _) (tupS_stb _ _ _ _ (ts0_of e6) hx)⟩
      have e45 := e4.trans e5
      have lm := moreW_len one
      have ldL : ∀ g' ∈ L, DesOk g' := fun g' hg => by
        obtain ⟨o2, h1, h2⟩ := (g.hL g').mp hg
        have := (G.lay.a o2).mp (List.mem_of_mem_take h1)
        exact (lay_up this h2).1
      have lL := few_desok g.dl.nd ldL
      have ldF : ∀ g' ∈ F', DesOk g' := fun g' hg => by
        rcases (g.hF g').mp hg with h | h
        · exact ((G.lay.f g').mp h).1.1
        · exact nA g' (List.mem_of_mem_take h.1)
      have lF := few_desok g.df.nd ldF
      -- later.update
      have D5 := g.dl.ex e45
      refine q_upd (K := K) (ls := moreW one) D5 rfl (er_is (er_filtL (K := K) (R := TupS) (R' := PrS) (te := tTup (tCons (tVar 7) (tCons (tC (.bl true)) tNil))) tupS_stb prS_stb (fun _ => true) id (ev_var rfl) h5 a5 (by omega) (fun _ => rfl) (fun x u H6 e6 hu hx => et_yes) (fun x u H6 e6 hu hx _ => ?_)) (by rw [List.map_id, List.filter_eq_self.mpr (fun _ _ => rfl)])) (by omega) (fun H6 D6 b6 => ?_)
      · exact fun H7 e7 Q7 q7 => ⟨x, rfl, by show 2 ≤ sizeLine; decide, fun b hb => by
          obtain ⟨c, rfl, hc⟩ := hx
          exact q7 (.ref b) _ (Ex.new hb) ⟨b, c, rfl, upd_same, (Ex.new hb) _ _ (e7 _ _ hc)⟩⟩
      have x36 : ExB [pl] H3 H6 := ExB.trans (.of e45) b6
      have DF6 := g.df.keep x36 (by simpa using nlf.symm)
      have tone6 : TupS H6 (.ref qk) one := tupS_stb _ _ _ _ (ts0_B x36 (fun p hp xs => by rw [List.mem_singleton.mp hp]; exact g.dl.ntup xs)) tone
      have more6 : Paired (TupS H6) us2 (moreW one) := paired_mono (fun a b h => tupS_stb _ _ _ _ (ts0_B b6 (fun p hp xs => by rw [List.mem_singleton.mp hp]; exact D5.ntup xs)) h) a5
      have np2 : p2 ≠ pl := fun z => by
        obtain ⟨k9, h9, _⟩ := D5.at_
        rw [z, h9] at h5; cases h5
      have h6 : H6 p2 = some (.lst us2) := b6 _ _ (by simpa using np2) h5
      have dm : Dp K H6 (.ref p2) (.list ((moreW one).map tS)) := dp_lst h6 (tupS_dp more6)
      have wm : ∀ g' ∈ moreW one, ∀ w ∈ g', w ∈ WORDS := fun g' hg => by
        obtain ⟨w9, _, _, rfl, _⟩ := moreW_mem.mp hg
        exact fun w hw => (canon_mem.mp hw).1
      -- found.update
      refine s_upd (K := K) (ls := if moreW one = [] then [one] else []) DF6 rfl (er_if (b := decide (moreW one = [])) (et_edK kis (ed_is (ed_op (ed_var (i := 5) rfl dm) (ed_lst eds_nil (by simp)) (rd_eqD (shaped_tSs wm) rfl)) (by rw [eqv_tSs]))) (fun z => ?_) (fun z => ?_)) ?_ (fun H7 D7 b7 => ?_)
      · rw [if_pos (of_decide_eq_true z)]
        exact er_one (ev_var rfl) tone6
      · rw [if_neg (of_decide_eq_false z)]
        exact er_none
      · split <;> simp <;> omega
      have x37 : ExB [pl, pf] H3 H7 := ExB.trans (x36.mono (by simp)) (b7.mono (by simp))
      refine ⟨_, _, _, _, _, _, rfl, x37 _ _ (by simp [nla.symm, G.ne]) g.fz, D6.keep b7 (by simpa using nlf), D7, ex_chain g.ex x37 (fun z hz => ?_), fun g' => ?_, fun g' => ?_⟩
      · simp only [List.mem_cons, List.not_mem_nil, or_false] at hz
        rcases hz with rfl | rfl
        · exact flH
        · exact G.ff
      · rw [addKs_mem, g.hL]
        constructor
        · rintro (⟨o2, h1, h2⟩ | h)
          · exact ⟨o2, (mem_take1 hone).mpr (.inl h1), h2⟩
          · exact ⟨one, (mem_take1 hone).mpr (.inr rfl), h⟩
        · rintro ⟨o2, h1, h2⟩
          rcases (mem_take1 hone).mp h1 with h | h
          · exact .inl ⟨o2, h, h2⟩
          · rw [h] at h2; exact .inr h2
      · rw [addKs_mem, g.hF]
        constructor
        · rintro ((h | ⟨h1, h2⟩) | h)
          · exact .inl h
          · exact .inr ⟨(mem_take1 hone).mpr (.inl h1), h2⟩
          · split at h
            · rename_i hz
              rw [List.mem_singleton.mp h]
              exact .inr ⟨(mem_take1 hone).mpr (.inr rfl), hz⟩
            · cases h
        · rintro (h | ⟨h1, h2⟩)
          · exact .inl (.inl h)
          · rcases (mem_take1 hone).mp h1 with h | h
            · exact .inl (.inr ⟨h, h2⟩)
            · rw [h] at h2 ⊢
              rw [if_pos h2]
              exact .inr List.mem_cons_self
    · obtain ⟨L, F', y4, y5, y6, y7, rfl, g⟩ := p
      refine ⟨g.fz, ?_⟩
      rw [lkv] at g
      have tk : A.take A.length = A := List.take_length
      have lay2 : Layer ws (n + 1) L F' := G.lay.next hws.1 (fun x => by rw [g.hL, tk]) (fun x => by rw [g.hF, tk])
      refine ⟨_, rfl, 13 - (n + 1), by omega, n + 1, L, F', pl, pf, _, _, _, _, _, rfl, rfl, lay2, g.dl.keep (S := [pa]) (.upd List.mem_cons_self) (by simpa using nla), g.df.keep (S := [pa]) (.upd List.mem_cons_self) (by simpa using G.ne.symm), nlf, flH, G.ff, ex_chain g.ex (ExB.upd List.mem_cons_self) (fun z hz => by rw [List.mem_singleton.mp hz]; exact G.fa)⟩
end
end Ow

namespace Ow
open PySem PySem.Spec PyProof.Rows L2 Evl
local macro_rules | `(tactic| walk_at "as") => `(tactic| first
  | assumption
  | exact Dp.int _ | exact Dp.str _ | exact Dp.bl _ | exact Dp.non
  | exact Dpx (by assumption) (by assumption)
  | exact Dpx (by assumption) (Ex.trans (by assumption) (by assumption)))
local macro_rules | `(tactic| walk_at "ev") => `(tactic| first
  | ((with_reducible show EvD _ (L2.tVar _) _ _ _); exact ed_var rfl (by walk_at "as"))
  | ((with_reducible show EvD _ (L2.tC _) _ _ _); first | exact ed_int | exact ed_str | exact ed_bl | exact ed_non | exact ed_c (by walk_at "as"))
  | ((with_reducible show EvD _ (L2.tCB (rIsi _) _) _ _ _); exact ed_isi (by walk_at "ev"))
  | ((with_reducible show EvD _ (L2.tCB (rIsiT _) _) _ _ _); exact ed_isi2 (by walk_at "ev"))
  | ((with_reducible show EvD _ (L2.tCB _ _) _ _ _); exact ed_cb (by walk_at "es") (by walk_at "rc"))
  | ((with_reducible show EvD _ (L2.tOp _ _ _) _ _ _); exact ed_op (by walk_at "ev") (by walk_at "ev") (by walk_at "rd"))
  | ((with_reducible show EvD _ (L2.tAndV _ _) _ _ _); exact ed_and (by walk_at "ev") (fun _ => by walk_at "ev"))
  | ((with_reducible show EvD _ (L2.tOrV _ _) _ _ _); exact ed_or (by walk_at "ev") (fun _ => by walk_at "ev"))
  | ((with_reducible show EvD _ (L2.tNotV _) _ _ _); exact ed_not (by walk_at "ev"))
  | ((with_reducible show EvD _ (L2.tIf _ _ _) _ _ _); exact ed_if (by walk_at "et") (fun _ => by walk_at "ev") (fun _ => by walk_at "ev"))
  | ((with_reducible show EvD _ (L2.tTup _) _ _ _); exact ed_tup (by walk_at "es") (by simp))
  | ((with_reducible show EvD _ (L2.tChain _ _ _ _ _) _ _ _); exact ed_chain (by walk_at "ev") (by walk_at "ev") (by walk_at "rd") (fun _ => by walk_at "ev") (by walk_at "rd"))
  | ((with_reducible show EvD _ (L2.tCall _ _ _ _) _ _ _); exact ed_call (by walk_at "es") (by walk_at "sp")))
local macro_rules | `(tactic| walk_at "es") => `(tactic| first
  | ((with_reducible show EvDs _ L2.tNil _ _ _); exact eds_nil)
  | exact eds_cons (by walk_at "ev") (by walk_at "es"))
local macro_rules | `(tactic| walk_at "rd") => `(tactic| first
  | ((with_reducible show RD _ rEq _ _ _ _); first | exact rd_eqS | exact rd_eqI)
  | ((with_reducible show RD _ rNe _ _ _ _); first | exact rd_neS | exact rd_neI)
  | ((with_reducible show RD _ (rIxT _) _ _ _ _); exact rd_ixT (by first | exact atD_0 | exact atD_1 | exact atD_2 | rfl | assumption))
  | ((with_reducible show RD _ (rIxL _) _ _ _ _); exact rd_ixL (by first | exact atD_0 | exact atD_1 | exact atD_2 | rfl | assumption))
  | ((with_reducible show RD _ (rEqD _) _ _ _ _); exact rd_eqD (by first | rfl | assumption) (by first | rfl | assumption))
  | ((with_reducible show RD _ (rNeD _) _ _ _ _); exact rd_neD (by first | rfl | assumption) (by first | rfl | assumption))
  | ((with_reducible show RD _ (rIn _ _) _ _ _ _); first | exact rd_inS | exact rd_niS | exact rd_inSL | exact rd_niSL)
  | ((with_reducible show RD _ (rCatA _) _ _ _ _); exact rd_catA (by first | (simp; done) | (simp; omega) | omega))
  | ((with_reducible show RD _ (rI _ _) _ _ _ _); exact rd_intC (by first | assumption | (show (0 : Int) < _; decide)))
  | exact rd_cmp | exact rd_int | exact rd_isN | exact rd_notN)
local macro_rules | `(tactic| walk_at "rc") => `(tactic| first
  | exact rc_lenT | exact rc_lenL | exact rc_all | exact rc_any | exact rc_tupL | exact rc_lenS (by assumption) | exact rc_int1 | exact rc_intB)
local macro_rules | `(tactic| walk_at "et") => `(tactic| first
  | ((with_reducible show EvT (L2.tB _) _ _ _); exact et_edBK (by assumption) (by walk_at "ev"))
  | ((with_reducible show EvT (L2.tTest _) _ _ _); exact et_edK (by assumption) (by walk_at "ev"))
  | ((with_reducible show EvT (L2.tNot _) _ _ _); exact et_not (by walk_at "et"))
  | ((with_reducible show EvT (L2.tAnd _ _) _ _ _); exact et_and (by walk_at "et") (fun _ => by walk_at "et"))
  | ((with_reducible show EvT (L2.tOr _ _) _ _ _); exact et_or (by walk_at "et") (fun _ => by walk_at "et")))
local macro_rules | `(tactic| walk_at "sp") => `(tactic| first
  | exact ⟨_, rfl, rfl⟩ | exact ⟨_, _, rfl, rfl⟩ | exact ⟨_, _, _, rfl, rfl⟩ | exact ⟨_, _, _, _, rfl, rfl⟩
  | exact ⟨_, rfl, by assumption, rfl⟩ | exact ⟨_, rfl, by assumption, by assumption, rfl⟩ | exact ⟨_, _, rfl, by assumption, rfl⟩ | exact ⟨_, _, _, rfl, by assumption, rfl⟩)
local macro_rules | `(tactic| walk_at "shb") => `(tactic| first
  | exact ShB.nil
  | (refine ShB.pl ⟨by decide, by decide, by decide⟩ (by first | (intro h; exact absurd h (by decide)) | (intro _; refine ⟨?_, ?_⟩ <;> (dsimp only [wordOf]; decide +kernel))) ?_; walk_at "shb")
  | (refine ShB.block (by decide) (by decide) ?_ ?_ <;> walk_at "shb")
  | (refine ShB.hands rfl (by decide) (by decide) ?_ ?_ ?_ <;> walk_at "shb"))

section
variable {P : Program} {w : World} {K : PySem.W.Frag} {mg : Str → Option Value} {base : Heap}

section
variable {σ : L2.St} {H : Hp} {tl : TE} {Dn : Ends} {tu tz : TS} {j k2 : Nat}
/-- for w in a tuple of texts; the heap only grows -/
theorem q_forTS {ws : List Str} (h : EvD K tl σ H (tS ws)) (k : ∀ H1, Ex H H1 → ∃ Pv : Nat → L2.St → Hp → Prop, Pv 0 σ H1 ∧ (∀ i σ' H', Pv i σ' H' → Ex H1 H') ∧
    (∀ (i : Nat) (w : Str) σ' H', ws[i]? = some w → Pv i σ' H' → tu { Dn with nx := Pv (i + 1), ct := Pv (i + 1), bk := tz Dn } (σ'.set j (some (.str w))) H') ∧ (∀ σ' H', Pv ws.length σ' H' → tz Dn σ' H')) : tSeq (tFor (iTup K tl) (gName j) tu) tz Dn σ H :=
  q_forTD (K := K) h (noL_strs ws) fun H1 e => by
    obtain ⟨Pv, p0, px, ps, pe⟩ := k H1 e
    refine ⟨Pv, p0, fun i σ' H' p => Ex.tex (px i σ' H' p), fun i d x σ' H' hi hx p => ?_, fun σ' H' p => pe σ' H' (by rw [← List.length_map (f := PyData.str)]; exact p)⟩
    rw [List.getElem?_map] at hi
    obtain ⟨w, hw, rfl⟩ := Option.map_eq_some_iff.mp hi
    cases hx
    exact ps i w σ' H' hw p
theorem q_forLS {ws : List Str} (h : EvD K tl σ H (.list (ws.map PyData.str))) (k : ∀ H1, Ex H H1 → ∃ Pv : Nat → L2.St → Hp → Prop, Pv 0 σ H1 ∧ (∀ i σ' H', Pv i σ' H' → Ex H1 H') ∧
    (∀ (i : Nat) (w : Str) σ' H', ws[i]? = some w → Pv i σ' H' → tu { Dn with nx := Pv (i + 1), ct := Pv (i + 1), bk := tz Dn } (σ'.set j (some (.str w))) H') ∧ (∀ σ' H', Pv ws.length σ' H' → tz Dn σ' H')) : tSeq (tFor (iList K tl) (gName j) tu) tz Dn σ H := by
  refine h H (Ex.refl H) _ fun v H1 e hv => ?_
  obtain ⟨a, xs, rfl, h1, h2⟩ := dp_lst_inv hv
  obtain ⟨Pv, p0, px, ps, pe⟩ := k H1 e
  have eu := dpa_strs_inv h2
  subst eu
  refine ⟨a, rfl, ⟨_, h1⟩, for_list (K := K) (a := a) (xs := ws.map V.str) Pv p0 (fun i σ' H' _ p => ex_l (px i σ' H' p) h1) (fun i x σ' H' hi p => ?_) (fun σ' H' p => pe σ' H' (by rw [← List.length_map (f := V.str)]; exact p))⟩
  rw [List.getElem?_map] at hi
  obtain ⟨w, hw, rfl⟩ := Option.map_eq_some_iff.mp hi
  exact ps i w σ' H' hw p
theorem q_forSeq {dd : D} {ws : List Str} (hD : DesD dd ws) (h : EvD K tl σ H dd) (k : ∀ H1, Ex H H1 → ∃ Pv : Nat → L2.St → Hp → Prop, Pv 0 σ H1 ∧ (∀ i σ' H', Pv i σ' H' → Ex H1 H') ∧
    (∀ (i : Nat) (w : Str) σ' H', ws[i]? = some w → Pv i σ' H' → tu { Dn with nx := Pv (i + 1), ct := Pv (i + 1), bk := tz Dn } (σ'.set j (some (.str w))) H') ∧ (∀ σ' H', Pv ws.length σ' H' → tz Dn σ' H')) : tSeq (tFor (iSeq K tl) (gName j) tu) tz Dn σ H := by
  rcases hD with rfl | rfl
  · exact Or.inr (q_forTS h k)
  · exact Or.inl (q_forLS h k)
/-- for x, y in a list of pairs; the heap only grows -/
theorem q_forLP {α : Type} {f g : α → D} {as : List α} (h : EvD K tl σ H (.list (as.map fun a => .tuple [f a, g a]))) (k : ∀ H1, Ex H H1 → ∃ Pv : Nat → L2.St → Hp → Prop, Pv 0 σ H1 ∧ (∀ i σ' H', Pv i σ' H' → Ex H1 H') ∧
    (∀ (i : Nat) (a : α) x y σ' H', as[i]? = some a → Dp K H' x (f a) → Dp K H' y (g a) → Pv i σ' H' → tu { Dn with nx := Pv (i + 1), ct := Pv (i + 1), bk := tz Dn } ((σ'.set j (some x)).set k2 (some y)) H') ∧ (∀ σ' H', Pv as.length σ' H' → tz Dn σ' H')) :
    tSeq (tFor (iList K tl) (gTup K 2 (gCons (gName j) (gCons (gName k2) gNil))) tu) tz Dn σ H := by
  refine h H (Ex.refl H) _ fun v H1 e hv => ?_
  obtain ⟨a, xs, rfl, h1, h2⟩ := dp_lst_inv hv
  obtain ⟨Pv, p0, px, ps, pe⟩ := k H1 e
  have l := dpa_len h2
  rw [List.length_map] at l
  refine ⟨a, rfl, ⟨_, h1⟩, for_list (K := K) (a := a) (xs := xs) Pv p0 (fun i σ' H' _ p => ex_l (px i σ' H' p) h1) (fun i x σ' H' hi p => ?_) (fun σ' H' p => pe σ' H' (by rw [← l]; exact p))⟩
  obtain ⟨d, g1, g2⟩ := dpa_getv h2 hi
  rw [List.getElem?_map] at g1
  obtain ⟨z, hz, rfl⟩ := Option.map_eq_some_iff.mp g1
  obtain ⟨p9, us, rfl, s1, s2⟩ := dp_tup_inv (Dpx g2 (px i σ' H' p))
  obtain ⟨y1, y2, rfl, hy1, hy2⟩ := dpa2 s2
  exact ⟨p9, _, rfl, s1, rfl, _, _, rfl, _, _, rfl, rfl, ps i z y1 y2 σ' H' hz hy1 hy2 p⟩
end
theorem keys_tS {kvs : List (List L2.Key × V)} {ks : List (List Str)} (h : kvs.map (·.1) = ks.map kS) : (kvs.map fun p => keyD p.1) = ks.map tS := by
  have : (kvs.map fun p => keyD p.1) = (kvs.map (·.1)).map keyD := by rw [List.map_map]; rfl
  rw [this, h, List.map_map]
  refine List.map_congr_left fun k _ => ?_
  exact kS_kD k
theorem noL_tSs (G : List (List Str)) : ∀ d ∈ G.map tS, noL d = true := fun d hd => by
  obtain ⟨g, _, rfl⟩ := List.mem_map.mp hd
  exact noL_strs g
theorem find_at {α : Type} {p : α → Bool} : ∀ {l : List α} {i : Nat} {a : α}, l[i]? = some a → p a = true → (∀ x ∈ l.take i, p x = false) → l.find? p = some a
  | [], i, a, h, _, _ => by simp at h
  | x :: l, 0, a, h, hp, _ => by cases h; rw [List.find?_cons, hp]
  | x :: l, i + 1, a, h, hp, hn => by
    rw [List.find?_cons, hn x (by simp)]
    exact find_at (i := i) (by simpa using h) hp fun y hy => hn y (by rw [List.take_succ_cons]; exact List.mem_cons_of_mem _ hy)
/-- a list [group + (word,) for group in groups] -/
def plusD (w : Str) : D → D
  | .tuple ds => .tuple (ds ++ [.str w])
  | _ => .none
theorem plusD_map (w : Str) (G : List (List Str)) : (G.map tS).map (plusD w) = (G.map (· ++ [w])).map tS := by
  rw [List.map_map, List.map_map]
  refine List.map_congr_left fun g _ => ?_
  show PyData.tuple (g.map PyData.str ++ [.str w]) = .tuple ((g ++ [w]).map PyData.str)
  rw [List.map_append]; rfl
theorem grp_take {ws : List Str} {i : Nat} {w : Str} (h : ws[i]? = some w) : grpF (ws.take (i + 1)) = grpF (ws.take i) ++ (grpF (ws.take i)).map (· ++ [w]) := by
  rw [List.take_add_one, h]
  exact grpF_snoc _ _
theorem grp_sz {ws : List Str} (h : ws.length ≤ 12) (i : Nat) : (grpF (ws.take i)).length ≤ 4096 := by
  rw [grpF_len]
  exact Nat.pow_le_pow_right (by decide) (Nat.le_trans (by rw [List.length_take]; exact Nat.min_le_right _ _) h) (n := 2)
theorem grp_el {ws g : List Str} (h : g ∈ grpF ws) : g.length ≤ ws.length := (grp_mem.mp h).length_le
def lenD : D → D
  | .tuple ds => .tuple [.int (ds.length : Int), .tuple ds]
  | _ => .none
theorem lenD_map (G : List (List Str)) : (G.map tS).map lenD = G.map gD := by
  rw [List.map_map]
  refine List.map_congr_left fun g _ => ?_
  show PyData.tuple [.int ((g.map PyData.str).length : Int), .tuple (g.map PyData.str)] = gD g
  rw [List.length_map]; rfl

def sp_greatest_sound (K : PySem.W.Frag) (C_NotMade : Addr) : Sp := fun vs H Q E => ∃ (v : V) (ws : List Str), vs = [v] ∧ Dp K H v (tS ws) ∧ DesOk ws ∧ (Sound ws → TupS H v ws) ∧ (Sound ws → ∀ (u : V) (H' : Hp) (ks : List (List Str)), Ex H H' → ks.Nodup → (∀ g, g ∈ ks ↔ Great ws g) → Dp K H' u (.tuple (sortD (ks.map tS))) → Q u H') ∧ (¬ Sound ws → ∀ H', Ex H H' → E (.ref C_NotMade) none H')
abbrev nm_greatest_sound : List Str := ["design"]
theorem sc_greatest_sound : FnScope nm_greatest_sound ["design"] (defScope st_greatest_sound) := ⟨rfl, rfl, rfl, by decide +kernel, rfl, by decide +kernel, by decide +kernel⟩
theorem ok_greatest_sound {C_NotMade : Addr} (F : Def K mg "greatest_sound" st_greatest_sound) (c_need_design : Cal P w K mg base CX0 2 "need_design" ["design"] (sp_need_design K)) (c_held_lots : Cal P w K mg base CX0 2 "held_lots" ["design"] (sp_held_lots K)) (c_greatest : Cal P w K mg base CX0 3 "greatest" ["design"] (sp_greatest K)) (m_tuple : mg "tuple" = none) (m_sorted : mg "sorted" = none) (X_NotMade : ExcK K mg "NotMade" C_NotMade) : Cal P w K mg base (L2.CX P w) 4 "greatest_sound" ["design"] (sp_greatest_sound K C_NotMade) := by
  refine F.ok sc_greatest_sound (fun vs H Q E h => ?_) (fun _ _ _ _ _ _ us hl => match us, hl with | [_], _ => rfl) (fun f cdv A outer s H vs Q E hr h => ?_)
  · obtain ⟨v, ws, rfl, _⟩ := h; rfl
  · refine ⟨_, pss_cons (ps_expr (pe_cal c_need_design (hr.mono (by decide)) (by rfl) pass0 (pa_cons (pv 0) pa_nil))) (pss_cons (ps_if (pt_cmpR (op_neDK K rfl hr.units) (pe_cal c_held_lots (hr.mono (by decide)) (by rfl) pass0 (pa_cons (pv 0) pa_nil)) (pe_lst pa_nil) (nomark _)) (pss_one ((ps_raise rfl (takes_of rfl rfl rfl rfl) (pmk_own0 PySem.F.excBase_ValueError X_NotMade.xc X_NotMade.g X_NotMade.k (raises_own X_NotMade.b X_NotMade.t) (by exact rfl))))) pss_nil) (pss_one (ps_ret (pe_callTy (call_tupleK K rfl) (by rfl) m_tuple (by decide +kernel) (pa_cons (pe_callB (cr_sortedDTK K rfl (by rfl) hr.units) (by rfl) m_sorted (by decide +kernel) (pa_cons (pe_cal c_greatest (hr.mono (by decide)) (by rfl) pass0 (pa_cons (pv 0) pa_nil)) pa_nil)) pa_nil))))), ?_⟩
    have kis : KIs K := ⟨⟩
    obtain ⟨v, ws, rfl, hv, hd, ht, q, qe⟩ := h
    refine q_callC (vs := [v]) (ea_cons (ev_var rfl) ea_nil) (fun H1 e1 => ⟨[.tuple (ws.map PyData.str)], .none, .cons (Dpx hv e1) .nil, ⟨ws, rfl, hd, rfl⟩, fun u H2 e2 _ => ?_⟩)
    have e12 := e1.trans e2
    refine q_when (b := !decide (Sound ws)) (et_edK kis (ed_soundNe (EvN.ed (en_call (eds_cons (ed_var rfl (Dpx hv e12)) eds_nil) ⟨_, ws, rfl, .inl rfl, rfl⟩)))) (fun z H3 e3 => ?_) (fun z H3 e3 => ?_)
    · exact qe (by simpa using z) H3 (e12.trans e3)
    have hs : Sound ws := by simpa using z
    have e13 := e12.trans e3
    obtain ⟨b, rfl, hb⟩ := ht hs
    refine ⟨_, rfl, b, ws, rfl, e13 _ _ hb, hd, hs, fun p ks H4 hp e4 D4 hg => ?_⟩
    obtain ⟨kvs, hk, ek⟩ := D4.at_
    have ed := keys_tS ek
    refine ⟨p, kvs, rfl, hk, by rw [ed]; exact alike_tS ks, by rw [ed]; exact sortable_tS fun g h => great_ne ((hg g).mp h), fun ys p2 hy hn => ⟨p2, ys, rfl, .inl ⟨sq_of upd_same, fun t ht => ?_⟩⟩⟩
    rw [ed] at hy
    exact q hs (.ref t) _ ks (((e13.trans e4).trans (Ex.new hn)).trans (Ex.new ht)) D4.nd hg (dp_tup upd_same (Dpax (Dpax hy (Ex.new hn)) (Ex.new ht)))
def sp_fewest_drops (K : PySem.W.Frag) : Sp := spD K fun ds d => ∃ ws g : List Str, ds = [tS ws] ∧ DesOk ws ∧ fewW ws = some g ∧ d = tS g
abbrev nm_fewest_drops : List Str := ["design", "groups", "word", "order", "many", "group"]
theorem sc_fewest_drops : FnScope nm_fewest_drops ["design"] (defScope st_fewest_drops) := ⟨rfl, rfl, rfl, by decide +kernel, rfl, by decide +kernel, by decide +kernel⟩
theorem ok_fewest_drops (F : Def K mg "fewest_drops" st_fewest_drops) (c_need_design : Cal P w K mg base CX0 2 "need_design" ["design"] (sp_need_design K)) (c_held_lots : Cal P w K mg base CX0 2 "held_lots" ["design"] (sp_held_lots K)) (m_sorted : mg "sorted" = none) (m_len : mg "len" = none) : Cal P w K mg base CX0 3 "fewest_drops" ["design"] (sp_fewest_drops K) := by
  refine F.ok sc_fewest_drops (fun vs H Q E h => ?_) (fun _ _ _ _ _ _ us hl => match us, hl with | [_], _ => rfl) (fun f cdv A outer s H vs Q E hr h => ?_)
  · exact spD_len h (by rintro ds d ⟨_, _, rfl, _⟩; rfl)
  · refine ⟨_, PSs.nox (pss_cons (ps_expr (pe_cal c_need_design (hr.mono (by decide)) (by rfl) pass0 (pa_cons (pv 0) pa_nil))) (pss_cons (ps_set (i := 1) sc_fewest_drops.nd rfl (Or.inl rfl) (pe_lst (pa_cons (pe_tup pa_nil) pa_nil))) (pss_cons (ps_for PassesOwn.never rfl (pi_tupK K rfl (pv 0)) (pg_name (i := 2) sc_fewest_drops.nd rfl (Or.inr rfl)) (pss_one (ps_set (i := 1) sc_fewest_drops.nd rfl (Or.inl rfl) (pe_op op_cat (pv 1) (pe_lc (own := [("group", 5)]) (tt := tYes) rfl sc_fewest_drops.nd (pi_listK K rfl (pv 1)) (blkOk_by (by first | (show blkC nm_fewest_drops (defScope st_fewest_drops) _ _ = true; decide +kernel) | rfl)) (fun _ _ _ _ _ => (pg_name (i := 5) sc_fewest_drops.nd rfl (Or.inl rfl))) (fun _ _ _ _ _ => pts_nil) (fun _ _ _ _ _ => (pe_op (op_catAK K rfl) (pv 5) (pe_tup (pa_cons (pv 2) pa_nil))))))))) (pss_cons (ps_set (i := 3) sc_fewest_drops.nd rfl (Or.inl rfl) (pe_callB (cr_sortedDK K rfl hr.units) (by rfl) m_sorted (by decide +kernel) (pa_cons (pe_lc (own := [("group", 5)]) (tt := tYes) rfl sc_fewest_drops.nd (pi_listK K rfl (pv 1)) (blkOk_by (by first | (show blkC nm_fewest_drops (defScope st_fewest_drops) _ _ = true; decide +kernel) | rfl)) (fun _ _ _ _ _ => (pg_name (i := 5) sc_fewest_drops.nd rfl (Or.inl rfl))) (fun _ _ _ _ _ => pts_nil) (fun _ _ _ _ _ => (pe_tup (pa_cons (pe_callB (call_lenK K rfl) (by rfl) m_len (by decide +kernel) (pa_cons (pv 5) pa_nil)) (pa_cons (pv 5) pa_nil))))) pa_nil))) (pss_cons (ps_for PassesOwn.never rfl (pi_listK K rfl (pv 3)) (pg_tup (by rfl) (pgs_cons (pg_name (i := 4) sc_fewest_drops.nd rfl (Or.inl rfl)) (pgs_cons (pg_name (i := 5) sc_fewest_drops.nd rfl (Or.inr rfl)) pgs_nil))) (pss_one (ps_if (pt_cmpR (op_eqDK K rfl hr.units) (pe_cal c_held_lots (hr.mono (by decide)) (by rfl) pass0 (pa_cons (pe_lc (own := [("word", 2)]) (tt := _) rfl sc_fewest_drops.nd (pi_tupK K rfl (pv 0)) (blkOk_by (by first | (show blkC nm_fewest_drops (defScope st_fewest_drops) _ _ = true; decide +kernel) | rfl)) (fun _ _ _ _ _ => (pg_name (i := 2) sc_fewest_drops.nd rfl (Or.inl rfl))) (fun _ _ _ _ _ => pts_one (pt_cmpR (op_niK K rfl) (pv 2) (pv 5) (by rfl))) (fun _ _ _ _ _ => (pv 2))) pa_nil)) (pe_lst pa_nil) (nomark _)) (pss_one (ps_ret (pv 5))) pss_nil))) (pss_one (ps_ret (pv 0)))))))), ?_⟩
    have kis : KIs K := ⟨⟩
    obtain ⟨ds, d, hd, ⟨ws, g0, rfl, hws, hfew, rfl⟩, q⟩ := h
    obtain ⟨v, rfl, hv⟩ := dpa1 hd
    have l12 := hws.len
    refine q_callC (vs := [v]) (ea_cons (ev_var rfl) ea_nil) (fun H1 e1 => ⟨[.tuple (ws.map PyData.str)], .none, .cons (Dpx hv e1) .nil, ⟨ws, rfl, hws, rfl⟩, fun u H2 e2 _ => ?_⟩)
    have e12 := e1.trans e2
    refine q_asgN (K := K) (ds := [.tuple []]) (en_lst (eds_cons (ed_tup eds_nil (by simp)) eds_nil) (by simp)) (fun p us H3 hp e3 h3 a3 => ?_)
    have e13 := e12.trans e3
    refine q_forTS (ws := ws) (ed_var (i := 0) rfl (Dpx hv e13)) (fun H4 e4 => ⟨fun i σ' H' => ∃ pg us y2 y3 y4 y5, σ' = [some v, some (.ref pg), y2, y3, y4, y5] ∧ Ex H4 H' ∧ H' pg = some (.lst us) ∧ DpAll K H' us ((grpF (ws.take i)).map tS), ⟨p, us, _, _, _, _, rfl, Ex.refl _, e4 _ _ h3, Dpax a3 e4⟩, fun i σ' H' w => by obtain ⟨_, _, _, _, _, _, _, x, _⟩ := w; exact x, fun i w σ' H' hw W => ?_, fun σ' H' W => ?_⟩)
    · obtain ⟨pg, us, y2, y3, y4, y5, rfl, x, hg, ag⟩ := W
      have sz := grp_sz l12 i
      refine s_asgN (K := K) (ds := (grpF (ws.take (i + 1))).map tS) (en_is (en_cat (ep_var rfl hg ag) (en_mapL (K := K) (plusD w) (ed_var (i := 1) rfl (dp_lst hg ag)) (by rw [List.length_map]; omega) (fun d hd => ?_) (fun _ => rfl) (fun x9 d H5 e5 hd hx => ?_)).ep ?_) (by rw [plusD_map, grp_take hw, List.map_append])) (fun p5 us5 H5 hp5 e5 h5 a5 => ⟨p5, us5, _, _, _, _, rfl, x.trans e5, h5, a5⟩)
      · obtain ⟨g, _, rfl⟩ := List.mem_map.mp hd
        show noLs (g.map PyData.str ++ [.str w]) = true
        rw [noLs_app]
        have := noL_strs g
        rw [show noLs (g.map PyData.str) = true from this]; rfl
      · obtain ⟨g, hg9, rfl⟩ := List.mem_map.mp hd
        have lg := grp_el hg9
        have l2 : (ws.take i).length ≤ 12 := Nat.le_trans (by rw [List.length_take]; exact Nat.min_le_right _ _) l12
        exact ed_op (ed_var (i := 5) rfl hx) (ed_tup (eds_cons (ed_var (i := 2) rfl (.str w)) eds_nil) (by simp)) (rd_catA (by rw [List.length_map]; simp; omega))
      · rw [List.length_map, List.length_map, List.length_map]; omega
    obtain ⟨pg, us, y2, y3, y4, y5, rfl, x, hg, ag⟩ := W
    rw [List.take_length] at ag
    have e14 := e13.trans (e4.trans x)
    have sz : (grpF ws).length ≤ 4096 := by
      have := grp_sz l12 ws.length
      rw [List.take_length] at this
      exact this
    refine q_asgN (K := K) (ds := (ordG ws).map gD) (en_is (en_sortD (ds := (grpF ws).map gD) (EvN.ep (en_is (en_mapL (K := K) lenD (ed_var (i := 1) rfl (dp_lst hg ag)) (by rw [List.length_map]; omega) (fun d hd => ?_) (fun _ => rfl) (fun x9 d H5 e5 hd hx => ?_)) (lenD_map _))) (alike_gD _) (sortable_gD _) (fun d hd => ?_)) (ordG_map ws)) (fun po uo H5 hpo e5 h5 a5 => ?_)
    · obtain ⟨g, _, rfl⟩ := List.mem_map.mp hd
      show noLs [.int _, .tuple (g.map PyData.str)] = true
      have := noL_strs g
      show (true && (noL (.tuple (g.map PyData.str)) && true)) = true
      rw [this]; rfl
    · obtain ⟨g, hg9, rfl⟩ := List.mem_map.mp hd
      exact ed_tup (eds_cons (ed_cb (eds_cons (ed_var (i := 5) rfl hx) eds_nil) rc_lenT) (eds_cons (ed_var (i := 5) rfl hx) eds_nil)) (by simp)
    · obtain ⟨g, _, rfl⟩ := List.mem_map.mp hd
      exact depth_gD g
    have e15 := e14.trans e5
    refine q_forLP (α := List Str) (f := fun g => .int (g.length : Int)) (g := tS) (as := ordG ws) (ed_var (i := 3) rfl (dp_lst h5 a5)) (fun H6 e6 => ⟨fun i σ' H' => ∃ y1 y2 y3 y4 y5, σ' = [some v, y1, y2, y3, y4, y5] ∧ Ex H6 H' ∧ ∀ g ∈ (ordG ws).take i, decide (Sound (lessW ws g)) = false, ⟨_, _, _, _, _, rfl, Ex.refl _, fun g hg => by rw [List.take_zero] at hg; cases hg⟩, fun i σ' H' w => by obtain ⟨_, _, _, _, _, _, x, _⟩ := w; exact x, fun i g x9 y9 σ' H' hi hx hy W => ?_, fun σ' H' W => ?_⟩)
    · obtain ⟨y1, y2, y3, y4, y5, rfl, x6, hno⟩ := W
      have e16 := e15.trans (e6.trans x6)
      have lg : g.Sublist ws := ordG_mem.mp (List.mem_of_getElem? hi)
      refine s_if (b := decide (Sound (lessW ws g))) (et_edK kis (ed_soundEq (EvN.ed (en_call (eds_cons (EvN.ed (en_is (en_filtT (K := K) (fun d => !((g.map PyData.str).any fun y => PyData.eqv y d)) id (ed_var (i := 0) rfl (Dpx hv e16)) (by rw [List.length_map]; omega) (fun d hd => ?_) (fun _ => rfl) (fun x7 d H7 e7 hd hx7 => ?_) (fun x7 d H7 e7 hd hx7 _ => ed_var (i := 2) rfl hx7)) (filt_strs (f := fun w => !decide (w ∈ g)) (fun m => by rw [any_str]) ws))) eds_nil) ⟨_, lessW ws g, rfl, .inr rfl, rfl⟩)))) (fun z H7 e7 => ?_) (fun z H7 e7 => ?_)
      · obtain ⟨w, _, rfl⟩ := List.mem_map.mp hd; rfl
      · obtain ⟨w, _, rfl⟩ := List.mem_map.mp hd
        exact et_edK kis (ed_is (ed_op (ed_var (i := 2) rfl hx7) (ed_var (i := 5) rfl (Dpx hy e7)) rd_niS) (by rw [any_str]))
      · have hf := find_at (p := fun g => decide (Sound (lessW ws g))) hi z hno
        have : g0 = g := Option.some.inj (hfew.symm.trans hf)
        rw [this] at q
        exact s_retD (K := K) (d := tS g) (ed_var (i := 5) rfl (Dpx hy e7)) (fun u8 H8 e8 hu => q u8 H8 ((e16.trans e7).trans e8) hu)
      · exact ⟨_, _, _, _, _, rfl, x6.trans e7, fun g' hg' => by
          rcases (mem_take1 hi).mp hg' with h | h
          · exact hno g' h
          · rw [h]; exact z⟩
    · obtain ⟨y1, y2, y3, y4, y5, rfl, x6, hno⟩ := W
      rw [List.take_length] at hno
      have hm := List.mem_of_find?_eq_some hfew
      have ht := List.find?_some hfew
      rw [hno g0 hm] at ht
      cases ht
end
end Ow

namespace Ow
open PySem PySem.Spec PyProof.Rows L2 Evl
local macro_rules | `(tactic| walk_at "as") => `(tactic| first
  | assumption
  | exact Dp.int _ | exact Dp.str _ | exact Dp.bl _ | exact Dp.non
  | exact Dpx (by assumption) (by assumption)
  | exact Dpx (by assumption) (Ex.trans (by assumption) (by assumption)))
local macro_rules | `(tactic| walk_at "ev") => `(tactic| first
  | ((with_reducible show EvD _ (L2.tVar _) _ _ _); exact ed_var rfl (by walk_at "as"))
  | ((with_reducible show EvD _ (L2.tC _) _ _ _); first | exact ed_int | exact ed_str | exact ed_bl | exact ed_non | exact ed_c (by walk_at "as"))
  | ((with_reducible show EvD _ (L2.tCB (rIsi _) _) _ _ _); exact ed_isi (by walk_at "ev"))
  | ((with_reducible show EvD _ (L2.tCB (rIsiT _) _) _ _ _); exact ed_isi2 (by walk_at "ev"))
  | ((with_reducible show EvD _ (L2.tCB _ _) _ _ _); exact ed_cb (by walk_at "es") (by walk_at "rc"))
  | ((with_reducible show EvD _ (L2.tOp _ _ _) _ _ _); exact ed_op (by walk_at "ev") (by walk_at "ev") (by walk_at "rd"))
  | ((with_reducible show EvD _ (L2.tAndV _ _) _ _ _); exact ed_and (by walk_at "ev") (fun _ => by walk_at "ev"))
  | ((with_reducible show EvD _ (L2.tOrV _ _) _ _ _); exact ed_or (by walk_at "ev") (fun _ => by walk_at "ev"))
  | ((with_reducible show EvD _ (L2.tNotV _) _ _ _); exact ed_not (by walk_at "ev"))
  | ((with_reducible show EvD _ (L2.tIf _ _ _) _ _ _); exact ed_if (by walk_at "et") (fun _ => by walk_at "ev") (fun _ => by walk_at "ev"))
  | ((with_reducible show EvD _ (L2.tTup _) _ _ _); exact ed_tup (by walk_at "es") (by simp))
  | ((with_reducible show EvD _ (L2.tChain _ _ _ _ _) _ _ _); exact ed_chain (by walk_at "ev") (by walk_at "ev") (by walk_at "rd") (fun _ => by walk_at "ev") (by walk_at "rd"))
  | ((with_reducible show EvD _ (L2.tCall _ _ _ _) _ _ _); exact ed_call (by walk_at "es") (by walk_at "sp")))
local macro_rules | `(tactic| walk_at "es") => `(tactic| first
  | ((with_reducible show EvDs _ L2.tNil _ _ _); exact eds_nil)
  | exact eds_cons (by walk_at "ev") (by walk_at "es"))
local macro_rules | `(tactic| walk_at "rd") => `(tactic| first
  | ((with_reducible show RD _ rEq _ _ _ _); first | exact rd_eqS | exact rd_eqI)
  | ((with_reducible show RD _ rNe _ _ _ _); first | exact rd_neS | exact rd_neI)
  | ((with_reducible show RD _ (rIxT _) _ _ _ _); exact rd_ixT (by first | exact atD_0 | exact atD_1 | exact atD_2 | rfl | assumption))
  | ((with_reducible show RD _ (rIxL _) _ _ _ _); exact rd_ixL (by first | exact atD_0 | exact atD_1 | exact atD_2 | rfl | assumption))
  | ((with_reducible show RD _ (rEqD _) _ _ _ _); exact rd_eqD (by first | rfl | assumption) (by first | rfl | assumption))
  | ((with_reducible show RD _ (rNeD _) _ _ _ _); exact rd_neD (by first | rfl | assumption) (by first | rfl | assumption))
  | ((with_reducible show RD _ (rIn _ _) _ _ _ _); first | exact rd_inS | exact rd_niS | exact rd_inSL | exact rd_niSL)
  | ((with_reducible show RD _ (rCatA _) _ _ _ _); exact rd_catA (by first | (simp; done) | (simp; omega) | omega))
  | ((with_reducible show RD _ (rI _ _) _ _ _ _); exact rd_intC (by first | assumption | (show (0 : Int) < _; decide)))
  | exact rd_cmp | exact rd_int | exact rd_isN | exact rd_notN)
local macro_rules | `(tactic| walk_at "rc") => `(tactic| first
  | exact rc_lenT | exact rc_lenL | exact rc_all | exact rc_any | exact rc_tupL | exact rc_lenS (by assumption) | exact rc_int1 | exact rc_intB)
local macro_rules | `(tactic| walk_at "et") => `(tactic| first
  | ((with_reducible show EvT (L2.tB _) _ _ _); exact et_edBK (by assumption) (by walk_at "ev"))
  | ((with_reducible show EvT (L2.tTest _) _ _ _); exact et_edK (by assumption) (by walk_at "ev"))
  | ((with_reducible show EvT (L2.tNot _) _ _ _); exact et_not (by walk_at "et"))
  | ((with_reducible show EvT (L2.tAnd _ _) _ _ _); exact et_and (by walk_at "et") (fun _ => by walk_at "et"))
  | ((with_reducible show EvT (L2.tOr _ _) _ _ _); exact et_or (by walk_at "et") (fun _ => by walk_at "et")))
local macro_rules | `(tactic| walk_at "sp") => `(tactic| first
  | exact ⟨_, rfl, rfl⟩ | exact ⟨_, _, rfl, rfl⟩ | exact ⟨_, _, _, rfl, rfl⟩ | exact ⟨_, _, _, _, rfl, rfl⟩
  | exact ⟨_, rfl, by assumption, rfl⟩ | exact ⟨_, rfl, by assumption, by assumption, rfl⟩ | exact ⟨_, _, rfl, by assumption, rfl⟩ | exact ⟨_, _, _, rfl, by assumption, rfl⟩)
local macro_rules | `(tactic| walk_at "shb") => `(tactic| first
  | exact ShB.nil
  | (refine ShB.pl ⟨by decide, by decide, by decide⟩ (by first | (intro h; exact absurd h (by decide)) | (intro _; refine ⟨?_, ?_⟩ <;> (dsimp only [wordOf]; decide +kernel))) ?_; walk_at "shb")
  | (refine ShB.block (by decide) (by decide) ?_ ?_ <;> walk_at "shb")
  | (refine ShB.hands rfl (by decide) (by decide) ?_ ?_ ?_ <;> walk_at "shb"))

section
variable {P : Program} {w : World} {K : PySem.W.Frag} {mg : Str → Option Value} {base : Heap}

theorem eqv_strs : ∀ l : List Str, PyData.eqv (.list (l.map PyData.str)) (.list []) = decide (l = [])
  | [] => rfl
  | x :: l => by
    rw [decide_eq_false (by simp)]
    rfl
theorem shaped_strs {l : List Str} (h : ∀ w ∈ l, w ∈ WORDS) : SeqAt.shaped (.list (l.map PyData.str)) = true := (shp_lst (n := 0) fun d hd => by
  obtain ⟨w, hw, rfl⟩ := List.mem_map.mp hd
  exact shp_str (words_ok (h w hw))).shaped (by decide)
def unStr : D → Str
  | .str w => w
  | _ => ""
def unS : D → List Str
  | .tuple ds => ds.map unStr
  | _ => []
theorem unS_tS (g : List Str) : unS (tS g) = g := by
  show (g.map PyData.str).map unStr = g
  rw [List.map_map]
  exact List.map_id' _
theorem filt_tS (p : List Str → Bool) (G : List (List Str)) : ((G.map tS).filter fun d => p (unS d)).map id = (G.filter p).map tS := by
  rw [List.map_id, List.filter_map]
  congr 1
  refine List.filter_congr fun g _ => ?_
  show p (unS (tS g)) = p g
  rw [unS_tS]
theorem filt_st (p : Str → Bool) (l : List Str) : ((l.map PyData.str).filter fun d => p (unStr d)).map id = (l.filter p).map PyData.str := by
  rw [List.map_id, List.filter_map]
  congr 1

def sp__law_lots_in (K : PySem.W.Frag) : Sp := spN K fun ds es => ∃ (dd : D) (ws : List Str), ds = [dd] ∧ DesD dd ws ∧ es = (lotsIn ws).map tS
abbrev nm_law_lots_in : List Str := ["_law_design_here", "_law_lot", "_law_word"]
abbrev st_law_lots_in : Stmt := st__law_lots_in
theorem sc_law_lots_in : FnScope nm_law_lots_in ["_law_design_here"] (defScope st__law_lots_in) := ⟨rfl, rfl, rfl, by decide +kernel, rfl, by decide +kernel, by decide +kernel⟩
theorem ok__law_lots_in (F : Def K mg "_law_lots_in" st__law_lots_in) (c__law_lots : Cal P w K mg base CX0 1 "_law_lots" [] (sp__law_lots K)) : Cal P w K mg base CX0 2 "_law_lots_in" ["_law_design_here"] (sp__law_lots_in K) := by
  refine F.ok sc_law_lots_in (fun vs H Q E h => ?_) (fun _ _ _ _ _ _ us hl => match us, hl with | [_], _ => rfl) (fun f cdv A outer s H vs Q E hr h => ?_)
  · exact spN_len h (by rintro ds d ⟨_, _, rfl, _⟩; rfl)
  · refine ⟨_, PSs.nox (pss_one (ps_ret (pe_lc (own := [("_law_lot", 1)]) (tt := _) rfl sc_law_lots_in.nd (pi_listK K rfl (pe_cal0 c__law_lots (hr.mono (by decide)) (by rfl) pass0)) (blkOk_by (by first | (show blkC nm_law_lots_in (defScope st_law_lots_in) _ _ = true; decide +kernel) | rfl)) (fun _ _ _ _ _ => (pg_name (i := 1) sc_law_lots_in.nd rfl (Or.inl rfl))) (fun _ _ _ _ _ => pts_one (pt_cmpR (op_eqDK K rfl hr.units) (pe_lc (own := [("_law_word", 2)]) (tt := _) rfl sc_law_lots_in.nd (pi_tupK K rfl (pv 1)) (blkOk_by (by first | (show blkC nm_law_lots_in (defScope st_law_lots_in) _ _ = true; decide +kernel) | rfl)) (fun _ _ _ _ _ => (pg_name (i := 2) sc_law_lots_in.nd rfl (Or.inl rfl))) (fun _ _ _ _ _ => pts_one (pt_cmpR (op_niK K rfl) (pv 2) (pv 0) (by rfl))) (fun _ _ _ _ _ => (pv 2))) (pe_lst pa_nil) (nomark _))) (fun _ _ _ _ _ => (pv 1))))), ?_⟩
    have kis : KIs K := ⟨⟩
    obtain ⟨ds, es, hd, ⟨dd, ws, rfl, hD, rfl⟩, q⟩ := h
    obtain ⟨v, rfl, hv⟩ := dpa1 hd
    have el : (LOTS.map fun l => (.tuple (l.1.map PyData.str) : D)) = lotsW.map tS := by unfold lotsW; rw [List.map_map]; rfl
    have hc : EvN K (tCall (sp__law_lots K) [] E0 tNil) [some v, none, none] H (lotsW.map tS) := en_is (en_call (R := fun ds es => ds = [] ∧ es = LOTS.map fun l => .tuple (l.1.map PyData.str)) eds_nil ⟨rfl, rfl⟩) el
    refine s_retN (K := K) (ds := (lotsIn ws).map tS) (en_is (en_filtL (K := K) (fun d => (fun l => l.all fun w => decide (w ∈ ws)) (unS d)) id (EvN.ed hc) (by decide) (fun d hd => noL_tSs _ d hd) (fun _ => rfl) (fun x d H1 e1 hd hx => ?_) (fun x d H1 e1 hd hx _ => ed_var (i := 1) rfl hx)) (filt_tS (fun l => l.all fun w => decide (w ∈ ws)) lotsW)) (fun p us H1 hp e1 h1 a1 => q p us H1 hp e1 h1 a1)
    obtain ⟨l, hl, rfl⟩ := List.mem_map.mp hd
    have ll := lot_len hl
    rw [unS_tS]
    refine et_edK kis (ed_is (ed_op (EvN.ed (en_is (en_filtT (K := K) (fun d => (fun w => !decide (w ∈ ws)) (unStr d)) id (ed_var (i := 1) rfl hx) (by rw [List.length_map]; omega) (fun d hd => ?_) (fun _ => rfl) (fun x2 d H2 e2 hd hx2 => ?_) (fun x2 d H2 e2 hd hx2 _ => ed_var (i := 2) rfl hx2)) (filt_st (fun w => !decide (w ∈ ws)) l))) (ed_lst eds_nil (by simp)) (rd_eqD (shaped_strs fun w hw => lots_words hl w (List.mem_filter.mp hw).1) rfl)) ?_)
    · obtain ⟨w, _, rfl⟩ := List.mem_map.mp hd; rfl
    · obtain ⟨w, _, rfl⟩ := List.mem_map.mp hd
      exact et_edK kis (ed_niDes hD (ed_var (i := 2) rfl hx2) (ed_var (i := 0) rfl (Dpx (Dpx hv e1) e2)))
    · rw [eqv_strs]
      refine congrArg PyData.bool ?_
      show decide (List.filter (fun w => !decide (w ∈ ws)) l = []) = l.all (fun w => decide (w ∈ ws))
      by_cases z : l.all (fun w => decide (w ∈ ws)) = true
      · rw [z]
        refine decide_eq_true (List.filter_eq_nil_iff.mpr fun w hw => ?_)
        rw [List.all_eq_true.mp z w hw]; decide
      · rw [Bool.not_eq_true] at z
        rw [z]
        refine decide_eq_false fun y => ?_
        have : l.all (fun w => decide (w ∈ ws)) = true := List.all_eq_true.mpr fun w hw => by
          have := List.filter_eq_nil_iff.mp y w hw
          simpa using this
        rw [this] at z; cases z
def sp__law_groups (K : PySem.W.Frag) : Sp := spN K fun ds es => ∃ (dd : D) (ws : List Str), ds = [dd] ∧ DesD dd ws ∧ ws.length ≤ 12 ∧ es = (grpF ws).map tS
abbrev nm_law_groups : List Str := ["_law_words_here", "_law_found", "_law_word", "_law_group"]
abbrev st_law_groups : Stmt := st__law_groups
theorem sc_law_groups : FnScope nm_law_groups ["_law_words_here"] (defScope st__law_groups) := ⟨rfl, rfl, rfl, by decide +kernel, rfl, by decide +kernel, by decide +kernel⟩
theorem ok__law_groups (F : Def K mg "_law_groups" st__law_groups) : Cal P w K mg base CX0 1 "_law_groups" ["_law_words_here"] (sp__law_groups K) := by
  refine F.ok sc_law_groups (fun vs H Q E h => ?_) (fun _ _ _ _ _ _ us hl => match us, hl with | [_], _ => rfl) (fun f cdv A outer s H vs Q E hr h => ?_)
  · exact spN_len h (by rintro ds d ⟨_, _, rfl, _⟩; rfl)
  · refine ⟨_, PSs.nox (pss_cons (ps_set (i := 1) sc_law_groups.nd rfl (Or.inl rfl) (pe_lst (pa_cons (pe_tup pa_nil) pa_nil))) (pss_cons (ps_for PassesOwn.never rfl (pi_seqK K rfl (pv 0)) (pg_name (i := 2) sc_law_groups.nd rfl (Or.inr rfl)) (pss_one (ps_set (i := 1) sc_law_groups.nd rfl (Or.inl rfl) (pe_op op_cat (pv 1) (pe_lc (own := [("_law_group", 3)]) (tt := tYes) rfl sc_law_groups.nd (pi_listK K rfl (pv 1)) (blkOk_by (by first | (show blkC nm_law_groups (defScope st_law_groups) _ _ = true; decide +kernel) | rfl)) (fun _ _ _ _ _ => (pg_name (i := 3) sc_law_groups.nd rfl (Or.inl rfl))) (fun _ _ _ _ _ => pts_nil) (fun _ _ _ _ _ => (pe_op (op_catAK K rfl) (pv 3) (pe_tup (pa_cons (pv 2) pa_nil))))))))) (pss_one (ps_ret (pv 1))))), ?_⟩
    have kis : KIs K := ⟨⟩
    obtain ⟨ds, es, hd, ⟨dd, ws, rfl, hD, l12, rfl⟩, q⟩ := h
    obtain ⟨v, rfl, hv⟩ := dpa1 hd
    refine q_asgN (K := K) (ds := [.tuple []]) (en_lst (eds_cons (ed_tup eds_nil (by simp)) eds_nil) (by simp)) (fun p us H3 hp e3 h3 a3 => ?_)
    refine q_forSeq (K := K) hD (ed_var (i := 0) rfl (Dpx hv e3)) (fun H4 e4 => ⟨fun i σ' H' => ∃ pg us y2 y3, σ' = [some v, some (.ref pg), y2, y3] ∧ H pg = none ∧ Ex H4 H' ∧ H' pg = some (.lst us) ∧ DpAll K H' us ((grpF (ws.take i)).map tS), ⟨p, us, _, _, rfl, hp, Ex.refl _, e4 _ _ h3, Dpax a3 e4⟩, fun i σ' H' w => by obtain ⟨_, _, _, _, _, _, x, _⟩ := w; exact x, fun i w σ' H' hw W => ?_, fun σ' H' W => ?_⟩)
    · obtain ⟨pg, us, y2, y3, rfl, hf, x, hg, ag⟩ := W
      have sz := grp_sz l12 i
      refine s_asgN (K := K) (ds := (grpF (ws.take (i + 1))).map tS) (en_is (en_cat (ep_var rfl hg ag) (en_mapL (K := K) (plusD w) (ed_var (i := 1) rfl (dp_lst hg ag)) (by rw [List.length_map]; omega) (fun d hd => ?_) (fun _ => rfl) (fun x9 d H5 e5 hd hx => ?_)).ep ?_) (by rw [plusD_map, grp_take hw, List.map_append])) (fun p5 us5 H5 hp5 e5 h5 a5 => ⟨p5, us5, _, _, rfl, fresh_back ((e3.trans e4).trans x) hp5, x.trans e5, h5, a5⟩)
      · obtain ⟨g, _, rfl⟩ := List.mem_map.mp hd
        show noLs (g.map PyData.str ++ [.str w]) = true
        rw [noLs_app]
        have := noL_strs g
        rw [show noLs (g.map PyData.str) = true from this]; rfl
      · obtain ⟨g, hg9, rfl⟩ := List.mem_map.mp hd
        have lg := grp_el hg9
        have l2 : (ws.take i).length ≤ 12 := Nat.le_trans (by rw [List.length_take]; exact Nat.min_le_right _ _) l12
        exact ed_op (ed_var (i := 3) rfl hx) (ed_tup (eds_cons (ed_var (i := 2) rfl (.str w)) eds_nil) (by simp)) (rd_catA (by rw [List.length_map]; simp; omega))
      · rw [List.length_map, List.length_map, List.length_map]; omega
    obtain ⟨pg, us, y2, y3, rfl, hf, x, hg, ag⟩ := W
    rw [List.take_length] at ag
    exact ⟨_, rfl, q pg us _ hf ((e3.trans e4).trans x) hg ag⟩
end
end Ow

namespace Ow
open PySem PySem.Spec PyProof.Rows L2 Evl
local macro_rules | `(tactic| walk_at "as") => `(tactic| first
  | assumption
  | exact Dp.int _ | exact Dp.str _ | exact Dp.bl _ | exact Dp.non
  | exact Dpx (by assumption) (by assumption)
  | exact Dpx (by assumption) (Ex.trans (by assumption) (by assumption)))
local macro_rules | `(tactic| walk_at "ev") => `(tactic| first
  | ((with_reducible show EvD _ (L2.tVar _) _ _ _); exact ed_var rfl (by walk_at "as"))
  | ((with_reducible show EvD _ (L2.tC _) _ _ _); first | exact ed_int | exact ed_str | exact ed_bl | exact ed_non | exact ed_c (by walk_at "as"))
  | ((with_reducible show EvD _ (L2.tCB (rIsi _) _) _ _ _); exact ed_isi (by walk_at "ev"))
  | ((with_reducible show EvD _ (L2.tCB (rIsiT _) _) _ _ _); exact ed_isi2 (by walk_at "ev"))
  | ((with_reducible show EvD _ (L2.tCB _ _) _ _ _); exact ed_cb (by walk_at "es") (by walk_at "rc"))
  | ((with_reducible show EvD _ (L2.tOp _ _ _) _ _ _); exact ed_op (by walk_at "ev") (by walk_at "ev") (by walk_at "rd"))
  | ((with_reducible show EvD _ (L2.tAndV _ _) _ _ _); exact ed_and (by walk_at "ev") (fun _ => by walk_at "ev"))
  | ((with_reducible show EvD _ (L2.tOrV _ _) _ _ _); exact ed_or (by walk_at "ev") (fun _ => by walk_at "ev"))
  | ((with_reducible show EvD _ (L2.tNotV _) _ _ _); exact ed_not (by walk_at "ev"))
  | ((with_reducible show EvD _ (L2.tIf _ _ _) _ _ _); exact ed_if (by walk_at "et") (fun _ => by walk_at "ev") (fun _ => by walk_at "ev"))
  | ((with_reducible show EvD _ (L2.tTup _) _ _ _); exact ed_tup (by walk_at "es") (by simp))
  | ((with_reducible show EvD _ (L2.tChain _ _ _ _ _) _ _ _); exact ed_chain (by walk_at "ev") (by walk_at "ev") (by walk_at "rd") (fun _ => by walk_at "ev") (by walk_at "rd"))
  | ((with_reducible show EvD _ (L2.tCall _ _ _ _) _ _ _); exact ed_call (by walk_at "es") (by walk_at "sp")))
local macro_rules | `(tactic| walk_at "es") => `(tactic| first
  | ((with_reducible show EvDs _ L2.tNil _ _ _); exact eds_nil)
  | exact eds_cons (by walk_at "ev") (by walk_at "es"))
local macro_rules | `(tactic| walk_at "rd") => `(tactic| first
  | ((with_reducible show RD _ rEq _ _ _ _); first | exact rd_eqS | exact rd_eqI)
  | ((with_reducible show RD _ rNe _ _ _ _); first | exact rd_neS | exact rd_neI)
  | ((with_reducible show RD _ (rIxT _) _ _ _ _); exact rd_ixT (by first | exact atD_0 | exact atD_1 | exact atD_2 | rfl | assumption))
  | ((with_reducible show RD _ (rIxL _) _ _ _ _); exact rd_ixL (by first | exact atD_0 | exact atD_1 | exact atD_2 | rfl | assumption))
  | ((with_reducible show RD _ (rEqD _) _ _ _ _); exact rd_eqD (by first | rfl | assumption) (by first | rfl | assumption))
  | ((with_reducible show RD _ (rNeD _) _ _ _ _); exact rd_neD (by first | rfl | assumption) (by first | rfl | assumption))
  | ((with_reducible show RD _ (rIn _ _) _ _ _ _); first | exact rd_inS | exact rd_niS | exact rd_inSL | exact rd_niSL)
  | ((with_reducible show RD _ (rCatA _) _ _ _ _); exact rd_catA (by first | (simp; done) | (simp; omega) | omega))
  | ((with_reducible show RD _ (rI _ _) _ _ _ _); exact rd_intC (by first | assumption | (show (0 : Int) < _; decide)))
  | exact rd_cmp | exact rd_int | exact rd_isN | exact rd_notN)
local macro_rules | `(tactic| walk_at "rc") => `(tactic| first
  | exact rc_lenT | exact rc_lenL | exact rc_all | exact rc_any | exact rc_tupL | exact rc_lenS (by assumption) | exact rc_int1 | exact rc_intB)
local macro_rules | `(tactic| walk_at "et") => `(tactic| first
  | ((with_reducible show EvT (L2.tB _) _ _ _); exact et_edBK (by assumption) (by walk_at "ev"))
  | ((with_reducible show EvT (L2.tTest _) _ _ _); exact et_edK (by assumption) (by walk_at "ev"))
  | ((with_reducible show EvT (L2.tNot _) _ _ _); exact et_not (by walk_at "et"))
  | ((with_reducible show EvT (L2.tAnd _ _) _ _ _); exact et_and (by walk_at "et") (fun _ => by walk_at "et"))
  | ((with_reducible show EvT (L2.tOr _ _) _ _ _); exact et_or (by walk_at "et") (fun _ => by walk_at "et")))
local macro_rules | `(tactic| walk_at "sp") => `(tactic| first
  | exact ⟨_, rfl, rfl⟩ | exact ⟨_, _, rfl, rfl⟩ | exact ⟨_, _, _, rfl, rfl⟩ | exact ⟨_, _, _, _, rfl, rfl⟩
  | exact ⟨_, rfl, by assumption, rfl⟩ | exact ⟨_, rfl, by assumption, by assumption, rfl⟩ | exact ⟨_, _, rfl, by assumption, rfl⟩ | exact ⟨_, _, _, rfl, by assumption, rfl⟩)
local macro_rules | `(tactic| walk_at "shb") => `(tactic| first
  | exact ShB.nil
  | (refine ShB.pl ⟨by decide, by decide, by decide⟩ (by first | (intro h; exact absurd h (by decide)) | (intro _; refine ⟨?_, ?_⟩ <;> (dsimp only [wordOf]; decide +kernel))) ?_; walk_at "shb")
  | (refine ShB.block (by decide) (by decide) ?_ ?_ <;> walk_at "shb")
  | (refine ShB.hands rfl (by decide) (by decide) ?_ ?_ ?_ <;> walk_at "shb"))

section
variable {P : Program} {w : World} {K : PySem.W.Frag} {mg : Str → Option Value} {base : Heap}

theorem ok_tS {l : List Str} (h : ∀ w ∈ l, w ∈ WORDS) (n : Nat) : Al (n + 2) (tS l) ∨ 40000 < l.length := by
  by_cases z : l.length ≤ 40000
  · refine .inl ⟨by rw [List.length_map]; exact z, fun d hd => ?_⟩
    obtain ⟨w, hw, rfl⟩ := List.mem_map.mp hd
    exact words_ok (h w hw)
  · exact .inr (by omega)
theorem al_tS {l : List Str} (h : DesOk l) (n : Nat) : Al (n + 2) (tS l) := (ok_tS h.2.1 n).resolve_right (by have := h.len; omega)
theorem al_sorted {G : List (List Str)} (h : ∀ g ∈ G, DesOk g) (hl : G.length ≤ 40000) : Al 10 (.tuple (sortD (G.map tS))) := by
  refine ⟨by rw [(sortD_perm _).length_eq, List.length_map]; exact hl, fun d hd => ?_⟩
  obtain ⟨g, hg, rfl⟩ := List.mem_map.mp ((sortD_perm _).mem_iff.mp hd)
  exact al_tS (h g hg) 7
theorem due_des {small g : List Str} (hs : DesOk small) (h : g ∈ dueW small) : DesOk g := ((due_mem hs).mp h).1
theorem due_len {small : List Str} (hs : DesOk small) : (dueW small).length ≤ 4096 := few_desok (due_nd hs) fun g hg => due_des hs hg
/-- tuple(sorted(t)), words -/
theorem ed_canon {σ : L2.St} {H : Hp} {te : TE} {l : List Str} (h : EvD K te σ H (tS l)) (hn : l.Nodup) (hw : ∀ w ∈ l, w ∈ WORDS) : EvD K (tCB (fun xs H Q => ∃ p ys, xs = [V.ref p] ∧ ((SqL K H p ys ∧ ∀ (l : Addr), H l = none → Q (V.ref l) (upd H l (HO.tup ys))) ∨ SqT K H p ys ∧ Q (V.ref p) H)) (tCons (tCB (rSortDTup K) (tCons te tNil)) tNil)) σ H (tS (canon l)) := fun H1 e Q q =>
  h H1 e _ fun u H2 e2 hu => by
    obtain ⟨p, xs, rfl, s1, s2⟩ := dp_tup_inv hu
    refine ⟨p, xs, _, rfl, s1, s2, alike_strs _, sortable_strs _, fun d hd => ?_, fun ys p2 hp hy hn2 => ⟨p2, ys, rfl, .inl ⟨sq_of upd_same, fun b hb => ?_⟩⟩⟩
    · obtain ⟨x, _, rfl⟩ := List.mem_map.mp hd
      rw [PyData.depth]; omega
    rw [sortD_words hn hw] at hy
    exact q (.ref b) _ ((e2.trans (Ex.new hn2)).trans (Ex.new hb)) (dp_tup upd_same (Dpax (Dpax hy (Ex.new hn2)) (Ex.new hb)))
/-- one branch, then on: both meet at W -/
theorem q_ifJ {σ : L2.St} {H : Hp} {t : TT} {b : Bool} {tu tz : TS} {Dn : Ends} {W : L2.St → Hp → Prop} (ht : EvT t σ H b) (k1 : b = true → ∀ (Z : L2.St → Hp → Prop), (∀ σ' H', W σ' H' → Z σ' H') → ∀ H1, Ex H H1 → tu { Dn with nx := Z } σ H1) (k2 : b = false → ∀ H1, Ex H H1 → W σ H1)
    (kk : ∀ σ' H', W σ' H' → tz Dn σ' H') : tSeq (tIfS t tu tNext) tz Dn σ H := ht H (Ex.refl H) _ fun H1 e => by
  cases b with
  | true => exact iteT (k1 rfl _ kk H1 e)
  | false => exact iteF (kk _ _ (k2 rfl H1 e))
theorem q_ifX {σ : L2.St} {H : Hp} {t : TT} {tu tz : TS} {Dn : Ends} {W : Hp → Prop} (k : ∀ Q : Bool → Hp → Prop, (∀ H', W H' → Q false H') → t σ H Q) (kk : ∀ H', W H' → tz Dn σ H') : tSeq (tIfS t tu tNext) tz Dn σ H := k _ fun H' w => iteF (kk H' w)
theorem ed_gs {σ : L2.St} {H : Hp} {CN : Addr} {v : V} {te : TE} {ws : List Str} {G : List (List Str)} (h : ∀ H1, Ex H H1 → ∀ Q : VK, (∀ v H2, Ex H1 H2 → TupS H2 v ws → Q v H2) → te σ H1 Q) (hd : DesOk ws) (hs : Sound ws) (hg : G.Nodup) (hG : ∀ g, g ∈ G ↔ Great ws g) : EvD K (tCall (sp_greatest_sound K CN) [] E0 (tCons te tNil)) σ H (.tuple (sortD (G.map tS))) := fun H1 e Q q =>
  h H1 e _ fun v H2 e2 ht => ⟨v, ws, rfl, tupS_D ht, hd, fun _ => ht, fun _ u H3 ks e3 hn hk hu => q u H3 (e2.trans e3) (by
    rw [← sortD_eq ((perm_of hn hg fun g => by rw [hk, hG]).map tS) (alike_tS ks)]
    exact hu), fun z => absurd hs z⟩
def optG : Option (List Str) → D
  | none => .none
  | some g => tS g
theorem isN_opt : ∀ o : Option (List Str), isN (optG o) = o.isNone
  | none => rfl
  | some _ => rfl
theorem find_take {α : Type} {p : α → Bool} {l : List α} {i : Nat} {a : α} (h : l[i]? = some a) : (l.take (i + 1)).find? p = ((l.take i).find? p).or (if p a then some a else none) := by
  rw [List.take_add_one, h, List.find?_append]
  congr 1
  show List.find? p [a] = _
  rw [List.find?_cons]
  cases p a <;> rfl
theorem sc_nm : FnScope ["_law_work", "e"] ["_law_work"] (defScope st__law_not_made) := ⟨rfl, rfl, rfl, by decide +kernel, rfl, by decide +kernel, by decide +kernel⟩
theorem topB (small g : List Str) : topG small g = decide ((restW small).filter (fun w => !decide (w ∈ g) && decide (Sound (small ++ g ++ [w]))) = []) := by
  unfold topG
  generalize (restW small).filter (fun w => !decide (w ∈ g) && decide (Sound (small ++ g ++ [w]))) = l
  cases l <;> rfl
theorem Al_none : Al 10 .none := True.intro

def sp_law (K : PySem.W.Frag) (P_t : Addr) : Sp := fun vs H Q _ => ∃ (a : Addr) (ns : List Int), vs = [.ref a] ∧ SqL K H a (ns.map V.int) ∧ ns.length ≤ 63 ∧ LamX.Tabs [(P_t, (("law" : Str) ++ ".<locals>.") ++ "<lambda>")] H ∧ ∀ H', Q (.bl true) H'
abbrev nm_law : List Str := ["_law_script", "_law_row", "_law_design_here", "_law_other", "_law_small", "_law_rest", "_law_sound", "_law_due", "_law_group", "_law_best", "_law_size", "_law_word"]
theorem sc_law : FnScope nm_law ["_law_script"] (defScope st_law) := ⟨rfl, rfl, rfl, by decide +kernel, rfl, by decide +kernel, by decide +kernel⟩
theorem ok_law {P_t : Addr} {c_code C_OwnError : Addr} {f : Addr} {fd : FuncData} (FD : FunD K "law" "law" (defArgs st_law) (defBody st_law) (defScope st_law) [] [] f fd) (c__law_design : Cal P w K mg base CX0 3 "_law_design" ["_law_row"] (sp__law_design K)) (c__law_taken : Cal P w K mg base CX0 1 "_law_taken" ["_law_row", "_law_many"] (sp__law_taken K)) (c__law_lots_in : Cal P w K mg base CX0 2 "_law_lots_in" ["_law_design_here"] (sp__law_lots_in K)) (c__law_words : Cal P w K mg base CX0 1 "_law_words" [] (sp__law_words K)) (c__law_groups : Cal P w K mg base CX0 1 "_law_groups" ["_law_words_here"] (sp__law_groups K)) (c__law_alike : Cal P w K mg base CX0 (11) "_law_alike" ["_law_found", "_law_due"] (sp__law_alike 10 K)) (c_greatest_sound : Cal P w K mg base (L2.CX P w) 4 "greatest_sound" ["design"] (sp_greatest_sound K C_NotMade)) (c_is_sound : Cal P w K mg base CX0 3 "is_sound" ["design"] (sp_is_sound K)) (c_fewest_drops : Cal P w K mg base CX0 3 "fewest_drops" ["design"] (sp_fewest_drops K)) (m_tuple : mg "tuple" = none) (m_sorted : mg "sorted" = none) (m_len : mg "len" = none) (hcd : fd.code = .ref c_code) (TB : LamX.TabB base mg c_code P_t) (F_nm : Def K mg "_law_not_made" st__law_not_made) (m_OwnError : mg "OwnError" = some (.ref C_OwnError)) (X_NotMade : ExcK K mg "NotMade" C_NotMade) (EN : ExcC K C_NotMade) (hex : PySem.W.exmOne K (.ref C_NotMade) (.ref C_OwnError) = some true) (hkit : PySem.W.kitOne K (.ref C_NotMade) (.ref C_NotMade) = some true) (m_isinstance : mg "isinstance" = none) : FnOk P w K mg base CX0 13 f fd ["_law_script"] (sp_law K P_t) := by
  refine FunD.okC FD hcd sc_law (fun vs H Q E h => ?_) (fun A outer s H vs Q E hr h => ?_)
  · obtain ⟨a, ns, rfl, _⟩ := h; rfl
  · refine ⟨_, PSs.nox (pss_cons (ps_set (i := 1) sc_law.nd rfl (Or.inr rfl) (pe_lst (pa_cons (pv 0) (pa_cons pe_int (pa_cons pe_int (pa_cons pe_int pa_nil)))))) (pss_cons (ps_asg (pe_tup (pa_cons (pe_cal c__law_design (hr.mono (by decide)) (by rfl) pass0 (pa_cons (pv 1) pa_nil)) (pa_cons (pe_cal c__law_design (hr.mono (by decide)) (by rfl) pass0 (pa_cons (pv 1) pa_nil)) pa_nil))) (pg_tup (by rfl) (pgs_cons (pg_name (i := 2) sc_law.nd rfl (Or.inl rfl)) (pgs_cons (pg_name (i := 3) sc_law.nd rfl (Or.inr rfl)) pgs_nil)))) (pss_cons (ps_set (i := 4) sc_law.nd rfl (Or.inr rfl) (pe_callTy (call_tupleK K rfl) (by rfl) m_tuple (by decide +kernel) (pa_cons (pe_lc (own := [("_law_word", 11)]) (tt := _) rfl sc_law.nd (pi_tupK K rfl (pv 2)) (blkOk_by (by first | (show blkC nm_law (defScope st_law) _ _ = true; decide +kernel) | rfl)) (fun _ _ _ _ _ => (pg_name (i := 11) sc_law.nd rfl (Or.inl rfl))) (fun _ _ _ _ _ => pts_one (pt_cmpR op_eq (pe_cal c__law_taken (hr.mono (by decide)) (by rfl) pass0 (pa_cons (pv 1) (pa_cons pe_int pa_nil))) pe_int (nomark _))) (fun _ _ _ _ _ => (pv 11))) pa_nil))) (pss_cons (ps_if (pt_cmpR (op_eqDK K rfl hr.units) (pe_cal c__law_lots_in (hr.mono (by decide)) (by rfl) pass0 (pa_cons (pv 4) pa_nil)) (pe_lst pa_nil) (nomark _)) (pss_cons (ps_setLc (i := 5) (own := [("_law_word", 11)]) (tt := _) rfl sc_law.nd rfl rfl (sw_true rfl rfl rfl (by decide +kernel)) (pi_listK K rfl (pe_cal0 c__law_words (hr.mono (by decide)) (by rfl) pass0)) (blkOk_by (by first | (show blkC nm_law (defScope st_law) _ _ = true; decide +kernel) | rfl)) (fun _ _ _ _ _ => (pg_name (i := 11) sc_law.nd rfl (Or.inl rfl))) (fun _ _ _ _ _ => pts_one (pt_cmpR (op_niK K rfl) (pv 11) (pv 4) (by rfl))) (fun _ _ _ _ _ => (pv 11))) (pss_cons (ps_setLc (i := 6) (own := [("_law_group", 8)]) (tt := _) rfl sc_law.nd rfl rfl (sw_true rfl rfl rfl (by decide +kernel)) (pi_listK K rfl (pe_cal c__law_groups (hr.mono (by decide)) (by rfl) pass0 (pa_cons (pv 5) pa_nil))) (blkOk_by (by first | (show blkC nm_law (defScope st_law) _ _ = true; decide +kernel) | rfl)) (fun _ _ _ _ _ => (pg_name (i := 8) sc_law.nd rfl (Or.inl rfl))) (fun _ _ _ _ _ => pts_one (pt_cmpR (op_eqDK K rfl hr.units) (pe_cal c__law_lots_in (hr.mono (by decide)) (by rfl) pass0 (pa_cons (pe_op (op_catAK K rfl) (pv 4) (pv 8)) pa_nil)) (pe_lst pa_nil) (nomark _))) (fun _ _ _ _ _ => (pv 8))) (pss_cons (ps_set (i := 7) sc_law.nd rfl (Or.inl rfl) (pe_lst pa_nil)) (pss_cons (ps_for PassesOwn.never rfl (pi_listK K rfl (pv 6)) (pg_name (i := 8) sc_law.nd rfl (Or.inr rfl)) (pss_one (ps_if (pt_cmpR (op_eqDK K rfl hr.units) (pe_lc (own := [("_law_word", 11)]) (tt := _) rfl sc_law.nd (pi_listK K rfl (pv 5)) (blkOk_by (by first | (show blkC nm_law (defScope st_law) _ _ = true; decide +kernel) | rfl)) (fun _ _ _ _ _ => (pg_name (i := 11) sc_law.nd rfl (Or.inl rfl))) (fun _ _ _ _ _ => pts_one (PW.pt (pw_and (pt_cmpR (op_niK K rfl) (pv 11) (pv 8) (by rfl)) (pw_and1 (pt_cmpR (op_eqDK K rfl hr.units) (pe_cal c__law_lots_in (hr.mono (by decide)) (by rfl) pass0 (pa_cons (pe_op (op_catAK K rfl) (pe_op (op_catAK K rfl) (pv 4) (pv 8)) (pe_tup (pa_cons (pv 11) pa_nil))) pa_nil)) (pe_lst pa_nil) (nomark _)))))) (fun _ _ _ _ _ => (pv 11))) (pe_lst pa_nil) (nomark _)) (pss_one (ps_expr (pe_bm PySem.F.plainAttrs_list PySem.F.slot_list_append PySem.F.type_list_append mt_append (pv 7) (pa_cons (pe_callTy (call_tupleK K rfl) (by rfl) m_tuple (by decide +kernel) (pa_cons (pe_callB (cr_sortedDTupK K rfl hr.units) (by rfl) m_sorted (by decide +kernel) (pa_cons (pe_op (op_catAK K rfl) (pv 4) (pv 8)) pa_nil)) pa_nil)) pa_nil)))) pss_nil))) (pss_one (ps_if (pt_not (pt_val (pe_cal c__law_alike (hr.mono (by decide)) (by rfl) pass0 (pa_cons (pe_cal c_greatest_sound (hr.mono (by decide)) (by rfl) passX0 (pa_cons (pv 4) pa_nil)) (pa_cons (pe_callTy (call_tupleK K rfl) (by rfl) m_tuple (by decide +kernel) (pa_cons (pe_callB (cr_sortedDK K rfl hr.units) (by rfl) m_sorted (by decide +kernel) (pa_cons (pv 7) pa_nil)) pa_nil)) pa_nil))))) (pss_one (ps_ret pe_bl)) pss_nil)))))) pss_nil) (pss_cons (ps_if (PW.pt (pw_or (pt_cmpR op_ne (pe_cal c_is_sound (hr.mono (by decide)) (by rfl) pass0 (pa_cons (pv 3) pa_nil)) (pe_cmpR (op_eqDK K rfl hr.units) (pe_cal c__law_lots_in (hr.mono (by decide)) (by rfl) pass0 (pa_cons (pv 3) pa_nil)) (pe_lst pa_nil) (nomark _)) (nomark _)) (pw_or1 (PW.pt (pw_and (pt_not (pt_val (pe_cal c_is_sound (hr.mono (by decide)) (by rfl) pass0 (pa_cons (pv 3) pa_nil)))) (pw_and1 (pt_not (pt_val (pe_lamF (T := [(P_t, (("law" : Str) ++ ".<locals>.") ++ "<lambda>")]) (TT := TNot K C_OwnError C_NotMade) (a := "_law_work") (Ng := ["_law_work", "e"]) (c := c_code) (P := P_t) (k := 4) (ql := ("law" : Str) ++ ".<locals>.") rfl F_nm (by rfl) (fun _ _ _ _ _ _ us hl => match us, hl with | [_], _ => rfl) sc_nm rfl (.inl rfl) (fun g cdg => not_gives (by rfl) m_OwnError (by decide) (by rfl) X_NotMade.g (by decide) (by rfl) m_isinstance (by rfl) (by rfl) (by decide +kernel)) TB rfl List.mem_cons_self (fun p hp _ => by rw [List.mem_singleton.mp hp]) (hr.mono (by decide)) (LamX.lamS_by (by show LamX.lamSB (defScope st_law) _ = true; decide +kernel)) rfl (fun _ _ _ _ _ => rfl) (fun A2 outer2 s2 H2 E2 f2 c2 hr2 => (pe_cal c_greatest_sound (hr2.mono (by decide)) (by rfl) passLam (pa_cons ((pe_var (i := 3) rfl (.inr (.inr rfl)))) pa_nil)))))))))))) (pss_one (ps_ret pe_bl)) pss_nil) (pss_cons (ps_set (i := 9) sc_law.nd rfl (Or.inl rfl) pe_non) (pss_cons (ps_for PassesOwn.never rfl (pi_listK K rfl (pe_callB (cr_sortedDK K rfl hr.units) (by rfl) m_sorted (by decide +kernel) (pa_cons (pe_lc (own := [("_law_group", 8)]) (tt := tYes) rfl sc_law.nd (pi_listK K rfl (pe_cal c__law_groups (hr.mono (by decide)) (by rfl) pass0 (pa_cons (pv 3) pa_nil))) (blkOk_by (by first | (show blkC nm_law (defScope st_law) _ _ = true; decide +kernel) | rfl)) (fun _ _ _ _ _ => (pg_name (i := 8) sc_law.nd rfl (Or.inl rfl))) (fun _ _ _ _ _ => pts_nil) (fun _ _ _ _ _ => (pe_tup (pa_cons (pe_callB (call_lenK K rfl) (by rfl) m_len (by decide +kernel) (pa_cons (pv 8) pa_nil)) (pa_cons (pv 8) pa_nil))))) pa_nil))) (pg_tup (by rfl) (pgs_cons (pg_name (i := 10) sc_law.nd rfl (Or.inl rfl)) (pgs_cons (pg_name (i := 8) sc_law.nd rfl (Or.inr rfl)) pgs_nil))) (pss_one (ps_if (PW.pt (pw_and (pt_cmpR op_isN (pv 9) pe_non (nomark _)) (pw_and1 (pt_cmpR (op_eqDK K rfl hr.units) (pe_cal c__law_lots_in (hr.mono (by decide)) (by rfl) pass0 (pa_cons (pe_lc (own := [("_law_word", 11)]) (tt := _) rfl sc_law.nd (pi_tupK K rfl (pv 3)) (blkOk_by (by first | (show blkC nm_law (defScope st_law) _ _ = true; decide +kernel) | rfl)) (fun _ _ _ _ _ => (pg_name (i := 11) sc_law.nd rfl (Or.inl rfl))) (fun _ _ _ _ _ => pts_one (pt_cmpR (op_niK K rfl) (pv 11) (pv 8) (by rfl))) (fun _ _ _ _ _ => (pv 11))) pa_nil)) (pe_lst pa_nil) (nomark _))))) (pss_one (ps_set (i := 9) sc_law.nd rfl (Or.inl rfl) (pv 8))) pss_nil))) (pss_one (ps_ret (pe_and (pe_cal c__law_alike (hr.mono (by decide)) (by rfl) pass0 (pa_cons (pe_cal c_fewest_drops (hr.mono (by decide)) (by rfl) pass0 (pa_cons (pv 3) pa_nil)) (pa_cons (pv 9) pa_nil))) (pe_one (pe_or (pe_cmpR op_gt (pe_callB (call_lenK K rfl) (by rfl) m_len (by decide +kernel) (pa_cons (pv 4) pa_nil)) pe_int (nomark _)) (pe_one (pe_cmpR op_eq (pe_callB (call_lenK K rfl) (by rfl) m_len (by decide +kernel) (pa_cons (pe_cal c_greatest_sound (hr.mono (by decide)) (by rfl) passX0 (pa_cons (pe_tup pa_nil) pa_nil)) pa_nil)) pe_int (nomark _))))))))))))))), ?_⟩
    have kis : KIs K := ⟨⟩
    obtain ⟨a, ns, rfl, hs, hl, tb, q⟩ := h
    refine ⟨_, rfl, by show 4 ≤ sizeLine; decide, fun r hr => ?_⟩
    have x1 := Ex.new (o := .lst [.ref a, .int 0, .int 14296, .int 0]) hr
    have R1 : RowAt K a ns (upd H r (.lst [.ref a, .int 0, .int 14296, .int 0])) r := RowAt.new hs hr ⟨by decide, by decide, by decide, by decide⟩ hl
    have T1 := tb.ext (fun b o h => x1 b o h)
    refine ⟨_, rfl, r, a, ns, rfl, R1, fun ws1 v1 H2 d1 hv1 R2 b2 => ⟨_, rfl, r, a, ns, rfl, R2, fun ws2 v2 H3 d2 hv2 R3 b3 => ⟨by show 2 ≤ sizeLine; decide, fun p0 hp0 => ⟨p0, _, rfl, st_of upd_same, rfl, _, _, rfl, _, _, rfl, rfl, ?_⟩⟩⟩⟩
    have e3 := Ex.new (o := .tup [v1, v2]) hp0
    have hv1c : Dp K (upd H3 p0 (.tup [v1, v2])) v1 (tS ws1) := Dpx (Dpt hv1 (noL_strs ws1) (b3.tex R2.dpx)) e3
    have hv2c := Dpx hv2 e3
    have R4 := R3.ex e3
    have T4 : LamX.Tabs [(P_t, (("law" : Str) ++ ".<locals>.") ++ "<lambda>")] (upd H3 p0 (.tup [v1, v2])) := (R1.tabs T1 (ExB.trans b2 b3)).ext (fun b o h => e3 b o h)
    dsimp only
    revert hv1c hv2c R4 T4
    generalize upd H3 p0 (.tup [v1, v2]) = H4
    intro hv1c hv2c R4 T4
    have l1 := d1.len
    have l2 := d2.len
    -- small = tuple([..])
    obtain ⟨pd, us, rfl, hpd, hus⟩ := dp_tup_inv hv1c
    have eus := dpa_strs_inv hus
    subst eus
    refine ⟨_, rfl, pd, rfl, ⟨_, hpd⟩, fun Dl hD => lc_tup (K := K) (a := pd) (xs := ws1.map V.str) (fun i H' => RowAt K a ns H' r ∧ ExB [r] H4 H' ∧ ∃ l : List Str, l.Sublist (ws1.take i) ∧ H' Dl = some (.lst (l.map V.str))) ⟨R4.ex (Ex.new hD), .of (Ex.new hD), [], List.Sublist.refl _, upd_same⟩ (fun i H' _ p => tex_t (p.2.1.tex R4.dpx) hpd) (fun i x H' hi p => ?_) (fun H' p => ?_)⟩
    · obtain ⟨R', b', l, hl9, hDl⟩ := p
      have nDr : Dl ≠ r := R4.nref hD
      rw [List.getElem?_map] at hi
      obtain ⟨w, hw, rfl⟩ := Option.map_eq_some_iff.mp hi
      refine ⟨rfl, t_taken (K := K) R' rfl (ed_int (i := 3)) (by decide) (by decide) (fun bb H5 R5 b5 => ?_)⟩
      have hD5 : H5 Dl = some (.lst (l.map V.str)) := b5 _ _ (by simpa using nDr) hDl
      have e9 : ws1.take (i + 1) = ws1.take i ++ [w] := by rw [List.take_add_one, hw]; rfl
      cases bb with
      | false => exact iteF ⟨R5, ExB.trans b' b5, l, by rw [e9]; exact hl9.trans (List.sublist_append_left _ _), hD5⟩
      | true =>
        refine iteT ⟨_, rfl, l.map V.str, hD5, ?_, R4.keepF hD R5, ?_, l ++ [w], by rw [e9]; exact List.Sublist.append hl9 (List.Sublist.refl _), by rw [List.map_append]; exact upd_same⟩
        · rw [List.length_map]
          have h1 := hl9.length_le
          have h2 : (ws1.take i).length ≤ ws1.length := by rw [List.length_take]; exact Nat.min_le_right _ _
          exact sz_lt (by omega)
        · intro x o hx hh
          have : x ≠ Dl := fun z => by rw [z, hD] at hh; cases hh
          rw [upd_ne this]
          exact (ExB.trans b' b5) x o hx hh
    obtain ⟨R5, b5, sm, hsm, hDl⟩ := p
    rw [List.length_map, List.take_length] at hsm
    have ds : DesOk sm := desok_sub d1 hsm
    have lsm := ds.len
    refine ⟨Dl, sm.map V.str, rfl, .inl ⟨sq_of hDl, fun bs hbs => ?_⟩⟩
    have e6 := Ex.new (o := .tup (sm.map V.str)) hbs
    have hv2d := Dpx (Dpt hv2c (noL_strs ws2) (b5.tex R4.dpx)) e6
    have T6 := (R4.tabs T4 b5).ext (fun b o h => e6 b o h)
    have tsm : TupS (upd H' bs (.tup (sm.map V.str))) (.ref bs) sm := ⟨bs, rfl, upd_same⟩
    dsimp only
    revert hv2d T6 tsm
    generalize upd H' bs (.tup (sm.map V.str)) = H6
    intro hv2d T6 tsm
    have hsD := tupS_D (K := K) tsm
    -- the first question
    refine q_ifJ (b := decide (Sound sm)) (W := fun σ' H' => ∃ y5 y6 y7 y8, σ' = [some (.ref a), some (.ref r), some (.ref pd), some v2, some (.ref bs), y5, y6, y7, y8, none, none, none] ∧ Ex H6 H') (et_edK kis (ed_soundEq (EvN.ed (en_call (eds_cons (ed_var (i := 4) rfl hsD) eds_nil) ⟨_, sm, rfl, .inl rfl, rfl⟩)))) (fun z Z hZ H7 e7 => ?_) (fun z H7 e7 => ⟨_, _, _, _, rfl, e7⟩) (fun σ' H7 W => ?_)
    case refine_1 =>
      have hso := of_decide_eq_true z
      have hsD7 := Dpx hsD e7
      -- rest
      refine q_asgN (K := K) (ds := (restW sm).map PyData.str) (en_is (en_filtL (K := K) (ds := WORDS.map PyData.str) (fun d => (fun w => !decide (w ∈ sm)) (unStr d)) id (EvN.ed (en_call (R := fun ds es => ds = [] ∧ es = WORDS.map PyData.str) eds_nil ⟨rfl, rfl⟩)) (by decide) (fun d hd => ?_) (fun _ => rfl) (fun x d H8 e8 hd hx => ?_) (fun x d H8 e8 hd hx _ => ed_var (i := 11) rfl hx)) (filt_st (fun w => !decide (w ∈ sm)) WORDS)) (fun pr ur H8 hpr e8 h8 a8 => ?_)
      · obtain ⟨w, _, rfl⟩ := List.mem_map.mp hd; rfl
      · obtain ⟨w, _, rfl⟩ := List.mem_map.mp hd
        exact et_edK kis (ed_op (ed_var (i := 11) rfl hx) (ed_var (i := 4) rfl (Dpx hsD7 e8)) rd_niS)
      have rl : (restW sm).length ≤ 12 := List.length_filter_le _ _
      have rW : ∀ w ∈ restW sm, w ∈ WORDS := fun w hw => (rest_mem.mp hw).1
      have lG : (grpF (restW sm)).length ≤ 4096 := by
        have := grp_sz rl (restW sm).length
        rw [List.take_length] at this
        exact this
      have hsD8 := Dpx hsD7 e8
      have hr8 := dp_lst (K := K) h8 a8
      -- sound
      refine q_asgN (K := K) (ds := ((grpF (restW sm)).filter fun g => decide (Sound (sm ++ g))).map tS) (en_is (en_filtL (K := K) (ds := (grpF (restW sm)).map tS) (fun d => (fun g => decide (Sound (sm ++ g))) (unS d)) id (EvN.ed (en_call (eds_cons (ed_var (i := 5) rfl hr8) eds_nil) ⟨_, restW sm, rfl, .inr rfl, rl, rfl⟩)) (by rw [List.length_map]; omega) (fun d hd => noL_tSs _ d hd) (fun _ => rfl) (fun x d H9 e9 hd hx => ?_) (fun x d H9 e9 hd hx _ => ed_var (i := 8) rfl hx)) (filt_tS (fun g => decide (Sound (sm ++ g))) _)) (fun pg ug H9 hpg e9 h9 a9 => ?_)
      · obtain ⟨g, hg, rfl⟩ := List.mem_map.mp hd
        have lg := grp_el hg
        rw [unS_tS]
        exact et_edK kis (ed_soundEq (EvN.ed (en_call (eds_cons (ed_is (ed_op (ed_var (i := 4) rfl (Dpx hsD8 e9)) (ed_var (i := 8) rfl hx) (rd_catA (by rw [List.length_map, List.length_map]; omega))) (by rw [← List.map_append])) eds_nil) ⟨_, sm ++ g, rfl, .inl rfl, rfl⟩)))
      -- due = []
      refine q_asgN (K := K) (ds := []) (en_lst eds_nil (by simp)) (fun pu uu Ha hpu ea hua aua => ?_)
      cases aua
      have hsDa := Dpx (Dpx hsD8 e9) ea
      have hra := Dpx (Dpx hr8 e9) ea
      have hga := dp_lst (K := K) (ea _ _ h9) (Dpax a9 ea)
      have hpa : Ha pg = some (.lst ug) := ea _ _ h9
      have lS : ((grpF (restW sm)).filter fun g => decide (Sound (sm ++ g))).length ≤ 4096 := Nat.le_trans (List.length_filter_le _ _) lG
      have lug : ug.length = ((grpF (restW sm)).filter fun g => decide (Sound (sm ++ g))).length := by
        have := dpa_len a9
        rw [List.length_map] at this
        exact this
      have tsa : TupS Ha (.ref bs) sm := tupS_stb _ _ _ _ (ts0_of (((e7.trans e8).trans e9).trans ea)) tsm
      refine ⟨_, rfl, pg, rfl, ⟨_, sq_of hpa⟩, for_list (K := K) (a := pg) (xs := ug) (fun i σ' H' => ∃ u8 us, σ' = [some (.ref a), some (.ref r), some (.ref pd), some v2, some (.ref bs), some (.ref pr), some (.ref pg), some (.ref pu), u8, none, none, none] ∧ Ex H9 H' ∧ H' pu = some (.lst us) ∧ DpAll K H' us (((((grpF (restW sm)).filter fun g => decide (Sound (sm ++ g))).take i).filter (topG sm)).map fun g => tS (canon (sm ++ g)))) ⟨_, [], rfl, ea, hua, .nil⟩ (fun i σ' H' _ p => ?_) (fun i x σ' H' hi p => ?_) (fun σ' H' p => ?_)⟩
      · obtain ⟨_, _, _, e, _⟩ := p
        exact sq_of (e _ _ h9)
      · obtain ⟨u8, us9, rfl, eb, hub, aub⟩ := p
        obtain ⟨d, g1, g2⟩ := dpa_getv a9 hi
        rw [List.getElem?_map] at g1
        obtain ⟨g, hg, rfl⟩ := Option.map_eq_some_iff.mp g1
        have hgm := List.mem_filter.mp (List.mem_of_getElem? hg)
        have lg := grp_el hgm.1
        have gW : ∀ w ∈ g, w ∈ WORDS := fun w hw => rW w ((grp_mem.mp hgm.1).subset hw)
        have hxg := Dpx g2 eb
        have hsDb := Dpx (Dpx hsD8 e9) eb
        have hrb := Dpx (Dpx hr8 e9) eb
        have us_len : us9.length ≤ 4096 := by
          have := dpa_len aub
          rw [List.length_map] at this
          rw [this]
          refine Nat.le_trans (List.length_filter_le _ _) (Nat.le_trans ?_ lS)
          rw [List.length_take]; exact Nat.min_le_right _ _
        refine s_if (b := topG sm g) (et_is (et_edK kis (ed_is (ed_op (EvN.ed (en_is (en_filtL (K := K) (fun d => (fun w => !decide (w ∈ g) && decide (Sound (sm ++ g ++ [w]))) (unStr d)) id (ed_var (i := 5) rfl hrb) (by rw [List.length_map]; omega) (fun d hd => ?_) (fun _ => rfl) (fun x2 d Hc ec hd hx2 => ?_) (fun x2 d Hc ec hd hx2 _ => ed_var (i := 11) rfl hx2)) (filt_st (fun w => !decide (w ∈ g) && decide (Sound (sm ++ g ++ [w]))) (restW sm)))) (ed_lst eds_nil (by simp)) (rd_eqD (shaped_strs fun w hw => rW w (List.mem_filter.mp hw).1) rfl)) (by rw [eqv_strs]))) (topB sm g).symm) (fun z Hc ec => ?_) (fun z Hc ec => ?_)
        · obtain ⟨w, _, rfl⟩ := List.mem_map.mp hd; rfl
        · obtain ⟨w, _, rfl⟩ := List.mem_map.mp hd
          refine et_and (et_edK kis (ed_op (ed_var (i := 11) rfl hx2) (ed_var (i := 8) rfl (Dpx hxg ec)) rd_niS)) (fun _ => et_edK kis (ed_soundEq (EvN.ed (en_call (eds_cons (ed_is (ed_op (ed_op (ed_var (i := 4) rfl (Dpx hsDb ec)) (ed_var (i := 8) rfl (Dpx hxg ec)) (rd_catA (by rw [List.length_map, List.length_map]; omega))) (ed_tup (eds_cons (ed_var (i := 11) rfl hx2) eds_nil) (by simp)) (rd_catA (by rw [List.length_append, List.length_map, List.length_map]; simp; omega))) (by rw [← List.map_append]; show PyData.tuple (_ ++ List.map PyData.str [w]) = _; rw [← List.map_append])) eds_nil) ⟨_, sm ++ g ++ [w], rfl, .inl rfl, rfl⟩))))
        · have nd : (sm ++ g).Nodup := List.nodup_append.mpr ⟨ds.1, List.Pairwise.sublist (grp_mem.mp hgm.1) (List.Pairwise.sublist List.filter_sublist words_nodup), fun x hx y hy e => (rest_mem.mp ((grp_mem.mp hgm.1).subset hy)).2 (by rw [← e]; exact hx)⟩
          have sW : ∀ w ∈ sm ++ g, w ∈ WORDS := fun w hw => (List.mem_append.mp hw).elim (ds.2.1 w) (gW w)
          refine s_appD (K := K) (d := tS (canon (sm ++ g))) rfl (ec _ _ hub) (by omega) (ed_canon (ed_is (ed_op (ed_var (i := 4) rfl (Dpx hsDb ec)) (ed_var (i := 8) rfl (Dpx hxg ec)) (rd_catA (by rw [List.length_map, List.length_map]; omega))) (by rw [← List.map_append])) nd sW) (fun w9 Hd ed hw9 => ?_)
          have hud := ed _ _ (ec _ _ hub)
          have pf9 : H9 pu = none := hpu
          refine ⟨_, _, rfl, ex_chain ((eb.trans ec).trans ed) (ExB.upd List.mem_cons_self) (fun z hz => by rw [List.mem_singleton.mp hz]; exact pf9), upd_same, ?_⟩
          rw [List.take_add_one, hg, List.filter_append, List.map_append]
          have e1 : (([g] : List (List Str)).filter (topG sm)).map (fun g => tS (canon (sm ++ g))) = [tS (canon (sm ++ g))] := by rw [List.filter_cons, z]; rfl
          show DpAll K _ _ (_ ++ ((Option.toList (some g)).filter (topG sm)).map _)
          rw [show (Option.toList (some g)) = [g] from rfl, e1]
          have tx : TEx Hd (upd Hd pu (.lst (us9 ++ [w9]))) := tex_lst hud
          refine dpa_app (Dpat (Dpax (Dpax aub ec) ed) (noLs_all fun d hd => ?_) tx) (dpa_one (Dpt hw9 (noL_strs _) tx))
          obtain ⟨g', _, rfl⟩ := List.mem_map.mp hd
          exact noL_strs _
        · refine ⟨_, _, rfl, eb.trans ec, ec _ _ hub, ?_⟩
          rw [List.take_add_one, hg, List.filter_append, List.map_append]
          have e1 : (([g] : List (List Str)).filter (topG sm)).map (fun g => tS (canon (sm ++ g))) = [] := by rw [List.filter_cons, z]; rfl
          show DpAll K _ _ (_ ++ ((Option.toList (some g)).filter (topG sm)).map _)
          rw [show (Option.toList (some g)) = [g] from rfl, e1, List.append_nil]
          exact Dpax aub ec
      · obtain ⟨u8, us9, rfl, eb, hub, aub⟩ := p
        rw [lug, List.take_length] at aub
        have e6b : Ex H6 H' := ((e7.trans e8).trans e9).trans eb
        have edue : ((((grpF (restW sm)).filter fun g => decide (Sound (sm ++ g))).filter (topG sm)).map fun g => tS (canon (sm ++ g))) = (dueW sm).map tS := by unfold dueW; rw [List.map_map]; rfl
        rw [edue] at aub
        have w1 : EvD K (tCall (sp_greatest_sound K C_NotMade) [] E0 (tCons (tVar 4) tNil)) [some (.ref a), some (.ref r), some (.ref pd), some v2, some (.ref bs), some (.ref pr), some (.ref pg), some (.ref pu), u8, none, none, none] H' (.tuple (sortD ((dueW sm).map tS))) := ed_gs (v := .ref bs) (fun H1 e1 Q1 q1 => ⟨_, rfl, q1 _ H1 (Ex.refl _) (tupS_stb _ _ _ _ (ts0_of (e6b.trans e1)) tsm)⟩) ds hso (due_nd ds) (fun g => due_mem ds)
        have ne : ∀ g ∈ dueW sm, g ≠ [] := fun g hg => great_ne ((due_mem ds).mp hg)
        refine s_if (b := false) (et_is (et_not (et_edBK kis (ed_call (eds_cons w1 (eds_cons (ed_cb (eds_cons (EvN.ed (en_sortD (ep_var (i := 7) rfl hub aub) (alike_tS _) (sortable_tS ne) (fun d hd => ?_))) eds_nil) rc_tupL) eds_nil)) ⟨_, rfl, al_sorted (fun g hg => due_des ds hg) (Nat.le_trans (due_len ds) (by decide)), rfl⟩))) (by rfl)) (fun z => by cases z) (fun _ Hc ec => hZ _ _ ⟨_, _, _, _, rfl, e6b.trans ec⟩)
        obtain ⟨g, _, rfl⟩ := List.mem_map.mp hd
        exact Nat.le_trans (depth_strs g) (by decide)
    obtain ⟨y5, y6, y7, y8, rfl, e7⟩ := W
    have hv2e := Dpx hv2d e7
    have T7 := T6.ext (fun b o h => e7 b o h)
    have wS : ∀ H8, Ex H7 H8 → EvD K (tCall (sp_is_sound K) [] E0 (tCons (tVar 3) tNil)) [some (.ref a), some (.ref r), some (.ref pd), some v2, some (.ref bs), y5, y6, y7, y8, none, none, none] H8 (.bool (decide (Sound ws2))) := fun H8 e8 => ed_call (eds_cons (ed_var (i := 3) rfl (Dpx hv2e e8)) eds_nil) ⟨ws2, rfl, d2, rfl⟩
    refine q_ifX (W := fun H' => Dp K H' v2 (tS ws2) ∧ Dp K H' (.ref bs) (tS sm)) (fun Q9 k9 => ?_) (fun H8 hv28 => ?_)
    · have t1 : EvT (tTest (tOp rNe (tCall (sp_is_sound K) [] E0 (tCons (tVar 3) tNil)) (tOp (rEqD K) (tCall (sp__law_lots_in K) [] E0 (tCons (tVar 3) tNil)) (tLst tNil)))) [some (.ref a), some (.ref r), some (.ref pd), some v2, some (.ref bs), y5, y6, y7, y8, none, none, none] H7 false := et_edK kis (ed_is (ed_op (wS H7 (Ex.refl _)) (ed_soundEq (EvN.ed (en_call (eds_cons (ed_var (i := 3) rfl hv2e) eds_nil) ⟨_, ws2, rfl, .inl rfl, rfl⟩))) rd_neB) (by simp))
      refine t1 H7 (Ex.refl _) _ fun H8 e8 => iteF ?_
      refine (et_not (et_edBK kis (wS H8 e8))) H8 (Ex.refl _) _ fun H9 e9 => ?_
      have e79 := e8.trans e9
      by_cases hs2 : Sound ws2
      · rw [decide_eq_true hs2]
        exact iteF (k9 _ ⟨Dpx hv2e e79, Dpx (Dpx hsD e7) e79⟩)
      · rw [decide_eq_false hs2]
        refine iteT ⟨T7.ext (fun b o h => e79 b o h), fun Hc eN Tc => ?_⟩
        have xt : XT [] H7 Hc := XT.trans (.of (.of e79)) (.lam eN)
        have hv2c := Dpt hv2e (noL_strs ws2) (xt.tex (fun p hp => by cases hp))
        exact ⟨_, rfl, v2, ws2, rfl, hv2c, d2, fun z => absurd z hs2, fun z => absurd z hs2, fun _ He ee => ⟨C_NotMade, true, rfl, rfl, EN, hex, hkit, true, rfl, k9 _ ⟨Dpx hv2c ee, Dpx (Dpt (Dpx hsD e7) (noL_strs sm) (xt.tex (fun p hp => by cases hp))) ee⟩⟩⟩
    -- the fewest
    obtain ⟨hv2f, hsf⟩ := hv28
    have lG2 : (grpF ws2).length ≤ 4096 := by
      have := grp_sz l2 ws2.length
      rw [List.take_length] at this
      exact this
    refine q_asgD (K := K) (d := .none) ed_non (fun v9 H9 e9 hv9 => ?_)
    cases hv9
    have hv2g := Dpx hv2f e9
    have hsg := Dpx hsf e9
    refine q_forLP (K := K) (α := List Str) (f := fun g => .int (g.length : Int)) (g := tS) (as := ordG ws2) (EvN.ed (en_is (en_sortD (ds := (grpF ws2).map gD) (EvN.ep (en_is (en_mapL (K := K) (ds := (grpF ws2).map tS) lenD (EvN.ed (en_call (eds_cons (ed_var (i := 3) rfl hv2g) eds_nil) ⟨_, ws2, rfl, .inl rfl, l2, rfl⟩)) (by rw [List.length_map]; omega) (fun d hd => ?_) (fun _ => rfl) (fun x9 d H5 e5 hd hx => ?_)) (lenD_map _))) (alike_gD _) (sortable_gD _) (fun d hd => ?_)) (ordG_map ws2))) (fun Hf ef => ⟨fun i σ' H' => ∃ u8 u9 u10, σ' = [some (.ref a), some (.ref r), some (.ref pd), some v2, some (.ref bs), y5, y6, y7, u8, some u9, u10, none] ∧ Ex Hf H' ∧ Dp K H' u9 (optG (((ordG ws2).take i).find? fun g => decide (Sound (lessW ws2 g)))), ⟨_, _, _, rfl, Ex.refl _, .non⟩, fun i σ' H' w => by obtain ⟨_, _, _, _, x, _⟩ := w; exact x, fun i g x9 z9 σ' H' hi hx hz W => ?_, fun σ' H' W => ?_⟩)
    · obtain ⟨g, _, rfl⟩ := List.mem_map.mp hd
      have := noL_strs g
      show (true && (noL (.tuple (g.map PyData.str)) && true)) = true
      rw [this]; rfl
    · obtain ⟨g, hg9, rfl⟩ := List.mem_map.mp hd
      exact ed_tup (eds_cons (ed_cb (eds_cons (ed_var (i := 8) rfl hx) eds_nil) rc_lenT) (eds_cons (ed_var (i := 8) rfl hx) eds_nil)) (by simp)
    · obtain ⟨g, _, rfl⟩ := List.mem_map.mp hd
      exact depth_gD g
    · obtain ⟨u8, u9, u10, rfl, x6, hu⟩ := W
      have lg : g.Sublist ws2 := ordG_mem.mp (List.mem_of_getElem? hi)
      have hv2h := Dpx hv2g (ef.trans x6)
      have hft := find_take (p := fun g => decide (Sound (lessW ws2 g))) hi
      refine s_if (b := (((ordG ws2).take i).find? fun g => decide (Sound (lessW ws2 g))).isNone && decide (Sound (lessW ws2 g))) (et_and (et_edK kis (ed_is (ed_op (ed_var (i := 9) rfl hu) ed_non rd_isN) (by rw [isN_opt]))) (fun _ => et_edK kis (ed_soundEq (EvN.ed (en_call (eds_cons (EvN.ed (en_is (en_filtT (K := K) (fun d => (fun w => !decide (w ∈ g)) (unStr d)) id (ed_var (i := 3) rfl hv2h) (by rw [List.length_map]; omega) (fun d hd => ?_) (fun _ => rfl) (fun x7 d H7 e7 hd hx7 => ?_) (fun x7 d H7 e7 hd hx7 _ => ed_var (i := 11) rfl hx7)) (filt_st (fun w => !decide (w ∈ g)) ws2))) eds_nil) ⟨_, lessW ws2 g, rfl, .inr rfl, rfl⟩))))) (fun z H7 e7 => ?_) (fun z H7 e7 => ?_)
      · obtain ⟨w, _, rfl⟩ := List.mem_map.mp hd; rfl
      · obtain ⟨w, _, rfl⟩ := List.mem_map.mp hd
        exact et_edK kis (ed_op (ed_var (i := 11) rfl hx7) (ed_var (i := 8) rfl (Dpx hz e7)) rd_niS)
      · rw [Bool.and_eq_true] at z
        refine s_asgD (K := K) (d := tS g) (ed_var (i := 8) rfl (Dpx hz e7)) (fun u H8 e8 hu8 => ⟨_, _, _, rfl, (x6.trans e7).trans e8, ?_⟩)
        rw [hft, Option.isNone_iff_eq_none.mp z.1, z.2]
        exact hu8
      · refine ⟨_, _, _, rfl, x6.trans e7, ?_⟩
        rw [hft]
        cases hc : ((ordG ws2).take i).find? fun g => decide (Sound (lessW ws2 g)) with
        | some g9 =>
          rw [hc] at hu
          exact Dpx hu e7
        | none =>
          rw [hc] at hu z
          have z2 : decide (Sound (lessW ws2 g)) = false := by simpa using z
          rw [z2]
          exact Dpx hu e7
    obtain ⟨u8, u9, u10, rfl, x6, hu⟩ := W
    rw [List.take_length] at hu
    obtain ⟨g0, hf0, sg0⟩ := few_some ws2
    have hf1 : ((ordG ws2).find? fun g => decide (Sound (lessW ws2 g))) = some g0 := hf0
    rw [hf1] at hu
    have hv2h := Dpx hv2g (ef.trans x6)
    have hsh := Dpx hsg (ef.trans x6)
    have n0 : DesOk ([] : List Str) := ⟨List.nodup_nil, (fun w hw => by cases hw), rfl⟩
    have s0 : Sound [] := by decide +kernel
    have d15 : (dueW []).length = 15 := great_15 (due_nd n0) (fun g => due_mem n0)
    have wg : EvD K (tCall (sp_greatest_sound K C_NotMade) [] E0 (tCons (tTup tNil) tNil)) [some (.ref a), some (.ref r), some (.ref pd), some v2, some (.ref bs), y5, y6, y7, u8, some u9, u10, none] H' (.tuple (sortD ((dueW []).map tS))) := ed_gs (v := .non) (ws := []) (fun H1 e1 Q1 q1 => ⟨by show 0 ≤ sizeLine; decide, fun p hp => q1 (.ref p) _ (Ex.new hp) ⟨p, rfl, upd_same⟩⟩) n0 s0 (due_nd n0) (fun g => due_mem n0)
    refine s_retD (K := K) (d := .bool true) (ed_is (ed_and (ed_call (eds_cons (ed_call (eds_cons (ed_var (i := 3) rfl hv2h) eds_nil) ⟨ws2, g0, rfl, d2, hf0, rfl⟩) (eds_cons (ed_var (i := 9) rfl hu) eds_nil)) ⟨_, rfl, al_tS (desok_sub d2 sg0) 8, rfl⟩) (fun _ => ed_or (b := true) (ed_op (ed_cb (eds_cons (ed_var (i := 4) rfl hsh) eds_nil) rc_lenT) ed_int (rd_cmp (g := fun i j => decide (j < i)))) (fun _ => ed_is (ed_op (ed_cb (eds_cons wg eds_nil) rc_lenT) ed_int rd_eqI) ?_))) (by simp)) (fun v H9 e9 hv => by cases hv; exact q H9)
    rw [(sortD_perm _).length_eq, List.length_map, d15]
    rfl
end
end Ow

namespace Hd
open PySem PySem.Spec PyProof.Rows L2
theorem ktab_of {K : PySem.W.Frag} {w : World} {a : Addr} {kvs : List (PySem.Str × V)} (h : ∃ es n, KDict K w a es n) (g : tabB K a kvs = true) : Ow.KTab K w a kvs := by
  obtain ⟨es, n, k⟩ := h
  unfold tabB at g
  rw [k.at_] at g
  exact ⟨es, n, k, pairB_ok g⟩
theorem facts {P : Program} {w : World} {K : PySem.W.Frag} {h : Heap} {mg : PySem.Str → Option Value} {f : Addr} (X : K.In h) (G : h.Ns mainGlobals mg) (hfa : mg ("law" : PySem.Str) = some (.ref f)) (cT : He.SaysT fa fn tabs w K) (hex : ex K = true) :
    ∃ fd : FuncData, (∀ (s : Shared) (v : Value), BindsTo s fd ⟨[v], []⟩ [("_law_script", v)]) ∧ PySem.W.tabIn K "law" = some (cP K) ∧ PySem.W.codeHdIn K (cP K).1 (cP K).2 = true ∧ K.lookup (cP K).2 = none ∧ ∀ base : Heap, K.In base → base.Ns mainGlobals mg → (∀ p ∈ [cP K], LamX.TabB base mg p.1 p.2) → FnOk P w K mg base CX0 13 f fd ["_law_script"] (Ow.sp_law K (cP K).2) := by
  have c := cT.d
  have F__law_taken : Ow.Def K mg "_law_taken" Ow.st__law_taken := Ow.Def.mk ⟨_, _, (c.def_ 0 (d := d_0) rfl).choose_spec, He.glo_ok X G (c.fact 0 (f := .glo "_law_taken") rfl)⟩
  have F__law_pick : Ow.Def K mg "_law_pick" Ow.st__law_pick := Ow.Def.mk ⟨_, _, (c.def_ 1 (d := d_1) rfl).choose_spec, He.glo_ok X G (c.fact 1 (f := .glo "_law_pick") rfl)⟩
  have F__law_words : Ow.Def K mg "_law_words" Ow.st__law_words := Ow.Def.mk ⟨_, _, (c.def_ 2 (d := d_2) rfl).choose_spec, He.glo_ok X G (c.fact 2 (f := .glo "_law_words") rfl)⟩
  have F__law_design : Ow.Def K mg "_law_design" Ow.st__law_design := Ow.Def.mk ⟨_, _, (c.def_ 3 (d := d_3) rfl).choose_spec, He.glo_ok X G (c.fact 3 (f := .glo "_law_design") rfl)⟩
  have F__law_lots : Ow.Def K mg "_law_lots" Ow.st__law_lots := Ow.Def.mk ⟨_, _, (c.def_ 4 (d := d_4) rfl).choose_spec, He.glo_ok X G (c.fact 4 (f := .glo "_law_lots") rfl)⟩
  have F__law_alike : Ow.Def K mg "_law_alike" Ow.st__law_alike := Ow.Def.mk ⟨_, _, (c.def_ 5 (d := d_5) rfl).choose_spec, He.glo_ok X G (c.fact 5 (f := .glo "_law_alike") rfl)⟩
  have F_is_design : Ow.Def K mg "is_design" Ow.st_is_design := Ow.Def.mk ⟨_, _, (c.def_ 6 (d := d_6) rfl).choose_spec, He.glo_ok X G (c.fact 6 (f := .glo "is_design") rfl)⟩
  have F_need_design : Ow.Def K mg "need_design" Ow.st_need_design := Ow.Def.mk ⟨_, _, (c.def_ 7 (d := d_7) rfl).choose_spec, He.glo_ok X G (c.fact 7 (f := .glo "need_design") rfl)⟩
  have F_told : Ow.Def K mg "told" Ow.st_told := Ow.Def.mk ⟨_, _, (c.def_ 8 (d := d_8) rfl).choose_spec, He.glo_ok X G (c.fact 8 (f := .glo "told") rfl)⟩
  have F_holds : Ow.Def K mg "holds" Ow.st_holds := Ow.Def.mk ⟨_, _, (c.def_ 9 (d := d_9) rfl).choose_spec, He.glo_ok X G (c.fact 9 (f := .glo "holds") rfl)⟩
  have F_held_lots : Ow.Def K mg "held_lots" Ow.st_held_lots := Ow.Def.mk ⟨_, _, (c.def_ 10 (d := d_10) rfl).choose_spec, He.glo_ok X G (c.fact 10 (f := .glo "held_lots") rfl)⟩
  have F_with_word : Ow.Def K mg "with_word" Ow.st_with_word := Ow.Def.mk ⟨_, _, (c.def_ 11 (d := d_11) rfl).choose_spec, He.glo_ok X G (c.fact 11 (f := .glo "with_word") rfl)⟩
  have F_is_sound : Ow.Def K mg "is_sound" Ow.st_is_sound := Ow.Def.mk ⟨_, _, (c.def_ 12 (d := d_12) rfl).choose_spec, He.glo_ok X G (c.fact 12 (f := .glo "is_sound") rfl)⟩
  have F_greatest : Ow.Def K mg "greatest" Ow.st_greatest := Ow.Def.mk ⟨_, _, (c.def_ 13 (d := d_13) rfl).choose_spec, He.glo_ok X G (c.fact 13 (f := .glo "greatest") rfl)⟩
  have F_greatest_sound : Ow.Def K mg "greatest_sound" Ow.st_greatest_sound := Ow.Def.mk ⟨_, _, (c.def_ 14 (d := d_14) rfl).choose_spec, He.glo_ok X G (c.fact 14 (f := .glo "greatest_sound") rfl)⟩
  have F_fewest_drops : Ow.Def K mg "fewest_drops" Ow.st_fewest_drops := Ow.Def.mk ⟨_, _, (c.def_ 15 (d := d_15) rfl).choose_spec, He.glo_ok X G (c.fact 15 (f := .glo "fewest_drops") rfl)⟩
  have F__law_lots_in : Ow.Def K mg "_law_lots_in" Ow.st__law_lots_in := Ow.Def.mk ⟨_, _, (c.def_ 16 (d := d_16) rfl).choose_spec, He.glo_ok X G (c.fact 16 (f := .glo "_law_lots_in") rfl)⟩
  have F__law_groups : Ow.Def K mg "_law_groups" Ow.st__law_groups := Ow.Def.mk ⟨_, _, (c.def_ 17 (d := d_17) rfl).choose_spec, He.glo_ok X G (c.fact 17 (f := .glo "_law_groups") rfl)⟩
  have F_law : Ow.Def K mg "law" Ow.st_law := Ow.Def.mk ⟨_, _, (c.def_ 18 (d := d_18) rfl).choose_spec, He.glo_ok X G (c.fact 18 (f := .glo "law") rfl)⟩
  have F__law_not_made : Ow.Def K mg "_law_not_made" Ow.st__law_not_made := Ow.Def.mk ⟨_, _, (c.def_ 19 (d := d_19) rfl).choose_spec, He.glo_ok X G (c.fact 19 (f := .glo "_law_not_made") rfl)⟩
  have m_int := He.free_ok X G (c.fact 20 (f := .free "int") rfl)
  have m_len := He.free_ok X G (c.fact 21 (f := .free "len") rfl)
  have m_tuple := He.free_ok X G (c.fact 22 (f := .free "tuple") rfl)
  have m_sorted := He.free_ok X G (c.fact 23 (f := .free "sorted") rfl)
  have m_isinstance := He.free_ok X G (c.fact 24 (f := .free "isinstance") rfl)
  have m_list := He.free_ok X G (c.fact 25 (f := .free "list") rfl)
  have m_range := He.free_ok X G (c.fact 26 (f := .free "range") rfl)
  have m_str := He.free_ok X G (c.fact 27 (f := .free "str") rfl)
  have m_bool := He.free_ok X G (c.fact 28 (f := .free "bool") rfl)
  have m_all := He.free_ok X G (c.fact 29 (f := .free "all") rfl)
  obtain ⟨hx0, hex⟩ := He.ba hex
  obtain ⟨hx1, hex⟩ := He.ba hex
  obtain ⟨hx2, hex⟩ := He.ba hex
  obtain ⟨hx3, hex⟩ := He.ba hex
  obtain ⟨hx4, hex⟩ := He.ba hex
  obtain ⟨hx5, hex⟩ := He.ba hex
  obtain ⟨hx6, hex⟩ := He.ba hex
  obtain ⟨hx7, hex⟩ := He.ba hex
  obtain ⟨hx8, hex⟩ := He.ba hex
  obtain ⟨hx9, hex⟩ := He.ba hex
  obtain ⟨hx10, hex⟩ := He.ba hex
  obtain ⟨hx11, hex⟩ := He.ba hex
  obtain ⟨hx12, hex⟩ := He.ba hex
  obtain ⟨hx13, hex⟩ := He.ba hex
  obtain ⟨hx14, hex⟩ := He.ba hex
  obtain ⟨hx15, hex⟩ := He.ba hex
  obtain ⟨hx16, hex⟩ := He.ba hex
  obtain ⟨hx17, hex⟩ := He.ba hex
  obtain ⟨hx18, hex⟩ := He.ba hex
  obtain ⟨hx19, hex⟩ := He.ba hex
  obtain ⟨hx20, hex⟩ := He.ba hex
  obtain ⟨hx21, hex⟩ := He.ba hex
  obtain ⟨hx22, hex⟩ := He.ba hex
  have m_WORDS := He.glo_ok X G (c.fact 30 (f := .glo "WORDS") rfl)
  have T_WORDS : ∀ H : Hp, SqT K H (He.ga K "WORDS") [.str "blocks", .str "drop", .str "drop looked", .str "far", .str "hands", .str "lend looked", .str "move looked", .str "set", .str "set looked", .str "share", .str "two names", .str "use lent"] := fun H => He.tupB_ok (x := "WORDS") (vs := [.str "blocks", .str "drop", .str "drop looked", .str "far", .str "hands", .str "lend looked", .str "move looked", .str "set", .str "set looked", .str "share", .str "two names", .str "use lent"]) hx0 H
  have m_BOX := He.glo_ok X G (c.fact 31 (f := .glo "BOX") rfl)
  have T_BOX : ∀ H : Hp, SqT K H (He.ga K "BOX") [.str "box", .int 0, .int 1] := fun H => He.tupB_ok (x := "BOX") (vs := [.str "box", .int 0, .int 1]) hx1 H
  have m_LOOK := He.glo_ok X G (c.fact 32 (f := .glo "LOOK") rfl)
  have T_LOOK : ∀ H : Hp, SqT K H (He.ga K "LOOK") [.str "look", .int 1, .int 0] := fun H => He.tupB_ok (x := "LOOK") (vs := [.str "look", .int 1, .int 0]) hx2 H
  have m_LEND := He.glo_ok X G (c.fact 33 (f := .glo "LEND") rfl)
  have T_LEND : ∀ H : Hp, SqT K H (He.ga K "LEND") [.str "lend", .int 1, .int 0] := fun H => He.tupB_ok (x := "LEND") (vs := [.str "lend", .int 1, .int 0]) hx3 H
  have m_MOVE := He.glo_ok X G (c.fact 34 (f := .glo "MOVE") rfl)
  have T_MOVE : ∀ H : Hp, SqT K H (He.ga K "MOVE") [.str "move", .int 1, .int 0] := fun H => He.tupB_ok (x := "MOVE") (vs := [.str "move", .int 1, .int 0]) hx4 H
  have m_AWAY := He.glo_ok X G (c.fact 35 (f := .glo "AWAY") rfl)
  have T_AWAY : ∀ H : Hp, SqT K H (He.ga K "AWAY") [.str "move", .int 2, .int 0] := fun H => He.tupB_ok (x := "AWAY") (vs := [.str "move", .int 2, .int 0]) hx5 H
  have m_SHOW := He.glo_ok X G (c.fact 36 (f := .glo "SHOW") rfl)
  have T_SHOW : ∀ H : Hp, SqT K H (He.ga K "SHOW") [.str "show", .int 0] := fun H => He.tupB_ok (x := "SHOW") (vs := [.str "show", .int 0]) hx6 H
  have m_SEE := He.glo_ok X G (c.fact 37 (f := .glo "SEE") rfl)
  have T_SEE : ∀ H : Hp, SqT K H (He.ga K "SEE") [.str "show", .int 1] := fun H => He.tupB_ok (x := "SEE") (vs := [.str "show", .int 1]) hx7 H
  have m_SET := He.glo_ok X G (c.fact 38 (f := .glo "SET") rfl)
  have T_SET : ∀ H : Hp, SqT K H (He.ga K "SET") [.str "set", .int 0, .int 2] := fun H => He.tupB_ok (x := "SET") (vs := [.str "set", .int 0, .int 2]) hx8 H
  have m_LATER := He.glo_ok X G (c.fact 39 (f := .glo "LATER") rfl)
  have T_LATER : ∀ H : Hp, SqT K H (He.ga K "LATER") [.str "set", .int 2, .int 2] := fun H => He.tupB_ok (x := "LATER") (vs := [.str "set", .int 2, .int 2]) hx9 H
  have m_DROP := He.glo_ok X G (c.fact 40 (f := .glo "DROP") rfl)
  have T_DROP : ∀ H : Hp, SqT K H (He.ga K "DROP") [.str "drop", .int 0] := fun H => He.tupB_ok (x := "DROP") (vs := [.str "drop", .int 0]) hx10 H
  have X_NotMade : Ow.ExcK K mg "NotMade" (He.ga K "NotMade") := by
    obtain ⟨z1, z2, z3, z4⟩ := He.exc_ok (c.fact 41 (f := .exc "NotMade") rfl)
    exact ⟨z1, He.glo_ok X G (c.fact 42 (f := .glo "NotMade") rfl), z2, z3, z4⟩
  have EC_NotMade : ExcC K (He.ga K "NotMade") := ⟨He.eqO_ok hx14, He.eqO_ok hx15, of_decide_eq_true hx16, hx17, He.eqO_ok hx18, He.eqO_ok hx19, of_decide_eq_true hx20, of_decide_eq_true hx21⟩
  have kit_NotMade_NotMade := of_decide_eq_true hx22
  have exm_NotMade_OwnError := He.exm_ok (c.fact 43 (f := .exm "NotMade" "OwnError" true) rfl)
  have m_OwnError := He.glo_ok X G (c.fact 44 (f := .glo "OwnError") rfl)
  obtain ⟨fd, FL⟩ := c.def_ 18 (d := d_18) rfl
  have e := hfa.symm.trans (He.glo_ok X G (c.fact 18 (f := .glo "law") rfl))
  cases e
  have b := FunD.bindsA (ps := ["_law_script"]) FL fun _ _ _ _ _ _ us hl => match us, hl with | [_], _ => rfl
  have ht : PySem.W.tabIn K "law" = some (cP K) := of_decide_eq_true hx11
  have hcd := Ow.tab_code X G hfa ht FL
  refine ⟨fd, fun s v => b s [v] rfl, ht, hx12, Option.isNone_iff_eq_none.mp hx13, fun base _ _ TBs => ?_⟩
  have TB := TBs _ List.mem_cons_self
  have c__law_taken : Ow.Cal P w K mg base CX0 1 "_law_taken" ["_law_row", "_law_many"] (Ow.sp__law_taken K) := Ow.ok__law_taken (F := F__law_taken) (m_int := m_int) (m_len := m_len)
  have c__law_pick : Ow.Cal P w K mg base CX0 2 "_law_pick" ["_law_row", "_law_kinds"] (Ow.sp__law_pick K) := Ow.ok__law_pick (F := F__law_pick) (c__law_taken := c__law_taken) (m_len := m_len)
  have c__law_words : Ow.Cal P w K mg base CX0 1 "_law_words" [] (Ow.sp__law_words K) := Ow.ok__law_words (F := F__law_words)
  have c__law_design : Ow.Cal P w K mg base CX0 3 "_law_design" ["_law_row"] (Ow.sp__law_design K) := Ow.ok__law_design (F := F__law_design) (c__law_pick := c__law_pick) (c__law_words := c__law_words) (c__law_taken := c__law_taken) (m_tuple := m_tuple) (m_sorted := m_sorted)
  have c__law_lots : Ow.Cal P w K mg base CX0 1 "_law_lots" [] (Ow.sp__law_lots K) := Ow.ok__law_lots (F := F__law_lots)
  have c__law_alike : Ow.Cal P w K mg base CX0 (11) "_law_alike" ["_law_found", "_law_due"] (Ow.sp__law_alike 10 K) := Ow.all_alike F__law_alike m_isinstance m_list m_tuple m_len m_range m_str m_bool m_int 10
  have c_is_design : Ow.Cal P w K mg base CX0 1 "is_design" ["value"] (Ow.sp_is_design K) := Ow.ok_is_design (F := F_is_design) (m_all := m_all) (m_WORDS := m_WORDS) (m_isinstance := m_isinstance) (m_str := m_str) (m_tuple := m_tuple) (m_range := m_range) (m_len := m_len) (T_WORDS := T_WORDS)
  have c_need_design : Ow.Cal P w K mg base CX0 2 "need_design" ["design"] (Ow.sp_need_design K) := Ow.ok_need_design (F := F_need_design) (c_is_design := c_is_design)
  have c_told : Ow.Cal P w K mg base CX0 1 "told" [] (Ow.sp_told K) := Ow.ok_told (F := F_told) (m_SEE := m_SEE) (m_SET := m_SET) (m_LEND := m_LEND) (m_BOX := m_BOX) (m_MOVE := m_MOVE) (m_LOOK := m_LOOK) (m_LATER := m_LATER) (m_AWAY := m_AWAY) (m_SHOW := m_SHOW) (m_DROP := m_DROP) (T_BOX := T_BOX) (T_LOOK := T_LOOK) (T_LEND := T_LEND) (T_MOVE := T_MOVE) (T_AWAY := T_AWAY) (T_SHOW := T_SHOW) (T_SEE := T_SEE) (T_SET := T_SET) (T_LATER := T_LATER) (T_DROP := T_DROP)
  have c_holds : Ow.Cal P w K mg base CX0 1 "holds" ["design", "lot"] (Ow.sp_holds K) := Ow.ok_holds (F := F_holds) (m_all := m_all)
  have c_held_lots : Ow.Cal P w K mg base CX0 2 "held_lots" ["design"] (Ow.sp_held_lots K) := Ow.ok_held_lots (F := F_held_lots) (c_told := c_told) (c_holds := c_holds)
  have c_with_word : Ow.Cal P w K mg base CX0 1 "with_word" ["design", "word"] (Ow.sp_with_word K) := Ow.ok_with_word (F := F_with_word) (m_tuple := m_tuple) (m_sorted := m_sorted)
  have c_is_sound : Ow.Cal P w K mg base CX0 3 "is_sound" ["design"] (Ow.sp_is_sound K) := Ow.ok_is_sound (F := F_is_sound) (c_need_design := c_need_design) (c_held_lots := c_held_lots)
  have c_greatest : Ow.Cal P w K mg base CX0 3 "greatest" ["design"] (Ow.sp_greatest K) := Ow.ok_greatest (F := F_greatest) (c_with_word := c_with_word) (c_held_lots := c_held_lots) (m_WORDS := m_WORDS) (T_WORDS := T_WORDS)
  have c_greatest_sound : Ow.Cal P w K mg base (L2.CX P w) 4 "greatest_sound" ["design"] (Ow.sp_greatest_sound K (He.ga K "NotMade")) := Ow.ok_greatest_sound (F := F_greatest_sound) (c_need_design := c_need_design) (c_held_lots := c_held_lots) (c_greatest := c_greatest) (m_tuple := m_tuple) (m_sorted := m_sorted) (X_NotMade := X_NotMade)
  have c_fewest_drops : Ow.Cal P w K mg base CX0 3 "fewest_drops" ["design"] (Ow.sp_fewest_drops K) := Ow.ok_fewest_drops (F := F_fewest_drops) (c_need_design := c_need_design) (c_held_lots := c_held_lots) (m_sorted := m_sorted) (m_len := m_len)
  have c__law_lots_in : Ow.Cal P w K mg base CX0 2 "_law_lots_in" ["_law_design_here"] (Ow.sp__law_lots_in K) := Ow.ok__law_lots_in (F := F__law_lots_in) (c__law_lots := c__law_lots)
  have c__law_groups : Ow.Cal P w K mg base CX0 1 "_law_groups" ["_law_words_here"] (Ow.sp__law_groups K) := Ow.ok__law_groups (F := F__law_groups)
  exact Ow.ok_law (FD := FL) (c__law_design := c__law_design) (c__law_taken := c__law_taken) (c__law_lots_in := c__law_lots_in) (c__law_words := c__law_words) (c__law_groups := c__law_groups) (c__law_alike := c__law_alike) (c_greatest_sound := c_greatest_sound) (c_is_sound := c_is_sound) (c_fewest_drops := c_fewest_drops) (m_tuple := m_tuple) (m_sorted := m_sorted) (m_len := m_len) (hcd := hcd) (TB := TB) (F_nm := F__law_not_made) (m_OwnError := m_OwnError) (X_NotMade := X_NotMade) (EN := EC_NotMade) (hex := exm_NotMade_OwnError) (hkit := kit_NotMade_NotMade) (m_isinstance := m_isinstance)
end Hd
open PySem PySem.W PySem.Calls PyProof.Rows
set_option maxHeartbeats 0 in
theorem PySem.Challenge.cw_ownedborder_k06_whole_borders_holds : PySem.Challenge.rw_ownedborder_k06_whole_borders.Holds := by
  w_on; o_law
  refine HandSHeadRun.head_any (r := OpenLaw.row PySem.Challenge.rw_ownedborder_k06_whole_borders) (q := view (OpenLaw.row PySem.Challenge.rw_ownedborder_k06_whole_borders).prog [37]) (H := Hd.hk) (ob := Hd.ob) (M := 30000) (loose := Hd.loose) (d := HandSHeadRun.topDef (OpenLaw.row PySem.Challenge.rw_ownedborder_k06_whole_borders).prog 37) (kwd := []) Hd.ob_eq
    (by kernel_rfl) (fun s => by kernel_rfl) Hd.run (by kernel_rfl) (by kernel_rfl) (by kernel_rfl) (by rfl) (by first | assumption | decide +kernel) (by decide +kernel) ⟨rfl, rfl, rfl, rfl, rfl, by decide +kernel⟩ ?hw ?hc
  case hw => w_witness2
  case hc =>
    refine Ow.walk_ownE (l := PySem.Challenge.rw_ownedborder_k06_whole_borders) (n := 63) (k := 13) (x := "_law_script") (CX := fun _ => L2.CX0) rfl (by decide) (by kernel_rfl) ⟨rfl, by decide, by decide⟩ (by kernel_rfl) ?F (fun _ _ _ _ _ z => z)
    intro w mg fa h Y G hmg0 own
    obtain ⟨K, KX, c, hex⟩ := Y
    have hmg : mg ("law" : PySem.Str) = some (.ref fa) := by
      have e : (HandSHeadRun.topDef (OpenLaw.row PySem.Challenge.rw_ownedborder_k06_whole_borders).prog 37).name = ("law" : PySem.Str) := by kernel_rfl
      rw [← e]
      exact hmg0
    obtain ⟨fd, hb, ht, hc, hn, hF⟩ := Hd.facts (P := (PySem.Challenge.rw_ownedborder_k06_whole_borders).prog) (w := w) KX G hmg c hex
    have one : ∀ p ∈ [Hd.cP K], p = Hd.cP K := fun p hp => List.mem_singleton.mp hp
    refine ⟨K, KX, fd, [Hd.cP K], Ow.sp_law K (Hd.cP K).2, fun p hp => ?_, fun p hp => by rw [one p hp]; exact hn, fun p hp => by rw [one p hp]; exact PySem.W.codeHd_of_K KX hc, hb, fun H a ns hl _ hT hS => ⟨a, ns, rfl, hS, hl, fun p hp => ?_, fun _ => rfl⟩, hF⟩
    · rw [one p hp]
      exact Ow.tab_own KX G hmg ht (own K KX)
    · rw [List.mem_singleton.mp hp]
      exact LamX.TabS.nil (hT _ List.mem_cons_self)
