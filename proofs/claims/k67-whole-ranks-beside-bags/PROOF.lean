import PyProof.Rows.All
import Wide.All
import OpenK.AllK
import Wide.FinOn
import HandS.Head3
import HandS.HeadEnd
import HandS.HeadHook1
import HandS.HeadHook2
import HandS.HeadHook3
import HandS.HeadHook4
import HandS.Words
import HandS.Ends
import HandS.TupAny
import HandS.WideBits
import HandS.List
import HandS.Call
import HandS.ForMost
import HandS.Evl
import HandS.Flow
import HandS.Wide
import HandS.IsInst
import HandS.Gcd
import HandS.Sort
import HandS.TupSets
import HandS.RevRange
import HandS.Style
import HandS.Strs
import HandS.Zip
import HandS.SetFor
import KE.KMathGC
import KE.KMathG
import HandS.SortInts
import PyProof.TupleOfSeq
import KE.KTupSum
import KE.GoesMore
import KE.GoesEnum
import KE.GoesZip
import KE.KRevSl
import HandS.RaiseMore
import PySem.Challenge.RW_pushedback_k67_whole_ranks_beside_bags
set_option Elab.async false
set_option linter.all false
set_option maxRecDepth 100000
set_option maxHeartbeats 4000000
/-! The head: what the top leaves, by runs of the kernel (printed by gen_h0.py). -/
namespace K67
open PySem PySem.Spec PyProof.Rows L2
abbrev RR : PySem.W.OpenRow := PySem.W.OpenLaw.row PySem.Challenge.rw_pushedback_k67_whole_ranks_beside_bags
def ky0 : List PySem.Str := ["__name__", "__doc__", "__package__", "__loader__", "__spec__", "__annotations__", "__builtins__", "__file__", "__cached__", "comb", "factorial", "gcd", "lcm", "PushError", "StackError", "NotUsable"]
def ky1 : List PySem.Str := ["a_want", "is_integer", "is_number", "is_quotient", "a_is_numbers", "is_text", "power", "multiple_of", "choose", "factorial_of", "f_how_many", "rank_of_text", "text_by", "e_from_one", "e_is_pair", "e_ascends"]
def ky2 : List PySem.Str := ["e_is_set", "e_is_order", "e_possible", "e_counts", "_numbers", "is_table", "b_stands", "b_table_letter", "b_are_tables", "b_fit", "b_tables_letters", "letters_of", "is_learner", "d_is_tree", "is_tree", "is_share"]
def ky3 : List PySem.Str := ["is_model", "d_depth", "depth_of", "d_is_possible", "d_want_text", "d_want_tree", "d_want_model", "d_want_mixed", "a_lowest", "_want_both", "plus", "minus", "times", "over", "a_is_quotients", "shares_of"]
def ky4 : List PySem.Str := ["push_by", "pop_by", "push_letters", "d_after", "d_climbed", "d_chance_counted", "d_chance", "chance_learned", "push_learned", "pop_learned", "bag_of", "orders_of_bag", "_want_bag", "chance_of_bag", "push_bag", "pop_bag"]
def ky5 : List PySem.Str := ["a_is_size", "push_even", "pop_even", "e_length", "e_reach", "e_written", "e_new_chance", "e_copy_chance", "e_pop_stroke", "e_push_stroke", "e_runs", "e_strokes_at", "e_sums", "e_stroke_table", "_want_letters", "chance_copied"]
def ky6 : List PySem.Str := ["push_copied", "_pop_strokes", "pop_copied", "E_LENGTHS", "E_PARTED", "E_LEARNT", "is_scheme", "_is_parted", "_is_ahead", "_is_learnt", "_is_plain", "d_context", "d_met", "d_mass", "chance_mixed", "d_owns"]
def ky7 : List PySem.Str := ["d_beside", "d_table_mixed", "set_rank", "set_by", "order_rank", "order_by", "d_table_treed", "d_tables_treed", "chance_treed", "push_treed", "pop_treed", "_starts", "_is_part", "e_is_thing", "is_thing", "_part_chance"]
def ky8 : List PySem.Str := ["e_chance", "chance_in", "_all_texts", "_all_parts", "e_all", "things_of", "_many_parts", "e_many", "how_many", "e_picks", "e_pick_table", "push_mixed", "pop_mixed", "e_digit", "_push_parts", "_push_text"]
def ky9 : List PySem.Str := ["_push", "push_thing", "_pop_parts", "_pop_text", "_pop", "pop_thing", "_law_feed", "_law_draw", "_law_any", "_law_piles", "_law_same", "_law_low", "_law_on", "_law_off", "_law_teacher", "_law_chance"]
def ky10 : List PySem.Str := ["_law_pushed", "_law_popped", "_law_orders", "_law_placed", "_law_next", "_law_bags", "_law_bag_on", "_law_bag_off", "_law_tally", "_law_ways_right", "_law_all_right", "_law_ranks_right", "_law_orders_right", "_law_holds", "law"]
def kys : List PySem.Str := ky0 ++ (ky1 ++ (ky2 ++ (ky3 ++ (ky4 ++ (ky5 ++ (ky6 ++ (ky7 ++ (ky8 ++ (ky9 ++ (ky10))))))))))
def lo0 : List PySem.Str := ["PushError", "StackError", "NotUsable", "a_want", "is_integer", "is_number", "is_quotient", "a_is_numbers", "is_text", "power", "multiple_of", "choose", "factorial_of", "f_how_many", "rank_of_text", "text_by"]
def lo1 : List PySem.Str := ["e_from_one", "e_is_pair", "e_ascends", "e_is_set", "e_is_order", "e_possible", "e_counts", "_numbers", "is_table", "b_stands", "b_table_letter", "b_are_tables", "b_fit", "b_tables_letters", "letters_of", "is_learner"]
def lo2 : List PySem.Str := ["d_is_tree", "is_tree", "is_share", "is_model", "d_depth", "depth_of", "d_is_possible", "d_want_text", "d_want_tree", "d_want_model", "d_want_mixed", "a_lowest", "_want_both", "plus", "minus", "times"]
def lo3 : List PySem.Str := ["over", "a_is_quotients", "shares_of", "push_by", "pop_by", "push_letters", "d_after", "d_climbed", "d_chance_counted", "d_chance", "chance_learned", "push_learned", "pop_learned", "bag_of", "orders_of_bag", "_want_bag"]
def lo4 : List PySem.Str := ["chance_of_bag", "push_bag", "pop_bag", "a_is_size", "push_even", "pop_even", "e_length", "e_reach", "e_written", "e_new_chance", "e_copy_chance", "e_pop_stroke", "e_push_stroke", "e_runs", "e_strokes_at", "e_sums"]
def lo5 : List PySem.Str := ["e_stroke_table", "_want_letters", "chance_copied", "push_copied", "_pop_strokes", "pop_copied", "E_LENGTHS", "E_PARTED", "E_LEARNT", "is_scheme", "_is_parted", "_is_ahead", "_is_learnt", "_is_plain", "d_context", "d_met"]
def lo6 : List PySem.Str := ["d_mass", "chance_mixed", "d_owns", "d_beside", "d_table_mixed", "set_rank", "set_by", "order_rank", "order_by", "d_table_treed", "d_tables_treed", "chance_treed", "push_treed", "pop_treed", "_starts", "_is_part"]
def lo7 : List PySem.Str := ["e_is_thing", "is_thing", "_part_chance", "e_chance", "chance_in", "_all_texts", "_all_parts", "e_all", "things_of", "_many_parts", "e_many", "how_many", "e_picks", "e_pick_table", "push_mixed", "pop_mixed"]
def lo8 : List PySem.Str := ["e_digit", "_push_parts", "_push_text", "_push", "push_thing", "_pop_parts", "_pop_text", "_pop", "pop_thing", "_law_feed", "_law_draw", "_law_any", "_law_piles", "_law_same", "_law_low", "_law_on"]
def lo9 : List PySem.Str := ["_law_off", "_law_teacher", "_law_chance", "_law_pushed", "_law_popped", "_law_orders", "_law_placed", "_law_next", "_law_bags", "_law_bag_on", "_law_bag_off", "_law_tally", "_law_ways_right", "_law_all_right", "_law_ranks_right", "_law_orders_right"]
def lo10 : List PySem.Str := ["_law_holds"]
def loose : List PySem.Str := lo0 ++ lo1 ++ lo2 ++ lo3 ++ lo4 ++ lo5 ++ lo6 ++ lo7 ++ lo8 ++ lo9 ++ lo10
def lenKeys : List PySem.Str := ["even", "table", "row", "choice", "hidden", "learned", "treed", "mixed", "bag", "set", "order", "copies"]
/-! ### what is looked at -/
def ents (g : Addr → Option Obj) : List DictEntry := match g mainGlobals with
  | some ⟨_, _, .dict es _, _⟩ => es.toList
  | _ => []
def keyE (e : DictEntry) : Option Str := match e.key with
  | .str n _ => some n
  | _ => none
/-- the objects behind an entry: its value's, a function's code -/
def objE (g : Addr → Option Obj) (e : DictEntry) : List (Addr × Obj) := match e.val with
  | .ref a => (match g a with
    | some o => (a, o) :: (match o.data with
      | .func fd => (match fd.code with
        | .ref c => (match g c with
          | some u => [(c, u)]
          | none => [])
        | _ => [])
      | _ => [])
    | none => [])
  | _ => []
def ofKey (g : Addr → Option Obj) (x : Str) : Option DictEntry := (ents g).find? fun e => decide (keyE e = some x)
def objK (g : Addr → Option Obj) (x : Str) : List (Addr × Obj) := match ofKey g x with
  | some e => objE g e
  | none => []
def adK (g : Addr → Option Obj) (x : Str) : Addr := match ofKey g x with
  | some ⟨_, _, .ref a⟩ => a
  | _ => 0
/-- a part of the heap -/
def kF (g : Addr → Option Obj) : PySem.W.Frag := objK g "E_LENGTHS" ++ (objK g "E_PARTED" ++ (objK g "E_LEARNT" ++ (ents g).flatMap (objE g)))
def cdB (g : Addr → Option Obj) (fd : FuncData) : Bool := match fd.code with
  | .ref c => (match g c with
    | some ⟨_, _, .fields vs, _⟩ => (match vs.toList with
      | _ :: .str n _ :: _ => n == fd.qualname
      | _ => false)
    | _ => false)
  | _ => false
abbrev FnW : Type := Option Str × Str × Str × Arguments × FuncBody × Scope × Addr × List (Str × Addr) × Value × Addr × Bool
def fnW (g : Addr → Option Obj) (e : DictEntry) : Option FnW := match e.val with
  | .ref a => (match g a with
    | some ⟨_, _, .func fd, _⟩ => some (keyE e, fd.name, fd.qualname, fd.params, fd.body, fd.scope, fd.globals, fd.closure, fd.defaults, fd.builtins, cdB g fd)
    | _ => none)
  | _ => none
def blW (e : DictEntry) : Option (Option Str × String) := match e.val with
  | .builtin id => some (keyE e, id)
  | _ => none
/-- a tuple without a dict -/
def ntB (p : Addr × Obj) : Bool := match p.2.cls with
  | .type c => !(decide (c = "tuple")) || p.2.dict.isNone
  | _ => true
def strsB : List Value → List Str → Bool
  | [], [] => true
  | .str x _ :: r, y :: s => decide (x = y) && strsB r s
  | _, _ => false
def tpB (K : PySem.W.Frag) (a : Addr) (xs : List Str) : Bool := match K.lookup a with
  | some ⟨.type c, _, .seq its _, _⟩ => decide (c = "tuple") && (decide (its.size ≤ 100) && strsB its.toList xs)
  | _ => false
def refB (g : Addr → Option Obj) (x : Str) : Bool := match ofKey g x with
  | some ⟨_, _, .ref _⟩ => true
  | _ => false
def restB (g : Addr → Option Obj) : Bool := (refB g "E_LENGTHS" && (refB g "E_PARTED" && refB g "E_LEARNT")) && ((kF g).all ntB && (He.valsB (kF g) (adK g "E_LENGTHS") [("bag", .int 3)] && (tpB (kF g) (adK g "E_PARTED") ["row", "choice", "hidden"] && tpB (kF g) (adK g "E_LEARNT") ["learned", "treed", "mixed", "bag"])))
abbrev ObK : Type := List (Option Str) × List FnW × List (Option Str × String) × Bool × Option (List (Option (Str × Int)))
def obK (g : Addr → Option Obj) : ObK := ((ents g).map keyE, (ents g).filterMap (fnW g), (ents g).filterMap blW, restB g, He.dicW (kF g) (adK g "E_LENGTHS"))
def stW (st : Stmt) : Option FnW := match st with
  | .FunctionDef n _ _ _ _ _ _ _ _ _ => some (some n, n, n, defArgs st, .stmts (defBody st), defScope st, mainGlobals, [], .none, builtinsNs, true)
  | _ => none
def blV : List (Option Str × String) := [(some "__loader__", "__main__.__loader__#opaque"), (some "comb", "math.comb"), (some "factorial", "math.factorial"), (some "gcd", "math.gcd"), (some "lcm", "math.lcm")]
def valK (w : World) : ObK := (kys.map some, RR.prog.main.body.filterMap stW, blV, true, some (He.keysIn w.params lenKeys))
def SaysK (w : World) (h : Heap) (g : Addr → Option Obj) : Prop := (∀ a o, g a = some o → h.get? a = some o) ∧ obK g = valK w
def hkK : PySem.W.Hook where
  α := ObK
  obs := fun s => obK s.heap.get?
  val := valK
  says := fun w h => ∃ g : Addr → Option Obj, SaysK w h g
  of := fun _ s e => ⟨s.heap.get?, fun _ _ h => h, e⟩
  keeps := fun _ _ _ ⟨g, h1, h2⟩ k => ⟨g, fun a o e => k a o (h1 a o e), h2⟩
def obQ (s : PySem.W.SharedT) : ObK := obK (HandSHeadRun.getT s)
theorem obQ_eq (s : PySem.W.SharedT) : obQ s = hkK.obs s.abs := congrArg obK (funext fun a => HandSHeadRun.getT_eq s a)
/-! ### the runs -/
abbrev vw : Program := PySem.W.view RR.prog [0, 189]
noncomputable def wh (w : World) : Option (Shared × PySem.W.SharedT) := HandSHeadRun.wholeF (fun p => HandSHeadRun.stepQ (HandSHeadRun.denQ HandSHeadRun.tabQ) p w) HandSHeadRun.fenceQ 9000 RR.prog
def lkW (x : Shared × PySem.W.SharedT) : Bool × Bool × Bool := (PySem.W.staticsOk (PySem.importedModules RR.prog.main.body) x.1.heap x.2.abs.heap, PySem.W.gensDone x.2.abs, PySem.W.laidKept x.1.heap x.2.abs.heap)
noncomputable def snW (x : Shared × PySem.W.SharedT) := HandSHeadRun.seenQ vw loose (PySem.importedModules RR.prog.main.body) (fun s => PySem.W.xlAt vw [] s && PySem.W.recOk RR.toRowW.records s) x.2.abs
abbrev Rn1 (w : World) : Prop := (wh w).map (fun x => (lkW x, obQ x.2)) = some ((true, true, true), valK w)
abbrev Rn2 (w : World) : Prop := (wh w).map snW = some (PySem.W.openGood vw loose)
theorem look_f (w : World) : Rn1 (w.withFollow "special-get-raises" false) := by kernel_rfl
theorem look_t (w : World) : Rn1 (w.withFollow "special-get-raises" true) := by kernel_rfl
theorem seen_f (w : World) : Rn2 (w.withFollow "special-get-raises" false) := by kernel_rfl
theorem seen_t (w : World) : Rn2 (w.withFollow "special-get-raises" true) := by kernel_rfl
theorem names_ok : (kys.all fun k => PySem.startupNames.contains k || RR.prog.boundNames.contains k) = true := by kernel_rfl
/-! ### what they say together -/
theorem ents_some {g : Addr → Option Obj} (h : (ents g).map keyE = kys.map some) : ∃ oc od es n sl, g mainGlobals = some ⟨oc, od, .dict es n, sl⟩ ∧ es.toList.map keyE = kys.map some := by
  unfold ents at h
  split at h
  · exact ⟨_, _, _, _, _, by assumption, h⟩
  · have := congrArg List.length h
    exact absurd this (by decide +kernel)
theorem keys_of {l : List DictEntry} {L : List Str} (h : l.map keyE = L.map some) : l.filterMap keyE = L := by
  have e : l.filterMap keyE = (l.map keyE).filterMap id := by rw [List.filterMap_map]; rfl
  rw [e, h, List.filterMap_map]
  show L.filterMap (fun x => some x) = L
  exact List.filterMap_some
theorem strs_of {l : List DictEntry} {L : List Str} (h : l.map keyE = L.map some) : ∀ e ∈ l, ∃ n t, e.key = .str n t := fun e he => by
  have hm : keyE e ∈ L.map some := h ▸ List.mem_map.mpr ⟨e, he, rfl⟩
  obtain ⟨n, _, q⟩ := List.mem_map.mp hm
  unfold keyE at q
  split at q
  · exact ⟨_, _, by assumption⟩
  · cases q
theorem bound_ok {h : Heap} (hk : (ents h.get?).map keyE = kys.map some) : PySem.W.namesBound RR.prog h = true := by
  obtain ⟨oc, od, es, n, sl, e1, e2⟩ := ents_some hk
  have a1 : h.isNs mainGlobals = true := by
    unfold Heap.isNs
    rw [e1]
    show es.all _ = true
    rw [← Array.all_toList, List.all_eq_true]
    intro e he
    obtain ⟨x, t, q⟩ := strs_of e2 e he
    rw [q]
  have a2 : h.nsKeys mainGlobals = kys := by
    unfold Heap.nsKeys
    rw [e1]
    exact keys_of e2
  unfold PySem.W.namesBound
  rw [a1, a2, names_ok]
  rfl
theorem run_of {w : World} (h1 : Rn1 w) (h2 : Rn2 w) : HandSHeadRun.RunEqI RR vw hkK obQ 9000 loose w := by
  obtain ⟨x, hx, e1⟩ := Option.map_eq_some_iff.mp h1
  obtain ⟨y, hy, e2⟩ := Option.map_eq_some_iff.mp h2
  rw [hx] at hy
  cases hy
  obtain ⟨e3, e4⟩ := Prod.mk.inj e1
  obtain ⟨l1, l23⟩ := Prod.mk.inj e3
  obtain ⟨l2, l3⟩ := Prod.mk.inj l23
  have e5 : (ents x.2.abs.heap.get?).map keyE = kys.map some := by
    have e6 := (obQ_eq x.2).symm.trans e4
    exact congrArg (fun z : ObK => z.1) e6
  have el : HandSHeadRun.looksF RR.prog x.1.heap x.2.abs = true := by
    unfold HandSHeadRun.looksF
    rw [l1, l2, l3, bound_ok e5]
    rfl
  show (wh w).map _ = _
  rw [hx]
  exact congrArg some (Prod.ext el (Prod.ext e2 e4))
theorem run_all (w : World) : HandSHeadRun.RunEqI RR vw hkK obQ 9000 loose w :=
  PySem.W.byRow2 "special-get-raises" (P := fun w => HandSHeadRun.RunEqI RR vw hkK obQ 9000 loose w) (fun w => run_of (look_f w) (seen_f w)) (fun w => run_of (look_t w) (seen_t w)) w
end K67
namespace K67
open PySem PySem.W PySem.Calls PyProof.Rows
/-- the law from its walk: the looks at the law and the head, ahead of the rest (they want the most memory) -/
theorem law_top (call : WalkO vw loose (XL vw []) hkK.says (OpenLaw.row PySem.Challenge.rw_pushedback_k67_whole_ranks_beside_bags).toRowW (HandSHeadRun.topDef (OpenLaw.row PySem.Challenge.rw_pushedback_k67_whole_ranks_beside_bags).prog 189) [] fun f vs => PySem.call f vs) :
    PySem.Challenge.rw_pushedback_k67_whole_ranks_beside_bags.Holds := by
  w_on; o_law
  refine HandSHeadRun.head_imp (r := OpenLaw.row PySem.Challenge.rw_pushedback_k67_whole_ranks_beside_bags) (q := vw) (H := hkK) (ob := obQ) (M := 9000) (loose := loose) (d := HandSHeadRun.topDef (OpenLaw.row PySem.Challenge.rw_pushedback_k67_whole_ranks_beside_bags).prog 189) (kwd := []) obQ_eq run_all
    (by kernel_rfl) (by kernel_rfl) (by kernel_rfl) (by rfl) (by first | assumption | decide +kernel) (by decide +kernel) ⟨rfl, rfl, rfl, rfl, rfl, by decide +kernel⟩ ?hw call
  case hw => w_witness2
end K67
namespace K67
open PySem PySem.Spec PyProof.Rows L2

/-! ### tuples whose object is known (so that a method of theirs may be called) -/
/-- a new tuple: a plain object -/
def Plt (o : Obj) : Prop := o.cls = .type "tuple" ∧ o.dict = none
section
variable {X : Cx} {es : List Expr} {t : TA} {pos : Pos}
def tTupF (t : TA) : TE := fun σ H Q => t σ H fun xs H1 => xs.length ≤ sizeLine ∧ ∀ p o, Plt o → H1 p = none → Q (.ref p) (upd H1 p (.frz o (.tup xs)))
theorem pe_tupF {x1 : Nat} (h : PA X es t) : PE X (.Tuple es x1 pos) (tTupF t) := by
  refine ⟨fun pins s σ H Q I hq => wpAny_Tuple_spliced (thn (h.run pos pins s σ H _ I hq) fun us s1 ⟨xs, H1, I1, r, z, q⟩ => ⟨by rw [← r.length]; exact z, ?_⟩)⟩
  refine ⟨.ref s1.heap.objs.size, _, I1.laid (t' := s1.toks) (o := .frz { cls := .type "tuple", data := .seq us.toArray } (.tup xs)) (fun b u e => Heap.get?_push_of_some _ e) (Nat.le_refl _) ?_, rfl, q _ _ ⟨rfl, rfl⟩ (I1.hok.fresh (Nat.le_refl _))⟩
  exact ⟨Heap.get?_push_size _ rfl, z, us, r, ⟨_, Heap.get?_push_size _ rfl, rfl, _, rfl⟩⟩
def rCatF (K : PySem.W.Frag) : R2 := fun x y H Q => ∃ a b xs ys, x = .ref a ∧ y = .ref b ∧ SqT K H a xs ∧ SqT K H b ys ∧ xs.length + ys.length ≤ sizeLine ∧
  (xs = [] → Q (.ref b) H) ∧ (xs ≠ [] → ys = [] → Q (.ref a) H) ∧ (xs ≠ [] → ys ≠ [] → ∀ p o, Plt o → H p = none → Q (.ref p) (upd H p (.frz o (.tup (xs ++ ys)))))
theorem op_catF : OpR X (binaryOp .Add) (rCatF X.K) := by
  intro pins s σ H x y v u Q I rx ry ⟨a, b, xs, ys, ex, ey, ha, hb, hz, q0, q1, q2⟩
  subst ex ey
  cases rx
  cases ry
  obtain ⟨its, r1, p1, _⟩ := I.tuple ha
  obtain ⟨its2, r2, p2, _⟩ := I.tuple hb
  by_cases hx : xs = []
  · subst hx
    cases r1
    exact cat_tup0 p1 p2 ⟨.ref b, H, I, rfl, q0 rfl⟩
  · refine HT.cat_tup p1 p2 (fun z => hx (r1.nil_iff.mp z)) (fun z => ⟨.ref a, H, I, rfl, q1 hx (r2.nil_iff.mp z)⟩) (fun z => ?_) (by rw [← r1.length, ← r2.length]; exact hz)
    refine ⟨.ref s.heap.objs.size, _, I.laid (t' := s.toks) (o := .frz { cls := .type "tuple", data := .seq (its ++ its2).toArray } (.tup (xs ++ ys))) (fun b ob q => Heap.get?_push_of_some _ q) (Nat.le_refl _) ?_, rfl, q2 hx (fun w => z (r2.nil_iff.mpr w)) _ _ ⟨rfl, rfl⟩ (I.hok.fresh (Nat.le_refl _))⟩
    exact ⟨Heap.get?_push_size _ rfl, by rw [List.length_append]; exact hz, _, r1.append r2, IsTup.new _ _⟩
def rSlF (K : PySem.W.Frag) : V → Option Int → Option Int → Hp → VK → Prop := fun x lo hi H Q => ∃ a xs, x = .ref a ∧ SqT K H a xs ∧
  (HT.sIx xs.length 0 lo = 0 ∧ HT.sIx xs.length xs.length hi = xs.length → Q (.ref a) H) ∧ (¬ (HT.sIx xs.length 0 lo = 0 ∧ HT.sIx xs.length xs.length hi = xs.length) → ∀ p o, Plt o → H p = none → Q (.ref p) (upd H p (.frz o (.tup (cutV xs lo hi)))))
theorem sl_tupF : SlR X (rSlF X.K) := by
  intro pins s σ H x v vl vu lo hi sl Q I rx hs pl pu ⟨a, xs, ex, hx, q1, q2⟩
  subst ex
  cases rx
  obtain ⟨its, r, ht, hz⟩ := I.tuple hx
  have hlen : its.toArray.size = xs.length := by rw [List.size_toArray, ← r.length]
  refine ⟨"tuple", _, PyProof.Rows.slot_tuple_getitem.lookup, ht.typeIs, ?_⟩
  by_cases hw : HT.sIx xs.length 0 lo = 0 ∧ HT.sIx xs.length xs.length hi = xs.length
  · exact getItem_tuple_whole ht hs pl pu (by rw [hlen]; exact hw) ⟨.ref a, H, I, rfl, q1 hw⟩
  · refine HT.getItem_tuple_cut ht hs pl pu (by rw [hlen]; exact hw) ?_ (by rw [hlen]; exact hz)
    rw [hlen]
    refine ⟨.ref s.heap.objs.size, _, I.laid (t' := s.toks) (o := .frz { cls := .type "tuple", data := .seq ((its.toArray.toList.drop (HT.sIx xs.length 0 lo)).take (HT.sIx xs.length xs.length hi - HT.sIx xs.length 0 lo)).toArray } (.tup (cutV xs lo hi))) (fun b ob q => Heap.get?_push_of_some _ q) (Nat.le_refl _) ?_, rfl, q2 hw _ _ ⟨rfl, rfl⟩ (I.hok.fresh (Nat.le_refl _))⟩
    exact ⟨Heap.get?_push_size _ rfl, Nat.le_trans (cutV_length xs lo hi) hz, _, (r.drop (HT.sIx xs.length 0 lo)).take (HT.sIx xs.length xs.length hi - HT.sIx xs.length 0 lo), IsTup.new _ _⟩
def rTupF (K : PySem.W.Frag) : List V → Hp → VK → Prop := fun xs H Q => ∃ p ys, xs = [.ref p] ∧ SqL K H p ys ∧ ∀ l o, Plt o → H l = none → Q (.ref l) (upd H l (.frz o (.tup ys)))
theorem call_tupF : CallR X (.type "tuple") (rTupF X.K) := by
  intro pins s σ H xs us Q I r ⟨p, ys, ex, hq, q⟩
  subst ex
  rw [Vals.ref1 r]
  obtain ⟨its, r', pl, hz⟩ := I.list hq
  have hlen := r'.length
  refine call_tuple_list pl.isList (fun h' kp => ?_) (by simp only [List.size_toArray] <;> omega)
  have I1 : Inv X pins σ H { s with heap := h' } := I.kept (t' := s.toks) kp
  exact ⟨.ref h'.objs.size, _, I1.laid (t' := s.toks) (o := .frz { cls := .type "tuple", data := .seq its.toArray } (.tup ys)) (fun b o e => Heap.get?_push_of_some _ e) (Nat.le_refl _) ⟨Heap.get?_push_size _ rfl, hz, its, r', IsTup.new _ _⟩, rfl, q _ _ ⟨rfl, rfl⟩ (I1.hok.fresh (Nat.le_refl _))⟩
def rDmF : List V → Hp → VK → Prop := fun xs H Q => ∃ i j, xs = [.int i, .int j] ∧ CDivP i j ∧ ∀ p o, Plt o → H p = none → Q (.ref p) (upd H p (.frz o (.tup [.int (i / j), .int (i % j)])))
theorem call_dmF : CallR X (.builtin "divmod") rDmF := by
  intro pins s σ H xs us Q I r ⟨i, j, ex, ⟨h1, h2⟩, q⟩
  subst ex
  obtain ⟨t, t', rfl⟩ := Vals.int2 r
  refine divmod_int (by omega) ?_ (.inl h2)
  rw [Int.fdiv_eq_ediv_of_nonneg i (by omega), Int.fmod_eq_emod_of_nonneg i (by omega)]
  refine ⟨.ref s.heap.objs.size, _, I.laid (o := .frz { cls := .type "tuple", data := .seq #[.int (i / j) s.toks, .int (i % j) (s.toks + 1)] } (.tup [.int (i / j), .int (i % j)])) (fun b o e => Heap.get?_push_of_some _ e) (Nat.le_refl _) ?_, rfl, q _ _ ⟨rfl, rfl⟩ (I.hok.fresh (Nat.le_refl _))⟩
  refine ⟨Heap.get?_push_size _ rfl, by show 2 ≤ sizeLine; rw [sizeLine_eq]; decide, [.int (i / j) s.toks, .int (i % j) (s.toks + 1)], .cons ⟨_, rfl⟩ (.cons ⟨_, rfl⟩ .nil), ⟨_, Heap.get?_push_size s.heap rfl, rfl, 0, rfl⟩⟩
end
end K67
/-! K67 layer: what a text does, told over deep data. Slots hold data (im), or a list of one's own (ow); the heap is split into a ghost part that stands and the rest. -/
namespace K67
open PySem PySem.Spec PyProof.Rows L2
open Evl (Ex ex_l ex_t)

/-! ### data stands -/
mutual
theorem dp_mono {K : PySem.W.Frag} {H H' : Hp} (e : Ex H H') : ∀ {v : V} {d : PyData}, Dp K H v d → Dp K H' v d
  | _, _, .non => .non
  | _, _, .bl b => .bl b
  | _, _, .int i => .int i
  | _, _, .str x => .str x
  | _, _, .lst hs ha => .lst (ex_l e hs) (dpa_mono e ha)
  | _, _, .tup hs ha => .tup (ex_t e hs) (dpa_mono e ha)
theorem dpa_mono {K : PySem.W.Frag} {H H' : Hp} (e : Ex H H') : ∀ {vs : List V} {ds : List PyData}, DpAll K H vs ds → DpAll K H' vs ds
  | _, _, .nil => .nil
  | _, _, .cons h1 h2 => .cons (dp_mono e h1) (dpa_mono e h2)
end
theorem dpa_len {K : PySem.W.Frag} {H : Hp} : ∀ {vs : List V} {ds : List PyData}, DpAll K H vs ds → vs.length = ds.length
  | _, _, .nil => rfl
  | _, _, .cons _ h2 => congrArg (· + 1) (dpa_len h2)
theorem dpa_get {K : PySem.W.Frag} {H : Hp} : ∀ {vs : List V} {ds : List PyData} {k : Nat} {d : PyData}, DpAll K H vs ds → ds[k]? = some d → ∃ v, vs[k]? = some v ∧ Dp K H v d
  | _, _, _, _, .nil, h => by simp at h
  | _, _, 0, _, .cons h1 _, h => by simp at h; subst h; exact ⟨_, rfl, h1⟩
  | _, _, k + 1, _, .cons _ h2, h => by
    obtain ⟨v, e, q⟩ := dpa_get h2 (by simpa using h)
    exact ⟨v, by simpa using e, q⟩
theorem dpa_app {K : PySem.W.Frag} {H : Hp} : ∀ {vs ws : List V} {ds es : List PyData}, DpAll K H vs ds → DpAll K H ws es → DpAll K H (vs ++ ws) (ds ++ es)
  | _, _, _, _, .nil, h => h
  | _, _, _, _, .cons a b, h => .cons a (dpa_app b h)
theorem dpa_one {K : PySem.W.Frag} {H : Hp} {v : V} {d : PyData} (h : Dp K H v d) : DpAll K H [v] [d] := .cons h .nil
theorem dpa_set {K : PySem.W.Frag} {H : Hp} {v : V} {d : PyData} (h : Dp K H v d) : ∀ {vs : List V} {ds : List PyData} {k : Nat}, DpAll K H vs ds → DpAll K H (vs.set k v) (ds.set k d)
  | _, _, _, .nil => .nil
  | _, _, 0, .cons _ b => .cons h b
  | _, _, k + 1, .cons a b => .cons a (dpa_set h b)
theorem dpa_take {K : PySem.W.Frag} {H : Hp} : ∀ {vs : List V} {ds : List PyData} (n : Nat), DpAll K H vs ds → DpAll K H (vs.take n) (ds.take n)
  | _, _, 0, _ => .nil
  | _, _, n + 1, .nil => .nil
  | _, _, n + 1, .cons a b => .cons a (dpa_take n b)
theorem dpa_drop {K : PySem.W.Frag} {H : Hp} : ∀ {vs : List V} {ds : List PyData} (n : Nat), DpAll K H vs ds → DpAll K H (vs.drop n) (ds.drop n)
  | _, _, 0, h => h
  | _, _, n + 1, .nil => .nil
  | _, _, n + 1, .cons a b => dpa_drop n b
theorem dpa_rev {K : PySem.W.Frag} {H : Hp} : ∀ {vs : List V} {ds : List PyData}, DpAll K H vs ds → DpAll K H vs.reverse ds.reverse
  | _, _, .nil => .nil
  | _, _, .cons a b => by
    rw [List.reverse_cons, List.reverse_cons]
    exact dpa_app (dpa_rev b) (dpa_one a)
/-- ints -/
theorem dpa_ints {K : PySem.W.Frag} {H : Hp} : ∀ {ns : List Int} {vs : List V}, DpAll K H vs (ns.map PyData.int) → vs = ns.map V.int
  | [], _, h => by cases h; rfl
  | n :: ns, _, h => by
    cases h with
    | cons a b =>
      cases a
      rw [dpa_ints b]
      rfl
theorem dpa_of_ints {K : PySem.W.Frag} {H : Hp} : ∀ (ns : List Int), DpAll K H (ns.map V.int) (ns.map PyData.int)
  | [] => .nil
  | n :: ns => .cons (.int n) (dpa_of_ints ns)
theorem dpa_bools {K : PySem.W.Frag} {H : Hp} : ∀ {bs : List Bool} {vs : List V}, DpAll K H vs (bs.map PyData.bool) → vs = bs.map V.bl
  | [], _, h => by cases h; rfl
  | n :: ns, _, h => by
    cases h with
    | cons a b =>
      cases a
      rw [dpa_bools b]
      rfl

/-! ### frames -/
/-- a tuple that stands is one whose object is known, without a dict -/
def okO : HO → Prop
  | .tup _ => False
  | .frz o (.tup _) => o.dict = none
  | _ => True
def NoD (I : Hp) : Prop := ∀ a o, I a = some o → okO o
theorem NoD.upd {I : Hp} {p : Addr} {o : HO} (h : NoD I) (ho : okO o) : NoD (upd I p o) := fun a u e => by
  by_cases ha : a = p
  · subst ha
    rw [upd_same] at e
    cases e
    exact ho
  · rw [upd_ne ha] at e
    exact h a u e
structure Fr (I H I' H' : Hp) : Prop where
  i : Ex I I'
  h : Ex H H'
  ih : Ex I' H'
  sep : ∀ a, I a = none → H a ≠ none → I' a = none
  nd : NoD I → NoD I'
theorem Fr.refl {I H : Hp} (e : Ex I H) : Fr I H I H := ⟨Evl.Ex.refl _, Evl.Ex.refl _, e, fun _ h _ => h, id⟩
theorem Fr.trans {I H I1 H1 I2 H2 : Hp} (a : Fr I H I1 H1) (b : Fr I1 H1 I2 H2) : Fr I H I2 H2 :=
  ⟨a.i.trans b.i, a.h.trans b.h, b.ih, fun x h1 h2 => b.sep x (a.sep x h1 h2) (by
    cases e : H x with
    | none => exact absurd e h2
    | some o => rw [a.h x o e]; exact nofun), fun h => b.nd (a.nd h)⟩
/-- a new object, part of what stands -/
theorem Fr.new {I H : Hp} {p : Addr} {o : HO} (e : Ex I H) (hp : H p = none) (ho : okO o := by trivial) : Fr I H (upd I p o) (upd H p o) := by
  have ip : I p = none := by
    cases h : I p with
    | none => rfl
    | some u => rw [e p u h] at hp; cases hp
  refine ⟨Evl.Ex.new ip, Evl.Ex.new hp, fun a u h => ?_, fun a h1 h2 => ?_, fun h => h.upd ho⟩
  · by_cases ha : a = p
    · subst ha
      rw [upd_same] at h ⊢
      exact h
    · rw [upd_ne ha] at h ⊢
      exact e a u h
  · rw [upd_ne (fun z => h2 (by rw [z]; exact hp))]
    exact h1
/-- a new object, not part of it -/
theorem Fr.own {I H : Hp} {p : Addr} {o : HO} (e : Ex I H) (hp : H p = none) : Fr I H I (upd H p o) :=
  ⟨Evl.Ex.refl _, Evl.Ex.new hp, fun a u h => by rw [upd_ne (ne_of_none (e a u h) hp)]; exact e a u h, fun _ h _ => h, id⟩
/-- an own object becomes part of it -/
theorem Fr.freeze {I H : Hp} {p : Addr} {o : HO} {I0 B : Hp} (f : Fr I0 B I H) (hB : B p = none) (hI : I p = none) (hp : H p = some o) (ho : okO o := by trivial) : Fr I0 B (upd I p o) H := by
  refine ⟨f.i.trans (Evl.Ex.new hI), f.h, fun a u h => ?_, fun a h1 h2 => ?_, fun h => (f.nd h).upd ho⟩
  · by_cases ha : a = p
    · subst ha
      rw [upd_same] at h
      rw [hp, h]
    · rw [upd_ne ha] at h
      exact f.ih a u h
  · rw [upd_ne (fun z => h2 (by rw [z]; exact hB))]
    exact f.sep a h1 h2
theorem Ex.none {I H : Hp} {p : Addr} (e : Ex I H) (hp : H p = none) : I p = none := by
  cases h : I p with
  | none => rfl
  | some u => rw [e p u h] at hp; cases hp

/-! ### slots -/
/-- no value told; data that stands; a list of one's own (its address told or not); the feed (its address, at most so many draws) -/
inductive SD where
  | no | im (d : PyData) | own (lo : Option Addr) (ds : List PyData) | fd (l : Addr) (n : Nat)
abbrev SD.ow (ds : List PyData) : SD := .own none ds
def SD.isO : SD → Bool
  | .own _ _ => true
  | .fd _ _ => true
  | _ => false
abbrev DE := List SD
/-- a feed's items -/
def FeedD (n : Nat) (fs : List PyData) : Prop := ∃ (cs : List Int) (a b c : Int), fs = [.list (cs.map PyData.int), .int a, .int b, .int c] ∧ cs.length ≤ 63 ∧ 0 ≤ a ∧ 0 ≤ c ∧ c ≤ n ∧ a ≤ n
theorem FeedD.mono {m n : Nat} {fs : List PyData} (h : FeedD m fs) (hm : m ≤ n) : FeedD n fs := by
  obtain ⟨cs, a, b, c, h1, h2, h3, h4, h5, h6⟩ := h
  exact ⟨cs, a, b, c, h1, h2, h3, h4, by omega, by omega⟩
structure R (K : PySem.W.Frag) (B I0 I H : Hp) (σ : L2.St) (ρ : DE) : Prop where
  fr : Fr I0 B I H
  nd : NoD I
  len : σ.length = ρ.length
  im : ∀ (i : Nat) (d : PyData), ρ[i]? = some (SD.im d) → ∃ v : V, σ[i]? = some (some v) ∧ Dp K I v d
  ow : ∀ (i : Nat) (lo : Option Addr) (ds : List PyData), ρ[i]? = some (SD.own lo ds) → ∃ (l : Addr) (vs : List V), σ[i]? = some (some (V.ref l)) ∧ B l = none ∧ I l = none ∧ H l = some (HO.lst vs) ∧ DpAll K I vs ds ∧ ∀ k, lo = some k → l = k
  fd : ∀ (i : Nat) (l : Addr) (n : Nat), ρ[i]? = some (SD.fd l n) → ∃ (vs : List V) (ds : List PyData), σ[i]? = some (some (V.ref l)) ∧ B l = none ∧ I l = none ∧ H l = some (HO.lst vs) ∧ DpAll K I vs ds ∧ FeedD n ds
  dis : ∀ (i j : Nat) (s t : SD) (l : Addr), ρ[i]? = some s → ρ[j]? = some t → s.isO = true → t.isO = true → σ[i]? = some (some (V.ref l)) → σ[j]? = some (some (V.ref l)) → i = j
/-- what a changed slot leaves -/
theorem set_cases {ρ : DE} {i j : Nat} {s t : SD} (h : (ρ.set i s)[j]? = some t) : (i = j ∧ i < ρ.length ∧ s = t) ∨ (i ≠ j ∧ ρ[j]? = some t) := by
  by_cases hij : i = j
  · subst hij
    rw [List.getElem?_set, if_pos rfl] at h
    split at h
    · rename_i q
      exact .inl ⟨rfl, q, Option.some.inj h⟩
    · cases h
  · rw [List.getElem?_set_ne hij] at h
    exact .inr ⟨hij, h⟩
section
variable {K : PySem.W.Frag} {B I0 I H I' H' : Hp} {σ : L2.St} {ρ : DE}
theorem R.lo (r : R K B I0 I H σ ρ) {i : Nat} {s : SD} (h : ρ[i]? = some s) (hs : s.isO = true) : ∃ l vs, σ[i]? = some (some (V.ref l)) ∧ B l = none ∧ I l = none ∧ H l = some (HO.lst vs) := by
  cases s with
  | no => cases hs
  | im d => cases hs
  | own lo ds =>
    obtain ⟨l, vs, h1, h2, h3, h4, _⟩ := r.ow i lo ds h
    exact ⟨l, vs, h1, h2, h3, h4⟩
  | fd l n =>
    obtain ⟨vs, ds, h1, h2, h3, h4, _⟩ := r.fd i l n h
    exact ⟨l, vs, h1, h2, h3, h4⟩
theorem R.ext (r : R K B I0 I H σ ρ) (f : Fr I H I' H') : R K B I0 I' H' σ ρ := by
  refine ⟨⟨r.fr.i.trans f.i, r.fr.h.trans f.h, f.ih, fun a h1 h2 => f.sep a (r.fr.sep a h1 h2) ?_, fun h => f.nd (r.fr.nd h)⟩, f.nd r.nd, r.len, fun i d h => ?_, fun i lo ds h => ?_, fun i l n h => ?_, r.dis⟩
  · cases e : B a with
    | none => exact absurd e h2
    | some o => rw [r.fr.h a o e]; exact nofun
  · obtain ⟨v, h1, h2⟩ := r.im i d h
    exact ⟨v, h1, dp_mono f.i h2⟩
  · obtain ⟨l, vs, h1, h2, h3, h4, h5, h6⟩ := r.ow i lo ds h
    exact ⟨l, vs, h1, h2, f.sep l h3 (by rw [h4]; exact nofun), f.h l _ h4, dpa_mono f.i h5, h6⟩
  · obtain ⟨vs, ds, h1, h2, h3, h4, h5, h6⟩ := r.fd i l n h
    exact ⟨vs, ds, h1, h2, f.sep l h3 (by rw [h4]; exact nofun), f.h l _ h4, dpa_mono f.i h5, h6⟩
/-- a slot set to data -/
theorem R.set (r : R K B I0 I H σ ρ) {i : Nat} {v : V} {d : PyData} (h : Dp K I v d) : R K B I0 I H (σ.set i (some v)) (ρ.set i (.im d)) := by
  refine ⟨r.fr, r.nd, by simp [r.len], fun j e hj => ?_, fun j lo ds hj => ?_, fun j l n hj => ?_, fun j k s t l hj hk hs ht sj sk => ?_⟩
  · rcases set_cases hj with ⟨rfl, q, z⟩ | ⟨hn, q⟩
    · cases z
      rw [List.getElem?_set_self (r.len ▸ q)]
      exact ⟨v, rfl, h⟩
    · rw [List.getElem?_set_ne hn]
      exact r.im j e q
  · rcases set_cases hj with ⟨rfl, q, z⟩ | ⟨hn, q⟩
    · cases z
    · rw [List.getElem?_set_ne hn]
      exact r.ow j lo ds q
  · rcases set_cases hj with ⟨rfl, q, z⟩ | ⟨hn, q⟩
    · cases z
    · rw [List.getElem?_set_ne hn]
      exact r.fd j l n q
  · rcases set_cases hj with ⟨rfl, q, z⟩ | ⟨hn, q⟩
    · subst z; cases hs
    · rcases set_cases hk with ⟨rfl, q2, z⟩ | ⟨hn2, q2⟩
      · subst z; cases ht
      · rw [List.getElem?_set_ne hn] at sj
        rw [List.getElem?_set_ne hn2] at sk
        exact r.dis j k s t l q q2 hs ht sj sk
/-- a slot forgotten -/
theorem R.drop (r : R K B I0 I H σ ρ) (i : Nat) (x : Option V) : R K B I0 I H (σ.set i x) (ρ.set i .no) := by
  refine ⟨r.fr, r.nd, by simp [r.len], fun j e hj => ?_, fun j lo ds hj => ?_, fun j l n hj => ?_, fun j k s t l hj hk hs ht sj sk => ?_⟩
  · rcases set_cases hj with ⟨rfl, q, z⟩ | ⟨hn, q⟩
    · cases z
    · rw [List.getElem?_set_ne hn]
      exact r.im j e q
  · rcases set_cases hj with ⟨rfl, q, z⟩ | ⟨hn, q⟩
    · cases z
    · rw [List.getElem?_set_ne hn]
      exact r.ow j lo ds q
  · rcases set_cases hj with ⟨rfl, q, z⟩ | ⟨hn, q⟩
    · cases z
    · rw [List.getElem?_set_ne hn]
      exact r.fd j l n q
  · rcases set_cases hj with ⟨rfl, q, z⟩ | ⟨hn, q⟩
    · subst z; cases hs
    · rcases set_cases hk with ⟨rfl, q2, z⟩ | ⟨hn2, q2⟩
      · subst z; cases ht
      · rw [List.getElem?_set_ne hn] at sj
        rw [List.getElem?_set_ne hn2] at sk
        exact r.dis j k s t l q q2 hs ht sj sk
/-- a slot set to a list of one's own, that stands in no other slot -/
theorem R.setOw (r : R K B I0 I H σ ρ) {i : Nat} {l : Addr} {vs : List V} {ds : List PyData} (hB : B l = none) (hI : I l = none) (hH : H l = some (.lst vs)) (h : DpAll K I vs ds)
    (hn : ∀ (j : Nat) (s : SD), j ≠ i → ρ[j]? = some s → s.isO = true → σ[j]? ≠ some (some (V.ref l))) : R K B I0 I H (σ.set i (some (.ref l))) (ρ.set i (.ow ds)) := by
  refine ⟨r.fr, r.nd, by simp [r.len], fun j e hj => ?_, fun j lo es hj => ?_, fun j l2 n hj => ?_, fun j k s t l' hj hk hs ht sj sk => ?_⟩
  · rcases set_cases hj with ⟨rfl, q, z⟩ | ⟨hn, q⟩
    · cases z
    · rw [List.getElem?_set_ne hn]
      exact r.im j e q
  · rcases set_cases hj with ⟨rfl, q, z⟩ | ⟨hn, q⟩
    · cases z
      rw [List.getElem?_set_self (r.len ▸ q)]
      exact ⟨l, vs, rfl, hB, hI, hH, h, nofun⟩
    · rw [List.getElem?_set_ne hn]
      exact r.ow j lo es q
  · rcases set_cases hj with ⟨rfl, q, z⟩ | ⟨hn, q⟩
    · cases z
    · rw [List.getElem?_set_ne hn]
      exact r.fd j l2 n q
  · rcases set_cases hj with ⟨rfl, q, z⟩ | ⟨n1, q⟩
    · rcases set_cases hk with ⟨rfl, q2, z2⟩ | ⟨n2, q2⟩
      · rfl
      · rw [List.getElem?_set_self (r.len ▸ q)] at sj
        cases sj
        rw [List.getElem?_set_ne n2] at sk
        exact absurd sk (hn k t (Ne.symm n2) q2 ht)
    · rw [List.getElem?_set_ne n1] at sj
      rcases set_cases hk with ⟨rfl, q2, z2⟩ | ⟨n2, q2⟩
      · rw [List.getElem?_set_self (r.len ▸ q2)] at sk
        cases sk
        exact absurd sj (hn j s (Ne.symm n1) q hs)
      · rw [List.getElem?_set_ne n2] at sk
        exact r.dis j k s t l' q q2 hs ht sj sk
/-- the list of a slot is written -/
theorem R.write (r : R K B I0 I H σ ρ) {i : Nat} {lo : Option Addr} {l : Addr} {vs : List V} {ds es : List PyData} (hi : ρ[i]? = some (SD.own lo ds)) (hs : σ[i]? = some (some (V.ref l))) (h : DpAll K I vs es) : R K B I0 I (upd H l (.lst vs)) σ (ρ.set i (.own lo es)) := by
  obtain ⟨l', vs', h1, h2, h3, h4, h5, h6⟩ := r.ow i lo ds hi
  rw [hs] at h1
  cases h1
  have il : ∀ a u, I a = some u → a ≠ l := fun a u q z => by subst z; rw [h3] at q; cases q
  have bl : ∀ a u, B a = some u → a ≠ l := fun a u q z => by subst z; rw [h2] at q; cases q
  have hil : i < ρ.length := (List.getElem?_eq_some_iff.mp hi).1
  refine ⟨⟨r.fr.i, fun a u q => ?_, fun a u q => ?_, r.fr.sep, r.fr.nd⟩, r.nd, by simp [r.len], fun j e hj => ?_, fun j lo2 us hj => ?_, fun j l2 n hj => ?_, fun j k s t l' hj hk hsO htO sj sk => ?_⟩
  · rw [upd_ne (bl a u q)]; exact r.fr.h a u q
  · rw [upd_ne (il a u q)]; exact r.fr.ih a u q
  · rcases set_cases hj with ⟨rfl, q, z⟩ | ⟨hn, q⟩
    · cases z
    · exact r.im j e q
  · rcases set_cases hj with ⟨rfl, q, z⟩ | ⟨hn, q⟩
    · cases z
      exact ⟨l, vs, hs, h2, h3, upd_same, h, h6⟩
    · obtain ⟨l2, vs2, g1, g2, g3, g4, g5, g6⟩ := r.ow j lo2 us q
      refine ⟨l2, vs2, g1, g2, g3, ?_, g5, g6⟩
      rw [upd_ne (fun z => by subst z; exact hn (r.dis i j _ _ l2 hi q rfl rfl hs g1))]
      exact g4
  · rcases set_cases hj with ⟨rfl, q, z⟩ | ⟨hn, q⟩
    · cases z
    · obtain ⟨vs2, ds2, g1, g2, g3, g4, g5, g6⟩ := r.fd j l2 n q
      refine ⟨vs2, ds2, g1, g2, g3, ?_, g5, g6⟩
      rw [upd_ne (fun z => by subst z; exact hn (r.dis i j _ _ l2 hi q rfl rfl hs g1))]
      exact g4
  · have n : ∀ {m : Nat} {s : SD}, s.isO = true → (ρ.set i (SD.own lo es))[m]? = some s → ∃ s', ρ[m]? = some s' ∧ s'.isO = true := fun {m s} hO hm => by
      rcases set_cases hm with ⟨rfl, q, z⟩ | ⟨hn, q⟩
      · exact ⟨_, hi, rfl⟩
      · exact ⟨s, q, hO⟩
    obtain ⟨u1, q1, o1⟩ := n hsO hj
    obtain ⟨u2, q2, o2⟩ := n htO hk
    exact r.dis j k u1 u2 l' q1 q2 o1 o2 sj sk
/-- the feed is drawn from -/
theorem R.feed (r : R K B I0 I H σ ρ) {i : Nat} {l : Addr} {n m : Nat} {vs : List V} {es : List PyData} {H2 I2 : Hp} (hi : ρ[i]? = some (SD.fd l n)) (f : Fr I (fun a => if a = l then none else H a) I2 H2) (hn : I2 l = none) (hH : H2 l = some (.lst vs)) (h : DpAll K I2 vs es) (hf : FeedD m es) : R K B I0 I2 H2 σ (ρ.set i (.fd l m)) := by
  obtain ⟨vs', ds', h1, h2, h3, h4, h5, h6⟩ := r.fd i l n hi
  have bl : ∀ a u, B a = some u → a ≠ l := fun a u q z => by subst z; rw [h2] at q; cases q
  have keep : ∀ a u, a ≠ l → H a = some u → H2 a = some u := fun a u z q => f.h a u (by rw [if_neg z]; exact q)
  have sep : ∀ a, a ≠ l → I a = none → H a ≠ none → I2 a = none := fun a z q1 q2 => f.sep a q1 (by rw [if_neg z]; exact q2)
  refine ⟨⟨r.fr.i.trans f.i, fun a u q => keep a u (bl a u q) (r.fr.h a u q), f.ih, fun a q1 q2 => ?_, fun h => f.nd (r.fr.nd h)⟩, f.nd r.nd, by simp [r.len], fun j e hj => ?_, fun j lo us hj => ?_, fun j l2 k hj => ?_, fun j k s t l' hj hk hsO htO sj sk => ?_⟩
  · cases e : B a with
    | none => exact absurd e q2
    | some o => exact sep a (bl a o e) (r.fr.sep a q1 q2) (by rw [r.fr.h a o e]; exact nofun)
  · rcases set_cases hj with ⟨rfl, q, z⟩ | ⟨hn, q⟩
    · cases z
    · obtain ⟨v, g1, g2⟩ := r.im j e q
      exact ⟨v, g1, dp_mono f.i g2⟩
  · rcases set_cases hj with ⟨rfl, q, z⟩ | ⟨hn2, q⟩
    · cases z
    · obtain ⟨l2, vs2, g1, g2, g3, g4, g5, g6⟩ := r.ow j lo us q
      have z : l2 ≠ l := fun z => by subst z; exact hn2 (r.dis i j _ _ l2 hi q rfl rfl h1 g1)
      exact ⟨l2, vs2, g1, g2, sep l2 z g3 (by rw [g4]; exact nofun), keep l2 _ z g4, dpa_mono f.i g5, g6⟩
  · rcases set_cases hj with ⟨rfl, q, z⟩ | ⟨hn2, q⟩
    · cases z
      exact ⟨vs, es, h1, h2, hn, hH, h, hf⟩
    · obtain ⟨vs2, ds2, g1, g2, g3, g4, g5, g6⟩ := r.fd j l2 k q
      have z : l2 ≠ l := fun z => by subst z; exact hn2 (r.dis i j _ _ l2 hi q rfl rfl h1 g1)
      exact ⟨vs2, ds2, g1, g2, sep l2 z g3 (by rw [g4]; exact nofun), keep l2 _ z g4, dpa_mono f.i g5, g6⟩
  · have n : ∀ {k : Nat} {s : SD}, s.isO = true → (ρ.set i (SD.fd l m))[k]? = some s → ∃ s', ρ[k]? = some s' ∧ s'.isO = true := fun {k s} hO hm => by
      rcases set_cases hm with ⟨rfl, q, z⟩ | ⟨hn, q⟩
      · exact ⟨_, hi, rfl⟩
      · exact ⟨s, q, hO⟩
    obtain ⟨u1, q1, o1⟩ := n hsO hj
    obtain ⟨u2, q2, o2⟩ := n htO hk
    exact r.dis j k u1 u2 l' q1 q2 o1 o2 sj sk
/-- another ghost beginning -/
theorem R.rebase (r : R K B I0 I H σ ρ) : R K B I I H σ ρ := ⟨⟨Evl.Ex.refl _, r.fr.h, r.fr.ih, fun _ h _ => h, id⟩, r.nd, r.len, r.im, r.ow, r.fd, r.dis⟩
theorem R.unbase {I1 H1 : Hp} {σ1 : L2.St} {ρ1 : DE} (r1 : R K B I0 I1 H1 σ1 ρ1) (r : R K B I1 I H σ ρ) : R K B I0 I H σ ρ :=
  ⟨⟨r1.fr.i.trans r.fr.i, r.fr.h, r.fr.ih, fun a h1 h2 => r.fr.sep a (r1.fr.sep a h1 h2) h2, fun h => r.fr.nd (r1.fr.nd h)⟩, r.nd, r.len, r.im, r.ow, r.fd, r.dis⟩
end
end K67
namespace K67
open PySem PySem.Spec PyProof.Rows L2
open Evl (Ex ex_l ex_t)

/-! ### the readings that any rule gives -/
section
variable {ι : Type} (F : ι → Cx)
def tE (e : Expr) : TE := fun σ H Q => ∃ t : TE, (∀ i, PE (F i) e t) ∧ t σ H Q
def tT (e : Expr) : TT := fun σ H Q => ∃ t : TT, (∀ i, PT (F i) e t) ∧ t σ H Q
def tW (e : Expr) : TT := fun σ H Q => ∃ t : TT, (∀ i, PW (F i) e t) ∧ t σ H Q
def tA (es : List Expr) : TA := fun σ H Q => ∃ t : TA, (∀ i, PA (F i) es t) ∧ t σ H Q
def tK (es : List Keyword) : TA := fun σ H Q => ∃ t : TA, (∀ i, PK (F i) es t) ∧ t σ H Q
def tS (st : Stmt) : TS := fun D σ H => ∃ t : TS, (∀ i, PS (F i) st t) ∧ t D σ H
def tSs (st : List Stmt) : TS := fun D σ H => ∃ t : TS, (∀ i, PSs (F i) st t) ∧ t D σ H
def tG (tg : Expr) : TG := fun v σ H Q => ∃ t : TG, (∀ i, PG (F i) tg t) ∧ t v σ H Q
def tGs (tg : List Expr) : TGs := fun v σ H Q => ∃ t : TGs, (∀ i, PGs (F i) tg t) ∧ t v σ H Q
def tI (tg it : Expr) : TI := fun σ H Q => ∃ t : TI, (∀ i, PI (F i) tg it t) ∧ t σ H Q
def tO (e : Option Expr) : TO := fun σ H Q => ∃ t : TO, (∀ i, PO (F i) e t) ∧ t σ H Q
def tTs (e : List Expr) : TT := fun σ H Q => ∃ t : TT, (∀ i, PTs (F i) e t) ∧ t σ H Q
variable {F}
theorem pe_tE {e : Expr} (i : ι) : PE (F i) e (tE F e) := ⟨fun pins s σ H Q I ⟨_, hp, q⟩ => (hp i).run pins s σ H Q I q⟩
theorem pt_tT {e : Expr} (i : ι) : PT (F i) e (tT F e) := ⟨fun pins s σ H Q I ⟨_, hp, q⟩ => (hp i).run pins s σ H Q I q⟩
theorem pw_tW {e : Expr} (i : ι) : PW (F i) e (tW F e) := ⟨fun wh pins s σ H Q I ⟨_, hp, q⟩ => (hp i).run wh pins s σ H Q I q⟩
theorem pa_tA {e : List Expr} (i : ι) : PA (F i) e (tA F e) := ⟨fun po pins s σ H Q I ⟨_, hp, q⟩ => (hp i).run po pins s σ H Q I q⟩
theorem pk_tK {e : List Keyword} (i : ι) : PK (F i) e (tK F e) := ⟨fun po pins s σ H Q I ⟨_, hp, q⟩ => (hp i).run po pins s σ H Q I q⟩
theorem ps_tS {e : Stmt} (i : ι) : PS (F i) e (tS F e) := ⟨fun pins s σ H Q I ⟨_, hp, q⟩ => (hp i).run pins s σ H Q I q⟩
theorem pss_tSs {e : List Stmt} (i : ι) : PSs (F i) e (tSs F e) := ⟨fun pins s σ H Q I ⟨_, hp, q⟩ => (hp i).run pins s σ H Q I q⟩
theorem pg_tG {e : Expr} (i : ι) : PG (F i) e (tG F e) := ⟨fun pins s σ H v u Q I r ⟨_, hp, q⟩ => (hp i).run pins s σ H v u Q I r q⟩
theorem pgs_tGs {e : List Expr} (i : ι) : PGs (F i) e (tGs F e) := ⟨fun pins s σ H v u Q I r ⟨_, hp, q⟩ => (hp i).run pins s σ H v u Q I r q⟩
theorem pi_tI {tg e : Expr} (i : ι) : PI (F i) tg e (tI F tg e) := ⟨fun pins s σ H Q I ⟨_, hp, q⟩ => (hp i).run pins s σ H Q I q⟩
theorem po_tO {e : Option Expr} (i : ι) : PO (F i) e (tO F e) := ⟨fun pins s σ H Q I ⟨_, hp, q⟩ => (hp i).run pins s σ H Q I q⟩
theorem pts_tTs {e : List Expr} (i : ι) : PTs (F i) e (tTs F e) := ⟨fun pins s σ H Q I ⟨_, hp, q⟩ => (hp i).run pins s σ H Q I q⟩
end

/-! ### the judgements over data -/
section
variable (K : PySem.W.Frag) {ι : Type} (F : ι → Cx)
def E (e : Expr) (ρ : DE) (d : PyData) : Prop := ∀ B I0 I H σ, R K B I0 I H σ ρ → ∀ Q : VK, (∀ v I' H', Fr I H I' H' → Dp K I' v d → Q v H') → tE F e σ H Q
/-- a new list -/
def EL (e : Expr) (ρ : DE) (ds : List PyData) : Prop := ∀ B I0 I H σ, R K B I0 I H σ ρ → ∀ Q : VK,
  (∀ l vs I' H', Fr I H I' H' → H l = none → I' l = none → H' l = some (.lst vs) → DpAll K I' vs ds → Q (.ref l) H') → tE F e σ H Q
def T (e : Expr) (ρ : DE) (b : Bool) : Prop := ∀ B I0 I H σ, R K B I0 I H σ ρ → ∀ Q : Bool → Hp → Prop, (∀ I' H', Fr I H I' H' → Q b H') → tT F e σ H Q
def TW (e : Expr) (ρ : DE) (b : Bool) : Prop := ∀ B I0 I H σ, R K B I0 I H σ ρ → ∀ Q : Bool → Hp → Prop, (∀ I' H', Fr I H I' H' → Q b H') → tW F e σ H Q
def TTs (es : List Expr) (ρ : DE) (b : Bool) : Prop := ∀ B I0 I H σ, R K B I0 I H σ ρ → ∀ Q : Bool → Hp → Prop, (∀ I' H', Fr I H I' H' → Q b H') → tTs F es σ H Q
def A (es : List Expr) (ρ : DE) (ds : List PyData) : Prop := ∀ B I0 I H σ, R K B I0 I H σ ρ → ∀ Q : List V → Hp → Prop, (∀ vs I' H', Fr I H I' H' → DpAll K I' vs ds → Q vs H') → tA F es σ H Q
def AK (es : List Keyword) (ρ : DE) (ds : List PyData) : Prop := ∀ B I0 I H σ, R K B I0 I H σ ρ → ∀ Q : List V → Hp → Prop, (∀ vs I' H', Fr I H I' H' → DpAll K I' vs ds → Q vs H') → tK F es σ H Q
def O (e : Option Expr) (ρ : DE) (o : Option Int) : Prop := ∀ B I0 I H σ, R K B I0 I H σ ρ → ∀ Q : Option Int → Hp → Prop, (∀ I' H', Fr I H I' H' → Q o H') → tO F e σ H Q
structure De where
  nx : DE → Prop
  rt : DE → PyData → Prop
  bk : DE → Prop := fun _ => False
  ct : DE → Prop := fun _ => False
  rl : List PyData → Prop := fun _ => False
structure Re (B I0 : Hp) (Δ : De) (D : Ends) : Prop where
  nx : ∀ I H σ ρ, R K B I0 I H σ ρ → Δ.nx ρ → D.nx σ H
  rt : ∀ v d I H σ ρ, R K B I0 I H σ ρ → Dp K I v d → Δ.rt ρ d → D.rt v H
  bk : ∀ I H σ ρ, R K B I0 I H σ ρ → Δ.bk ρ → D.bk σ H
  ct : ∀ I H σ ρ, R K B I0 I H σ ρ → Δ.ct ρ → D.ct σ H
  rl : ∀ l ws ds I H σ ρ, R K B I0 I H σ ρ → B l = none → I l = none → H l = some (.lst ws) → DpAll K I ws ds → Δ.rl ds → D.rt (.ref l) H
def S (st : Stmt) (ρ : DE) (Δ : De) : Prop := ∀ B I0 I H σ D, R K B I0 I H σ ρ → Re K B I0 Δ D → tS F st D σ H
def Ss (st : List Stmt) (ρ : DE) (Δ : De) : Prop := ∀ B I0 I H σ D, R K B I0 I H σ ρ → Re K B I0 Δ D → tSs F st D σ H
/-- a target bound: only the slots at js change -/
def Tg (tg : Expr) (js : List Nat) (d : PyData) (ρ ρ2 : DE) : Prop := ∀ B I0 I H σ v, R K B I0 I H σ ρ → Dp K I v d → ∀ Q : L2.St → Hp → Prop,
  (∀ σ2, R K B I0 I H σ2 ρ2 → σ2.length = σ.length ∧ (∀ j, j ∉ js → σ2[j]? = σ[j]?) → Q σ2 H) → tG F tg v σ H Q
def Tgs (tgs : List Expr) (js : List Nat) (ds : List PyData) (ρ ρ2 : DE) : Prop := ∀ B I0 I H σ vs, R K B I0 I H σ ρ → DpAll K I vs ds → ∀ Q : L2.St → Hp → Prop,
  (∀ σ2, R K B I0 I H σ2 ρ2 → σ2.length = σ.length ∧ (∀ j, j ∉ js → σ2[j]? = σ[j]?) → Q σ2 H) → tGs F tgs vs σ H Q
/-- what is walked yields these data -/
structure Yl (J : It) (I : Hp) (ds : List PyData) : Prop where
  go : ∀ k I2 H2, Ex I I2 → Ex I2 H2 → k < ds.length → J.go k H2
  stop : ∀ I2 H2, Ex I I2 → Ex I2 H2 → J.stop ds.length H2
  yld : ∀ (k : Nat) d I2 H2 x H3, ds[k]? = some d → Ex I I2 → Ex I2 H2 → J.yld k H2 x H3 → ∃ I3, Fr I2 H2 I3 H3 ∧ Dp K I3 x d
def Src (tg it : Expr) (ρ : DE) (ds : List PyData) : Prop := ∀ B I0 I H σ, R K B I0 I H σ ρ → ∀ RR : It → Hp → Prop, (∀ J I' H', Fr I H I' H' → Yl K J I' ds → RR J H') → tI F tg it σ H RR
/-- operations on values, over data -/
def OpD (f : Value → Value → Sem Value) (x y z : PyData) : Prop := ∃ r : R2, (∀ i, OpR (F i) f r) ∧ ∀ I H a b (Q : VK), Ex I H → Dp K I a x → Dp K I b y → (∀ v I' H', Fr I H I' H' → Dp K I' v z → Q v H') → r a b H Q
def CallD (f : Value) (xs : List PyData) (z : PyData) : Prop := ∃ r : List V → Hp → VK → Prop, (∀ i, CallR (F i) f r) ∧ ∀ I H vs (Q : VK), Ex I H → DpAll K I vs xs → (∀ v I' H', Fr I H I' H' → Dp K I' v z → Q v H') → r vs H Q
def CallDL (f : Value) (xs : List PyData) (ds : List PyData) : Prop := ∃ r : List V → Hp → VK → Prop, (∀ i, CallR (F i) f r) ∧ ∀ I H vs (Q : VK), Ex I H → DpAll K I vs xs →
  (∀ l ws I' H', Fr I H I' H' → H l = none → I' l = none → H' l = some (.lst ws) → DpAll K I' ws ds → Q (.ref l) H') → r vs H Q
def MtD (T : String) (id : String) (x : PyData) (xs : List PyData) (z : PyData) : Prop := ∃ r : V → List V → Hp → VK → Prop, (∀ i, MtR (F i) id r) ∧
  (∀ I H a, Ex I H → Dp K I a x → tyV K T a H) ∧ ∀ I H a vs (Q : VK), Ex I H → Dp K I a x → DpAll K I vs xs → (∀ v I' H', Fr I H I' H' → Dp K I' v z → Q v H') → r a vs H Q
def SlD (x : PyData) (lo hi : Option Int) (z : PyData) : Prop := ∃ r : V → Option Int → Option Int → Hp → VK → Prop, (∀ i, SlR (F i) r) ∧
  ∀ I H a (Q : VK), Ex I H → Dp K I a x → (∀ v I' H', Fr I H I' H' → Dp K I' v z → Q v H') → r a lo hi H Q
end

section
variable {K : PySem.W.Frag} {ι : Type} {F : ι → Cx} {e a b c : Expr} {es : List Expr} {ρ ρ2 : DE} {d x y z : PyData} {ds : List PyData} {pos : Pos} {t u : Bool}
theorem EL.im (h : EL K F e ρ ds) : E K F e ρ (.list ds) := fun B I0 I H σ r Q q => h B I0 I H σ r Q fun l vs I' H' f h1 h2 h3 h4 =>
  q (.ref l) (upd I' l (.lst vs)) H' ⟨f.i.trans (Evl.Ex.new h2), f.h, (Fr.freeze (I0 := I') (B := fun _ => none) ⟨Evl.Ex.refl _, nofun, f.ih, fun _ k _ => k, id⟩ rfl h2 h3).ih, fun x k1 k2 => by
    rw [upd_ne (fun z => k2 (by rw [z]; exact h1))]
    exact f.sep x k1 k2, fun h => (f.nd h).upd trivial⟩ (.lst (SqL.of upd_same) (dpa_mono (Evl.Ex.new h2) h4))
theorem sqt_frz {I : Hp} {p : Addr} {o : Obj} {vs : List V} (h : I p = some (.frz o (.tup vs))) : SqT K I p vs := .inl (.inr ⟨o, h⟩)
/-! ### names and constants -/
theorem e_name {n : Str} (j : Nat) (hρ : ρ[j]? = some (.im d) := by rfl) (hN : ∀ i, (F i).N[j]? = some n := by intro _; rfl) (hv : ∀ i, Vis (F i).env.scope n := by intro _; first | exact Or.inl rfl | exact Or.inr (Or.inl rfl) | exact Or.inr (Or.inr rfl))
    (hd : (n == ("__debug__" : Str)) = false := by decide) (hcd : (n == ("__classdict__" : Str)) = false := by decide) : E K F (.Name n pos) ρ d := fun B I0 I H σ r Q q => by
  obtain ⟨v, h1, h2⟩ := r.im j d hρ
  exact ⟨tVar j, fun i => pe_var (hN i) (hv i) hd hcd, v, h1, q v I H (Fr.refl r.fr.ih) h2⟩
theorem e_int {n : Int} {k : Nat} : E K F (.Constant (.int n) k pos) ρ (.int n) := fun B I0 I H σ r Q q => ⟨_, fun i => pe_int, q _ I H (Fr.refl r.fr.ih) (.int n)⟩
theorem e_bool {n : Bool} {k : Nat} : E K F (.Constant (.bool n) k pos) ρ (.bool n) := fun B I0 I H σ r Q q => ⟨_, fun i => pe_bl, q _ I H (Fr.refl r.fr.ih) (.bl n)⟩
theorem e_none {k : Nat} : E K F (.Constant .none k pos) ρ .none := fun B I0 I H σ r Q q => ⟨_, fun i => pe_non, q _ I H (Fr.refl r.fr.ih) .non⟩
theorem e_str {n : Str} {k : Nat} : E K F (.Constant (.str n) k pos) ρ (.str n) := fun B I0 I H σ r Q q => ⟨_, fun i => pe_str, q _ I H (Fr.refl r.fr.ih) (.str n)⟩
/-! ### operators -/
theorem e_bin {op : Operator} (ha : E K F a ρ x) (hb : E K F b ρ y) (ho : OpD K F (binaryOp op) x y z) : E K F (.BinOp a op b pos) ρ z := fun B I0 I H σ r Q q => by
  obtain ⟨rr, hr, hv⟩ := ho
  refine ⟨_, fun i => pe_op (hr i) (pe_tE i) (pe_tE i), ?_⟩
  refine ha B I0 I H σ r _ fun v I1 H1 f1 d1 => ?_
  refine hb B I0 I1 H1 σ (r.ext f1) _ fun w I2 H2 f2 d2 => ?_
  exact hv I2 H2 v w Q f2.ih (dp_mono f2.i d1) d2 fun u I3 H3 f3 d3 => q u I3 H3 ((f1.trans f2).trans f3) d3
theorem e_cmp {op : CmpOp} (ha : E K F a ρ x) (hb : E K F b ρ y) (ho : OpD K F (compareOp op) x y z) (hm : behindInMarks op b = false := by first | exact nomark _ | rfl) : E K F (.Compare a [op] [b] pos) ρ z := fun B I0 I H σ r Q q => by
  obtain ⟨rr, hr, hv⟩ := ho
  refine ⟨_, fun i => pe_cmpR (hr i) (pe_tE i) (pe_tE i) hm, ?_⟩
  refine ha B I0 I H σ r _ fun v I1 H1 f1 d1 => ?_
  refine hb B I0 I1 H1 σ (r.ext f1) _ fun w I2 H2 f2 d2 => ?_
  exact hv I2 H2 v w Q f2.ih (dp_mono f2.i d1) d2 fun u I3 H3 f3 d3 => q u I3 H3 ((f1.trans f2).trans f3) d3
theorem t_cmp {op : CmpOp} (ha : E K F a ρ x) (hb : E K F b ρ y) (ho : OpD K F (compareOp op) x y (.bool t)) (hm : behindInMarks op b = false := by first | exact nomark _ | rfl) : T K F (.Compare a [op] [b] pos) ρ t := fun B I0 I H σ r Q q => by
  obtain ⟨rr, hr, hv⟩ := ho
  refine ⟨_, fun i => pt_cmpR (hr i) (pe_tE i) (pe_tE i) hm, ?_⟩
  refine ha B I0 I H σ r _ fun v I1 H1 f1 d1 => ?_
  refine hb B I0 I1 H1 σ (r.ext f1) _ fun w I2 H2 f2 d2 => ?_
  refine hv I2 H2 v w _ f2.ih (dp_mono f2.i d1) d2 fun u I3 H3 f3 d3 => ?_
  cases d3
  exact ⟨t, rfl, q I3 H3 ((f1.trans f2).trans f3)⟩
theorem e_sub {g : Int} (h : E K F a ρ (.int g)) : E K F (.UnaryOp .USub a pos) ρ (.int (-g)) := fun B I0 I H σ r Q q => by
  refine ⟨_, fun i => pe_un un_neg (pe_tE i), ?_⟩
  refine h B I0 I H σ r _ fun v I1 H1 f1 d1 => ?_
  cases d1
  exact ⟨g, rfl, q _ I1 H1 f1 (.int _)⟩
/-! ### tests -/
theorem t_val (h : E K F a ρ (.bool t)) (he : ∀ i whole, isTrue a (F i).env whole = (do let v ← whole; standAt a.pos; holding [v] (truthy v)) := by intro _ _; rfl) : T K F a ρ t := fun B I0 I H σ r Q q => by
  refine ⟨_, fun i => pt_val (pe_tE i) (he i), ?_⟩
  refine h B I0 I H σ r _ fun v I1 H1 f1 d1 => ?_
  cases d1
  exact ⟨t, rfl, q I1 H1 f1⟩
theorem t_not (h : T K F a ρ t) : T K F (.UnaryOp .Not a pos) ρ (!t) := fun B I0 I H σ r Q q =>
  ⟨_, fun i => pt_not (pt_tT i), h B I0 I H σ r _ fun I1 H1 f1 => q I1 H1 f1⟩
theorem t_of (h : TW K F a ρ t) : T K F a ρ t := fun B I0 I H σ r Q q => ⟨_, fun i => (pw_tW i).pt, h B I0 I H σ r Q q⟩
theorem t_and1 (h : T K F a ρ t) : TW K F (.BoolOp .And [a] pos) ρ t := fun B I0 I H σ r Q q => ⟨_, fun i => pw_and1 (pt_tT i), h B I0 I H σ r Q q⟩
theorem t_or1 (h : T K F a ρ t) : TW K F (.BoolOp .Or [a] pos) ρ t := fun B I0 I H σ r Q q => ⟨_, fun i => pw_or1 (pt_tT i), h B I0 I H σ r Q q⟩
theorem t_and (h : T K F a ρ t) (g : t = true → TW K F (.BoolOp .And (b :: es) pos) ρ u) : TW K F (.BoolOp .And (a :: b :: es) pos) ρ (t && u) := fun B I0 I H σ r Q q => by
  refine ⟨_, fun i => pw_and (pt_tT i) (pw_tW i), ?_⟩
  refine h B I0 I H σ r _ fun I1 H1 f1 => ?_
  cases t with
  | true => exact g rfl B I0 I1 H1 σ (r.ext f1) Q fun I2 H2 f2 => q I2 H2 (f1.trans f2)
  | false => exact q I1 H1 f1
theorem t_or (h : T K F a ρ t) (g : t = false → TW K F (.BoolOp .Or (b :: es) pos) ρ u) : TW K F (.BoolOp .Or (a :: b :: es) pos) ρ (t || u) := fun B I0 I H σ r Q q => by
  refine ⟨_, fun i => pw_or (pt_tT i) (pw_tW i), ?_⟩
  refine h B I0 I H σ r _ fun I1 H1 f1 => ?_
  cases t with
  | false => exact g rfl B I0 I1 H1 σ (r.ext f1) Q fun I2 H2 f2 => q I2 H2 (f1.trans f2)
  | true => exact q I1 H1 f1
/-! ### and, or, not, if as values -/
theorem e_one {op : BoolOp} (h : E K F a ρ x) : E K F (.BoolOp op [a] pos) ρ x := fun B I0 I H σ r Q q => ⟨_, fun i => pe_one (pe_tE i), h B I0 I H σ r Q q⟩
theorem e_and (h : E K F a ρ (.bool t)) (g : t = true → E K F (.BoolOp .And (b :: es) pos) ρ (.bool u)) : E K F (.BoolOp .And (a :: b :: es) pos) ρ (.bool (t && u)) := fun B I0 I H σ r Q q => by
  refine ⟨_, fun i => pe_and (pe_tE i) (pe_tE i), ?_⟩
  refine h B I0 I H σ r _ fun v I1 H1 f1 d1 => ?_
  cases d1
  refine ⟨t, rfl, ?_⟩
  cases t with
  | true => exact g rfl B I0 I1 H1 σ (r.ext f1) Q fun v I2 H2 f2 => q v I2 H2 (f1.trans f2)
  | false => exact q _ I1 H1 f1 (.bl _)
theorem e_or (h : E K F a ρ (.bool t)) (g : t = false → E K F (.BoolOp .Or (b :: es) pos) ρ (.bool u)) : E K F (.BoolOp .Or (a :: b :: es) pos) ρ (.bool (t || u)) := fun B I0 I H σ r Q q => by
  refine ⟨_, fun i => pe_or (pe_tE i) (pe_tE i), ?_⟩
  refine h B I0 I H σ r _ fun v I1 H1 f1 d1 => ?_
  cases d1
  refine ⟨t, rfl, ?_⟩
  cases t with
  | false => exact g rfl B I0 I1 H1 σ (r.ext f1) Q fun v I2 H2 f2 => q v I2 H2 (f1.trans f2)
  | true => exact q _ I1 H1 f1 (.bl _)
theorem e_not (h : E K F a ρ (.bool t)) : E K F (.UnaryOp .Not a pos) ρ (.bool (!t)) := fun B I0 I H σ r Q q => by
  refine ⟨_, fun i => pe_not (pe_tE i), ?_⟩
  refine h B I0 I H σ r _ fun v I1 H1 f1 d1 => ?_
  cases d1
  exact ⟨t, rfl, q _ I1 H1 f1 (.bl _)⟩
theorem e_if (h : T K F c ρ t) (h1 : t = true → E K F a ρ d) (h2 : t = false → E K F b ρ d) : E K F (.IfExp c a b pos) ρ d := fun B I0 I H σ r Q q => by
  refine ⟨_, fun i => pe_ifExp (pt_tT i) (pe_tE i) (pe_tE i), ?_⟩
  refine h B I0 I H σ r _ fun I1 H1 f1 => ?_
  cases t with
  | true => exact h1 rfl B I0 I1 H1 σ (r.ext f1) Q fun v I2 H2 f2 => q v I2 H2 (f1.trans f2)
  | false => exact h2 rfl B I0 I1 H1 σ (r.ext f1) Q fun v I2 H2 f2 => q v I2 H2 (f1.trans f2)
/-! ### arguments, displays -/
theorem a_nil : A K F [] ρ [] := fun B I0 I H σ r Q q => ⟨_, fun i => pa_nil, q [] I H (Fr.refl r.fr.ih) .nil⟩
theorem a_cons (h : E K F e ρ d) (g : A K F es ρ ds) (hs : ∀ i, starEach (e :: es) (F i).env = (false, eval e (F i).env) :: starEach es (F i).env := by intro _; rfl) : A K F (e :: es) ρ (d :: ds) := fun B I0 I H σ r Q q => by
  refine ⟨_, fun i => pa_cons (pe_tE i) (pa_tA i) (hs i), ?_⟩
  refine h B I0 I H σ r _ fun v I1 H1 f1 d1 => ?_
  refine g B I0 I1 H1 σ (r.ext f1) _ fun vs I2 H2 f2 d2 => ?_
  exact q _ I2 H2 (f1.trans f2) (.cons (dp_mono f2.i d1) d2)
theorem ak_nil : AK K F [] ρ [] := fun B I0 I H σ r Q q => ⟨_, fun i => pk_nil, q [] I H (Fr.refl r.fr.ih) .nil⟩
theorem ak_cons {nm : Option Str} {kpos : Pos} {kws : List Keyword} (h : E K F e ρ d) (g : AK K F kws ρ ds) : AK K F (⟨nm, e, kpos⟩ :: kws) ρ (d :: ds) := fun B I0 I H σ r Q q => by
  refine ⟨_, fun i => pk_cons (pe_tE i) (pk_tK i), ?_⟩
  refine h B I0 I H σ r _ fun v I1 H1 f1 d1 => ?_
  refine g B I0 I1 H1 σ (r.ext f1) _ fun vs I2 H2 f2 d2 => ?_
  exact q _ I2 H2 (f1.trans f2) (.cons (dp_mono f2.i d1) d2)
theorem e_tup {k : Nat} (h : A K F es ρ ds) (hl : ds.length ≤ sizeLine := by first | (show _ ≤ sizeLine; decide) | (rw [sizeLine_eq]; simp <;> omega)) : E K F (.Tuple es k pos) ρ (.tuple ds) := fun B I0 I H σ r Q q => by
  refine ⟨_, fun i => pe_tupF (pa_tA i), ?_⟩
  refine h B I0 I H σ r _ fun vs I1 H1 f1 d1 => ?_
  refine ⟨by rw [dpa_len d1]; exact hl, fun p o po hp => ?_⟩
  have f2 := Fr.new (o := .frz o (.tup vs)) f1.ih hp po.2
  exact q _ _ _ (f1.trans f2) (.tup (sqt_frz upd_same) (dpa_mono f2.i d1))
theorem el_list (h : A K F es ρ ds) (hl : ds.length ≤ sizeLine := by first | (show _ ≤ sizeLine; decide) | (rw [sizeLine_eq]; simp <;> omega)) : EL K F (.List es pos) ρ ds := fun B I0 I H σ r Q q => by
  refine ⟨_, fun i => pe_lst (pa_tA i), ?_⟩
  refine h B I0 I H σ r _ fun vs I1 H1 f1 d1 => ?_
  refine ⟨by rw [dpa_len d1]; exact hl, fun p hp => ?_⟩
  have f2 := Fr.own (o := .lst vs) f1.ih hp
  refine q p vs I1 _ (f1.trans f2) ?_ (Ex.none f1.ih hp) upd_same d1
  cases e : H p with
  | none => rfl
  | some o => rw [f1.h p o e] at hp; cases hp
/-! ### subscripts, slices -/
theorem o_none : O K F none ρ none := fun B I0 I H σ r Q q => ⟨_, fun i => po_none, q I H (Fr.refl r.fr.ih)⟩
theorem o_some {n : Int} (h : E K F e ρ (.int n)) : O K F (some e) ρ (some n) := fun B I0 I H σ r Q q => by
  refine ⟨_, fun i => po_some (pe_tE i), ?_⟩
  refine h B I0 I H σ r _ fun v I1 H1 f1 d1 => ?_
  cases d1
  exact ⟨n, rfl, q I1 H1 f1⟩
theorem e_slice {lo hi : Option Expr} {p2 : Pos} {m n : Option Int} (h : E K F e ρ x) (h1 : O K F lo ρ m) (h2 : O K F hi ρ n) (hs : SlD K F x m n z) : E K F (.Subscript e (.Slice lo hi none p2) pos) ρ z := fun B I0 I H σ r Q q => by
  obtain ⟨rr, hr, hv⟩ := hs
  refine ⟨_, fun i => pe_slice (hr i) (pe_tE i) (po_tO i) (po_tO i), ?_⟩
  refine h B I0 I H σ r _ fun v I1 H1 f1 d1 => ?_
  refine h1 B I0 I1 H1 σ (r.ext f1) _ fun I2 H2 f2 => ?_
  refine h2 B I0 I2 H2 σ ((r.ext f1).ext f2) _ fun I3 H3 f3 => ?_
  exact hv I3 H3 v Q f3.ih (dp_mono f3.i (dp_mono f2.i d1)) fun u I4 H4 f4 d4 => q u I4 H4 (((f1.trans f2).trans f3).trans f4) d4
/-- o[i] -/
def IxD (K : PySem.W.Frag) {ι : Type} (F : ι → Cx) (x y z : PyData) : Prop := ∃ r : R2, (∀ i, IxR (F i) r) ∧ ∀ I H a b (Q : VK), Ex I H → Dp K I a x → Dp K I b y → (∀ v I' H', Fr I H I' H' → Dp K I' v z → Q v H') → r a b H Q
theorem e_ix (ha : E K F a ρ x) (hb : E K F b ρ y) (ho : IxD K F x y z) (hp : PlainIx b := by exact fun _ _ => rfl) : E K F (.Subscript a b pos) ρ z := fun B I0 I H σ r Q q => by
  obtain ⟨rr, hr, hv⟩ := ho
  refine ⟨_, fun i => pe_ix (hr i) (pe_tE i) (pe_tE i) hp, ?_⟩
  refine ha B I0 I H σ r _ fun v I1 H1 f1 d1 => ?_
  refine hb B I0 I1 H1 σ (r.ext f1) _ fun w I2 H2 f2 d2 => ?_
  exact hv I2 H2 v w Q f2.ih (dp_mono f2.i d1) d2 fun u I3 H3 f3 d3 => q u I3 H3 ((f1.trans f2).trans f3) d3
/-! ### calls of built-ins, methods -/
section
variable {n : Str} {p : Pos}
theorem e_blt {id : String} (ha : A K F (e :: es) ρ ds) (ho : CallD K F (.builtin id) ds z) (hm : ∀ i, (F i).mg n = none) (hv : bootBuiltins n = some (.builtin id) := by decide +kernel) (hg : ∀ i, Gl (F i) n := by intro _; rfl)
    (hn : n ≠ "__name__" := by decide) (hdb : (n == ("__debug__" : Str)) = false := by decide) (he : ∀ i, starEach (e :: es) (F i).env = (false, eval e (F i).env) :: starEach es (F i).env := by intro _; rfl) (hpl : ∀ i, (backTo pos (starEach es (F i).env)).any (·.1) = false := by intro _; rfl) :
    E K F (.Call (.Name n p) (e :: es) [] pos) ρ z := fun B I0 I H σ r Q q => by
  obtain ⟨rr, hr, hv'⟩ := ho
  refine ⟨_, fun i => pe_callB (hr i) (hg i) (hm i) hv (pa_tA i) hn hdb (he i) (hpl i), ?_⟩
  refine ha B I0 I H σ r _ fun vs I1 H1 f1 d1 => ?_
  exact hv' I1 H1 vs Q f1.ih d1 fun u I3 H3 f3 d3 => q u I3 H3 (f1.trans f3) d3
theorem el_blt {id : String} (ha : A K F (e :: es) ρ ds) {ws : List PyData} (ho : CallDL K F (.builtin id) ds ws) (hm : ∀ i, (F i).mg n = none) (hv : bootBuiltins n = some (.builtin id) := by decide +kernel) (hg : ∀ i, Gl (F i) n := by intro _; rfl)
    (hn : n ≠ "__name__" := by decide) (hdb : (n == ("__debug__" : Str)) = false := by decide) (he : ∀ i, starEach (e :: es) (F i).env = (false, eval e (F i).env) :: starEach es (F i).env := by intro _; rfl) (hpl : ∀ i, (backTo pos (starEach es (F i).env)).any (·.1) = false := by intro _; rfl) :
    EL K F (.Call (.Name n p) (e :: es) [] pos) ρ ws := fun B I0 I H σ r Q q => by
  obtain ⟨rr, hr, hv'⟩ := ho
  refine ⟨_, fun i => pe_callB (hr i) (hg i) (hm i) hv (pa_tA i) hn hdb (he i) (hpl i), ?_⟩
  refine ha B I0 I H σ r _ fun vs I1 H1 f1 d1 => ?_
  refine hv' I1 H1 vs Q f1.ih d1 fun l us I3 H3 f3 g1 g2 g3 g4 => q l us I3 H3 (f1.trans f3) ?_ g2 g3 g4
  cases e : H l with
  | none => rfl
  | some o => rw [f1.h l o e] at g1; cases g1
theorem e_ty {T : String} (ha : A K F (e :: es) ρ ds) (ho : CallD K F (.type T) ds z) (hm : ∀ i, (F i).mg n = none) (hv : bootBuiltins n = some (.type T) := by decide +kernel) (hg : ∀ i, Gl (F i) n := by intro _; rfl)
    (hn : n ≠ "__name__" := by decide) (hdb : (n == ("__debug__" : Str)) = false := by decide) (he : ∀ i, starEach (e :: es) (F i).env = (false, eval e (F i).env) :: starEach es (F i).env := by intro _; rfl) (hpl : ∀ i, (backTo pos (starEach es (F i).env)).any (·.1) = false := by intro _; rfl) :
    E K F (.Call (.Name n p) (e :: es) [] pos) ρ z := fun B I0 I H σ r Q q => by
  obtain ⟨rr, hr, hv'⟩ := ho
  refine ⟨_, fun i => pe_callTy (hr i) (hg i) (hm i) hv (pa_tA i) hn hdb (he i) (hpl i), ?_⟩
  refine ha B I0 I H σ r _ fun vs I1 H1 f1 d1 => ?_
  exact hv' I1 H1 vs Q f1.ih d1 fun u I3 H3 f3 d3 => q u I3 H3 (f1.trans f3) d3
theorem el_ty {T : String} (ha : A K F (e :: es) ρ ds) {ws : List PyData} (ho : CallDL K F (.type T) ds ws) (hm : ∀ i, (F i).mg n = none) (hv : bootBuiltins n = some (.type T) := by decide +kernel) (hg : ∀ i, Gl (F i) n := by intro _; rfl)
    (hn : n ≠ "__name__" := by decide) (hdb : (n == ("__debug__" : Str)) = false := by decide) (he : ∀ i, starEach (e :: es) (F i).env = (false, eval e (F i).env) :: starEach es (F i).env := by intro _; rfl) (hpl : ∀ i, (backTo pos (starEach es (F i).env)).any (·.1) = false := by intro _; rfl) :
    EL K F (.Call (.Name n p) (e :: es) [] pos) ρ ws := fun B I0 I H σ r Q q => by
  obtain ⟨rr, hr, hv'⟩ := ho
  refine ⟨_, fun i => pe_callTy (hr i) (hg i) (hm i) hv (pa_tA i) hn hdb (he i) (hpl i), ?_⟩
  refine ha B I0 I H σ r _ fun vs I1 H1 f1 d1 => ?_
  refine hv' I1 H1 vs Q f1.ih d1 fun l us I3 H3 f3 g1 g2 g3 g4 => q l us I3 H3 (f1.trans f3) ?_ g2 g3 g4
  cases e : H l with
  | none => rfl
  | some o => rw [f1.h l o e] at g1; cases g1
theorem e_mathf {id : String} (ha : A K F (e :: es) ρ ds) (ho : CallD K F (.builtin id) ds z) (hm : ∀ i, (F i).mg n = some (.builtin id)) (hg : ∀ i, Gl (F i) n := by intro _; rfl)
    (hdb : (n == ("__debug__" : Str)) = false := by decide) (he : ∀ i, starEach (e :: es) (F i).env = (false, eval e (F i).env) :: starEach es (F i).env := by intro _; rfl) (hpl : ∀ i, (backTo pos (starEach es (F i).env)).any (·.1) = false := by intro _; rfl) :
    E K F (.Call (.Name n p) (e :: es) [] pos) ρ z := fun B I0 I H σ r Q q => by
  obtain ⟨rr, hr, hv'⟩ := ho
  refine ⟨_, fun i => pe_callBfun (hr i) (hg i) (hm i) (pa_tA i) hdb (he i) (hpl i), ?_⟩
  refine ha B I0 I H σ r _ fun vs I1 H1 f1 d1 => ?_
  exact hv' I1 H1 vs Q f1.ih d1 fun u I3 H3 f3 d3 => q u I3 H3 (f1.trans f3) d3
end
end
end K67
namespace K67
open PySem PySem.Spec PyProof.Rows L2
open Evl (Ex ex_l ex_t)

section
variable {K : PySem.W.Frag} {ι : Type} {F : ι → Cx} {e a b c : Expr} {es : List Expr} {ρ ρ2 : DE} {d x y z : PyData} {ds : List PyData} {pos : Pos} {t u : Bool} {Δ : De} {st : Stmt} {sts sts2 : List Stmt} {js : List Nat}
/-! ### blocks -/
theorem ss_nil (h : Δ.nx ρ) : Ss K F [] ρ Δ := fun B I0 I H σ D r re => ⟨_, fun i => pss_nil, re.nx I H σ ρ r h⟩
theorem ss_cons (h : S K F st ρ { Δ with nx := fun ρ' => Ss K F sts ρ' Δ }) : Ss K F (st :: sts) ρ Δ := fun B I0 I H σ D r re => by
  refine ⟨_, fun i => pss_cons (ps_tS i) (pss_tSs i), ?_⟩
  exact h B I0 I H σ { D with nx := tSs F sts D } r ⟨fun I' H' σ' ρ' r' n => n B I0 I' H' σ' D r' re, re.rt, re.bk, re.ct, re.rl⟩
theorem Ss.mono {Δ' : De} (h : Ss K F sts ρ Δ) (h1 : ∀ ρ, Δ.nx ρ → Δ'.nx ρ) (h2 : ∀ ρ d, Δ.rt ρ d → Δ'.rt ρ d) (h3 : ∀ ρ, Δ.bk ρ → Δ'.bk ρ) (h4 : ∀ ρ, Δ.ct ρ → Δ'.ct ρ) (h5 : ∀ ds, Δ.rl ds → Δ'.rl ds) : Ss K F sts ρ Δ' := fun B I0 I H σ D r re =>
  h B I0 I H σ D r ⟨fun I H σ ρ r n => re.nx I H σ ρ r (h1 ρ n), fun v d I H σ ρ r dv n => re.rt v d I H σ ρ r dv (h2 ρ d n), fun I H σ ρ r n => re.bk I H σ ρ r (h3 ρ n), fun I H σ ρ r n => re.ct I H σ ρ r (h4 ρ n), fun l ws ds I H σ ρ r g1 g2 g3 g4 n => re.rl l ws ds I H σ ρ r g1 g2 g3 g4 (h5 ds n)⟩
theorem Re.unbase {B I0 I1 H1 : Hp} {σ1 : L2.St} {ρ1 : DE} {D : Ends} (r1 : R K B I0 I1 H1 σ1 ρ1) (re : Re K B I0 Δ D) : Re K B I1 Δ D :=
  ⟨fun I H σ ρ r n => re.nx I H σ ρ (r1.unbase r) n, fun v d I H σ ρ r dv n => re.rt v d I H σ ρ (r1.unbase r) dv n,
    fun I H σ ρ r n => re.bk I H σ ρ (r1.unbase r) n, fun I H σ ρ r n => re.ct I H σ ρ (r1.unbase r) n, fun l ws ds I H σ ρ r g1 g2 g3 g4 n => re.rl l ws ds I H σ ρ (r1.unbase r) g1 g2 g3 g4 n⟩
/-! ### targets -/
theorem tg_name {n : Str} (j : Nat) (hN : ∀ i, (F i).N.Nodup) (hi : ∀ i, (F i).N[j]? = some n := by intro _; rfl) (hx : ∀ i, Loc (F i).env.scope n := by intro _; first | exact Or.inl rfl | exact Or.inr rfl)
    (hf : ∀ i, (F i).fn n = true ∨ (F i).env.scope.names.lookup n = some .local := by intro _; first | exact Or.inl rfl | exact Or.inr rfl) : Tg K F (.Name n pos) [j] d ρ (ρ.set j (.im d)) := fun B I0 I H σ v r dv Q q => by
  refine ⟨gName j, fun i => pg_name (hN i) (hi i) (hx i) (hf i), ?_⟩
  refine q _ (r.set dv) ⟨by simp, fun k hk => ?_⟩
  rw [List.getElem?_set_ne (fun z => hk (by simp [z]))]
theorem tgs_nil : Tgs K F [] [] [] ρ ρ := fun B I0 I H σ vs r dv Q q => by
  cases dv
  exact ⟨gNil, fun i => pgs_nil, rfl, q σ r ⟨rfl, fun _ _ => rfl⟩⟩
theorem tgs_cons {ρ1 : DE} {js' : List Nat} (h : Tg K F e js d ρ ρ1) (g : Tgs K F es js' ds ρ1 ρ2) (hs : ∀ i, (assignEach (e :: es) (F i).env).map (·.2) = assign e (F i).env :: (assignEach es (F i).env).map (·.2) := by intro _; rfl) :
    Tgs K F (e :: es) (js ++ js') (d :: ds) ρ ρ2 := fun B I0 I H σ vs r dv Q q => by
  refine ⟨_, fun i => pgs_cons (pg_tG i) (pgs_tGs i) (hs i), ?_⟩
  cases dv with
  | cons d1 d2 =>
    refine ⟨_, _, rfl, ?_⟩
    refine h B I0 I H σ _ r d1 _ fun σ1 r1 ⟨l1, k1⟩ => ?_
    refine g B I0 I H σ1 _ r1 d2 _ fun σ2 r2 ⟨l2, k2⟩ => ?_
    refine q σ2 r2 ⟨l2.trans l1, fun j hj => ?_⟩
    rw [k2 j fun z => hj (List.mem_append_right _ z), k1 j fun z => hj (List.mem_append_left _ z)]
theorem tg_tup {k : Nat} (hK : ∀ i, (F i).K = K) (hc : ∀ i, (F i).calm = true := by intro _; rfl) (h : Tgs K F es js ds ρ ρ2) (hl : ∀ i, (assignEach es (F i).env).length = ds.length := by intro _; rfl) (hst : ∀ i, (assignEach es (F i).env).findIdx? (·.1) = none := by intro _; rfl) :
    Tg K F (.Tuple es k pos) js (.tuple ds) ρ ρ2 := fun B I0 I H σ v r dv Q q => by
  refine ⟨gTup K ds.length (tGs F es), fun i => by rw [← hK i]; exact pg_tup (hc i) (pgs_tGs i) (hl i) (hst i), ?_⟩
  cases dv with
  | tup hs ha => exact ⟨_, _, rfl, ex_t r.fr.ih hs, dpa_len ha, h B I0 I H σ _ r ha Q q⟩
/-! ### statements -/
theorem s_asg {tg : Expr} (he : E K F e ρ d) (hg : Tg K F tg js d ρ ρ2) (h : Δ.nx ρ2) (hs : ∀ i, swapsWithSole [tg] e pos.line (F i).env = pure false := by intro _; rfl) (hw : ∀ i, swappedStores [tg] e (F i).env = pure none := by intro _; rfl)
    (h1 : ∀ i, (assignEach [tg] (F i).env).map (·.2) = [assign tg (F i).env] := by intro _; rfl) : S K F (.Assign [tg] e pos) ρ Δ := fun B I0 I H σ D r re => by
  refine ⟨_, fun i => ps_asg (pe_tE i) (pg_tG i) (hs i) (hw i) (h1 i), ?_⟩
  refine he B I0 I H σ r _ fun v I1 H1 f1 d1 => ?_
  exact hg B I0 I1 H1 σ v (r.ext f1) d1 _ fun σ2 r2 _ => re.nx I1 H1 σ2 ρ2 r2 h
/-- name = e -/
theorem s_set {n : Str} {p' : Pos} (j : Nat) (he : E K F e ρ d) (hN : ∀ i, (F i).N.Nodup) (h : Δ.nx (ρ.set j (.im d))) (hi : ∀ i, (F i).N[j]? = some n := by intro _; rfl) (hx : ∀ i, Loc (F i).env.scope n := by intro _; first | exact Or.inl rfl | exact Or.inr rfl)
    (hs : ∀ i, swapsWith e (some (.Name n p')) pos.line (F i).env = pure false := by intro _; rfl) (hf : ∀ i, (F i).fn n = true ∨ (F i).env.scope.names.lookup n = some .local := by intro _; first | exact Or.inl rfl | exact Or.inr rfl) : S K F (.Assign [.Name n p'] e pos) ρ Δ := fun B I0 I H σ D r re => by
  refine ⟨_, fun i => ps_set (hN i) (hi i) (hx i) (pe_tE i) (hs i) (hf i), ?_⟩
  refine he B I0 I H σ r _ fun v I1 H1 f1 d1 => ?_
  exact re.nx I1 H1 _ _ ((r.ext f1).set d1) h
/-- name = a new list, one's own -/
theorem s_setL {n : Str} {p' : Pos} (j : Nat) (he : EL K F e ρ ds) (hN : ∀ i, (F i).N.Nodup) (h : Δ.nx (ρ.set j (.ow ds))) (hi : ∀ i, (F i).N[j]? = some n := by intro _; rfl) (hx : ∀ i, Loc (F i).env.scope n := by intro _; first | exact Or.inl rfl | exact Or.inr rfl)
    (hs : ∀ i, swapsWith e (some (.Name n p')) pos.line (F i).env = pure false := by intro _; rfl) (hf : ∀ i, (F i).fn n = true ∨ (F i).env.scope.names.lookup n = some .local := by intro _; first | exact Or.inl rfl | exact Or.inr rfl) : S K F (.Assign [.Name n p'] e pos) ρ Δ := fun B I0 I H σ D r re => by
  refine ⟨_, fun i => ps_set (hN i) (hi i) (hx i) (pe_tE i) (hs i) (hf i), ?_⟩
  refine he B I0 I H σ r _ fun l vs I1 H1 f1 g1 g2 g3 g4 => ?_
  have nB : B l = none := Ex.none r.fr.h g1
  refine re.nx I1 H1 _ _ ((r.ext f1).setOw nB g2 g3 g4 fun k us hk hu hO hσ => ?_) h
  obtain ⟨l2, vs2, k1, k2, k3, k4⟩ := r.lo hu hO
  rw [hσ] at k1
  cases k1
  rw [g1] at k4
  cases k4
theorem s_expr (he : E K F e ρ d) (h : Δ.nx ρ) (hs : ∀ i, swapsWith e none pos.line (F i).env = pure false := by intro _; rfl) : S K F (.Expr e pos) ρ Δ := fun B I0 I H σ D r re => by
  refine ⟨_, fun i => ps_expr (pe_tE i) (hs i), ?_⟩
  exact he B I0 I H σ r _ fun v I1 H1 f1 d1 => re.nx I1 H1 σ ρ (r.ext f1) h
theorem s_ret (he : E K F e ρ d) (h : Δ.rt ρ d) : S K F (.Return (some e) pos) ρ Δ := fun B I0 I H σ D r re => by
  refine ⟨_, fun i => ps_ret (pe_tE i), ?_⟩
  exact he B I0 I H σ r _ fun v I1 H1 f1 d1 => re.rt v d I1 H1 σ ρ (r.ext f1) d1 h
/-- return a new list, or a list of one's own -/
theorem s_retL (he : EL K F e ρ ds) (h : Δ.rl ds) : S K F (.Return (some e) pos) ρ Δ := fun B I0 I H σ D r re => by
  refine ⟨_, fun i => ps_ret (pe_tE i), ?_⟩
  refine he B I0 I H σ r _ fun l ws I1 H1 f1 g1 g2 g3 g4 => ?_
  exact re.rl l ws ds I1 H1 σ ρ (r.ext f1) (Ex.none r.fr.h g1) g2 g3 g4 h
theorem s_retO {n : Str} {p1 : Pos} {lo : Option Addr} (j : Nat) (hρ : ρ[j]? = some (.own lo ds)) (h : Δ.rl ds) (hN : ∀ i, (F i).N[j]? = some n := by intro _; rfl) (hv : ∀ i, Vis (F i).env.scope n := by intro _; first | exact Or.inl rfl | exact Or.inr (Or.inl rfl) | exact Or.inr (Or.inr rfl))
    (hd : (n == ("__debug__" : Str)) = false := by decide) (hcd : (n == ("__classdict__" : Str)) = false := by decide) : S K F (.Return (some (.Name n p1)) pos) ρ Δ := fun B I0 I H σ D r re => by
  refine ⟨_, fun i => ps_ret (pe_var (hN i) (hv i) hd hcd), ?_⟩
  obtain ⟨l, vs, g1, g2, g3, g4, g5, g6⟩ := r.ow j lo ds hρ
  exact ⟨.ref l, g1, re.rl l vs ds I H σ ρ r g2 g3 g4 g5 h⟩
/-- a list of one's own becomes data -/
theorem ss_freeze (j : Nat) {lo : Option Addr} (hρ : ρ[j]? = some (.own lo ds)) (h : Ss K F sts (ρ.set j (.im (.list ds))) Δ) : Ss K F sts ρ Δ := fun B I0 I H σ D r re => by
  obtain ⟨l, vs, g1, g2, g3, g4, g5, g6⟩ := r.ow j lo ds hρ
  have hj : j < ρ.length := (List.getElem?_eq_some_iff.mp hρ).1
  have ei : Ex I (upd I l (.lst vs)) := Evl.Ex.new g3
  refine h B I0 (upd I l (.lst vs)) H σ D ⟨r.fr.freeze g2 g3 g4, r.nd.upd trivial, by simp [r.len], fun k x hk => ?_, fun k lo2 us hk => ?_, fun k l2 n hk => ?_, fun k m s t l' hk hm hs ht sk sm => ?_⟩ re
  · rcases set_cases hk with ⟨rfl, q, z⟩ | ⟨hn, q⟩
    · cases z
      exact ⟨.ref l, g1, .lst (SqL.of upd_same) (dpa_mono ei g5)⟩
    · obtain ⟨v, k1, k2⟩ := r.im k x q
      exact ⟨v, k1, dp_mono ei k2⟩
  · rcases set_cases hk with ⟨rfl, q, z⟩ | ⟨hn, q⟩
    · cases z
    · obtain ⟨l2, vs2, k1, k2, k3, k4, k5, k6⟩ := r.ow k lo2 us q
      refine ⟨l2, vs2, k1, k2, ?_, k4, dpa_mono ei k5, k6⟩
      rw [upd_ne (fun z => by subst z; exact hn (r.dis j k _ _ l2 hρ q rfl rfl g1 k1))]
      exact k3
  · rcases set_cases hk with ⟨rfl, q, z⟩ | ⟨hn, q⟩
    · cases z
    · obtain ⟨vs2, ds2, k1, k2, k3, k4, k5, k6⟩ := r.fd k l2 n q
      refine ⟨vs2, ds2, k1, k2, ?_, k4, dpa_mono ei k5, k6⟩
      rw [upd_ne (fun z => by subst z; exact hn (r.dis j k _ _ l2 hρ q rfl rfl g1 k1))]
      exact k3
  · rcases set_cases hk with ⟨rfl, q, z⟩ | ⟨n1, q⟩
    · subst z; cases hs
    · rcases set_cases hm with ⟨rfl, q2, z⟩ | ⟨n2, q2⟩
      · subst z; cases ht
      · exact r.dis k m s t l' q q2 hs ht sk sm
theorem s_if (hc : T K F c ρ t) (h1 : t = true → Ss K F sts ρ Δ) (h2 : t = false → Ss K F sts2 ρ Δ) : S K F (.If c sts sts2 pos) ρ Δ := fun B I0 I H σ D r re => by
  refine ⟨_, fun i => ps_if (pt_tT i) (pss_tSs i) (pss_tSs i), ?_⟩
  refine hc B I0 I H σ r _ fun I1 H1 f1 => ?_
  cases t with
  | true => exact h1 rfl B I0 I1 H1 σ D (r.ext f1) re
  | false => exact h2 rfl B I0 I1 H1 σ D (r.ext f1) re
theorem ss_never (h : False) : Ss K F sts ρ Δ := h.elim
theorem s_brk (h : Δ.bk ρ) : S K F (.Break pos) ρ Δ := fun B I0 I H σ D r re => ⟨_, fun i => ps_break, re.bk I H σ ρ r h⟩
/-- name op= e, ints -/
def IpD (K : PySem.W.Frag) {ι : Type} (F : ι → Cx) (op : Operator) (x y z : PyData) : Prop := ∃ rr : TIp, (∀ i, PIp (F i) op rr) ∧ ∀ I H a b (Q : VK), Ex I H → Dp K I a x → Dp K I b y → (∀ v I' H', Fr I H I' H' → Dp K I' v z → Q v H') → rr a b H Q
theorem s_aug {n : Str} {p' : Pos} {op : Operator} (j : Nat) (hρ : ρ[j]? = some (.im x)) (he : E K F e ρ y) (ho : IpD K F op x y z) (hN : ∀ i, (F i).N.Nodup) (h : Δ.nx (ρ.set j (.im z))) (hi : ∀ i, (F i).N[j]? = some n := by intro _; rfl) (hx : ∀ i, Loc (F i).env.scope n := by intro _; first | exact Or.inl rfl | exact Or.inr rfl)
    (hf : ∀ i, (F i).fn n = true ∨ (F i).env.scope.names.lookup n = some .local := by intro _; first | exact Or.inl rfl | exact Or.inr rfl) : S K F (.AugAssign (.Name n p') op e pos) ρ Δ := fun B I0 I H σ D r re => by
  obtain ⟨rr, hr, hv⟩ := ho
  refine ⟨_, fun i => ps_aug (hN i) (hi i) (hx i) (pe_tE i) (hr i) (hf i), ?_⟩
  obtain ⟨v0, g1, g2⟩ := r.im j x hρ
  refine ⟨v0, g1, ?_⟩
  refine he B I0 I H σ r _ fun v I1 H1 f1 d1 => ?_
  refine hv I1 H1 v0 v _ f1.ih (dp_mono f1.i g2) d1 fun w I2 H2 f2 d2 => ?_
  exact re.nx I2 H2 _ _ (((r.ext f1).ext f2).set d2) h
theorem ip_int {op : Operator} {f : Int → Int → Int} {m n : Int} (h : ∀ i, PIp (F i) op (ipI f)) : IpD K F op (.int m) (.int n) (.int (f m n)) := ⟨_, h, fun I H a b Q e d1 d2 q => by
  cases d1
  cases d2
  exact ⟨m, n, rfl, rfl, q _ I H (Fr.refl e) (.int _)⟩⟩
theorem ip_addI {m n : Int} : IpD K F .Add (.int m) (.int n) (.int (m + n)) := ip_int (f := fun i j => i + j) fun _ => ip_add
theorem ip_subI {m n : Int} : IpD K F .Sub (.int m) (.int n) (.int (m - n)) := ip_int (f := fun i j => i - j) fun _ => ip_sub
/-! ### own lists written -/
/-- x.append(e) -/
theorem s_app {n : Str} {p1 p2 p3 : Pos} (j : Nat) (hK : ∀ i, (F i).K = K) {lo : Option Addr} (hρ : ρ[j]? = some (.own lo ds)) (he : E K F e ρ d) (hz : ds.length < sizeLine) (h : Δ.nx (ρ.set j (.own lo (ds ++ [d])))) (hN : ∀ i, (F i).N[j]? = some n := by intro _; rfl) (hv : ∀ i, Vis (F i).env.scope n := by intro _; first | exact Or.inl rfl | exact Or.inr (Or.inl rfl) | exact Or.inr (Or.inr rfl))
    (hd : (n == ("__debug__" : Str)) = false := by decide) (hcd : (n == ("__classdict__" : Str)) = false := by decide)
    (h1 : ∀ i, attributeBase (.Name n p1) "append" (F i).env (eval (.Name n p1) (F i).env) = eval (.Name n p1) (F i).env := by intro _; rfl)
    (h2 : ∀ i, (((backTo p3 (starEach [e] (F i).env)).all (!·.1)) && ((backToKw p3 (keywordEach [] (F i).env)).all (·.1.isSome)) && decide (([e] : List Expr).length + ([] : List Keyword).length + (if ([] : List Keyword).isEmpty = true then 0 else 1) < 30)) = true := by intro _; rfl)
    (h3 : (p2.endLine == p3.line) = true := by rfl) (h4 : ∀ i, starEach [e] (F i).env = (false, eval e (F i).env) :: starEach [] (F i).env := by intro _; rfl) (h5 : ∀ i, ((backTo p3 (starEach [] (F i).env)).any (·.1)) = false := by intro _; rfl)
    (hs : ∀ i, swapsWith (.Call (.Attribute (.Name n p1) "append" p2) [e] [] p3) none pos.line (F i).env = pure false := by intro _; rfl) : S K F (.Expr (.Call (.Attribute (.Name n p1) "append" p2) [e] [] p3) pos) ρ Δ := fun B I0 I H σ D r re => by
  refine ⟨tDrop (tBM K "list" rAppend (tVar j) (tCons (tE F e) tNil)), fun i => ps_expr ?_ (hs i), ?_⟩
  · have q := pe_bm (X := F i) (apos := p2) (cpos := p3) PySem.F.plainAttrs_list PySem.F.slot_list_append PySem.F.type_list_append mt_append (pe_var (hN i) (hv i) hd hcd (pos := p1)) (pa_cons (pe_tE (F := F) (e := e) i) pa_nil (h4 i)) (h1 i) (h2 i) h3 (h4 i) (h5 i)
    rw [hK i] at q
    exact q
  · obtain ⟨l, vs, g1, g2, g3, g4, g5, g6⟩ := r.ow j lo ds hρ
    refine ⟨.ref l, g1, Or.inl ⟨rfl, vs, SqL.of g4⟩, ?_⟩
    refine he B I0 I H σ r _ fun v I1 H1 f1 d1 => ?_
    refine ⟨l, vs, v, rfl, rfl, f1.h l _ g4, by rw [dpa_len g5]; exact hz, ?_⟩
    exact re.nx I1 _ σ _ ((r.ext f1).write hρ g1 (dpa_app (dpa_mono f1.i g5) (dpa_one d1))) h
/-- x[i] = e -/
theorem s_seti {n : Str} {p1 p2 : Pos} {ix : Expr} (j : Nat) {m : Int} {k : Nat} {lo : Option Addr} (hρ : ρ[j]? = some (.own lo ds)) (he : E K F e ρ d) (hi : E K F ix ρ (.int m)) (hk : m = (k : Int)) (hl : k < ds.length) (h : Δ.nx (ρ.set j (.own lo (ds.set k d)))) (hN : ∀ i, (F i).N[j]? = some n := by intro _; rfl)
    (hv : ∀ i, Vis (F i).env.scope n := by intro _; first | exact Or.inl rfl | exact Or.inr (Or.inl rfl) | exact Or.inr (Or.inr rfl))
    (hd : (n == ("__debug__" : Str)) = false := by decide) (hcd : (n == ("__classdict__" : Str)) = false := by decide)
    (ha : ∀ i v, assign (.Subscript (.Name n p1) ix p2) (F i).env v = (do
      let ov ← holding [v] (eval (.Name n p1) (F i).env)
      let iv ← holding [v, ov] (eval ix (F i).env)
      standAt p2
      holding [v, ov, iv] (setItem ov iv v)
      release [v, ov, iv] []) := by intro _ _; rfl)
    (hs : ∀ i, swapsWithSole [.Subscript (.Name n p1) ix p2] e pos.line (F i).env = pure false := by intro _; rfl) (hw : ∀ i, swappedStores [.Subscript (.Name n p1) ix p2] e (F i).env = pure none := by intro _; rfl)
    (h1 : ∀ i, (assignEach [.Subscript (.Name n p1) ix p2] (F i).env).map (·.2) = [assign (.Subscript (.Name n p1) ix p2) (F i).env] := by intro _; rfl) : S K F (.Assign [.Subscript (.Name n p1) ix p2] e pos) ρ Δ := fun B I0 I H σ D r re => by
  subst hk
  refine ⟨_, fun i => ps_asg (pe_tE i) (pg_sub (pe_var (hN i) (hv i) hd hcd) (pe_tE (F := F) (e := ix) i) set_list (ha i)) (hs i) (hw i) (h1 i), ?_⟩
  refine he B I0 I H σ r _ fun v I1 H1 f1 d1 => ?_
  obtain ⟨l, vs, g1, g2, g3, g4, g5, g6⟩ := r.ow j lo ds hρ
  refine ⟨.ref l, g1, ?_⟩
  refine hi B I0 I1 H1 σ (r.ext f1) _ fun w I2 H2 f2 d2 => ?_
  cases d2
  have q4 := (f1.trans f2).h l _ g4
  refine ⟨l, vs, (k : Int), k, rfl, rfl, q4, ?_, ?_⟩
  · rw [dpa_len g5]
    exact Evl.ixN_nat hl
  · exact re.nx I2 _ σ _ (((r.ext f1).ext f2).write hρ g1 (dpa_set (dp_mono f2.i d1) (dpa_mono (f1.trans f2).i g5))) h
/-! ### what reads an own list and gives no part of it -/
def scalD : PyData → Bool
  | .none => true
  | .bool _ => true
  | .int _ => true
  | .str _ => true
  | _ => false
def flatD : PyData → Bool
  | .tuple ds => ds.all scalD
  | d => scalD d
theorem dp_scal {I I' : Hp} {v : V} {d : PyData} (h : scalD d = true) (q : Dp K I v d) : Dp K I' v d := by
  cases q with
  | non => exact .non
  | bl b => exact .bl b
  | int i => exact .int i
  | str i => exact .str i
  | lst _ _ => cases h
  | tup _ _ => cases h
theorem dpa_scal {I I' : Hp} : ∀ {vs : List V} {ds : List PyData}, ds.all scalD = true → DpAll K I vs ds → DpAll K I' vs ds
  | _, _, _, .nil => .nil
  | _, _, h, .cons a b => by
    rw [List.all_cons, Bool.and_eq_true] at h
    exact .cons (dp_scal h.1 a) (dpa_scal h.2 b)
def del (H : Hp) (l : Addr) : Hp := fun a => if a = l then none else H a
theorem del_same {H : Hp} {l : Addr} : del H l l = none := by unfold del; rw [if_pos rfl]
theorem del_ne {H : Hp} {l a : Addr} (h : a ≠ l) : del H l a = H a := by unfold del; rw [if_neg h]
theorem e_un {j : Nat} {lo : Option Addr} (h : E K F e (ρ.set j (.im (.list ds))) d) (hρ : ρ[j]? = some (.own lo ds)) (hf : flatD d = true) : E K F e ρ d := fun B I0 I H σ r Q q => by
  obtain ⟨l, vs, g1, g2, g3, g4, g5, g6⟩ := r.ow j lo ds hρ
  have hj : j < ρ.length := (List.getElem?_eq_some_iff.mp hρ).1
  have ei : Ex I (upd I l (.lst vs)) := Evl.Ex.new g3
  have f1 : Fr I0 B (upd I l (.lst vs)) H := r.fr.freeze g2 g3 g4
  have r1 : R K B I0 (upd I l (.lst vs)) H σ (ρ.set j (.im (.list ds))) := by
    refine ⟨f1, r.nd.upd trivial, by simp [r.len], fun k x hk => ?_, fun k lo2 us hk => ?_, fun k l2 n hk => ?_, fun k m s t l' hk hm hs ht sk sm => ?_⟩
    · rcases set_cases hk with ⟨rfl, q, z⟩ | ⟨hn, q⟩
      · cases z
        exact ⟨.ref l, g1, .lst (SqL.of upd_same) (dpa_mono ei g5)⟩
      · obtain ⟨v, k1, k2⟩ := r.im k x q
        exact ⟨v, k1, dp_mono ei k2⟩
    · rcases set_cases hk with ⟨rfl, q, z⟩ | ⟨hn, q⟩
      · cases z
      · obtain ⟨l2, vs2, k1, k2, k3, k4, k5, k6⟩ := r.ow k lo2 us q
        refine ⟨l2, vs2, k1, k2, ?_, k4, dpa_mono ei k5, k6⟩
        rw [upd_ne (fun z => by subst z; exact hn (r.dis j k _ _ l2 hρ q rfl rfl g1 k1))]
        exact k3
    · rcases set_cases hk with ⟨rfl, q, z⟩ | ⟨hn, q⟩
      · cases z
      · obtain ⟨vs2, ds2, k1, k2, k3, k4, k5, k6⟩ := r.fd k l2 n q
        refine ⟨vs2, ds2, k1, k2, ?_, k4, dpa_mono ei k5, k6⟩
        rw [upd_ne (fun z => by subst z; exact hn (r.dis j k _ _ l2 hρ q rfl rfl g1 k1))]
        exact k3
    · rcases set_cases hk with ⟨rfl, q, z⟩ | ⟨n1, q⟩
      · subst z; cases hs
      · rcases set_cases hm with ⟨rfl, q2, z⟩ | ⟨n2, q2⟩
        · subst z; cases ht
        · exact r.dis k m s t l' q q2 hs ht sk sm
  refine h B I0 _ H σ r1 Q fun v I2 H2 f2 d2 => ?_
  have il : I2 l = some (.lst vs) := f2.i l _ upd_same
  have sub : Ex (del I2 l) I2 := fun a u k => by
    by_cases ha : a = l
    · subst ha; rw [del_same] at k; cases k
    · rw [del_ne ha] at k; exact k
  refine q v (del I2 l) H2 ⟨fun a u k => ?_, f2.h, sub.trans f2.ih, fun a k1 k2 => ?_, fun hn a u k => f2.nd (hn.upd trivial) a u (sub a u k)⟩ ?_
  · have ha : a ≠ l := ne_of_none k g3
    rw [del_ne ha]
    exact f2.i a u (ei a u k)
  · by_cases ha : a = l
    · subst ha; exact del_same
    · rw [del_ne ha]
      exact f2.sep a (by rw [upd_ne ha]; exact k1) k2
  · cases d2 with
    | non => exact .non
    | bl b => exact .bl b
    | int i => exact .int i
    | str i => exact .str i
    | lst _ _ => cases hf
    | tup hs ha =>
      rename_i p xs es
      refine .tup ?_ (dpa_scal hf ha)
      rcases hs with (hs | ⟨o, hs⟩) | hs
      · refine .inl (.inl ?_)
        rw [del_ne (fun z => by subst z; rw [il] at hs; cases hs)]
        exact hs
      · refine .inl (.inr ⟨o, ?_⟩)
        rw [del_ne (fun z => by subst z; rw [il] at hs; cases hs)]
        exact hs
      · exact .inr hs
end
end K67
namespace K67
open PySem PySem.Spec PyProof.Rows L2
open Evl (Ex ex_l ex_t)

section
variable {K : PySem.W.Frag} {ι : Type} {F : ι → Cx} {e a b c : Expr} {es : List Expr} {ρ ρ2 : DE} {d x y z : PyData} {ds : List PyData} {pos : Pos} {t u : Bool} {Δ : De} {st : Stmt} {sts sts2 : List Stmt} {js : List Nat}
/-! ### for -/
theorem s_for {tg it : Expr} (Pv : Nat → DE → Prop) (hs : Src K F tg it ρ ds) (h0 : Pv 0 ρ)
    (turn : ∀ (k : Nat) (d : PyData) (ρ' : DE), ds[k]? = some d → Pv k ρ' → ∃ js ρ3, Tg K F tg js d ρ' ρ3 ∧ Ss K F sts ρ3 { nx := Pv (k + 1), rt := Δ.rt, bk := Δ.nx, ct := Pv (k + 1), rl := Δ.rl })
    (done : ∀ ρ', Pv ds.length ρ' → Δ.nx ρ') (hc : ∀ i, (F i).calm = true := by intro _; rfl) (hp : ∀ i, PassesOwn (model (F i).prog (F i).w) (F i).A (F i).env (F i).xe := by intro _; exact PassesOwn.never)
    (hf : ∀ i x, foldedSetIterable it (F i).env x = pure x := by intro _ _; rfl) : S K F (.For tg it sts [] pos) ρ Δ := fun B I0 I H σ D r re => by
  refine ⟨_, fun i => ps_for (hp i) (hc i) (pi_tI i) (pg_tG i) (pss_tSs i) (hf i), ?_⟩
  refine hs B I0 I H σ r _ fun J I1 H1 f1 yl => ?_
  have r1 := r.ext f1
  refine ⟨fun i m σ' H' => m = ds.length - i ∧ i ≤ ds.length ∧ ∃ I' ρ', R K B I1 I' H' σ' ρ' ∧ Pv i ρ', ⟨ds.length, by simp, Nat.zero_le _, I1, ρ, r1.rebase, h0⟩, ?_⟩
  rintro i m σ' H' ⟨rfl, hi, I', ρ', r', p⟩
  have re1 : Re K B I1 Δ D := Re.unbase r1 re
  by_cases hlt : i < ds.length
  · refine .inr ⟨yl.go i I' H' r'.fr.i r'.fr.ih hlt, fun σ2 H2 => ∃ I2 ρ2, R K B I1 I2 H2 σ2 ρ2 ∧ Pv (i + 1) ρ2, fun σ2 H2 ⟨I2, ρ2, r2, p2⟩ => ⟨ds.length - (i + 1), by omega, rfl, hlt, I2, ρ2, r2, p2⟩, fun x H3 y => ?_⟩
    have hd : ds[i]? = some ds[i] := List.getElem?_eq_getElem hlt
    obtain ⟨I3, f3, d3⟩ := yl.yld i ds[i] I' H' x H3 hd r'.fr.i r'.fr.ih y
    obtain ⟨js, ρ3, ht, hb⟩ := turn i ds[i] ρ' hd p
    refine ht B I1 I3 H3 σ' x (r'.ext f3) d3 _ fun σ4 r4 _ => ?_
    exact hb B I1 I3 H3 σ4 _ r4 ⟨fun I5 H5 σ5 ρ5 r5 n => ⟨I5, ρ5, r5, n⟩, re1.rt, fun I5 H5 σ5 ρ5 r5 n => re1.nx I5 H5 σ5 ρ5 r5 n, fun I5 H5 σ5 ρ5 r5 n => ⟨I5, ρ5, r5, n⟩, re1.rl⟩
  · have e : i = ds.length := by omega
    subst e
    exact .inl ⟨yl.stop I' H' r'.fr.i r'.fr.ih, re1.nx I' H' σ' ρ' r' (done ρ' p)⟩
/-! ### while -/
theorem s_while (Pv : Nat → DE → Prop) (m : Nat) (h0 : Pv m ρ)
    (turn : ∀ (m : Nat) (ρ' : DE), Pv m ρ' → ∃ t, T K F c ρ' t ∧ (t = true → Ss K F sts ρ' { nx := fun ρ2 => ∃ m', m' < m ∧ Pv m' ρ2, rt := Δ.rt, bk := Δ.nx, ct := fun ρ2 => ∃ m', m' < m ∧ Pv m' ρ2, rl := Δ.rl }) ∧ (t = false → Δ.nx ρ'))
    (hp : ∀ i, PassesOwn (model (F i).prog (F i).w) (F i).A (F i).env (F i).xe := by intro _; exact PassesOwn.never) : S K F (.While c sts [] pos) ρ Δ := fun B I0 I H σ D r re => by
  refine ⟨_, fun i => ps_while (hp i) (pt_tT i) (pss_tSs i), ?_⟩
  refine ⟨fun m σ' H' => ∃ I' ρ', R K B I0 I' H' σ' ρ' ∧ Pv m ρ', ⟨m, I, ρ, r, h0⟩, ?_⟩
  rintro m σ' H' ⟨I', ρ', r', p⟩
  obtain ⟨t, ht, h1, h2⟩ := turn m ρ' p
  refine ht B I0 I' H' σ' r' _ fun I2 H2 f2 => ?_
  cases t with
  | true => exact ⟨fun σ2 H2 => ∃ m', m' < m ∧ ∃ I' ρ', R K B I0 I' H2 σ2 ρ' ∧ Pv m' ρ', fun σ2 H2 h => h, h1 rfl B I0 I2 H2 σ' _ (r'.ext f2) ⟨fun I5 H5 σ5 ρ5 r5 ⟨m', l, n⟩ => ⟨m', l, I5, ρ5, r5, n⟩, re.rt, fun I5 H5 σ5 ρ5 r5 n => re.nx I5 H5 σ5 ρ5 r5 n, fun I5 H5 σ5 ρ5 r5 ⟨m', l, n⟩ => ⟨m', l, I5, ρ5, r5, n⟩, re.rl⟩⟩
  | false => exact re.nx I2 H2 σ' ρ' (r'.ext f2) (h2 rfl)
/-! ### what is walked -/
theorem src_list (hK : ∀ i, (F i).K = K) {tg : Expr} (h : E K F e ρ (.list ds)) : Src K F tg e ρ ds := fun B I0 I H σ r RR q => by
  refine ⟨iList K (tE F e), fun i => by rw [← hK i]; exact pi_list (pe_tE i), ?_⟩
  refine h B I0 I H σ r _ fun v I1 H1 f1 d1 => ?_
  cases d1 with
  | lst hs ha =>
    refine ⟨_, rfl, ⟨_, ex_l f1.ih hs⟩, q _ I1 H1 f1 ⟨fun k I2 H2 e1 e2 hk => ?_, fun I2 H2 e1 e2 => ?_, fun k d I2 H2 x H3 hd e1 e2 y => ?_⟩⟩
    · obtain ⟨v, g1, g2⟩ := dpa_get ha (List.getElem?_eq_getElem hk)
      exact ⟨_, v, ex_l (e1.trans e2) hs, g1⟩
    · exact ⟨_, ex_l (e1.trans e2) hs, Nat.le_of_eq (dpa_len ha)⟩
    · obtain ⟨rfl, y⟩ := y
      obtain ⟨v, g1, g2⟩ := dpa_get ha hd
      have g3 := y _ (ex_l (e1.trans e2) hs)
      rw [g1] at g3
      cases g3
      exact ⟨I2, Fr.refl e2, dp_mono e1 g2⟩
theorem src_tup (hK : ∀ i, (F i).K = K) {tg : Expr} (h : E K F e ρ (.tuple ds)) : Src K F tg e ρ ds := fun B I0 I H σ r RR q => by
  refine ⟨iTup K (tE F e), fun i => by rw [← hK i]; exact pi_tup (pe_tE i), ?_⟩
  refine h B I0 I H σ r _ fun v I1 H1 f1 d1 => ?_
  cases d1 with
  | tup hs ha =>
    refine ⟨_, rfl, ⟨_, ex_t f1.ih hs⟩, q _ I1 H1 f1 ⟨fun k I2 H2 e1 e2 hk => ?_, fun I2 H2 e1 e2 => ?_, fun k d I2 H2 x H3 hd e1 e2 y => ?_⟩⟩
    · obtain ⟨v, g1, g2⟩ := dpa_get ha (List.getElem?_eq_getElem hk)
      exact ⟨_, v, ex_t (e1.trans e2) hs, g1⟩
    · exact ⟨_, ex_t (e1.trans e2) hs, Nat.le_of_eq (dpa_len ha)⟩
    · obtain ⟨rfl, y⟩ := y
      obtain ⟨v, g1, g2⟩ := dpa_get ha hd
      have g3 := y _ (ex_t (e1.trans e2) hs)
      rw [g1] at g3
      cases g3
      exact ⟨I2, Fr.refl e2, dp_mono e1 g2⟩
/-- lo, lo + c, .. -/
def ramp (lo c : Int) (n : Nat) : List PyData := (List.range n).map fun i => .int (lo + (i : Nat) * c)
theorem ramp_len (lo c : Int) (n : Nat) : (ramp lo c n).length = n := by simp [ramp]
theorem ramp_get {lo c : Int} {n k : Nat} {d : PyData} (h : (ramp lo c n)[k]? = some d) : k < n ∧ d = .int (lo + (k : Nat) * c) := by
  unfold ramp at h
  rw [List.getElem?_map] at h
  by_cases hk : k < n
  · rw [List.getElem?_range hk] at h
    exact ⟨hk, (Option.some.inj h).symm⟩
  · rw [List.getElem?_eq_none (by simpa using hk)] at h
    cases h
theorem yl_rng {lo : Int} {n : Nat} {I : Hp} : Yl K (Itr lo n) I (ramp lo 1 n) := ⟨fun k I2 H2 e1 e2 hk => by rw [ramp_len] at hk; exact hk, fun I2 H2 e1 e2 => by rw [ramp_len]; exact Nat.le_refl _, fun k d I2 H2 x H3 hd e1 e2 y => by
  obtain ⟨rfl, rfl⟩ := y
  obtain ⟨_, rfl⟩ := ramp_get hd
  refine ⟨I2, Fr.refl e2, ?_⟩
  rw [Int.mul_one]
  exact .int _⟩
theorem yl_rngc {lo c : Int} {n : Nat} {I : Hp} : Yl K (Itc lo c n) I (ramp lo c n) := ⟨fun k I2 H2 e1 e2 hk => by rw [ramp_len] at hk; exact hk, fun I2 H2 e1 e2 => by rw [ramp_len]; exact Nat.le_refl _, fun k d I2 H2 x H3 hd e1 e2 y => by
  obtain ⟨rfl, rfl⟩ := y
  obtain ⟨_, rfl⟩ := ramp_get hd
  exact ⟨I2, Fr.refl e2, .int _⟩⟩
section
variable {tg : Expr} {p : Pos} {m n g : Int}
theorem src_rng1 (h : E K F e ρ (.int n)) (hb : -(2 ^ 62) ≤ n ∧ n < 2 ^ 62) (hm : ∀ i, (F i).mg "range" = none) (hg : ∀ i, Gl (F i) "range" := by intro _; rfl) (hs : ∀ i, starEach [e] (F i).env = [(false, eval e (F i).env)] := by intro _; rfl) :
    Src K F tg (.Call (.Name "range" p) [e] [] pos) ρ (ramp 0 1 n.toNat) := fun B I0 I H σ r RR q => by
  refine ⟨iRng1 (tA F [e]), fun i => pi_range1 (hg i) (hm i) (pa_tA i) (hs i), ?_⟩
  refine a_cons h a_nil (fun i => hs i) B I0 I H σ r _ fun vs I1 H1 f1 d1 => ?_
  cases d1 with
  | cons d1 d2 =>
    cases d1
    cases d2
    exact ⟨n, rfl, hb.1, hb.2, q _ I1 H1 f1 yl_rng⟩
theorem src_rng2 (h1 : E K F a ρ (.int m)) (h2 : E K F b ρ (.int n)) (hb : -(2 ^ 62) ≤ m ∧ m < 2 ^ 62 ∧ -(2 ^ 62) ≤ n ∧ n < 2 ^ 62) (hm : ∀ i, (F i).mg "range" = none) (hg : ∀ i, Gl (F i) "range" := by intro _; rfl)
    (hs : ∀ i, starEach [a, b] (F i).env = [(false, eval a (F i).env), (false, eval b (F i).env)] := by intro _; rfl) (hs2 : ∀ i, starEach [b] (F i).env = [(false, eval b (F i).env)] := by intro _; rfl) :
    Src K F tg (.Call (.Name "range" p) [a, b] [] pos) ρ (ramp m 1 (n - m).toNat) := fun B I0 I H σ r RR q => by
  refine ⟨iRng2 (tA F [a, b]), fun i => pi_range2 (hg i) (hm i) (pa_tA i) (hs i) (hs2 i), ?_⟩
  refine a_cons h1 (a_cons h2 a_nil fun i => hs2 i) (fun i => by rw [hs i, hs2 i]) B I0 I H σ r _ fun vs I1 H1 f1 d1 => ?_
  cases d1 with
  | cons d1 d2 =>
    cases d1
    cases d2 with
    | cons d2 d3 =>
      cases d2
      cases d3
      exact ⟨m, n, rfl, hb, q _ I1 H1 f1 yl_rng⟩
theorem src_rng3 {k : Nat} (h1 : E K F a ρ (.int m)) (h2 : E K F b ρ (.int n)) (h3 : E K F c ρ (.int g)) (hb : RgC m n g k) (hm : ∀ i, (F i).mg "range" = none) (hg : ∀ i, Gl (F i) "range" := by intro _; rfl)
    (hs : ∀ i, starEach [a, b, c] (F i).env = (false, eval a (F i).env) :: starEach [b, c] (F i).env := by intro _; rfl) (hs2 : ∀ i, starEach [b, c] (F i).env = (false, eval b (F i).env) :: starEach [c] (F i).env := by intro _; rfl) (hs3 : ∀ i, starEach [c] (F i).env = (false, eval c (F i).env) :: starEach [] (F i).env := by intro _; rfl)
    (hp : ∀ i, (backTo pos (starEach [b, c] (F i).env)).any (·.1) = false := by intro _; rfl) : Src K F tg (.Call (.Name "range" p) [a, b, c] [] pos) ρ (ramp m g k) := fun B I0 I H σ r RR q => by
  refine ⟨iRng3 (tA F [a, b, c]), fun i => pi_range3 (hg i) (hm i) (pa_tA i) (hs i) (hp i), ?_⟩
  refine a_cons h1 (a_cons h2 (a_cons h3 a_nil hs3) hs2) hs B I0 I H σ r _ fun vs I1 H1 f1 d1 => ?_
  cases d1 with
  | cons d1 d2 =>
    cases d1
    cases d2 with
    | cons d2 d3 =>
      cases d2
      cases d3 with
      | cons d3 d4 =>
        cases d3
        cases d4
        exact ⟨m, n, g, k, rfl, hb, q _ I1 H1 f1 yl_rngc⟩
/-- reversed(range(n)) -/
theorem src_rev {p2 pos2 : Pos} (h : E K F e ρ (.int n)) (hb : 0 ≤ n ∧ n < 2 ^ 62) (hm : ∀ i, (F i).mg "reversed" = none) (hm2 : ∀ i, (F i).mg "range" = none) (hg : ∀ i, Gl (F i) "reversed" := by intro _; rfl) (hg2 : ∀ i, Gl (F i) "range" := by intro _; rfl)
    (hs : ∀ i, starEach [Expr.Call (.Name "range" p2) [e] [] pos2] (F i).env = (false, eval (.Call (.Name "range" p2) [e] [] pos2) (F i).env) :: starEach [] (F i).env := by intro _; rfl) (na : ∀ i, starEach [e] (F i).env = (false, eval e (F i).env) :: starEach [] (F i).env := by intro _; rfl) :
    Src K F tg (.Call (.Name "reversed" p) [.Call (.Name "range" p2) [e] [] pos2] [] pos) ρ (ramp (n - 1) (-1) n.toNat) := fun B I0 I H σ r RR q => by
  refine ⟨iRevR (tRg1 (tE F e)), fun i => pi_revR (hg i) (hm i) (prg_1 (hg2 i) (hm2 i) (pe_tE i) (na i)) (hs i), ?_⟩
  refine h B I0 I H σ r _ fun v I1 H1 f1 d1 => ?_
  cases d1
  refine ⟨n, rfl, by omega, by omega, by omega, by omega, ?_⟩
  have e1 : (0 : Int) + (((n - 0).toNat : Nat) : Int) - 1 = n - 1 := by omega
  have e2 : (n - 0).toNat = n.toNat := by omega
  rw [e1, e2]
  exact q _ I1 H1 f1 yl_rngc
end
/-! ### list comprehensions -/
theorem wipe_get {σ : L2.St} {j : Nat} : ∀ {vs : List Nat}, (wipe σ vs)[j]? = if j ∈ vs ∧ j < σ.length then some none else σ[j]?
  | [] => by rw [if_neg (by simp)]; rfl
  | v :: vs => by
    show ((wipe σ vs).set v none)[j]? = _
    by_cases hv : v = j
    · subst hv
      by_cases hl : v < σ.length
      · rw [List.getElem?_set_self (by rw [wipe_length]; exact hl), if_pos ⟨List.mem_cons_self, hl⟩]
      · rw [if_neg (fun z => hl z.2), List.getElem?_eq_none (by rw [List.length_set, wipe_length]; omega), List.getElem?_eq_none (by omega)]
    · rw [List.getElem?_set_ne hv, wipe_get]
      by_cases hj : j ∈ vs ∧ j < σ.length
      · rw [if_pos hj, if_pos ⟨List.mem_cons_of_mem _ hj.1, hj.2⟩]
      · rw [if_neg hj, if_neg (fun z => hj ⟨by
          rcases List.mem_cons.mp z.1 with q | q
          · exact absurd q.symm hv
          · exact q, z.2⟩)]
theorem wipe_same {σ σ2 : L2.St} {vs : List Nat} (hl : σ2.length = (wipe σ vs).length) (h : ∀ j, j ∉ vs → σ2[j]? = (wipe σ vs)[j]?) : wipe σ2 vs = wipe σ vs := by
  apply List.ext_getElem?
  intro j
  rw [wipe_get, wipe_get]
  rw [wipe_length] at hl
  by_cases hj : j ∈ vs
  · by_cases hk : j < σ.length
    · rw [if_pos ⟨hj, by omega⟩, if_pos ⟨hj, hk⟩]
    · rw [if_neg (fun z => hk (by omega)), if_neg (fun z => hk z.2), List.getElem?_eq_none (by omega), List.getElem?_eq_none (by omega)]
  · rw [if_neg (fun z => hj z.1), if_neg (fun z => hj z.1), h j hj, wipe_get, if_neg (fun z => hj z.1)]
def wipeD (ρ : DE) : List Nat → DE
  | [] => ρ
  | v :: vs => (wipeD ρ vs).set v .no
theorem R.wiped {B I0 I H : Hp} {σ : L2.St} (r : R K B I0 I H σ ρ) : ∀ vs : List Nat, R K B I0 I H (wipe σ vs) (wipeD ρ vs)
  | [] => r
  | v :: vs => (R.wiped r vs).drop v none
/-- the contexts of a block -/
abbrev BI (ι : Type) : Type := ι × Shared × Hp × Addr × List (Str × Addr) × List Addr
abbrev blkF (F : ι → Cx) (scope : Scope) : BI ι → Cx := fun j => (F j.1).blk j.2.1 j.2.2.1 scope (compEnvC scope j.2.2.2.2.1 j.2.2.2.1 (F j.1).env) j.2.2.2.2.2
theorem ts_nil : TTs K F [] ρ true := fun B I0 I H σ r Q q => ⟨_, fun i => pts_nil, q I H (Fr.refl r.fr.ih)⟩
theorem ts_one (h : T K F c ρ t) : TTs K F [c] ρ t := fun B I0 I H σ r Q q => ⟨_, fun i => pts_one (pt_tT i), h B I0 I H σ r Q q⟩
/-- what one item gives -/
structure LcT (K : PySem.W.Frag) {ι : Type} (G : ι → Cx) (tg elt : Expr) (ifs : List Expr) (vs : List Nat) (ρ : DE) (d : PyData) (o : Option PyData) : Prop where
  ex : ∃ js ρ2 t, (∀ j ∈ js, j ∈ vs) ∧ Tg K G tg js d ρ ρ2 ∧ TTs K G ifs ρ2 t ∧ (t = false → o = none) ∧ (t = true → ∃ z, o = some z ∧ E K G elt ρ2 z)
theorem tlc_of {tg elt it : Expr} {ifs : List Expr} {scope : Scope} {vs : List Nat} {B I0 I H : Hp} {σ : L2.St} {Q : VK} {os : List (Option PyData)} (hl : ds.length < sizeLine) (ho : os.length = ds.length) (hs : Src K F tg it ρ ds)
    (ht : ∀ (k : Nat) d o, ds[k]? = some d → os[k]? = some o → LcT K (blkF F scope) tg elt ifs vs (wipeD ρ vs) d o) (r : R K B I0 I H σ ρ)
    (q : ∀ l ws I' H', Fr I H I' H' → H l = none → I' l = none → H' l = some (.lst ws) → DpAll K I' ws (os.filterMap id) → Q (.ref l) H') :
    tLc (tI F tg it) (tG (blkF F scope) tg) (tTs (blkF F scope) ifs) (tE (blkF F scope) elt) vs σ H Q := by
  refine hs B I0 I H σ r _ fun J I1 H1 f1 yl => ?_
  intro D hD
  have r1 := r.ext f1
  have iD : I1 D = none := Ex.none f1.ih hD
  refine ⟨fun i m H' => m = ds.length - i ∧ i ≤ ds.length ∧ ∃ I' acc, Fr I1 H1 I' H' ∧ I' D = none ∧ H' D = some (.lst acc) ∧ DpAll K I' acc ((os.take i).filterMap id), ⟨ds.length, by simp, Nat.zero_le _, I1, [], Fr.own f1.ih hD, iD, upd_same, .nil⟩, ?_⟩
  rintro i m H' ⟨rfl, hi, I', acc, f', nD, eD, dA⟩
  have r' := (r1.ext f')
  by_cases hlt : i < ds.length
  · have hd : ds[i]? = some ds[i] := List.getElem?_eq_getElem hlt
    refine .inr ⟨yl.go i I' H' f'.i f'.ih hlt, fun H2 => ∃ I' acc, Fr I1 H1 I' H2 ∧ I' D = none ∧ H2 D = some (.lst acc) ∧ DpAll K I' acc ((os.take (i + 1)).filterMap id), fun H2 p2 => ⟨ds.length - (i + 1), by omega, rfl, hlt, p2⟩, fun x H3 y => ?_⟩
    obtain ⟨I3, f3, d3⟩ := yl.yld i ds[i] I' H' x H3 hd f'.i f'.ih y
    have hlo : i < os.length := by omega
    have hoo : os[i]? = some os[i] := List.getElem?_eq_getElem hlo
    obtain ⟨js, ρ2, t, hjs, hT, hts, hn, hz⟩ := (ht i ds[i] os[i] hd hoo).ex
    have r3 := (r'.ext f3).wiped vs
    refine hT B I0 I3 H3 (wipe σ vs) x r3 d3 _ fun σ2 r2 ⟨l2, k2⟩ => ?_
    refine ⟨wipe_same l2 fun j hj => k2 j fun z => hj (hjs j z), ?_⟩
    refine hts B I0 I3 H3 σ2 r2 _ fun I4 H4 f4 => ?_
    have g4 : Fr I1 H1 I4 H4 := (f'.trans f3).trans f4
    have e4 : H4 D = some (.lst acc) := f4.h _ _ (f3.h _ _ eD)
    have n4 : I4 D = none := f4.sep D (f3.sep D nD (by rw [eD]; exact nofun)) (by rw [f3.h _ _ eD]; exact nofun)
    have tk : (os.take (i + 1)).filterMap id = (os.take i).filterMap id ++ os[i].toList := by
      rw [List.take_succ_eq_append_getElem hlo, List.filterMap_append]
      cases hf : os[i] <;> simp [List.filterMap_cons, hf]
    cases t with
    | false =>
      refine ⟨I4, acc, g4, n4, e4, ?_⟩
      rw [tk, hn rfl]
      simpa using dpa_mono (f3.i.trans f4.i) dA
    | true =>
      obtain ⟨w, ew, hE⟩ := hz rfl
      refine hE B I0 I4 H4 σ2 (r2.ext f4) _ fun v I5 H5 f5 d5 => ?_
      have e5 : H5 D = some (.lst acc) := f5.h _ _ e4
      have n5 : I5 D = none := f5.sep D n4 (by rw [e4]; exact nofun)
      have da5 : DpAll K I5 acc ((os.take i).filterMap id) := dpa_mono ((f3.i.trans f4.i).trans f5.i) dA
      refine ⟨acc, e5, ?_, I5, acc ++ [v], ?_, n5, upd_same, ?_⟩
      · rw [dpa_len da5]
        exact Nat.lt_of_le_of_lt (Nat.le_trans (List.length_filterMap_le id _) (by rw [List.length_take]; omega)) hl
      · have g5 := g4.trans f5
        refine ⟨g5.i, fun a u k => ?_, fun a u k => ?_, g5.sep, g5.nd⟩
        · rw [upd_ne (ne_of_none k hD)]; exact g5.h a u k
        · rw [upd_ne (ne_of_none k n5)]; exact g5.ih a u k
      · rw [tk, ew]
        exact dpa_app da5 (dpa_one d5)
  · have e : i = ds.length := by omega
    subst e
    rw [← ho, List.take_length] at dA
    refine .inl ⟨yl.stop I' H' f'.i f'.ih, q D acc I' H' (f1.trans f') ?_ nD eD dA⟩
    cases e : H D with
    | none => rfl
    | some o => rw [f1.h D o e] at hD; cases hD
/-- [elt for tg in it if ..] -/
theorem el_lc {tg elt it : Expr} {ifs : List Expr} {scope : Scope} {os : List (Option PyData)} (own : List (Str × Nat)) (hl : ds.length < sizeLine) (ho : os.length = ds.length) (hN : ∀ i, (F i).N.Nodup) (hs : Src K F tg it ρ ds)
    (ok : ∀ i, BlkOk (F i).N (F i).env.scope scope own)
    (ht : ∀ (k : Nat) d o, ds[k]? = some d → os[k]? = some o → LcT K (blkF F scope) tg elt ifs (own.map (·.2)) (wipeD ρ (own.map (·.2))) d o) (hc : ∀ i, (F i).calm = true := by intro _; rfl) (hf : ∀ i x, foldedSetIterable it (F i).env x = pure x := by intro _ _; rfl) :
    EL K F (.ListComp elt [⟨tg, it, ifs, 0⟩] scope pos) ρ (os.filterMap id) := fun B I0 I H σ r Q q => by
  refine ⟨tLc (tI F tg it) (tG (blkF F scope) tg) (tTs (blkF F scope) ifs) (tE (blkF F scope) elt) (own.map (·.2)), fun i => ?_, tlc_of hl ho hs ht r q⟩
  exact pe_lc (hc i) (hN i) (pi_tI i) (ok i) (fun s H C cl fp => pg_tG (F := blkF F scope) (i, s, H, C, cl, fp)) (fun s H C cl fp => pts_tTs (F := blkF F scope) (i, s, H, C, cl, fp)) (fun s H C cl fp => pe_tE (F := blkF F scope) (i, s, H, C, cl, fp)) (hf i)
/-- name = [..] on one line -/
theorem s_lc {tg elt it : Expr} {ifs : List Expr} {scope : Scope} {os : List (Option PyData)} {n : Str} {py spos : Pos} (j : Nat) (own : List (Str × Nat)) (hl : ds.length < sizeLine) (ho : os.length = ds.length) (hN : ∀ i, (F i).N.Nodup) (hs : Src K F tg it ρ ds)
    (ok : ∀ i, BlkOk (F i).N (F i).env.scope scope own)
    (ht : ∀ (k : Nat) d o, ds[k]? = some d → os[k]? = some o → LcT K (blkF F scope) tg elt ifs (own.map (·.2)) (wipeD ρ (own.map (·.2))) d o) (h : ∀ l ws I H B I0 σ D, R K B I0 I H σ ρ → Re K B I0 Δ D → B l = none → I l = none → H l = some (.lst ws) → (∀ (k : Nat) (s : SD), ρ[k]? = some s → s.isO = true → σ[k]? ≠ some (some (V.ref l))) → DpAll K I ws (os.filterMap id) → D.nx (σ.set j (some (.ref l))) H)
    (hy : ∀ i, (F i).N[j]? = some n := by intro _; rfl) (hyl : ∀ i, (F i).env.scope.names.lookup n = some .local := by intro _; rfl)
    (hsw : ∀ i, swapsWith (.ListComp elt [⟨tg, it, ifs, 0⟩] scope pos) (some (.Name n py)) spos.line (F i).env = pure true := by intro _; exact sw_true rfl rfl rfl (by decide +kernel))
    (hc : ∀ i, (F i).calm = true := by intro _; rfl) (hf : ∀ i x, foldedSetIterable it (F i).env x = pure x := by intro _ _; rfl) :
    S K F (.Assign [.Name n py] (.ListComp elt [⟨tg, it, ifs, 0⟩] scope pos) spos) ρ Δ := fun B I0 I H σ D r re => by
  refine ⟨tAsg (tLc (tI F tg it) (tG (blkF F scope) tg) (tTs (blkF F scope) ifs) (tE (blkF F scope) elt) (own.map (·.2))) (gName j), fun i => ?_, ?_⟩
  · exact ps_setLc (hc i) (hN i) (hy i) (hyl i) (hsw i) (pi_tI i) (ok i) (fun s H C cl fp => pg_tG (F := blkF F scope) (i, s, H, C, cl, fp)) (fun s H C cl fp => pts_tTs (F := blkF F scope) (i, s, H, C, cl, fp)) (fun s H C cl fp => pe_tE (F := blkF F scope) (i, s, H, C, cl, fp)) (hf i)
  · refine tlc_of (Q := fun x H1 => gName j x σ H1 D.nx) hl ho hs ht r fun l ws I1 H1 f1 g1 g2 g3 g4 => ?_
    refine h l ws I1 H1 B I0 σ D (r.ext f1) re (Ex.none r.fr.h g1) g2 g3 (fun k us hu hO hσ => ?_) g4
    obtain ⟨l2, vs2, k1, k2, k3, k4⟩ := r.lo hu hO
    rw [hσ] at k1
    cases k1
    rw [g1] at k4
    cases k4
/-- .. that stands as data -/
theorem s_lcI {tg elt it : Expr} {ifs : List Expr} {scope : Scope} {os : List (Option PyData)} {n : Str} {py spos : Pos} (j : Nat) (own : List (Str × Nat)) (hl : ds.length < sizeLine) (ho : os.length = ds.length) (hN : ∀ i, (F i).N.Nodup) (hs : Src K F tg it ρ ds)
    (ok : ∀ i, BlkOk (F i).N (F i).env.scope scope own)
    (ht : ∀ (k : Nat) d o, ds[k]? = some d → os[k]? = some o → LcT K (blkF F scope) tg elt ifs (own.map (·.2)) (wipeD ρ (own.map (·.2))) d o) (h : Δ.nx (ρ.set j (.im (.list (os.filterMap id)))))
    (hy : ∀ i, (F i).N[j]? = some n := by intro _; rfl) (hyl : ∀ i, (F i).env.scope.names.lookup n = some .local := by intro _; rfl)
    (hsw : ∀ i, swapsWith (.ListComp elt [⟨tg, it, ifs, 0⟩] scope pos) (some (.Name n py)) spos.line (F i).env = pure true := by intro _; exact sw_true rfl rfl rfl (by decide +kernel))
    (hc : ∀ i, (F i).calm = true := by intro _; rfl) (hf : ∀ i x, foldedSetIterable it (F i).env x = pure x := by intro _ _; rfl) :
    S K F (.Assign [.Name n py] (.ListComp elt [⟨tg, it, ifs, 0⟩] scope pos) spos) ρ Δ :=
  s_lc j own hl ho hN hs ok ht (fun l ws I H B I0 σ D r re hB hI hH hn hd => by
    have ei : Ex I (upd I l (.lst ws)) := Evl.Ex.new hI
    have r2 : R K B I0 (upd I l (.lst ws)) H σ ρ := ⟨r.fr.freeze hB hI hH, r.nd.upd trivial, r.len, fun k x hk => by
      obtain ⟨v, k1, k2⟩ := r.im k x hk
      exact ⟨v, k1, dp_mono ei k2⟩, fun k lo us hk => by
      obtain ⟨l2, vs2, k1, k2, k3, k4, k5, k6⟩ := r.ow k lo us hk
      refine ⟨l2, vs2, k1, k2, ?_, k4, dpa_mono ei k5, k6⟩
      rw [upd_ne (fun z => by subst z; exact hn k _ hk rfl k1)]
      exact k3, fun k l2 n hk => by
      obtain ⟨vs2, ds2, k1, k2, k3, k4, k5, k6⟩ := r.fd k l2 n hk
      refine ⟨vs2, ds2, k1, k2, ?_, k4, dpa_mono ei k5, k6⟩
      rw [upd_ne (fun z => by subst z; exact hn k _ hk rfl k1)]
      exact k3, r.dis⟩
    exact re.nx _ H _ _ (r2.set (.lst (SqL.of upd_same) (dpa_mono ei hd))) h) hy hyl hsw hc hf
/-- .. that is one's own -/
theorem s_lcO {tg elt it : Expr} {ifs : List Expr} {scope : Scope} {os : List (Option PyData)} {n : Str} {py spos : Pos} (j : Nat) (own : List (Str × Nat)) (hl : ds.length < sizeLine) (ho : os.length = ds.length) (hN : ∀ i, (F i).N.Nodup) (hs : Src K F tg it ρ ds)
    (ok : ∀ i, BlkOk (F i).N (F i).env.scope scope own)
    (ht : ∀ (k : Nat) d o, ds[k]? = some d → os[k]? = some o → LcT K (blkF F scope) tg elt ifs (own.map (·.2)) (wipeD ρ (own.map (·.2))) d o) (h : Δ.nx (ρ.set j (.ow (os.filterMap id))))
    (hy : ∀ i, (F i).N[j]? = some n := by intro _; rfl) (hyl : ∀ i, (F i).env.scope.names.lookup n = some .local := by intro _; rfl)
    (hsw : ∀ i, swapsWith (.ListComp elt [⟨tg, it, ifs, 0⟩] scope pos) (some (.Name n py)) spos.line (F i).env = pure true := by intro _; exact sw_true rfl rfl rfl (by decide +kernel))
    (hc : ∀ i, (F i).calm = true := by intro _; rfl) (hf : ∀ i x, foldedSetIterable it (F i).env x = pure x := by intro _ _; rfl) :
    S K F (.Assign [.Name n py] (.ListComp elt [⟨tg, it, ifs, 0⟩] scope pos) spos) ρ Δ :=
  s_lc j own hl ho hN hs ok ht (fun l ws I H B I0 σ D r re hB hI hH hn hd => re.nx _ H _ _ (r.setOw hB hI hH hd fun k s _ hk hO => hn k s hk hO) h) hy hyl hsw hc hf
end
end K67
namespace K67
open PySem PySem.Spec PyProof.Rows L2
open Evl (Ex ex_l ex_t)

/-! ### promises -/
/-- the slots at a def's beginning -/
def begin_ (N : List Str) (ds : List PyData) : DE := ds.map SD.im ++ List.replicate (N.length - ds.length) SD.no
theorem start_R {K : PySem.W.Frag} {N : List Str} {I H : Hp} {vs : List V} {ds : List PyData} (e : Ex I H) (nd : NoD I) (da : DpAll K I vs ds) : R K H I I H (L2.start N vs) (begin_ N ds) := by
  have hl := dpa_len da
  have n : ∀ {i : Nat} {s : SD}, s ≠ .no → (begin_ N ds)[i]? = some s → ∃ d, ds[i]? = some d ∧ s = .im d := fun {i s} hs hi => by
    unfold begin_ at hi
    by_cases h : i < (ds.map SD.im).length
    · rw [List.getElem?_append_left h, List.getElem?_map] at hi
      cases q : ds[i]? with
      | none => rw [q] at hi; cases hi
      | some d => rw [q] at hi; exact ⟨d, rfl, (Option.some.inj hi).symm⟩
    · rw [List.getElem?_append_right (by omega)] at hi
      have := List.mem_of_getElem? hi
      rw [List.mem_replicate] at this
      exact absurd this.2 hs
  refine ⟨Fr.refl e, nd, by simp [L2.start, begin_, hl], fun i d hi => ?_, fun i lo es hi => ?_, fun i l k hi => ?_, fun i j s t l hi hj hs ht _ _ => ?_⟩
  · obtain ⟨d', h1, h2⟩ := n (s := SD.im d) (by intro h; cases h) hi
    cases h2
    obtain ⟨v, g1, g2⟩ := dpa_get da h1
    refine ⟨v, ?_, g2⟩
    unfold L2.start
    rw [List.getElem?_append_left (by rw [List.length_map]; exact (List.getElem?_eq_some_iff.mp g1).1), List.getElem?_map, g1]
    rfl
  · obtain ⟨d', h1, h2⟩ := n (s := SD.own lo es) (by intro h; cases h) hi
    cases h2
  · obtain ⟨d', h1, h2⟩ := n (s := SD.fd l k) (by intro h; cases h) hi
    cases h2
  · obtain ⟨d', h1, h2⟩ := n (s := s) (by intro h; subst h; cases hs) hi
    subst h2
    cases hs
section
variable {P : Program} {w : World} {K : PySem.W.Frag} {mg : Str → Option Value} {base : Heap}
abbrev bodyX (P : Program) (w : World) (K : PySem.W.Frag) (mg : Str → Option Value) (base : Heap) (N : List Str) (x : Str) (st : Stmt) (f : Addr) (cdv : Value) (A : Around) (outer : List Env) (s : Shared) (H : Hp) (Ex : XK) : Unit → Cx :=
  fun _ => (cxOf CX0 P w K mg base N x (defScope st) f cdv A outer s H Ex).nox
structure SameW (X : Cx) (P : Program) (w : World) (K : PySem.W.Frag) (mg : Str → Option Value) (base : Heap) : Prop where
  p : X.prog = P
  w : X.w = w
  K : X.K = K
  mg : X.mg = mg
  b : X.base = base
variable {ι : Type} {F : ι → Cx} {e a b c : Expr} {es : List Expr} {ρ ρ2 : DE} {d x y z : PyData} {ds : List PyData} {pos : Pos} {t u : Bool} {Δ : De} {st : Stmt} {sts sts2 : List Stmt} {js : List Nat} {n : Str} {p : Pos} {dst : Stmt} {k : Nat} {ps : List Str} {pre : List PyData → Prop} {post : List PyData → PyData → Prop}
/-! ### two and three at once -/
theorem R.setOf {B I0 I H : Hp} {σ : L2.St} (r : R K B I0 I H σ ρ) {i : Nat} {v : V} {d : PyData} (h : Dp K I v d) : R K B I0 I H (σ.set i (some v)) (ρ.set i (.im d)) := r.set h
theorem s_par {x y : Str} {px py pt : Pos} {kt k2 : Nat} {pt2 : Pos} {d1 d2 : PyData} (i j : Nat) (h1 : E K F a ρ d1) (h2 : E K F b ρ d2) (hN : ∀ k, (F k).N.Nodup) (h : Δ.nx ((ρ.set i (.im d1)).set j (.im d2))) (hi : ∀ k, (F k).N[i]? = some x := by intro _; rfl) (hj : ∀ k, (F k).N[j]? = some y := by intro _; rfl) (hij : i ≠ j := by decide)
    (hx : ∀ k, (F k).env.scope.names.lookup x = some .local := by intro _; rfl) (hy : ∀ k, (F k).env.scope.names.lookup y = some .local := by intro _; rfl) (hc : ∀ k, (F k).calm = true := by intro _; rfl)
    (hw : ∀ k, swappedStores [.Tuple [.Name x px, .Name y py] kt pt] (.Tuple [a, b] k2 pt2) (F k).env = pure (some [x, y]) := by intro _; rfl)
    (hs : ∀ k, swapsWithSole [.Tuple [.Name x px, .Name y py] kt pt] (.Tuple [a, b] k2 pt2) pos.line (F k).env = pure false := by intro _; rfl)
    (g1 : ∀ i, starEach [a, b] (F i).env = (false, eval a (F i).env) :: starEach [b] (F i).env := by intro _; rfl) (g2 : ∀ i, starEach [b] (F i).env = (false, eval b (F i).env) :: starEach [] (F i).env := by intro _; rfl) :
    S K F (.Assign [.Tuple [.Name x px, .Name y py] kt pt] (.Tuple [a, b] k2 pt2) pos) ρ Δ := fun B I0 I H σ D r re => by
  refine ⟨_, fun k => L2.ps_par (hc k) (hN k) (hi k) (hj k) hij (hx k) (hy k) (pa_tA k) (hw k) (hs k), ?_⟩
  refine a_cons h1 (a_cons h2 a_nil g2) g1 B I0 I H σ r _ fun vs I1 H1 f1 d1 => ?_
  cases d1 with
  | cons e1 e2 =>
    cases e2 with
    | cons e2 e3 =>
      cases e3
      exact ⟨_, _, rfl, re.nx I1 H1 _ _ (((r.ext f1).set e1).set e2) h⟩
theorem s_par3 {x y v : Str} {px py pz pt : Pos} {kt k2 : Nat} {pt2 : Pos} {d1 d2 d3 : PyData} (i j l : Nat) (h1 : E K F a ρ d1) (h2 : E K F b ρ d2) (h3 : E K F c ρ d3) (hN : ∀ k, (F k).N.Nodup) (h : Δ.nx (((ρ.set i (.im d1)).set j (.im d2)).set l (.im d3)))
    (hi : ∀ k, (F k).N[i]? = some x := by intro _; rfl) (hj : ∀ k, (F k).N[j]? = some y := by intro _; rfl) (hl : ∀ k, (F k).N[l]? = some v := by intro _; rfl) (hij : i ≠ j := by decide) (hil : i ≠ l := by decide) (hjl : j ≠ l := by decide)
    (hx : ∀ k, (F k).env.scope.names.lookup x = some .local := by intro _; rfl) (hy : ∀ k, (F k).env.scope.names.lookup y = some .local := by intro _; rfl) (hv : ∀ k, (F k).env.scope.names.lookup v = some .local := by intro _; rfl) (hc : ∀ k, (F k).calm = true := by intro _; rfl)
    (hw : ∀ k, swappedStores [.Tuple [.Name x px, .Name y py, .Name v pz] kt pt] (.Tuple [a, b, c] k2 pt2) (F k).env = pure (some [x, y, v]) := by intro _; rfl)
    (hs : ∀ k, swapsWithSole [.Tuple [.Name x px, .Name y py, .Name v pz] kt pt] (.Tuple [a, b, c] k2 pt2) pos.line (F k).env = pure false := by intro _; rfl)
    (g1 : ∀ i, starEach [a, b, c] (F i).env = (false, eval a (F i).env) :: starEach [b, c] (F i).env := by intro _; rfl) (g2 : ∀ i, starEach [b, c] (F i).env = (false, eval b (F i).env) :: starEach [c] (F i).env := by intro _; rfl) (g3 : ∀ i, starEach [c] (F i).env = (false, eval c (F i).env) :: starEach [] (F i).env := by intro _; rfl) :
    S K F (.Assign [.Tuple [.Name x px, .Name y py, .Name v pz] kt pt] (.Tuple [a, b, c] k2 pt2) pos) ρ Δ := fun B I0 I H σ D r re => by
  refine ⟨_, fun k => L2.ps_par3 (hc k) (hN k) (hi k) (hj k) (hl k) hij hil hjl (hx k) (hy k) (hv k) (pa_tA k) (hw k) (hs k), ?_⟩
  refine a_cons h1 (a_cons h2 (a_cons h3 a_nil g3) g2) g1 B I0 I H σ r _ fun vs I1 H1 f1 d1 => ?_
  cases d1 with
  | cons e1 e2 =>
    cases e2 with
    | cons e2 e3 =>
      cases e3 with
      | cons e3 e4 =>
        cases e4
        exact ⟨_, _, _, rfl, re.nx I1 H1 _ _ ((((r.ext f1).set e1).set e2).set e3) h⟩
/-! ### xs[i] op= e of one's own list of ints -/
theorem get_list {X : Cx} : PGet X (rIxL X.K) := by
  intro pins s σ H o i ov iv Q I ro ri h
  obtain ⟨p, xs, i, z, rfl, rfl, hq, he, q⟩ := h
  cases ro
  obtain ⟨t, rfl⟩ := ri
  obtain ⟨its, r, pl, hz⟩ := I.list hq
  obtain ⟨j, h1, h2, h3, h4, h5⟩ := atI_get he
  obtain ⟨w, ew, rw'⟩ := r.get h2
  have hl := r.length
  have hn := line63
  have fin : EP X pins σ Q w s := ⟨z, H, I, rw', q⟩
  by_cases h0 : 0 ≤ i
  · have hj : i.toNat = j := by
      rw [seqIndex_of h0 h5] at h1
      exact Option.some.inj h1
    exact wpAny_getItem_list pl.isList h0 (by omega) (by rw [hj]; simpa using ew) fin
  · have hj : (i + (its.toArray.size : Int)).toNat = j := by
      rw [seqIndex_neg (by omega) h4] at h1
      rw [List.size_toArray, ← hl]
      exact Option.some.inj h1
    exact wpAny_getItem_list_neg pl.isList (by omega) (by rw [List.size_toArray] <;> omega) (by omega) (by rw [hj]; simpa using ew) fin
theorem s_augi {op : Operator} {n : Str} {p1 p2 : Pos} {ix : Expr} (j : Nat) {m : Int} {k : Nat} (hK : ∀ i, (F i).K = K) {lo : Option Addr} (hρ : ρ[j]? = some (.own lo ds)) (hd : ds[k]? = some x) (hi : E K F ix ρ (.int m)) (hk : m = (k : Int)) (he : E K F e ρ y) (ho : IpD K F op x y z) (h : Δ.nx (ρ.set j (.own lo (ds.set k z)))) (hN : ∀ i, (F i).N[j]? = some n := by intro _; rfl)
    (hv : ∀ i, Vis (F i).env.scope n := by intro _; first | exact Or.inl rfl | exact Or.inr (Or.inl rfl) | exact Or.inr (Or.inr rfl))
    (hdb : (n == ("__debug__" : Str)) = false := by decide) (hcd : (n == ("__classdict__" : Str)) = false := by decide)
    (ha : ∀ ov iv new, augStore ix ov iv new = (do holding [new, ov, iv] (setItem ov iv new); release [new, ov, iv] []; pure .next) := by intros; rfl) : S K F (.AugAssign (.Subscript (.Name n p1) ix p2) op e pos) ρ Δ := fun B I0 I H σ D r re => by
  subst hk
  obtain ⟨rr, hr, hz⟩ := ho
  have hl : k < ds.length := (List.getElem?_eq_some_iff.mp hd).1
  refine ⟨tAugS (tVar j) (tE F ix) (tE F e) (rIxL K) rr rSetL, fun i => ps_augS (pe_var (hN i) (hv i) hdb hcd) (pe_tE i) (by rw [← hK i]; exact get_list) (pe_tE i) (hr i) set_list ha, ?_⟩
  obtain ⟨l, vs, g1, g2, g3, g4, g5, g6⟩ := r.ow j lo ds hρ
  refine ⟨.ref l, g1, ?_⟩
  refine hi B I0 I H σ r _ fun w1 I1 H1 f1 d1 => ?_
  cases d1
  obtain ⟨v0, q1, q2⟩ := dpa_get g5 hd
  refine ⟨l, vs, (k : Int), v0, rfl, rfl, SqL.of (f1.h _ _ g4), atI_nat q1, ?_⟩
  refine he B I0 I1 H1 σ (r.ext f1) _ fun w2 I2 H2 f2 d2 => ?_
  refine hz I2 H2 v0 w2 _ f2.ih (dp_mono (f1.trans f2).i q2) d2 fun w3 I3 H3 f3 d3 => ?_
  have f4 := (f1.trans f2).trans f3
  refine ⟨l, vs, (k : Int), k, rfl, rfl, f4.h _ _ g4, ?_, ?_⟩
  · rw [dpa_len g5]
    exact Evl.ixN_nat hl
  · exact re.nx I3 _ σ _ ((r.ext f4).write hρ g1 (dpa_set d3 (dpa_mono f4.i g5))) h
end
end K67
namespace K67
open PySem PySem.Spec PyProof.Rows L2
open Evl (Ex ex_l ex_t)

/-! ### cuts and items of lists -/
def cut {α : Type} (xs : List α) (lo hi : Option Int) : List α := (xs.drop (HT.sIx xs.length 0 lo)).take (HT.sIx xs.length xs.length hi - HT.sIx xs.length 0 lo)
theorem cut_to {α : Type} (xs : List α) (k : Nat) : cut xs none (some (k : Int)) = xs.take k := by
  unfold cut
  rw [HT.sIx_none, HT.sIx_nat, List.drop_zero, Nat.sub_zero]
  by_cases h : k ≤ xs.length
  · rw [Nat.min_eq_left h]
  · rw [Nat.min_eq_right (by omega), List.take_of_length_le (Nat.le_refl _), List.take_of_length_le (by omega)]
theorem cut_from {α : Type} (xs : List α) (k : Nat) : cut xs (some (k : Int)) none = xs.drop k := by
  unfold cut
  rw [HT.sIx_none, HT.sIx_nat]
  by_cases h : k ≤ xs.length
  · rw [Nat.min_eq_left h, List.take_of_length_le (by rw [List.length_drop]; omega)]
  · rw [Nat.min_eq_right (by omega), Nat.sub_self, List.take_zero, List.drop_eq_nil_of_le (by omega)]
theorem cut_mid {α : Type} (xs : List α) (i j : Nat) (h : i ≤ j) : cut xs (some (i : Int)) (some (j : Int)) = (xs.drop i).take (j - i) := by
  unfold cut
  rw [HT.sIx_nat, HT.sIx_nat]
  by_cases h1 : j ≤ xs.length
  · rw [Nat.min_eq_left h1, Nat.min_eq_left (by omega)]
  · rw [Nat.min_eq_right (a := j) (by omega)]
    by_cases h2 : i ≤ xs.length
    · rw [Nat.min_eq_left h2, List.take_of_length_le (by rw [List.length_drop]; omega), List.take_of_length_le (by rw [List.length_drop]; omega)]
    · rw [Nat.min_eq_right (by omega), Nat.sub_self, List.take_zero, List.drop_eq_nil_of_le (by omega), List.take_nil]
theorem dpa_cut {K : PySem.W.Frag} {H : Hp} {vs : List V} {ds : List PyData} (lo hi : Option Int) (h : DpAll K H vs ds) : DpAll K H (cutV vs lo hi) (cut ds lo hi) := by
  unfold cutV cut
  rw [dpa_len h]
  exact dpa_take _ (dpa_drop _ h)
theorem atI_dp {K : PySem.W.Frag} {H : Hp} {vs : List V} {ds : List PyData} {i : Int} {d : PyData} (h : DpAll K H vs ds) (g : atI ds i = some d) : ∃ v, atI vs i = some v ∧ Dp K H v d := by
  unfold atI at g ⊢
  rw [dpa_len h]
  cases e : ixN ds.length i with
  | none => rw [e] at g; cases g
  | some j =>
    rw [e] at g
    exact dpa_get h g
theorem at_nat {ds : List PyData} {i : Int} {j : Nat} {d : PyData} (hi : i = (j : Int)) (h : ds[j]? = some d) : atI ds i = some d := by
  rw [hi]
  exact atI_nat h
section
variable {K : PySem.W.Frag} {ι : Type} {F : ι → Cx} {e a b c : Expr} {es : List Expr} {ρ ρ2 : DE} {d x y z : PyData} {ds : List PyData} {pos : Pos} {t u : Bool} {m n : Int}
/-! ### ints -/
theorem op_int {f : Value → Value → Sem Value} {C : Int → Int → Prop} {g : Int → Int → Int} (h : ∀ i, OpR (F i) f (rI C fun i j => .int (g i j))) (hc : C m n) : OpD K F f (.int m) (.int n) (.int (g m n)) := ⟨_, h, fun I H a b Q e d1 d2 q => by
  cases d1
  cases d2
  exact ⟨m, n, rfl, rfl, hc, q _ I H (L2_refl e) (.int _)⟩⟩
where L2_refl {I H : Hp} (e : Ex I H) : Fr I H I H := Fr.refl e
theorem op_int0 {f : Value → Value → Sem Value} {g : Int → Int → Int} (h : ∀ i, OpR (F i) f (rI0 fun i j => .int (g i j))) : OpD K F f (.int m) (.int n) (.int (g m n)) := ⟨_, h, fun I H a b Q e d1 d2 q => by
  cases d1
  cases d2
  exact ⟨m, n, rfl, rfl, q _ I H (Fr.refl e) (.int _)⟩⟩
theorem op_cmp0 {f : Value → Value → Sem Value} {g : Int → Int → Bool} (h : ∀ i, OpR (F i) f (rI0 fun i j => .bl (g i j))) : OpD K F f (.int m) (.int n) (.bool (g m n)) := ⟨_, h, fun I H a b Q e d1 d2 q => by
  cases d1
  cases d2
  exact ⟨m, n, rfl, rfl, q _ I H (Fr.refl e) (.bl _)⟩⟩
theorem o_add : OpD K F (binaryOp .Add) (.int m) (.int n) (.int (m + n)) := op_int0 (g := fun i j => i + j) fun _ => op_add
theorem o_sub : OpD K F (binaryOp .Sub) (.int m) (.int n) (.int (m - n)) := op_int0 (g := fun i j => i - j) fun _ => op_sub
theorem o_mul (h : CMulW m n) : OpD K F (binaryOp .Mult) (.int m) (.int n) (.int (m * n)) := op_int (g := fun i j => i * j) (fun _ => op_mulW) h
theorem o_div (h : CDivW m n) : OpD K F (binaryOp .FloorDiv) (.int m) (.int n) (.int (m / n)) := op_int (g := fun i j => i / j) (fun _ => op_fdivW) h
theorem o_mod (h : 0 < n) : OpD K F (binaryOp .Mod) (.int m) (.int n) (.int (m % n)) := by
  have e : m % n = m.fmod n := (Int.fmod_eq_emod_of_nonneg m (by omega)).symm
  rw [e]
  exact op_int (C := fun _ j => j ≠ 0) (g := fun i j => i.fmod j) (fun _ => op_modN) (show n ≠ 0 by omega)
theorem o_pow (h : CPow m n) : OpD K F (binaryOp .Pow) (.int m) (.int n) (.int (m ^ n.toNat)) := op_int (g := fun i j => i ^ j.toNat) (fun _ => op_pow) h
theorem o_lt : OpD K F (compareOp .Lt) (.int m) (.int n) (.bool (decide (m < n))) := op_cmp0 (g := fun i j => decide (i < j)) fun _ => op_lt
theorem o_le : OpD K F (compareOp .LtE) (.int m) (.int n) (.bool (decide (m ≤ n))) := op_cmp0 (g := fun i j => decide (i ≤ j)) fun _ => op_le
theorem o_gt : OpD K F (compareOp .Gt) (.int m) (.int n) (.bool (decide (n < m))) := op_cmp0 (g := fun i j => decide (j < i)) fun _ => op_gt
theorem o_ge : OpD K F (compareOp .GtE) (.int m) (.int n) (.bool (decide (n ≤ m))) := op_cmp0 (g := fun i j => decide (j ≤ i)) fun _ => op_ge
theorem o_eqI : OpD K F (compareOp .Eq) (.int m) (.int n) (.bool (decide (m = n))) := ⟨_, fun _ => op_eq, fun I H a b Q e d1 d2 q => by
  cases d1
  cases d2
  refine ⟨rfl, ?_⟩
  have := q (.bl (decide (m = n))) I H (Fr.refl e) (.bl _)
  rwa [show decide (V.int m = V.int n) = decide (m = n) from by simp]⟩
theorem o_neI : OpD K F (compareOp .NotEq) (.int m) (.int n) (.bool (!decide (m = n))) := ⟨_, fun _ => op_ne, fun I H a b Q e d1 d2 q => by
  cases d1
  cases d2
  refine ⟨rfl, ?_⟩
  have := q (.bl (!decide (m = n))) I H (Fr.refl e) (.bl _)
  rwa [show decide (V.int m = V.int n) = decide (m = n) from by simp]⟩
theorem o_eqS {s1 s2 : Str} : OpD K F (compareOp .Eq) (.str s1) (.str s2) (.bool (decide (s1 = s2))) := ⟨_, fun _ => op_eq, fun I H a b Q e d1 d2 q => by
  cases d1
  cases d2
  refine ⟨rfl, ?_⟩
  have := q (.bl (decide (s1 = s2))) I H (Fr.refl e) (.bl _)
  rwa [show decide (V.str s1 = V.str s2) = decide (s1 = s2) from by simp]⟩
theorem o_neS {s1 s2 : Str} : OpD K F (compareOp .NotEq) (.str s1) (.str s2) (.bool (!decide (s1 = s2))) := ⟨_, fun _ => op_ne, fun I H a b Q e d1 d2 q => by
  cases d1
  cases d2
  refine ⟨rfl, ?_⟩
  have := q (.bl (!decide (s1 = s2))) I H (Fr.refl e) (.bl _)
  rwa [show decide (V.str s1 = V.str s2) = decide (s1 = s2) from by simp]⟩
/-- == of data -/
theorem o_eqD (hK : ∀ i, (F i).K = K) (hu : ∀ i, (F i).A.units + 64 < cLine) (h1 : SeqAt.shaped x = true) (h2 : SeqAt.shaped y = true) : OpD K F (compareOp .Eq) x y (.bool (PyData.eqv x y)) := ⟨rEqD K, fun i => by rw [← hK i]; exact op_eqD (hu i), fun I H a b Q e d1 d2 q =>
  ⟨x, y, dp_mono e d1, dp_mono e d2, h1, h2, q _ I H (Fr.refl e) (.bl _)⟩⟩
/-- is not None -/
theorem o_notN (hx : x ≠ .none) : OpD K F (compareOp .IsNot) x .none (.bool true) := ⟨_, fun i => op_notN, fun I H a b Q e d1 d2 q => by
  cases d2
  refine ⟨rfl, ?_⟩
  have ha : a ≠ .non := fun z => by
    subst z
    cases d1
    exact hx rfl
  rw [decide_eq_false ha]
  exact q _ I H (Fr.refl e) (.bl _)⟩
theorem o_notN0 : OpD K F (compareOp .IsNot) .none .none (.bool false) := ⟨_, fun i => op_notN, fun I H a b Q e d1 d2 q => by
  cases d2
  cases d1
  exact ⟨rfl, q _ I H (Fr.refl e) (.bl _)⟩⟩
/-! ### items, slices -/
theorem i_tup (hK : ∀ i, (F i).K = K) (h : atI ds m = some d) : IxD K F (.tuple ds) (.int m) d := ⟨rIxT K, fun i => by rw [← hK i]; exact ix_tup, fun I H a b Q e d1 d2 q => by
  cases d2
  cases d1 with
  | tup hs ha =>
    obtain ⟨v, g1, g2⟩ := atI_dp ha h
    exact ⟨_, _, m, v, rfl, rfl, ex_t e hs, g1, q v I H (Fr.refl e) g2⟩⟩
theorem i_lst (hK : ∀ i, (F i).K = K) (h : atI ds m = some d) : IxD K F (.list ds) (.int m) d := ⟨rIxL K, fun i => by rw [← hK i]; exact ix_list, fun I H a b Q e d1 d2 q => by
  cases d2
  cases d1 with
  | lst hs ha =>
    obtain ⟨v, g1, g2⟩ := atI_dp ha h
    exact ⟨_, _, m, v, rfl, rfl, ex_l e hs, g1, q v I H (Fr.refl e) g2⟩⟩
theorem sl_tupD (hK : ∀ i, (F i).K = K) {lo hi : Option Int} : SlD K F (.tuple ds) lo hi (.tuple (cut ds lo hi)) := ⟨rSlF K, fun i => by rw [← hK i]; exact sl_tupF, fun I H a Q e d1 q => by
  cases d1 with
  | tup hs ha =>
    rename_i p xs
    refine ⟨p, xs, rfl, ex_t e hs, fun hw => ?_, fun hw l o po hl => ?_⟩
    · refine q _ I H (Fr.refl e) (.tup hs ?_)
      have ec : cut ds lo hi = ds := by
        unfold cut
        rw [← dpa_len ha, hw.1, hw.2, List.drop_zero, Nat.sub_zero, List.take_of_length_le (by rw [dpa_len ha]; exact Nat.le_refl _)]
      rw [ec]
      exact ha
    · have f := Fr.new (o := .frz o (.tup (cutV xs lo hi))) e hl po.2
      exact q _ _ _ f (.tup (sqt_frz upd_same) (dpa_mono f.i (dpa_cut lo hi ha)))⟩
theorem sl_lstD (hK : ∀ i, (F i).K = K) {lo hi : Option Int} : SlD K F (.list ds) lo hi (.list (cut ds lo hi)) := ⟨rSlL K, fun i => by rw [← hK i]; exact sl_list, fun I H a Q e d1 q => by
  cases d1 with
  | lst hs ha =>
    rename_i p xs
    refine ⟨p, xs, rfl, ex_l e hs, fun l hl => ?_⟩
    have f := Fr.new (o := .lst (cutV xs lo hi)) e hl
    exact q _ _ _ f (.lst (SqL.of upd_same) (dpa_mono f.i (dpa_cut lo hi ha)))⟩
/-- t + u -/
theorem o_catT (hK : ∀ i, (F i).K = K) {es : List PyData} (hz : ds.length + es.length ≤ sizeLine) : OpD K F (binaryOp .Add) (.tuple ds) (.tuple es) (.tuple (ds ++ es)) := ⟨rCatF K, fun i => by rw [← hK i]; exact op_catF, fun I H a b Q e d1 d2 q => by
  cases d1 with
  | tup hs ha =>
    cases d2 with
    | tup hs2 ha2 =>
      rename_i p xs p2 xs2
      refine ⟨p, p2, xs, xs2, rfl, rfl, ex_t e hs, ex_t e hs2, by rw [dpa_len ha, dpa_len ha2]; exact hz, fun h0 => ?_, fun h0 h1 => ?_, fun h0 h1 l o po hl => ?_⟩
      · subst h0
        cases ha
        exact q _ I H (Fr.refl e) (.tup hs2 ha2)
      · subst h1
        cases ha2
        rw [List.append_nil] at q
        exact q _ I H (Fr.refl e) (.tup hs ha)
      · have f := Fr.new (o := .frz o (.tup (xs ++ xs2))) e hl po.2
        exact q _ _ _ f (.tup (sqt_frz upd_same) (dpa_mono f.i (dpa_app ha ha2)))⟩
/-! ### calls by values -/
theorem call1 {f : Value} {r : List V → Hp → VK → Prop} (h : ∀ i, CallR (F i) f r) (g : ∀ I H v (Q : VK), Ex I H → Dp K I v x → (∀ v I' H', Fr I H I' H' → Dp K I' v z → Q v H') → r [v] H Q) : CallD K F f [x] z := ⟨r, h, fun I H vs Q e d q => by
  cases d with
  | cons d1 d2 =>
    cases d2
    exact g I H _ Q e d1 q⟩
theorem call1L {f : Value} {r : List V → Hp → VK → Prop} {ws : List PyData} (h : ∀ i, CallR (F i) f r) (g : ∀ I H v (Q : VK), Ex I H → Dp K I v x → (∀ l us I' H', Fr I H I' H' → H l = none → I' l = none → H' l = some (.lst us) → DpAll K I' us ws → Q (.ref l) H') → r [v] H Q) : CallDL K F f [x] ws := ⟨r, h, fun I H vs Q e d q => by
  cases d with
  | cons d1 d2 =>
    cases d2
    exact g I H _ Q e d1 q⟩
theorem call2 {f : Value} {r : List V → Hp → VK → Prop} (h : ∀ i, CallR (F i) f r) (g : ∀ I H v w (Q : VK), Ex I H → Dp K I v x → Dp K I w y → (∀ v I' H', Fr I H I' H' → Dp K I' v z → Q v H') → r [v, w] H Q) : CallD K F f [x, y] z := ⟨r, h, fun I H vs Q e d q => by
  cases d with
  | cons d1 d2 =>
    cases d2 with
    | cons d2 d3 =>
      cases d3
      exact g I H _ _ Q e d1 d2 q⟩
theorem c_all (hK : ∀ i, (F i).K = K) (hc : ∀ i, (F i).calm = true) (bs : List Bool) : CallD K F (.builtin "all") [.list (bs.map PyData.bool)] (.bool (bs.all id)) := call1 (r := rAll K) (fun i => by rw [← hK i]; exact cr_all (hc i)) fun I H v Q e d q => by
  cases d with
  | lst hs ha =>
    rw [dpa_bools ha] at hs
    exact ⟨_, bs, rfl, ex_l e hs, q _ I H (Fr.refl e) (.bl _)⟩
theorem c_len_tup (hK : ∀ i, (F i).K = K) : CallD K F (.builtin "len") [.tuple ds] (.int ds.length) := call1 (r := fun xs H Q => ∃ x n, xs = [x] ∧ LenV K x H n ∧ Q (.int n) H) (fun i => by rw [← hK i]; exact call_len) fun I H v Q e d q => by
  cases d with
  | tup hs ha => exact ⟨_, ds.length, rfl, .inr ⟨_, ex_t e hs, (dpa_len ha).symm⟩, q _ I H (Fr.refl e) (.int _)⟩
theorem c_len_lst (hK : ∀ i, (F i).K = K) : CallD K F (.builtin "len") [.list ds] (.int ds.length) := call1 (r := fun xs H Q => ∃ x n, xs = [x] ∧ LenV K x H n ∧ Q (.int n) H) (fun i => by rw [← hK i]; exact call_len) fun I H v Q e d q => by
  cases d with
  | lst hs ha => exact ⟨_, ds.length, rfl, .inl ⟨_, ex_l e hs, (dpa_len ha).symm⟩, q _ I H (Fr.refl e) (.int _)⟩
theorem c_sum_lst (hK : ∀ i, (F i).K = K) (hc : ∀ i, (F i).calm = true) (ns : List Int) : CallD K F (.builtin "sum") [.list (ns.map PyData.int)] (.int ns.sum) := call1 (r := rSum K) (fun i => by rw [← hK i]; exact cr_sum (hc i)) fun I H v Q e d q => by
  cases d with
  | lst hs ha =>
    rw [dpa_ints ha] at hs
    exact ⟨_, ns, rfl, ex_l e hs, q _ I H (Fr.refl e) (.int _)⟩
theorem c_int : CallD K F (.type "int") [.int m] (.int m) := call1 (fun i => call_int1) fun I H v Q e d q => by
  cases d
  exact .inl ⟨m, rfl, q _ I H (Fr.refl e) (.int _)⟩
theorem c_abs : CallD K F (.builtin "abs") [.int m] (.int (if m < 0 then -m else m)) := call1 (fun i => call_abs) fun I H v Q e d q => by
  cases d
  exact ⟨m, rfl, q _ I H (Fr.refl e) (.int _)⟩
theorem c_tuple_lst (hK : ∀ i, (F i).K = K) : CallD K F (.type "tuple") [.list ds] (.tuple ds) := call1 (r := rTupF K) (fun i => by rw [← hK i]; exact call_tupF) fun I H v Q e d q => by
  cases d with
  | lst hs ha =>
    rename_i p xs
    refine ⟨_, _, rfl, ex_l e hs, fun l o po hl => ?_⟩
    have f := Fr.new (o := .frz o (.tup xs)) e hl po.2
    exact q _ _ _ f (.tup (sqt_frz upd_same) (dpa_mono f.i ha))
theorem c_list_tup (hK : ∀ i, (F i).K = K) : CallDL K F (.type "list") [.tuple ds] ds := call1L (r := fun xs H Q => ∃ p ys, xs = [V.ref p] ∧ (SqL K H p ys ∨ SqT K H p ys) ∧ ∀ l : Addr, H l = none → Q (V.ref l) (upd H l (HO.lst ys))) (fun i => by rw [← hK i]; exact call_list_of) fun I H v Q e d q => by
  cases d with
  | tup hs ha => exact ⟨_, _, rfl, .inr (ex_t e hs), fun l hl => q l _ I _ (Fr.own e hl) hl (Ex.none e hl) upd_same ha⟩
theorem c_list_lst (hK : ∀ i, (F i).K = K) : CallDL K F (.type "list") [.list ds] ds := call1L (r := fun xs H Q => ∃ p ys, xs = [V.ref p] ∧ (SqL K H p ys ∨ SqT K H p ys) ∧ ∀ l : Addr, H l = none → Q (V.ref l) (upd H l (HO.lst ys))) (fun i => by rw [← hK i]; exact call_list_of) fun I H v Q e d q => by
  cases d with
  | lst hs ha => exact ⟨_, _, rfl, .inl (ex_l e hs), fun l hl => q l _ I _ (Fr.own e hl) hl (Ex.none e hl) upd_same ha⟩
theorem c_gcd : CallD K F (.builtin "math.gcd") [.int m, .int n] (.int ((Nat.gcd m.natAbs n.natAbs : Nat) : Int)) := call2 (fun i => cr_gcd) fun I H v w Q e d1 d2 q => by
  cases d1
  cases d2
  exact ⟨m, n, rfl, q _ I H (Fr.refl e) (.int _)⟩
theorem c_divmod (h : CDivP m n) : CallD K F (.builtin "divmod") [.int m, .int n] (.tuple [.int (m / n), .int (m % n)]) := call2 (fun i => call_dmF) fun I H v w Q e d1 d2 q => by
  cases d1
  cases d2
  refine ⟨m, n, rfl, h, fun p o po hp => ?_⟩
  have f := Fr.new (o := .frz o (.tup [.int (m / n), .int (m % n)])) e hp po.2
  exact q _ _ _ f (.tup (sqt_frz upd_same) (.cons (.int _) (.cons (.int _) .nil)))
/-! ### isinstance(e, T) -/
def tyD : PyData → String
  | .none => "NoneType"
  | .bool _ => "bool"
  | .int _ => "int"
  | .str _ => "str"
  | .list _ => "list"
  | .tuple _ => "tuple"
  | .dict _ => "dict"
theorem ty_of {I H : Hp} {v : V} (e : Ex I H) (h : Dp K I v d) : TyX K H v (.type (tyD d)) := by
  cases h with
  | non => exact .base .non
  | bl b => exact .base (.bl b)
  | int i => exact .base (.int i)
  | str i => exact .base (.str i)
  | lst hs ha =>
    rcases ex_l e hs with (h | ⟨o, h⟩) | ⟨o, its, n, h1, h2, _⟩
    · exact .base (.lst h)
    · exact .base (.frz h)
    · exact .kList h1 h2
  | tup hs ha =>
    rcases ex_t e hs with (h | ⟨o, h⟩) | ⟨o, its, n, h1, h2, _⟩
    · exact .base (.tup h)
    · exact .fTuple h
    · exact .kTuple h1 h2
theorem e_isi {T : String} {nT : Str} {p p2 : Pos} {r : Bool} (hK : ∀ i, (F i).K = K) (he : E K F e ρ d) (hk : kitB (tyD d) T = some r) (hm : ∀ i, (F i).mg "isinstance" = none) (hmT : ∀ i, (F i).mg nT = none)
    (hvT : bootBuiltins nT = some (.type T) := by decide +kernel) (hg : ∀ i, Gl (F i) "isinstance" := by intro _; rfl) (hgT : ∀ i, Gl (F i) nT := by intro _; rfl) (hnT : nT ≠ "__name__" := by decide) (hdT : (nT == ("__debug__" : Str)) = false := by decide)
    (h1 : ∀ i, starEach [e, Expr.Name nT p2] (F i).env = (false, eval e (F i).env) :: starEach [Expr.Name nT p2] (F i).env := by intro _; rfl) (h2 : ∀ i, starEach [Expr.Name nT p2] (F i).env = (false, eval (.Name nT p2) (F i).env) :: starEach [] (F i).env := by intro _; rfl)
    (hpl : ∀ i, (backTo pos (starEach [Expr.Name nT p2] (F i).env)).any (·.1) = false := by intro _; rfl) :
    E K F (.Call (.Name "isinstance" p) [e, .Name nT p2] [] pos) ρ (.bool r) := fun B I0 I H σ rr Q q => by
  refine ⟨tCB (rIsi K) (tCons (tE F e) (tCons (tC (.ty T)) tNil)), fun i => ?_, ?_⟩
  · have z := pe_callB (X := F i) (pos := pos) (p := p) call_isi (hg i) (hm i) (by decide +kernel) (pa_cons (pe_tE i) (pa_cons (pe_bltn (v := .ty T) (pos := p2) (hgT i) (hmT i) hvT rfl hnT hdT) pa_nil (h2 i)) (h1 i)) (by decide) (by decide) (h1 i) (hpl i)
    rw [hK i] at z
    exact z
  · refine he B I0 I H σ rr _ fun v I1 H1 f1 d1 => ?_
    exact ⟨v, .ty T, .type (tyD d), .type T, r, rfl, .ty T, ty_of f1.ih d1, kit_ty hk, q _ I1 H1 f1 (.bl _)⟩
end
end K67
namespace K67
open PySem PySem.Spec PyProof.Rows L2
open Evl (Ex ex_l ex_t)

section
variable {X : Cx}
/-- sum(t) of a tuple of ints -/
def rSumT (K : PySem.W.Frag) : List V → Hp → VK → Prop := fun vs H Q => ∃ (a : Addr) (ns : List Int), vs = [V.ref a] ∧ SqT K H a (ns.map V.int) ∧ Q (.int ns.sum) H
theorem cr_sumT (hc : X.calm = true) : CallR X (.builtin "sum") (rSumT X.K) := by
  intro pins s σ H vs us Q I r h
  obtain ⟨a, ns, rfl, hs, q⟩ := h
  obtain ⟨its, rv, hl, _⟩ := I.tuple hs
  rw [Vals.ref1 r]
  obtain ⟨xs, e⟩ := rv.ints.allInts.items
  have hn : numsOf (intItems xs).toList = ns := by rw [← e]; exact rv.ints.numsOf
  rw [nums_intItems] at hn
  rw [e] at hl
  refine PySem.W.ktm_sumG (I.ok.hd hc) hl fun h' tk t' hk => ⟨.int _, H, I.kept hk, ⟨t', ?_⟩, q⟩
  rw [preSum_eq, List.take_of_length_le (by simp), hn]
/-- t.count(k) of a tuple of ints -/
def rCntT (K : PySem.W.Frag) : V → List V → Hp → VK → Prop := fun x xs H Q => ∃ (p : Addr) (ns : List Int) (k : Int), x = .ref p ∧ xs = [.int k] ∧ SqT K H p (ns.map V.int) ∧ Q (.int (ns.count k : Nat)) H
theorem mt_tcount : MtR X "tuple.count" (rCntT X.K) := by
  intro pins s σ H x xs v us Q I rx rxs h
  obtain ⟨p, ns, k, rfl, rfl, hs, q⟩ := h
  cases rx
  obtain ⟨u, rfl, ru⟩ := rxs.one
  obtain ⟨t, rfl⟩ := ru
  obtain ⟨its, rv, hl, hlen⟩ := I.tuple hs
  obtain ⟨⟨cls, dd, data, sl⟩, ho, hc, n, hd⟩ := hl
  simp only at hc hd
  subst hc hd
  have hi := ints_of_vals rv
  refine call_meets PySem.F.slot_tuple_count ⟨_, ho, rfl⟩ PySem.F.entry_tuple_count (PySem.F.args_tuple_count_2 _ _)
    (SeqAt.tuple_countAt p its.toArray n dd sl (.int k t) (eqk k)) ⟨ho, fun y hy => (eqk_gives hi y (by simpa using hy)).at _ _, ?_⟩
  have ec : its.toArray.toList.countP (eqk k) = ns.count k := eqk_count hi
  refine ⟨.int (ns.count k : Nat), H, I.tok _, ⟨s.toks, ?_⟩, q⟩
  show Value.int ((its.toArray.toList.countP (eqk k) : Nat) : Int) s.toks = Value.int ((ns.count k : Nat) : Int) s.toks
  rw [ec]
end
section
variable {prog : Program} {w : World} {A : Around} {E : Value → Shared → Prop} {s : Shared}
open SrtO in
theorem sorted_ordT {l : Addr} {vs : List Value} {ltv : Value → Value → Bool} {Q : Value → Shared → Prop} (O : Swo ltv) (hl : s.heap.IsTuple l vs.toArray) (hz : vs.length ≤ sizeLine)
    (hS : 2 ≤ vs.length → ∀ (h₁ : Heap) (a : Addr), h₁.get? a = some (seqObj "list" vs.toArray 0) → SortableO prog w A.in1.in1 { s with heap := h₁ } a vs ltv)
    (h : ∀ (out : List Value) (h1 h' : Heap) (p : Addr), Srtd ltv out → Stb ltv out vs → (∀ b o, s.heap.get? b = some o → h1.get? b = some o) → h1.objs.size ≤ p → (∀ b o, h1.get? b = some o → h'.get? b = some o) → (∃ ep, h'.get? p = some (seqObj "list" out.toArray ep)) → Q (.ref p) { s with heap := h' }) :
    wpAny (model prog w) A (call (.builtin "sorted") [.ref l]) Q E s := by
  obtain ⟨o, ho, hc, n, hd⟩ := hl
  refine Calls.call_function_entry kind_sorted plain_sorted entry_sorted (args_sorted1 _) ?_
  unfold Builtin.«sorted»
  refine wpAny_bind (m := checkCount "sorted" 1 1 _) (wpAny_pure ?_)
  refine wpAny_bind (PySem.wpAny_collect_seq l (.inr rfl) ho hc hd (fun h1 k1 => ?_) (by rw [List.size_toArray]; exact hz))
  refine wpAny_bind (wpAny_newList ?_ hz)
  have hoL : (h1.push (seqObj "list" vs.toArray 0)).get? h1.objs.size = some (seqObj "list" vs.toArray 0) := Heap.get?_push_size _ rfl
  refine wpAny_bind (wpAny_holding (wpAny_call_entry slot_list_sort ⟨_, hoL, rfl⟩ entry_list_sort (list_sort_ord O hoL hz (fun h2 => hS h2 _ _ hoL) fun out hs hb => ⟨_, rfl, ?_⟩) (args_list_sort _)))
  refine wpAny_pure ⟨_, rfl, h out h1 _ h1.objs.size hs hb k1 (Nat.le_refl _) (fun b o e => ?_) (sortedHeap_at (n := 0) hoL)⟩
  have hlt := Heap.lt_size e
  rw [sortedHeap_old (Nat.ne_of_lt hlt) (by rw [size_push']; exact Nat.lt_succ_of_lt hlt), Heap.get?_push_ne _ _ _ (Nat.ne_of_lt hlt)]
  exact e
end
section
variable {X : Cx}
/-- sorted(t), a tuple of ints -/
def rSortT (K : PySem.W.Frag) : List V → Hp → VK → Prop := fun vs H Q => ∃ (a : Addr) (ns : List Int), vs = [V.ref a] ∧ SqT K H a (ns.map V.int) ∧
  ∀ (ns' : List Int) (p : Addr), ns'.Perm ns → ns'.Pairwise (· ≤ ·) → H p = none → Q (.ref p) (upd H p (.lst (ns'.map V.int)))
theorem cr_sortTI : CallR X (.builtin "sorted") (rSortT X.K) := by
  intro pins s σ H vs us Q I r h
  obtain ⟨a, ns, rfl, hs, q⟩ := h
  obtain ⟨its, rv, hl, hz⟩ := I.tuple hs
  rw [Vals.ref1 r]
  have hi := rv.ints
  refine sorted_ordT SrtO.swo_int hl (by rw [← rv.length]; exact hz) (fun h2 h₁ a' _ => SrtO.ints_sortable hi h2) fun out h1 h' p c1 c2 e1 e2 e3 ⟨ep, e4⟩ => ?_
  obtain ⟨k1, k2, k3⟩ := SrtO.ints_out hi c1 c2
  have hlen : ((out.map SrtO.iv).map V.int).length ≤ sizeLine := by
    rw [List.length_map, k2.length_eq]
    rw [List.length_map] at hz
    exact hz
  have I1 : Inv X pins σ H { s with heap := h1 } := I.kept (t' := s.toks) e1
  have J : Inv X pins σ (upd H p (.lst ((out.map SrtO.iv).map V.int))) { s with heap := h' } := I1.laid (t' := s.toks) e3 e2 ⟨hlen, out, ep, vals_of_ints k1, e4⟩
  exact ⟨.ref p, _, J, rfl, q _ _ k2 k3 (I1.hok.fresh e2)⟩
/-- set(t), a tuple of ints -/
def rSetTI (K : PySem.W.Frag) (w : World) : List V → Hp → VK → Prop := fun vs H Q => ∃ (a : Addr) (ns : List Int), vs = [V.ref a] ∧ SqT K H a (ns.map V.int) ∧ ns.length < 63 ∧
  ∀ (p : Addr) (n : Nat), n ≤ ns.length → H p = none → Q (.ref p) (upd H p (SetO w p (fun j => decide (j ∈ ns)) n))
theorem cr_setTI (hc : X.calm = true) : CallR X (.type "set") (rSetTI X.K X.w) := by
  intro pins s σ H vs us Q I r h
  obtain ⟨a, ns, rfl, hs, hl, q⟩ := h
  obtain ⟨its, rv, ht, hz⟩ := I.tuple hs
  rw [Vals.ref1 r]
  refine call_set_tupI ns (I.ok.hd hc) ht rv.ints (by unfold scanBound; omega) fun h' tk c R1 hcn k => ?_
  exact ⟨.ref _, upd H s.heap.objs.size (SetO X.w s.heap.objs.size (fun j => decide (j ∈ ns)) c), I.laid (t' := tk) k (Nat.le_refl _) (setO_new R1), rfl, q _ c hcn (I.hok.fresh (Nat.le_refl _))⟩
end
end K67
namespace K67
open PySem PySem.Spec PyProof.Rows L2
open Evl (Ex ex_l ex_t)

/-! ### defs that are called where no repr is under way -/
structure RoomG (k : Nat) (A : Around) : Prop where
  r : Room k A
  g : A.guards = some []
theorem RoomG.mono {j k : Nat} {A : Around} (h : RoomG k A) (l : j ≤ k) : RoomG j A := ⟨h.r.mono l, h.g⟩
structure FnG (P : Program) (w : World) (K : PySem.W.Frag) (mg : Str → Option Value) (base : Heap) (k : Nat) (f : Addr) (fd : FuncData) (ps : List Str) (sp : Sp) : Prop where
  len : ∀ vs H Q E, sp vs H Q E → vs.length = ps.length
  run : ∀ (A : Around) (outer : List Env) (s : Shared) (H : Hp) (args : Args) (us : List Value) (vs : List V) (Q : VK) (E : XK), RoomG k A → Env0 P w K mg base A outer s H → BindsTo s fd args (ps.zip us) → Vals vs us → sp vs H Q E → codeAny (model P w) A (.call (.ref f) args) (CR CX0 outer P w H s Q E) s
theorem fng_of {P : Program} {w : World} {K : PySem.W.Frag} {mg : Str → Option Value} {base : Heap} {x : Str} {st : Stmt} {f : Addr} {fd : FuncData} {N ps : List Str} {k : Nat} {sp : Sp} (Fn : Fun K x x st f fd) (S : FnScope N ps (defScope st)) (len : ∀ vs H Q E, sp vs H Q E → vs.length = ps.length)
    (body : ∀ (cdv : Value) (A : Around) (outer : List Env) (s : Shared) (H : Hp) (vs : List V) (Q : VK) (E : XK), RoomG k (A.deeper (envOfC x (defScope st) s.heap.objs.size f cdv)) → sp vs H Q E →
      ∃ t, PSs (cxOf CX0 P w K mg base N x (defScope st) f cdv A outer s H E).nox (defBody st) t ∧ t { nx := fun _ H' => Q .non H', rt := Q } (start N vs) H) : FnG P w K mg base (k + 1) f fd ps sp := by
  obtain ⟨oc, od, kV, doc, pm, an, cdv, ct, osl, rfl, lk, hcd⟩ := Fn.ex
  refine ⟨len, fun A outer s H args us vs Q E hr e0 hb r hsp => ?_⟩
  have hl := len _ _ _ _ hsp
  have kin : K.In s.heap := e0.mod.kin.keeps fun b o q => (e0.bs b o q).1
  have lim : s.heap.NoLimit := e0.mod.nolimit.keeps fun b o q => (e0.bs b o q).1
  have kinds : ∀ y ∈ ps.zip us, (defScope st).names.lookup y.1 = some .local ∨ ((defScope st).names.lookup y.1 = some .cell ∧ ((cellsFrom (s.heap.objs.size + 1) (defScope st).names []).lookup y.1).isSome = true) := by
    rintro ⟨n, v⟩ hy
    rcases S.par n (List.of_mem_zip hy).1 with q | q
    · exact .inl q
    · exact .inr ⟨q, PySem.W.cellsFrom_some _ _ _ (.inl q)⟩
  refine codeAny_call_function hr.r.depth (kin _ _ lk) rfl S.co S.gen rfl (PySem.W.codeRec_of kin hcd) (hb _ _ _ _ (wpAny_newFunctionEnv_cells S.kind kinds fun env he s1 x1 => ?_))
  subst he
  refine ⟨lim.keeps x1.toInCall.keep, codeAny_func ?_⟩
  obtain ⟨t, ht, hq⟩ := body cdv A outer s H vs Q E ⟨hr.r.deeper _, hr.g⟩ hsp
  have I : Inv (cxOf CX0 P w K mg base N x (defScope st) f cdv A outer s H E) [] (start N vs) H s1 := inv_start S hr.r.hd e0 hl r x1
  have out : ∀ {σ' : L2.St} {H' : Hp} {v : V} {u : Value} {s' : Shared}, Inv (cxOf CX0 P w K mg base N x (defScope st) f cdv A outer s H E) [] σ' H' s' → RelV v u → Q v H' → CE outer P w H s Q u s' :=
    fun {σ' H' v u s'} J rv q => ⟨v, H', J.os, J.bare, J.base, J.hok, rv, q⟩
  refine wpAny_mono (ht.nox.run [] s1 (start N vs) H _ I hq) (fun fl s' hs => ?_) fun e s' hs => hs
  cases fl with
  | ret u => obtain ⟨v, σ', H', J, rv, q⟩ := hs; exact out J rv q
  | next => obtain ⟨σ', H', J, q⟩ := hs; exact out (v := V.non) (u := Value.none) J rfl q
  | brk => obtain ⟨_, _, _, q⟩ := hs; exact False.elim q
  | cont => obtain ⟨_, _, _, q⟩ := hs; exact False.elim q
section
variable {X : Cx} {k : Nat} {f : Addr} {fd : FuncData} {ps ks : List Str} {sp : Sp} {E : XK} {x : Str} {p pos : Pos} {e : Expr} {es : List Expr} {t : TA}
theorem rung {pins : List (Addr × Obj)} {σ : L2.St} {H : Hp} {s : Shared} {Q : VK} {us : List Value} {kw : List (Str × Value)} {vs : List V} {zs : List Value} (F : FnG X.prog X.w X.K X.mg X.base k f fd ps sp) (hr : RoomG k X.A) (hx : Passes CX0 X E)
    (hb : BindsTo s fd ⟨us, kw⟩ (ps.zip zs)) (I : Inv X pins σ H s) (r : Vals vs zs) (h : sp vs H Q E) : wpAny (model X.prog X.w) X.A (call (.ref f) us kw) (EP X pins σ Q) X.xe s := by
  refine wpAny_call (codeAny_mono (F.run X.A X.stack s H ⟨us, kw⟩ zs vs Q E hr I.env0 hb r h) fun r s' hq => ?_)
  match r, hq with
  | .error e, hq => exact hx pins σ H s e s' I hq
  | .ok (.ret u), hq => exact I.after hq
theorem pe_callG (F : FnG X.prog X.w X.K X.mg X.base k f fd ps sp) (hr : RoomG k X.A) (hg : Gl X x) (hm : X.mg x = some (.ref f)) (hk : PySem.W.keepIn X.K (.ref f) = true) (hb : Binds X.K fd ps []) (hx : Passes CX0 X E) (ha : PA X (e :: es) t)
    (hdb : (x == ("__debug__" : Str)) = false) (he : starEach (e :: es) X.env = (false, eval e X.env) :: starEach es X.env) (hpl : (backTo pos (starEach es X.env)).any (·.1) = false) : PE X (.Call (.Name x p) (e :: es) [] pos) (tCall sp [] E t) := by
  refine ⟨fun pins s σ H Q I h => ?_⟩
  refine wpAny_Call_Name_kw (ld_glob I hg hm ?_ hdb)
  refine PySem.W.callWith_K (h₀ := X.base) I.ok.mod.kin hk (thn (ha.run pos pins s σ H _ I h) fun us s1 ⟨vs, H1, I1, r, q⟩ => ⟨I1.kIn, ?_⟩) he hpl
  have q' : sp (vs ++ []) H1 Q E := q
  rw [List.append_nil] at q'
  have hl : (us ++ []).length = ps.length := by rw [List.append_nil, ← r.length]; exact F.len _ _ _ _ q'
  have hb' := hb s1 us I1.kIn hl
  rw [List.append_nil] at hb'
  exact rung F hr hx hb' I1 r q'
theorem pe_callG0 (F : FnG X.prog X.w X.K X.mg X.base k f fd ps sp) (hr : RoomG k X.A) (hg : Gl X x) (hm : X.mg x = some (.ref f)) (hk : PySem.W.keepIn X.K (.ref f) = true) {g : List Value → List Value → List Value} {gV : List V → List V → List V} (hb : KBinds X.K fd ps ks g gV) (hx : Passes CX0 X E) {kws : List Keyword} {tk : TA}
    (hkw : PK X kws tk) (hall : (backToKw pos (keywordEach kws X.env)).all (·.1.isSome) = true) (hks : (backToKw pos (keywordEach kws X.env)).filterMap (·.1) = ks)
    (hdb : (x == ("__debug__" : Str)) = false) (hpl : ((backTo pos (starEach [] X.env)).any (·.1) || (backToKw pos (keywordEach kws X.env)).any (·.1.isNone)) = false) : PE X (.Call (.Name x p) [] kws pos) (tCallK sp gV E tNil tk) := by
  refine ⟨fun pins s σ H Q I h => ?_⟩
  refine wpAny_Call_Name_kw (ld_glob I hg hm ?_ hdb)
  refine PySem.W.callWith_KW0 (h₀ := X.base) I.ok.mod.kin hk hall ?_ hpl
  refine thn (hkw.run pos pins s σ H _ I h) fun ws s2 ⟨zs, H2, I2, rz, q2⟩ => ⟨I2.kIn, ?_⟩
  rw [hks]
  have q' : sp (gV [] zs) H2 Q E := q2
  have rr := hb.rel (vs := []) (us := []) .nil rz
  have hl : (g [] ws).length = ps.length := by rw [← rr.length]; exact F.len _ _ _ _ q'
  exact rung F hr hx (hb.to s2 [] ws I2.kIn hl) I2 rr q'
end
/-! ### repr of data, in a context where no repr is under way -/
def rRepr (K : PySem.W.Frag) : List V → Hp → VK → Prop := fun vs H Q => ∃ v d, vs = [v] ∧ Dp K H v d ∧ d.showable = true ∧ d.hasDict = false ∧ d.depth + 1 ≤ 60 ∧ d.shown.length ≤ sizeLine ∧ (∃ a, v = .ref a) ∧ Q (.str d.shown) H
theorem cr_repr {X : Cx} (hg : X.A.guards = some []) (hu : X.A.units + 64 < cLine) : CallR X (.builtin "repr") (rRepr X.K) := by
  intro pins s σ H vs us Q I r h
  obtain ⟨v, d, rfl, hd, h1, h2, h3, h4, ⟨a, rfl⟩, q⟩ := h
  rw [Vals.ref1 r]
  obtain ⟨as, rd⟩ := Dp.reads I d (.ref a) (.ref a) hd rfl
  refine PySem.repr_of_reads' rd h1 (fun z => by rw [h2] at z; cases z) hg (by omega) (fun b o e => e) (fun h' u tk k => ?_) h4
  exact ⟨.str _, H, I.kept k, ⟨_, rfl⟩, q⟩
end K67
namespace K67
open PySem PySem.Spec PyProof.Rows L2
open Evl (Ex ex_l ex_t)

def topS (i : Nat) : Stmt := PySem.Challenge.pw_pushedback_k67_whole_ranks_beside_bags.main.body.getD i (.Pass ⟨0, 0, 0, 0⟩)
/-! ### contexts and what the top has left, as classes -/
class Cal (P : outParam Program) (w : outParam World) (K : outParam PySem.W.Frag) (mg : outParam (Str → Option Value)) (base : outParam Heap) (k : outParam Nat) {ι : Type} (F : ι → Cx) : Prop where
  same : ∀ i, SameW (F i) P w K mg base
  calm : ∀ i, (F i).calm = true
  room : ∀ i, RoomG k (F i).A
  nd : ∀ i, (F i).N.Nodup
theorem cal_body {P : Program} {w : World} {K : PySem.W.Frag} {mg : Str → Option Value} {base : Heap} {k : Nat} {N : List Str} {x : Str} {st : Stmt} {f : Addr} {cdv : Value} {A : Around} {outer : List Env} {s : Shared} {H : Hp} {E' : XK}
    (hr : RoomG k (A.deeper (envOfC x (defScope st) s.heap.objs.size f cdv))) (hN : N.Nodup) : Cal P w K mg base k (bodyX P w K mg base N x st f cdv A outer s H E') :=
  ⟨fun _ => ⟨rfl, rfl, rfl, rfl, rfl⟩, fun _ => rfl, fun _ => hr, fun _ => hN⟩
instance cal_blk {P : Program} {w : World} {K : PySem.W.Frag} {mg : Str → Option Value} {base : Heap} {k : Nat} {ι : Type} {F : ι → Cx} {scope : Scope} [c : Cal P w K mg base k F] : Cal P w K mg base k (blkF F scope) :=
  ⟨fun j => ⟨(c.same j.1).p, (c.same j.1).w, (c.same j.1).K, (c.same j.1).mg, (c.same j.1).b⟩, fun j => c.calm j.1, fun j => c.room j.1, fun j => c.nd j.1⟩
def defNm : Stmt → List Str
  | .FunctionDef n _ _ _ _ _ _ _ _ _ => [n]
  | _ => []
def freeL : List Str := (["abs", "all", "bool", "divmod", "enumerate", "int", "isinstance", "len", "list"] : List Str) ++ (["range", "repr", "reversed", "set", "sorted", "str", "sum", "tuple", "zip"] : List Str)
class Wd (K : PySem.W.Frag) (mg : Str → Option Value) : Prop where
  fn : ∀ (x : Str) (i : Nat), x ∈ defNm (topS i) → ∃ f fd, mg x = some (.ref f) ∧ Fun K x x (topS i) f fd
  free : ∀ x : Str, x ∈ freeL → mg x = none
  gcd : mg "gcd" = some (.builtin "math.gcd")
  kt : ∀ a o, K.lookup a = some o → o.cls = .type "tuple" → o.dict = none
  comb : mg "comb" = some (.builtin "math.comb")
  factorial : mg "factorial" = some (.builtin "math.factorial")
/-- a def's names, and how its arguments bind -/
structure Df (x : Str) (i : Nat) (N ps : List Str) : Prop where
  sc : FnScope N ps (defScope (topS i))
  hb : ∀ (kV doc pm : Value) (an : Option Addr) (cdv ct : Value) (us : List Value), us.length = ps.length → bindArgs (PySem.W.fnOf x x (defArgs (topS i)) (defBody (topS i)) (defScope (topS i)) .none kV doc pm an cdv ct) ⟨us, []⟩ = pure (ps.zip us)
  hx : x ∈ defNm (topS i)
/-- a def as a callee -/
structure Cle (P : Program) (w : World) (K : PySem.W.Frag) (mg : Str → Option Value) (base : Heap) (x : Str) (i : Nat) (ps : List Str) (k : Nat) (sp : Sp) : Prop where
  ex : ∃ f fd, FnG P w K mg base k f fd ps sp ∧ mg x = some (.ref f) ∧ Fun K x x (topS i) f fd ∧ Binds K fd ps []
/-! ### promises by a value's own parameters -/
def spP (K : PySem.W.Frag) {α : Type} (args : α → List PyData) (pre : α → Prop) (val : α → PyData) : Sp := fun vs H Q _ => ∃ I a, Ex I H ∧ NoD I ∧ DpAll K I vs (args a) ∧ pre a ∧ ∀ v I' H', Fr I H I' H' → Dp K I' v (val a) → Q v H'
def spPL (K : PySem.W.Frag) {α : Type} (args : α → List PyData) (pre : α → Prop) (val : α → List PyData) : Sp := fun vs H Q _ => ∃ I a, Ex I H ∧ NoD I ∧ DpAll K I vs (args a) ∧ pre a ∧
  ∀ l ws I' H', Fr I H I' H' → H l = none → I' l = none → H' l = some (.lst ws) → DpAll K I' ws (val a) → Q (.ref l) H'
section
variable {P : Program} {w : World} {K : PySem.W.Frag} {mg : Str → Option Value} {base : Heap}
theorem mkP {x : Str} {i : Nat} {N ps : List Str} {k : Nat} {α : Type} {args : α → List PyData} {pre : α → Prop} {val : α → PyData} [W : Wd K mg] (D : Df x i N ps) (hlen : ∀ a, (args a).length = ps.length)
    (body : ∀ (f : Addr) (cdv : Value) (A : Around) (outer : List Env) (s : Shared) (H : Hp) (E' : XK), Cal P w K mg base k (bodyX P w K mg base N x (topS i) f cdv A outer s H E') → ∀ a, pre a →
      Ss K (bodyX P w K mg base N x (topS i) f cdv A outer s H E') (defBody (topS i)) (begin_ N (args a)) { nx := fun _ => PyData.none = val a, rt := fun _ d => d = val a }) :
    Cle P w K mg base x i ps (k + 1) (spP K args pre val) := by
  obtain ⟨f, fd, hm, Fn⟩ := W.fn x i D.hx
  refine ⟨f, fd, fng_of Fn D.sc (fun vs H Q E' h => ?_) (fun cdv A outer s H vs Q E' hr h => ?_), hm, Fn, Fn.binds D.hb⟩
  · obtain ⟨I, a, e, nd, da, hp, _⟩ := h
    rw [dpa_len da]
    exact hlen a
  · obtain ⟨I, a, e, nd, da, hp, q⟩ := h
    refine ⟨tSs (bodyX P w K mg base N x (topS i) f cdv A outer s H E') (defBody (topS i)), pss_tSs (F := bodyX P w K mg base N x (topS i) f cdv A outer s H E') (), ?_⟩
    refine body f cdv A outer s H E' (cal_body hr D.sc.nd) a hp H I I H _ _ (start_R e nd da) ⟨fun I' H' σ ρ r n => ?_, fun v d I' H' σ ρ r dv n => ?_, fun _ _ _ _ _ n => n.elim, fun _ _ _ _ _ n => n.elim, fun _ _ _ _ _ _ _ _ _ _ _ _ n => n.elim⟩
    · refine q .non I' H' r.fr ?_
      rw [← n]
      exact .non
    · subst n
      exact q v I' H' r.fr dv
/-- .. gives a new list -/
theorem mkPL {x : Str} {i : Nat} {N ps : List Str} {k : Nat} {α : Type} {args : α → List PyData} {pre : α → Prop} {val : α → List PyData} [W : Wd K mg] (D : Df x i N ps) (hlen : ∀ a, (args a).length = ps.length)
    (body : ∀ (f : Addr) (cdv : Value) (A : Around) (outer : List Env) (s : Shared) (H : Hp) (E' : XK), Cal P w K mg base k (bodyX P w K mg base N x (topS i) f cdv A outer s H E') → ∀ a, pre a →
      Ss K (bodyX P w K mg base N x (topS i) f cdv A outer s H E') (defBody (topS i)) (begin_ N (args a)) { nx := fun _ => False, rt := fun _ _ => False, rl := fun ds => ds = val a }) :
    Cle P w K mg base x i ps (k + 1) (spPL K args pre val) := by
  obtain ⟨f, fd, hm, Fn⟩ := W.fn x i D.hx
  refine ⟨f, fd, fng_of Fn D.sc (fun vs H Q E' h => ?_) (fun cdv A outer s H vs Q E' hr h => ?_), hm, Fn, Fn.binds D.hb⟩
  · obtain ⟨I, a, e, nd, da, hp, _⟩ := h
    rw [dpa_len da]
    exact hlen a
  · obtain ⟨I, a, e, nd, da, hp, q⟩ := h
    refine ⟨tSs (bodyX P w K mg base N x (topS i) f cdv A outer s H E') (defBody (topS i)), pss_tSs (F := bodyX P w K mg base N x (topS i) f cdv A outer s H E') (), ?_⟩
    refine body f cdv A outer s H E' (cal_body hr D.sc.nd) a hp H I I H _ _ (start_R e nd da) ⟨fun _ _ _ _ _ n => n.elim, fun _ _ _ _ _ _ _ _ n => n.elim, fun _ _ _ _ _ n => n.elim, fun _ _ _ _ _ n => n.elim, fun l ws ds I' H' σ ρ r g1 g2 g3 g4 n => ?_⟩
    subst n
    exact q l ws I' H' r.fr g1 g2 g3 g4
variable {k0 k : Nat} {ι : Type} {F : ι → Cx} {e a b c : Expr} {es : List Expr} {ρ ρ2 : DE} {d x y z : PyData} {ds : List PyData} {pos : Pos} {t u : Bool} {Δ : De} {st : Stmt} {sts sts2 : List Stmt} {js : List Nat} {n : Str} {p : Pos} {i0 : Nat} {ps : List Str}
theorem cK [C : Cal P w K mg base k F] (i : ι) : (F i).K = K := (C.same i).K
theorem cmg [C : Cal P w K mg base k F] (i : ι) : (F i).mg = mg := (C.same i).mg
/-! ### calls of defs -/
theorem q_call [C : Cal P w K mg base k F] {α : Type} {args : α → List PyData} {pre : α → Prop} {val : α → PyData} (ok : Cle P w K mg base n i0 ps k0 (spP K args pre val)) (a : α) (ha : A K F (e :: es) ρ (args a)) (hp : pre a) (hk : k0 ≤ k := by decide) (hg : ∀ i, Gl (F i) n := by intro _; rfl)
    (hdb : (n == ("__debug__" : Str)) = false := by decide) (he : ∀ i, starEach (e :: es) (F i).env = (false, eval e (F i).env) :: starEach es (F i).env := by intro _; rfl) (hpl : ∀ i, (backTo pos (starEach es (F i).env)).any (·.1) = false := by intro _; rfl) :
    E K F (.Call (.Name n p) (e :: es) [] pos) ρ (val a) := fun B I0 I H σ r Q q => by
  obtain ⟨f, fd, G, hm, Fn, hb⟩ := ok.ex
  refine ⟨tCall (spP K args pre val) [] E0 (tA F (e :: es)), fun i => ?_, ?_⟩
  · obtain ⟨h1, h2, h3, h4, h5⟩ := C.same i
    exact pe_callG (k := k0) (f := f) (fd := fd) (ps := ps) (by rw [h1, h2, h3, h4, h5]; exact G) ((C.room i).mono hk) (hg i) (by rw [h4]; exact hm) (by rw [h3]; exact Fn.kp) (by rw [h3]; exact hb) pass0 (pa_tA i) hdb (he i) (hpl i)
  · refine ha B I0 I H σ r _ fun vs I1 H1 f1 d1 => ?_
    exact ⟨I1, a, f1.ih, (r.ext f1).nd, by (try rw [List.append_nil]); exact d1, hp, fun v I2 H2 f2 d2 => q v I2 H2 (f1.trans f2) d2⟩
/-- .. that gives a new list -/
theorem ql_call [C : Cal P w K mg base k F] {α : Type} {args : α → List PyData} {pre : α → Prop} {val : α → List PyData} (ok : Cle P w K mg base n i0 ps k0 (spPL K args pre val)) (a : α) (ha : A K F (e :: es) ρ (args a)) (hp : pre a) (hk : k0 ≤ k := by decide) (hg : ∀ i, Gl (F i) n := by intro _; rfl)
    (hdb : (n == ("__debug__" : Str)) = false := by decide) (he : ∀ i, starEach (e :: es) (F i).env = (false, eval e (F i).env) :: starEach es (F i).env := by intro _; rfl) (hpl : ∀ i, (backTo pos (starEach es (F i).env)).any (·.1) = false := by intro _; rfl) :
    EL K F (.Call (.Name n p) (e :: es) [] pos) ρ (val a) := fun B I0 I H σ r Q q => by
  obtain ⟨f, fd, G, hm, Fn, hb⟩ := ok.ex
  refine ⟨tCall (spPL K args pre val) [] E0 (tA F (e :: es)), fun i => ?_, ?_⟩
  · obtain ⟨h1, h2, h3, h4, h5⟩ := C.same i
    exact pe_callG (k := k0) (f := f) (fd := fd) (ps := ps) (by rw [h1, h2, h3, h4, h5]; exact G) ((C.room i).mono hk) (hg i) (by rw [h4]; exact hm) (by rw [h3]; exact Fn.kp) (by rw [h3]; exact hb) pass0 (pa_tA i) hdb (he i) (hpl i)
  · refine ha B I0 I H σ r _ fun vs I1 H1 f1 d1 => ?_
    refine ⟨I1, a, f1.ih, (r.ext f1).nd, by (try rw [List.append_nil]); exact d1, hp, fun l ws I2 H2 f2 g1 g2 g3 g4 => q l ws I2 H2 (f1.trans f2) ?_ g2 g3 g4⟩
    cases e : H l with
    | none => rfl
    | some o => rw [f1.h l o e] at g1; cases g1
/-- the values of keywords put in the parameters' order -/
structure Perm_ (ks ps : List Str) where
  v : List Value → List Value
  V : List V → List V
  d : List PyData → List PyData
  rel : ∀ {zs : List L2.V} {ws : List Value}, Vals zs ws → zs.length = ks.length → Vals (V zs) (v ws)
  dat : ∀ {K : PySem.W.Frag} {I : Hp} {zs : List L2.V} {ds : List PyData}, DpAll K I zs ds → zs.length = ks.length → DpAll K I (V zs) (d ds)
theorem kb_of {x : Str} {i : Nat} {f : Addr} {fd : FuncData} {ps ks : List Str} (Fn : Fun K x x (topS i) f fd) (pm : Perm_ ks ps) (hps : ps ≠ [])
    (h : ∀ (kV doc pmv : Value) (an : Option Addr) (cdv ct : Value) (ws : List Value), ws.length = ks.length → bindArgs (PySem.W.fnOf x x (defArgs (topS i)) (defBody (topS i)) (defScope (topS i)) .none kV doc pmv an cdv ct) ⟨[], ks.zip ws⟩ = pure (ps.zip (pm.v ws))) :
    KBinds K fd ps ks (fun us ws => if us.length = 0 ∧ ws.length = ks.length then pm.v ws else []) (fun vs zs => if vs.length = 0 ∧ zs.length = ks.length then pm.V zs else []) := by
  obtain ⟨oc, od, kV, doc, pmv, an, cdv, ct, osl, rfl, lk, hcd⟩ := Fn.ex
  refine ⟨fun s us ws _ hl => ?_, fun {vs us zs ws} r1 r2 => ?_⟩
  · by_cases hc : us.length = 0 ∧ ws.length = ks.length
    · rw [if_pos hc]
      have e : us = [] := List.eq_nil_of_length_eq_zero hc.1
      subst e
      exact .of_eq (h kV doc pmv an cdv ct ws hc.2)
    · rw [if_neg hc] at hl
      exact absurd (List.eq_nil_of_length_eq_zero hl.symm) hps
  · by_cases hc : us.length = 0 ∧ ws.length = ks.length
    · rw [if_pos hc, if_pos ⟨by rw [r1.length]; exact hc.1, by rw [r2.length]; exact hc.2⟩]
      exact pm.rel r2 (by rw [r2.length]; exact hc.2)
    · rw [if_neg hc, if_neg (fun z => hc ⟨by rw [← r1.length]; exact z.1, by rw [← r2.length]; exact z.2⟩)]
      exact .nil
/-- f(k = v, ..) -/
theorem q_callK [C : Cal P w K mg base k F] {α : Type} {args : α → List PyData} {pre : α → Prop} {val : α → PyData} {kws : List Keyword} {ks : List Str} (ok : Cle P w K mg base n i0 ps k0 (spP K args pre val)) (pm : Perm_ ks ps) (a : α) (ha : AK K F kws ρ ds) (hd : pm.d ds = args a) (hl : ds.length = ks.length) (hps : ps ≠ [])
    (hbd : ∀ (kV doc pmv : Value) (an : Option Addr) (cdv ct : Value) (ws : List Value), ws.length = ks.length → bindArgs (PySem.W.fnOf n n (defArgs (topS i0)) (defBody (topS i0)) (defScope (topS i0)) .none kV doc pmv an cdv ct) ⟨[], ks.zip ws⟩ = pure (ps.zip (pm.v ws))) (hp : pre a) (hk : k0 ≤ k := by decide) (hg : ∀ i, Gl (F i) n := by intro _; rfl)
    (hall : ∀ i, (backToKw pos (keywordEach kws (F i).env)).all (·.1.isSome) = true := by intro _; rfl) (hks : ∀ i, (backToKw pos (keywordEach kws (F i).env)).filterMap (·.1) = ks := by intro _; rfl)
    (hdb : (n == ("__debug__" : Str)) = false := by decide) (hpl : ∀ i, ((backTo pos (starEach [] (F i).env)).any (·.1) || (backToKw pos (keywordEach kws (F i).env)).any (·.1.isNone)) = false := by intro _; rfl) :
    E K F (.Call (.Name n p) [] kws pos) ρ (val a) := fun B I0 I H σ r Q q => by
  obtain ⟨f, fd, G, hm, Fn, _⟩ := ok.ex
  refine ⟨tCallK (spP K args pre val) (fun vs zs => if vs.length = 0 ∧ zs.length = ks.length then pm.V zs else []) E0 tNil (tK F kws), fun i => ?_, ?_⟩
  · obtain ⟨h1, h2, h3, h4, h5⟩ := C.same i
    exact pe_callG0 (k := k0) (f := f) (fd := fd) (ps := ps) (ks := ks) (by rw [h1, h2, h3, h4, h5]; exact G) ((C.room i).mono hk) (hg i) (by rw [h4]; exact hm) (by rw [h3]; exact Fn.kp) (by rw [h3]; exact kb_of Fn pm hps hbd) pass0 (pk_tK i) (hall i) (hks i) hdb (hpl i)
  · refine ha B I0 I H σ r _ fun vs I1 H1 f1 d1 => ?_
    have hvl : vs.length = ks.length := by rw [dpa_len d1]; exact hl
    show spP K args pre val (if ([] : List V).length = 0 ∧ vs.length = ks.length then pm.V vs else []) H1 Q E0
    rw [if_pos ⟨rfl, hvl⟩]
    exact ⟨I1, a, f1.ih, (r.ext f1).nd, by rw [← hd]; exact pm.dat d1 hvl, hp, fun v I2 H2 f2 d2 => q v I2 H2 (f1.trans f2) d2⟩
/-! ### built-ins -/
theorem fr_ [C : Cal P w K mg base k F] [W : Wd K mg] {x : Str} (h : x ∈ freeL) (i : ι) : (F i).mg x = none := by
  rw [cmg (F := F) i]
  exact W.free x h
theorem q_len [C : Cal P w K mg base k F] [W : Wd K mg] (h : E K F e ρ x) {m : Nat} (hx : (x = .tuple ds ∨ x = .list ds) := by first | exact .inl rfl | exact .inr rfl) (hm : ds.length = m := by rfl) (hg : ∀ i, Gl (F i) "len" := by intro _; rfl)
    (he : ∀ i, starEach [e] (F i).env = (false, eval e (F i).env) :: starEach [] (F i).env := by intro _; rfl) : E K F (.Call (.Name "len" p) [e] [] pos) ρ (.int (m : Nat)) := by
  subst hm
  rcases hx with rfl | rfl
  · exact e_blt (a_cons h a_nil he) (c_len_tup cK) (fr_ (by decide +kernel)) (by decide +kernel) hg (by decide) (by decide) he fun _ => rfl
  · exact e_blt (a_cons h a_nil he) (c_len_lst cK) (fr_ (by decide +kernel)) (by decide +kernel) hg (by decide) (by decide) he fun _ => rfl
end
end K67
namespace K67
open PySem PySem.Spec PyProof.Rows L2
open Evl (Ex ex_l ex_t)

/-! ### great nats -/
def BIG : Nat := 2 ^ 4000
theorem lt_big {m k : Nat} (h : m < 2 ^ k) (hk : k ≤ 4000) : m < BIG := Nat.lt_of_lt_of_le h (Nat.pow_le_pow_right (by decide) hk)
theorem nabs_big {m : Nat} (h : m < BIG) : ((m : Nat) : Int).natAbs < 2 ^ 4000 := by rw [Int.natAbs_natCast]; exact h
/-! ### nats, tuples and lists of them -/
abbrev nD (n : Nat) : PyData := .int (n : Int)
abbrev tN (ns : List Nat) : PyData := .tuple (ns.map nD)
abbrev lN (ns : List Nat) : PyData := .list (ns.map nD)
theorem map_nD (ns : List Nat) : ns.map nD = (ns.map (fun n : Nat => (n : Int))).map PyData.int := by rw [List.map_map]; rfl
theorem sum_cast (ns : List Nat) : (ns.map (fun n : Nat => (n : Int))).sum = ((ns.sum : Nat) : Int) := by
  induction ns with
  | nil => rfl
  | cons a r ih => rw [List.map_cons, List.sum_cons, List.sum_cons, ih]; rfl
theorem count_cast (ns : List Nat) (k : Nat) : (ns.map (fun n : Nat => (n : Int))).count (k : Int) = ns.count k := by
  induction ns with
  | nil => rfl
  | cons a r ih =>
    rw [List.map_cons, List.count_cons, List.count_cons, ih]
    congr 1
    by_cases h : a = k
    · subst h; simp
    · have h' : ((a : Nat) : Int) ≠ (k : Int) := by omega
      simp [h, h']
section
variable {P : Program} {w : World} {K : PySem.W.Frag} {mg : Str → Option Value} {base : Heap}
variable {k0 k : Nat} {ι : Type} {F : ι → Cx} {e a b c : Expr} {es : List Expr} {ρ ρ2 : DE} {d x y z : PyData} {ds : List PyData} {pos : Pos} {t u : Bool} {Δ : De} {st : Stmt} {sts sts2 : List Stmt} {js : List Nat} {n : Str} {p : Pos} {i0 : Nat} {ps : List Str} {m v : Nat}
theorem e_nat (v : Nat) {i : Int} {kk : Nat} (h : i = (v : Int) := by rfl) : E K F (.Constant (.int i) kk pos) ρ (nD v) := by
  subst h
  exact e_int
theorem n_add : OpD K F (binaryOp .Add) (nD m) (nD v) (nD (m + v)) := o_add
theorem n_sub (h : v ≤ m) : OpD K F (binaryOp .Sub) (nD m) (nD v) (nD (m - v)) := by
  have e : ((m - v : Nat) : Int) = (m : Int) - v := by omega
  show OpD K F (binaryOp .Sub) (nD m) (nD v) (.int ((m - v : Nat) : Int))
  rw [e]
  exact o_sub
theorem n_mul (h1 : m < BIG) (h2 : v < BIG) : OpD K F (binaryOp .Mult) (nD m) (nD v) (nD (m * v)) := by
  have e : ((m * v : Nat) : Int) = (m : Int) * v := by push_cast; rfl
  show OpD K F (binaryOp .Mult) (nD m) (nD v) (.int ((m * v : Nat) : Int))
  rw [e]
  exact o_mul (wide_mul (a := 4000) (b := 4000) (nabs_big h1) (nabs_big h2) (by decide) (by decide) (by decide))
theorem n_div (h0 : 0 < v) (h2 : v < BIG) : OpD K F (binaryOp .FloorDiv) (nD m) (nD v) (nD (m / v)) := o_div (wide_div (b := 4000) (by omega) (nabs_big h2) (by decide) (by decide))
theorem n_mod (h0 : 0 < v) : OpD K F (binaryOp .Mod) (nD m) (nD v) (nD (m % v)) := o_mod (by omega)
theorem n_lt : OpD K F (compareOp .Lt) (nD m) (nD v) (.bool (decide (m < v))) := by
  rw [show decide (m < v) = decide ((m : Int) < v) by simp]
  exact o_lt
theorem n_le : OpD K F (compareOp .LtE) (nD m) (nD v) (.bool (decide (m ≤ v))) := by
  rw [show decide (m ≤ v) = decide ((m : Int) ≤ v) by simp]
  exact o_le
theorem n_gt : OpD K F (compareOp .Gt) (nD m) (nD v) (.bool (decide (v < m))) := by
  rw [show decide (v < m) = decide ((v : Int) < m) by simp]
  exact o_gt
theorem n_ge : OpD K F (compareOp .GtE) (nD m) (nD v) (.bool (decide (v ≤ m))) := by
  rw [show decide (v ≤ m) = decide ((v : Int) ≤ m) by simp]
  exact o_ge
theorem n_eq : OpD K F (compareOp .Eq) (nD m) (nD v) (.bool (decide (m = v))) := by
  rw [show decide (m = v) = decide ((m : Int) = v) by simp [Int.natCast_inj]]
  exact o_eqI
theorem n_ne : OpD K F (compareOp .NotEq) (nD m) (nD v) (.bool (!decide (m = v))) := by
  rw [show decide (m = v) = decide ((m : Int) = v) by simp [Int.natCast_inj]]
  exact o_neI
theorem ipn_add : IpD K F .Add (nD m) (nD v) (nD (m + v)) := ip_addI
theorem ipn_sub (h : v ≤ m) : IpD K F .Sub (nD m) (nD v) (nD (m - v)) := by
  have e : ((m - v : Nat) : Int) = (m : Int) - v := by omega
  show IpD K F .Sub (nD m) (nD v) (.int ((m - v : Nat) : Int))
  rw [e]
  exact ip_subI
/-! ### items, slices -/
theorem i_tN [C : Cal P w K mg base k F] {ns : List Nat} {j : Nat} (h : j < ns.length) : IxD K F (tN ns) (nD j) (nD (ns.getD j 0)) := by
  refine i_tup cK (at_nat rfl ?_)
  rw [List.getElem?_map, List.getElem?_eq_getElem h, List.getD_eq_getElem?_getD, List.getElem?_eq_getElem h]
  rfl
theorem i_lN [C : Cal P w K mg base k F] {ns : List Nat} {j : Nat} (h : j < ns.length) : IxD K F (lN ns) (nD j) (nD (ns.getD j 0)) := by
  refine i_lst cK (at_nat rfl ?_)
  rw [List.getElem?_map, List.getElem?_eq_getElem h, List.getD_eq_getElem?_getD, List.getElem?_eq_getElem h]
  rfl
theorem i_tD [C : Cal P w K mg base k F] {j : Nat} (h : ds[j]? = some d) : IxD K F (.tuple ds) (nD j) d := i_tup cK (at_nat rfl h)
theorem i_lD [C : Cal P w K mg base k F] {j : Nat} (h : ds[j]? = some d) : IxD K F (.list ds) (nD j) d := i_lst cK (at_nat rfl h)
theorem o_nat (h : E K F e ρ (nD m)) : O K F (some e) ρ (some (m : Int)) := o_some h
theorem sl_toT [C : Cal P w K mg base k F] (j : Nat) : SlD K F (.tuple ds) none (some (j : Int)) (.tuple (ds.take j)) := by
  rw [← cut_to]
  exact sl_tupD cK
theorem sl_fromT [C : Cal P w K mg base k F] (j : Nat) : SlD K F (.tuple ds) (some (j : Int)) none (.tuple (ds.drop j)) := by
  rw [← cut_from]
  exact sl_tupD cK
theorem sl_midT [C : Cal P w K mg base k F] {i j : Nat} (h : i ≤ j) : SlD K F (.tuple ds) (some (i : Int)) (some (j : Int)) (.tuple ((ds.drop i).take (j - i))) := by
  rw [← cut_mid _ _ _ h]
  exact sl_tupD cK
theorem sl_toL [C : Cal P w K mg base k F] (j : Nat) : SlD K F (.list ds) none (some (j : Int)) (.list (ds.take j)) := by
  rw [← cut_to]
  exact sl_lstD cK
theorem q_toTN [C : Cal P w K mg base k F] {ns : List Nat} (j : Nat) : SlD K F (tN ns) none (some (j : Int)) (tN (ns.take j)) := by
  show SlD K F _ _ _ (.tuple ((ns.take j).map nD))
  rw [List.map_take]
  exact sl_toT j
theorem q_toLN [C : Cal P w K mg base k F] {ns : List Nat} (j : Nat) : SlD K F (lN ns) none (some (j : Int)) (lN (ns.take j)) := by
  show SlD K F _ _ _ (.list ((ns.take j).map nD))
  rw [List.map_take]
  exact sl_toL j
theorem q_fromTN [C : Cal P w K mg base k F] {ns : List Nat} (j : Nat) : SlD K F (tN ns) (some (j : Int)) none (tN (ns.drop j)) := by
  show SlD K F _ _ _ (.tuple ((ns.drop j).map nD))
  rw [List.map_drop]
  exact sl_fromT j
theorem q_cat [C : Cal P w K mg base k F] {es : List PyData} (hz : ds.length + es.length ≤ 100000) : OpD K F (binaryOp .Add) (.tuple ds) (.tuple es) (.tuple (ds ++ es)) := o_catT cK (Nat.le_trans hz (by rw [sizeLine_eq]; decide))
/-! ### built-ins -/
theorem c_sumTN [C : Cal P w K mg base k F] {ns : List Nat} : CallD K F (.builtin "sum") [tN ns] (nD ns.sum) := call1 (r := rSumT K) (fun i => by rw [← cK (F := F) i]; exact cr_sumT (C.calm i)) fun I H v Q e d q => by
  cases d with
  | tup hs ha =>
    rw [map_nD] at ha
    rw [dpa_ints ha] at hs
    refine ⟨_, _, rfl, ex_t e hs, ?_⟩
    rw [sum_cast]
    exact q _ I H (Fr.refl e) (.int _)
theorem c_sumLN [C : Cal P w K mg base k F] {ns : List Nat} : CallD K F (.builtin "sum") [lN ns] (nD ns.sum) := by
  show CallD K F (.builtin "sum") [.list (ns.map nD)] (.int ((ns.sum : Nat) : Int))
  rw [map_nD, ← sum_cast]
  exact c_sum_lst cK C.calm _
section
variable (hg1 : Unit)
theorem q_sum [C : Cal P w K mg base k F] [W : Wd K mg] {ns : List Nat} (h : E K F e ρ (tN ns)) (hg : ∀ i, Gl (F i) "sum" := by intro _; rfl) (he : ∀ i, starEach [e] (F i).env = (false, eval e (F i).env) :: starEach [] (F i).env := by intro _; rfl) :
    E K F (.Call (.Name "sum" p) [e] [] pos) ρ (nD ns.sum) := e_blt (a_cons h a_nil he) c_sumTN (fr_ (by decide +kernel)) (by decide +kernel) hg (by decide) (by decide) he fun _ => rfl
theorem q_sumL [C : Cal P w K mg base k F] [W : Wd K mg] {ns : List Nat} (h : E K F e ρ (lN ns)) (hg : ∀ i, Gl (F i) "sum" := by intro _; rfl) (he : ∀ i, starEach [e] (F i).env = (false, eval e (F i).env) :: starEach [] (F i).env := by intro _; rfl) :
    E K F (.Call (.Name "sum" p) [e] [] pos) ρ (nD ns.sum) := e_blt (a_cons h a_nil he) c_sumLN (fr_ (by decide +kernel)) (by decide +kernel) hg (by decide) (by decide) he fun _ => rfl
/-- tuple(list) -/
theorem q_tuple [C : Cal P w K mg base k F] [W : Wd K mg] (h : E K F e ρ (.list ds)) (hg : ∀ i, Gl (F i) "tuple" := by intro _; rfl) (he : ∀ i, starEach [e] (F i).env = (false, eval e (F i).env) :: starEach [] (F i).env := by intro _; rfl) :
    E K F (.Call (.Name "tuple" p) [e] [] pos) ρ (.tuple ds) := e_ty (a_cons h a_nil he) (c_tuple_lst cK) (fr_ (by decide +kernel)) (by decide +kernel) hg (by decide) (by decide) he fun _ => rfl
/-- list(tuple), list(list): a new one -/
theorem q_list [C : Cal P w K mg base k F] [W : Wd K mg] (h : E K F e ρ x) (hx : x = .tuple ds ∨ x = .list ds := by first | exact .inl rfl | exact .inr rfl) (hg : ∀ i, Gl (F i) "list" := by intro _; rfl) (he : ∀ i, starEach [e] (F i).env = (false, eval e (F i).env) :: starEach [] (F i).env := by intro _; rfl) :
    EL K F (.Call (.Name "list" p) [e] [] pos) ρ ds := by
  rcases hx with rfl | rfl
  · exact el_ty (a_cons h a_nil he) (c_list_tup cK) (fr_ (by decide +kernel)) (by decide +kernel) hg (by decide) (by decide) he fun _ => rfl
  · exact el_ty (a_cons h a_nil he) (c_list_lst cK) (fr_ (by decide +kernel)) (by decide +kernel) hg (by decide) (by decide) he fun _ => rfl
theorem q_all [C : Cal P w K mg base k F] [W : Wd K mg] {bs : List Bool} (h : E K F e ρ (.list (bs.map PyData.bool))) (hg : ∀ i, Gl (F i) "all" := by intro _; rfl) (he : ∀ i, starEach [e] (F i).env = (false, eval e (F i).env) :: starEach [] (F i).env := by intro _; rfl) :
    E K F (.Call (.Name "all" p) [e] [] pos) ρ (.bool (bs.all id)) := e_blt (a_cons h a_nil he) (c_all cK C.calm bs) (fr_ (by decide +kernel)) (by decide +kernel) hg (by decide) (by decide) he fun _ => rfl
theorem q_int [C : Cal P w K mg base k F] [W : Wd K mg] {i : Int} (h : E K F e ρ (.int i)) (hg : ∀ i, Gl (F i) "int" := by intro _; rfl) (he : ∀ i, starEach [e] (F i).env = (false, eval e (F i).env) :: starEach [] (F i).env := by intro _; rfl) :
    E K F (.Call (.Name "int" p) [e] [] pos) ρ (.int i) := e_ty (a_cons h a_nil he) c_int (fr_ (by decide +kernel)) (by decide +kernel) hg (by decide) (by decide) he fun _ => rfl
theorem q_abs [C : Cal P w K mg base k F] [W : Wd K mg] (h : E K F e ρ (nD m)) (hg : ∀ i, Gl (F i) "abs" := by intro _; rfl) (he : ∀ i, starEach [e] (F i).env = (false, eval e (F i).env) :: starEach [] (F i).env := by intro _; rfl) :
    E K F (.Call (.Name "abs" p) [e] [] pos) ρ (nD m) := by
  have q := e_blt (K := K) (F := F) (ρ := ρ) (pos := pos) (p := p) (a_cons h a_nil he) (c_abs (m := (m : Int))) (fr_ (by decide +kernel)) (by decide +kernel) hg (by decide) (by decide) he fun _ => rfl
  rwa [if_neg (show ¬ ((m : Int) < 0) by omega)] at q
theorem q_gcd [C : Cal P w K mg base k F] [W : Wd K mg] {v : Nat} (h1 : E K F a ρ (nD m)) (h2 : E K F b ρ (nD v)) (hg : ∀ i, Gl (F i) "gcd" := by intro _; rfl) (he : ∀ i, starEach [a, b] (F i).env = (false, eval a (F i).env) :: starEach [b] (F i).env := by intro _; rfl) (he2 : ∀ i, starEach [b] (F i).env = (false, eval b (F i).env) :: starEach [] (F i).env := by intro _; rfl)
    (hpl : ∀ i, (backTo pos (starEach [b] (F i).env)).any (·.1) = false := by intro _; rfl) : E K F (.Call (.Name "gcd" p) [a, b] [] pos) ρ (nD (Nat.gcd m v)) :=
  e_mathf (a_cons h1 (a_cons h2 a_nil he2) he) c_gcd (fun i => by rw [cmg (F := F) i]; exact W.gcd) hg (by decide) he hpl
theorem q_divmod [C : Cal P w K mg base k F] [W : Wd K mg] {v : Nat} (h1 : E K F a ρ (nD m)) (h2 : E K F b ρ (nD v)) (h0 : 0 < v) (hm : m < BIG) (hg : ∀ i, Gl (F i) "divmod" := by intro _; rfl) (he : ∀ i, starEach [a, b] (F i).env = (false, eval a (F i).env) :: starEach [b] (F i).env := by intro _; rfl) (he2 : ∀ i, starEach [b] (F i).env = (false, eval b (F i).env) :: starEach [] (F i).env := by intro _; rfl)
    (hpl : ∀ i, (backTo pos (starEach [b] (F i).env)).any (·.1) = false := by intro _; rfl) : E K F (.Call (.Name "divmod" p) [a, b] [] pos) ρ (.tuple [nD (m / v), nD (m % v)]) :=
  e_blt (a_cons h1 (a_cons h2 a_nil he2) he) (c_divmod (divp_ok (by omega) (Nat.le_trans (PyProof.Rows.intBits_le (k := 4000) (nabs_big hm)) (Nat.le_add_left _ _)))) (fr_ (by decide +kernel)) (by decide +kernel) hg (by decide) (by decide) he hpl
end
end
end K67
namespace K67
open PySem PySem.Spec PyProof.Rows L2

theorem df6 : Df "a_want" 6 ["good", "word"] ["good", "word"] := ⟨⟨rfl, rfl, rfl, by decide +kernel, rfl, by decide +kernel, by decide +kernel⟩, fun _ _ _ _ _ _ us hl => match us, hl with | [_, _], _ => rfl, List.mem_cons_self⟩
theorem df8 : Df "is_integer" 8 ["thing"] ["thing"] := ⟨⟨rfl, rfl, rfl, by decide +kernel, rfl, by decide +kernel, by decide +kernel⟩, fun _ _ _ _ _ _ us hl => match us, hl with | [_], _ => rfl, List.mem_cons_self⟩
theorem df9 : Df "is_number" 9 ["thing"] ["thing"] := ⟨⟨rfl, rfl, rfl, by decide +kernel, rfl, by decide +kernel, by decide +kernel⟩, fun _ _ _ _ _ _ us hl => match us, hl with | [_], _ => rfl, List.mem_cons_self⟩
theorem df10 : Df "is_quotient" 10 ["thing", "top", "bottom"] ["thing"] := ⟨⟨rfl, rfl, rfl, by decide +kernel, rfl, by decide +kernel, by decide +kernel⟩, fun _ _ _ _ _ _ us hl => match us, hl with | [_], _ => rfl, List.mem_cons_self⟩
theorem df11 : Df "a_is_numbers" 11 ["thing", "part"] ["thing"] := ⟨⟨rfl, rfl, rfl, by decide +kernel, rfl, by decide +kernel, by decide +kernel⟩, fun _ _ _ _ _ _ us hl => match us, hl with | [_], _ => rfl, List.mem_cons_self⟩
theorem df12 : Df "is_text" 12 ["letters", "thing", "part"] ["letters", "thing"] := ⟨⟨rfl, rfl, rfl, by decide +kernel, rfl, by decide +kernel, by decide +kernel⟩, fun _ _ _ _ _ _ us hl => match us, hl with | [_, _], _ => rfl, List.mem_cons_self⟩
theorem df16 : Df "choose" 16 ["many", "few"] ["many", "few"] := ⟨⟨rfl, rfl, rfl, by decide +kernel, rfl, by decide +kernel, by decide +kernel⟩, fun _ _ _ _ _ _ us hl => match us, hl with | [_, _], _ => rfl, List.mem_cons_self⟩
theorem df17 : Df "factorial_of" 17 ["many"] ["many"] := ⟨⟨rfl, rfl, rfl, by decide +kernel, rfl, by decide +kernel, by decide +kernel⟩, fun _ _ _ _ _ _ us hl => match us, hl with | [_], _ => rfl, List.mem_cons_self⟩
theorem df19 : Df "f_how_many" 19 ["counts", "many", "count"] ["counts"] := ⟨⟨rfl, rfl, rfl, by decide +kernel, rfl, by decide +kernel, by decide +kernel⟩, fun _ _ _ _ _ _ us hl => match us, hl with | [_], _ => rfl, List.mem_cons_self⟩
theorem df20 : Df "rank_of_text" 20 ["text", "known", "counts", "letter", "many", "left", "rank", "place"] ["text"] := ⟨⟨rfl, rfl, rfl, by decide +kernel, rfl, by decide +kernel, by decide +kernel⟩, fun _ _ _ _ _ _ us hl => match us, hl with | [_], _ => rfl, List.mem_cons_self⟩
theorem df21 : Df "text_by" 21 ["counts", "rank", "many", "remaining", "text", "left", "letter"] ["counts", "rank"] := ⟨⟨rfl, rfl, rfl, by decide +kernel, rfl, by decide +kernel, by decide +kernel⟩, fun _ _ _ _ _ _ us hl => match us, hl with | [_, _], _ => rfl, List.mem_cons_self⟩
theorem df25 : Df "e_ascends" 25 ["thing", "before", "part"] ["thing"] := ⟨⟨rfl, rfl, rfl, by decide +kernel, rfl, by decide +kernel, by decide +kernel⟩, fun _ _ _ _ _ _ us hl => match us, hl with | [_], _ => rfl, List.mem_cons_self⟩
theorem df28 : Df "e_possible" 28 ["starts", "thing", "letter"] ["starts", "thing"] := ⟨⟨rfl, rfl, rfl, by decide +kernel, rfl, by decide +kernel, by decide +kernel⟩, fun _ _ _ _ _ _ us hl => match us, hl with | [_, _], _ => rfl, List.mem_cons_self⟩
theorem df29 : Df "e_counts" 29 ["letters", "text", "letter"] ["letters", "text"] := ⟨⟨rfl, rfl, rfl, by decide +kernel, rfl, by decide +kernel, by decide +kernel⟩, fun _ _ _ _ _ _ us hl => match us, hl with | [_, _], _ => rfl, List.mem_cons_self⟩
theorem df31 : Df "_numbers" 31 ["thing", "one"] ["thing"] := ⟨⟨rfl, rfl, rfl, by decide +kernel, rfl, by decide +kernel, by decide +kernel⟩, fun _ _ _ _ _ _ us hl => match us, hl with | [_], _ => rfl, List.mem_cons_self⟩
theorem df32 : Df "is_table" 32 ["thing"] ["thing"] := ⟨⟨rfl, rfl, rfl, by decide +kernel, rfl, by decide +kernel, by decide +kernel⟩, fun _ _ _ _ _ _ us hl => match us, hl with | [_], _ => rfl, List.mem_cons_self⟩
theorem df33 : Df "b_stands" 33 ["table", "letter"] ["table", "letter"] := ⟨⟨rfl, rfl, rfl, by decide +kernel, rfl, by decide +kernel, by decide +kernel⟩, fun _ _ _ _ _ _ us hl => match us, hl with | [_, _], _ => rfl, List.mem_cons_self⟩
theorem df34 : Df "b_table_letter" 34 ["table", "letter"] ["table", "letter"] := ⟨⟨rfl, rfl, rfl, by decide +kernel, rfl, by decide +kernel, by decide +kernel⟩, fun _ _ _ _ _ _ us hl => match us, hl with | [_, _], _ => rfl, List.mem_cons_self⟩
theorem df35 : Df "b_are_tables" 35 ["tables", "table"] ["tables"] := ⟨⟨rfl, rfl, rfl, by decide +kernel, rfl, by decide +kernel, by decide +kernel⟩, fun _ _ _ _ _ _ us hl => match us, hl with | [_], _ => rfl, List.mem_cons_self⟩
theorem df36 : Df "b_fit" 36 ["tables", "letters", "table", "letter"] ["tables", "letters"] := ⟨⟨rfl, rfl, rfl, by decide +kernel, rfl, by decide +kernel, by decide +kernel⟩, fun _ _ _ _ _ _ us hl => match us, hl with | [_, _], _ => rfl, List.mem_cons_self⟩
theorem df37 : Df "b_tables_letters" 37 ["tables", "letters"] ["tables", "letters"] := ⟨⟨rfl, rfl, rfl, by decide +kernel, rfl, by decide +kernel, by decide +kernel⟩, fun _ _ _ _ _ _ us hl => match us, hl with | [_, _], _ => rfl, List.mem_cons_self⟩
theorem df38 : Df "letters_of" 38 ["table", "letter", "many"] ["table"] := ⟨⟨rfl, rfl, rfl, by decide +kernel, rfl, by decide +kernel, by decide +kernel⟩, fun _ _ _ _ _ _ us hl => match us, hl with | [_], _ => rfl, List.mem_cons_self⟩
theorem df40 : Df "is_learner" 40 ["thing"] ["thing"] := ⟨⟨rfl, rfl, rfl, by decide +kernel, rfl, by decide +kernel, by decide +kernel⟩, fun _ _ _ _ _ _ us hl => match us, hl with | [_], _ => rfl, List.mem_cons_self⟩
theorem df48 : Df "d_is_possible" 48 ["learner", "thing", "starts", "letter"] ["learner", "thing"] := ⟨⟨rfl, rfl, rfl, by decide +kernel, rfl, by decide +kernel, by decide +kernel⟩, fun _ _ _ _ _ _ us hl => match us, hl with | [_, _], _ => rfl, List.mem_cons_self⟩
theorem df49 : Df "d_want_text" 49 ["learner", "text"] ["learner", "text"] := ⟨⟨rfl, rfl, rfl, by decide +kernel, rfl, by decide +kernel, by decide +kernel⟩, fun _ _ _ _ _ _ us hl => match us, hl with | [_, _], _ => rfl, List.mem_cons_self⟩
theorem df54 : Df "a_lowest" 54 ["top", "bottom", "common"] ["top", "bottom"] := ⟨⟨rfl, rfl, rfl, by decide +kernel, rfl, by decide +kernel, by decide +kernel⟩, fun _ _ _ _ _ _ us hl => match us, hl with | [_, _], _ => rfl, List.mem_cons_self⟩
theorem df55 : Df "_want_both" 55 ["one", "other"] ["one", "other"] := ⟨⟨rfl, rfl, rfl, by decide +kernel, rfl, by decide +kernel, by decide +kernel⟩, fun _ _ _ _ _ _ us hl => match us, hl with | [_, _], _ => rfl, List.mem_cons_self⟩
theorem df58 : Df "times" 58 ["one", "other"] ["one", "other"] := ⟨⟨rfl, rfl, rfl, by decide +kernel, rfl, by decide +kernel, by decide +kernel⟩, fun _ _ _ _ _ _ us hl => match us, hl with | [_, _], _ => rfl, List.mem_cons_self⟩
theorem df59 : Df "over" 59 ["one", "other"] ["one", "other"] := ⟨⟨rfl, rfl, rfl, by decide +kernel, rfl, by decide +kernel, by decide +kernel⟩, fun _ _ _ _ _ _ us hl => match us, hl with | [_, _], _ => rfl, List.mem_cons_self⟩
theorem df63 : Df "push_by" 63 ["stack", "table", "letter", "many"] ["stack", "table", "letter"] := ⟨⟨rfl, rfl, rfl, by decide +kernel, rfl, by decide +kernel, by decide +kernel⟩, fun _ _ _ _ _ _ us hl => match us, hl with | [_, _, _], _ => rfl, List.mem_cons_self⟩
theorem df64 : Df "pop_by" 64 ["stack", "table", "laps", "place", "letter"] ["stack", "table"] := ⟨⟨rfl, rfl, rfl, by decide +kernel, rfl, by decide +kernel, by decide +kernel⟩, fun _ _ _ _ _ _ us hl => match us, hl with | [_, _], _ => rfl, List.mem_cons_self⟩
theorem df66 : Df "push_letters" 66 ["stack", "tables", "letters", "place"] ["stack", "tables", "letters"] := ⟨⟨rfl, rfl, rfl, by decide +kernel, rfl, by decide +kernel, by decide +kernel⟩, fun _ _ _ _ _ _ us hl => match us, hl with | [_, _, _], _ => rfl, List.mem_cons_self⟩
theorem df68 : Df "d_after" 68 ["learner", "letters", "gain", "starts", "counts", "letter"] ["learner", "letters"] := ⟨⟨rfl, rfl, rfl, by decide +kernel, rfl, by decide +kernel, by decide +kernel⟩, fun _ _ _ _ _ _ us hl => match us, hl with | [_, _], _ => rfl, List.mem_cons_self⟩
theorem df69 : Df "d_climbed" 69 ["start", "gain", "many", "product", "step"] ["start", "gain", "many"] := ⟨⟨rfl, rfl, rfl, by decide +kernel, rfl, by decide +kernel, by decide +kernel⟩, fun _ _ _ _ _ _ us hl => match us, hl with | [_, _, _], _ => rfl, List.mem_cons_self⟩
theorem df70 : Df "d_chance_counted" 70 ["learner", "counts", "gain", "starts", "top", "start", "many", "bottom"] ["learner", "counts"] := ⟨⟨rfl, rfl, rfl, by decide +kernel, rfl, by decide +kernel, by decide +kernel⟩, fun _ _ _ _ _ _ us hl => match us, hl with | [_, _], _ => rfl, List.mem_cons_self⟩
theorem df71 : Df "d_chance" 71 ["learner", "letters", "counts", "_", "letter"] ["learner", "letters"] := ⟨⟨rfl, rfl, rfl, by decide +kernel, rfl, by decide +kernel, by decide +kernel⟩, fun _ _ _ _ _ _ us hl => match us, hl with | [_, _], _ => rfl, List.mem_cons_self⟩
theorem df72 : Df "chance_learned" 72 ["learner", "text"] ["learner", "text"] := ⟨⟨rfl, rfl, rfl, by decide +kernel, rfl, by decide +kernel, by decide +kernel⟩, fun _ _ _ _ _ _ us hl => match us, hl with | [_, _], _ => rfl, List.mem_cons_self⟩
theorem df73 : Df "push_learned" 73 ["stack", "learner", "text", "tables", "place"] ["stack", "learner", "text"] := ⟨⟨rfl, rfl, rfl, by decide +kernel, rfl, by decide +kernel, by decide +kernel⟩, fun _ _ _ _ _ _ us hl => match us, hl with | [_, _, _], _ => rfl, List.mem_cons_self⟩
theorem df74 : Df "pop_learned" 74 ["stack", "learner", "many", "letters", "_", "letter"] ["stack", "learner", "many"] := ⟨⟨rfl, rfl, rfl, by decide +kernel, rfl, by decide +kernel, by decide +kernel⟩, fun _ _ _ _ _ _ us hl => match us, hl with | [_, _, _], _ => rfl, List.mem_cons_self⟩
theorem df76 : Df "bag_of" 76 ["text"] ["text"] := ⟨⟨rfl, rfl, rfl, by decide +kernel, rfl, by decide +kernel, by decide +kernel⟩, fun _ _ _ _ _ _ us hl => match us, hl with | [_], _ => rfl, List.mem_cons_self⟩
theorem df77 : Df "orders_of_bag" 77 ["bag", "orders", "place", "letter"] ["bag"] := ⟨⟨rfl, rfl, rfl, by decide +kernel, rfl, by decide +kernel, by decide +kernel⟩, fun _ _ _ _ _ _ us hl => match us, hl with | [_], _ => rfl, List.mem_cons_self⟩
theorem df78 : Df "_want_bag" 78 ["learner", "bag"] ["learner", "bag"] := ⟨⟨rfl, rfl, rfl, by decide +kernel, rfl, by decide +kernel, by decide +kernel⟩, fun _ _ _ _ _ _ us hl => match us, hl with | [_, _], _ => rfl, List.mem_cons_self⟩
theorem df79 : Df "chance_of_bag" 79 ["learner", "bag"] ["learner", "bag"] := ⟨⟨rfl, rfl, rfl, by decide +kernel, rfl, by decide +kernel, by decide +kernel⟩, fun _ _ _ _ _ _ us hl => match us, hl with | [_, _], _ => rfl, List.mem_cons_self⟩
theorem df80 : Df "push_bag" 80 ["stack", "learner", "bag", "counts", "text", "left", "_", "letter"] ["stack", "learner", "bag"] := ⟨⟨rfl, rfl, rfl, by decide +kernel, rfl, by decide +kernel, by decide +kernel⟩, fun _ _ _ _ _ _ us hl => match us, hl with | [_, _, _], _ => rfl, List.mem_cons_self⟩
theorem df81 : Df "pop_bag" 81 ["stack", "learner", "many", "text", "left", "letters", "place"] ["stack", "learner", "many"] := ⟨⟨rfl, rfl, rfl, by decide +kernel, rfl, by decide +kernel, by decide +kernel⟩, fun _ _ _ _ _ _ us hl => match us, hl with | [_, _, _], _ => rfl, List.mem_cons_self⟩
theorem df83 : Df "a_is_size" 83 ["thing"] ["thing"] := ⟨⟨rfl, rfl, rfl, by decide +kernel, rfl, by decide +kernel, by decide +kernel⟩, fun _ _ _ _ _ _ us hl => match us, hl with | [_], _ => rfl, List.mem_cons_self⟩
theorem df84 : Df "push_even" 84 ["stack", "many", "digit"] ["stack", "many", "digit"] := ⟨⟨rfl, rfl, rfl, by decide +kernel, rfl, by decide +kernel, by decide +kernel⟩, fun _ _ _ _ _ _ us hl => match us, hl with | [_, _, _], _ => rfl, List.mem_cons_self⟩
theorem df85 : Df "pop_even" 85 ["stack", "many"] ["stack", "many"] := ⟨⟨rfl, rfl, rfl, by decide +kernel, rfl, by decide +kernel, by decide +kernel⟩, fun _ _ _ _ _ _ us hl => match us, hl with | [_, _], _ => rfl, List.mem_cons_self⟩
theorem df108 : Df "is_scheme" 108 ["thing", "word"] ["thing"] := ⟨⟨rfl, rfl, rfl, by decide +kernel, rfl, by decide +kernel, by decide +kernel⟩, fun _ _ _ _ _ _ us hl => match us, hl with | [_], _ => rfl, List.mem_cons_self⟩
theorem df111 : Df "_is_learnt" 111 ["thing", "letters"] ["thing"] := ⟨⟨rfl, rfl, rfl, by decide +kernel, rfl, by decide +kernel, by decide +kernel⟩, fun _ _ _ _ _ _ us hl => match us, hl with | [_], _ => rfl, List.mem_cons_self⟩
theorem df134 : Df "_starts" 134 ["scheme"] ["scheme"] := ⟨⟨rfl, rfl, rfl, by decide +kernel, rfl, by decide +kernel, by decide +kernel⟩, fun _ _ _ _ _ _ us hl => match us, hl with | [_], _ => rfl, List.mem_cons_self⟩
theorem df136 : Df "e_is_thing" 136 ["scheme", "thing", "word"] ["scheme", "thing"] := ⟨⟨rfl, rfl, rfl, by decide +kernel, rfl, by decide +kernel, by decide +kernel⟩, fun _ _ _ _ _ _ us hl => match us, hl with | [_, _], _ => rfl, List.mem_cons_self⟩
theorem df137 : Df "is_thing" 137 ["scheme", "thing"] ["scheme", "thing"] := ⟨⟨rfl, rfl, rfl, by decide +kernel, rfl, by decide +kernel, by decide +kernel⟩, fun _ _ _ _ _ _ us hl => match us, hl with | [_, _], _ => rfl, List.mem_cons_self⟩
theorem df139 : Df "e_chance" 139 ["scheme", "thing", "word"] ["scheme", "thing"] := ⟨⟨rfl, rfl, rfl, by decide +kernel, rfl, by decide +kernel, by decide +kernel⟩, fun _ _ _ _ _ _ us hl => match us, hl with | [_, _], _ => rfl, List.mem_cons_self⟩
theorem df140 : Df "chance_in" 140 ["scheme", "thing"] ["scheme", "thing"] := ⟨⟨rfl, rfl, rfl, by decide +kernel, rfl, by decide +kernel, by decide +kernel⟩, fun _ _ _ _ _ _ us hl => match us, hl with | [_, _], _ => rfl, List.mem_cons_self⟩
theorem df141 : Df "_all_texts" 141 ["letters", "many", "ascending", "rows", "_", "row", "letter"] ["letters", "many", "ascending"] := ⟨⟨rfl, rfl, rfl, by decide +kernel, rfl, by decide +kernel, by decide +kernel⟩, fun _ _ _ _ _ _ us hl => match us, hl with | [_, _, _], _ => rfl, List.mem_cons_self⟩
theorem df143 : Df "e_all" 143 ["scheme", "word", "many", "rank"] ["scheme"] := ⟨⟨rfl, rfl, rfl, by decide +kernel, rfl, by decide +kernel, by decide +kernel⟩, fun _ _ _ _ _ _ us hl => match us, hl with | [_], _ => rfl, List.mem_cons_self⟩
theorem df144 : Df "things_of" 144 ["scheme"] ["scheme"] := ⟨⟨rfl, rfl, rfl, by decide +kernel, rfl, by decide +kernel, by decide +kernel⟩, fun _ _ _ _ _ _ us hl => match us, hl with | [_], _ => rfl, List.mem_cons_self⟩
theorem df146 : Df "e_many" 146 ["scheme", "word", "letters"] ["scheme"] := ⟨⟨rfl, rfl, rfl, by decide +kernel, rfl, by decide +kernel, by decide +kernel⟩, fun _ _ _ _ _ _ us hl => match us, hl with | [_], _ => rfl, List.mem_cons_self⟩
theorem df147 : Df "how_many" 147 ["scheme"] ["scheme"] := ⟨⟨rfl, rfl, rfl, by decide +kernel, rfl, by decide +kernel, by decide +kernel⟩, fun _ _ _ _ _ _ us hl => match us, hl with | [_], _ => rfl, List.mem_cons_self⟩
theorem df157 : Df "_push_text" 157 ["stack", "scheme", "text", "word"] ["stack", "scheme", "text"] := ⟨⟨rfl, rfl, rfl, by decide +kernel, rfl, by decide +kernel, by decide +kernel⟩, fun _ _ _ _ _ _ us hl => match us, hl with | [_, _, _], _ => rfl, List.mem_cons_self⟩
theorem df158 : Df "_push" 158 ["stack", "scheme", "thing", "word"] ["stack", "scheme", "thing"] := ⟨⟨rfl, rfl, rfl, by decide +kernel, rfl, by decide +kernel, by decide +kernel⟩, fun _ _ _ _ _ _ us hl => match us, hl with | [_, _, _], _ => rfl, List.mem_cons_self⟩
theorem df159 : Df "push_thing" 159 ["stack", "scheme", "thing"] ["stack", "scheme", "thing"] := ⟨⟨rfl, rfl, rfl, by decide +kernel, rfl, by decide +kernel, by decide +kernel⟩, fun _ _ _ _ _ _ us hl => match us, hl with | [_, _, _], _ => rfl, List.mem_cons_self⟩
theorem df161 : Df "_pop_text" 161 ["stack", "scheme", "word", "many"] ["stack", "scheme"] := ⟨⟨rfl, rfl, rfl, by decide +kernel, rfl, by decide +kernel, by decide +kernel⟩, fun _ _ _ _ _ _ us hl => match us, hl with | [_, _], _ => rfl, List.mem_cons_self⟩
theorem df162 : Df "_pop" 162 ["stack", "scheme", "word", "digit", "left"] ["stack", "scheme"] := ⟨⟨rfl, rfl, rfl, by decide +kernel, rfl, by decide +kernel, by decide +kernel⟩, fun _ _ _ _ _ _ us hl => match us, hl with | [_, _], _ => rfl, List.mem_cons_self⟩
theorem df163 : Df "pop_thing" 163 ["stack", "scheme"] ["stack", "scheme"] := ⟨⟨rfl, rfl, rfl, by decide +kernel, rfl, by decide +kernel, by decide +kernel⟩, fun _ _ _ _ _ _ us hl => match us, hl with | [_, _], _ => rfl, List.mem_cons_self⟩
theorem df165 : Df "_law_feed" 165 ["_law_script"] ["_law_script"] := ⟨⟨rfl, rfl, rfl, by decide +kernel, rfl, by decide +kernel, by decide +kernel⟩, fun _ _ _ _ _ _ us hl => match us, hl with | [_], _ => rfl, List.mem_cons_self⟩
theorem df166 : Df "_law_draw" 166 ["_law_feed_here", "_law_span", "_law_figure", "_law_cell", "_law_blend"] ["_law_feed_here", "_law_span"] := ⟨⟨rfl, rfl, rfl, by decide +kernel, rfl, by decide +kernel, by decide +kernel⟩, fun _ _ _ _ _ _ us hl => match us, hl with | [_, _], _ => rfl, List.mem_cons_self⟩
theorem df167 : Df "_law_any" 167 ["_law_feed_here", "_law_some"] ["_law_feed_here", "_law_some"] := ⟨⟨rfl, rfl, rfl, by decide +kernel, rfl, by decide +kernel, by decide +kernel⟩, fun _ _ _ _ _ _ us hl => match us, hl with | [_, _], _ => rfl, List.mem_cons_self⟩
theorem df168 : Df "_law_piles" 168 ["_law_feed_here", "_law_great", "_law_lap"] ["_law_feed_here"] := ⟨⟨rfl, rfl, rfl, by decide +kernel, rfl, by decide +kernel, by decide +kernel⟩, fun _ _ _ _ _ _ us hl => match us, hl with | [_], _ => rfl, List.mem_cons_self⟩
theorem df169 : Df "_law_same" 169 ["_law_told", "_law_due"] ["_law_told", "_law_due"] := ⟨⟨rfl, rfl, rfl, by decide +kernel, rfl, by decide +kernel, by decide +kernel⟩, fun _ _ _ _ _ _ us hl => match us, hl with | [_, _], _ => rfl, List.mem_cons_self⟩
theorem df170 : Df "_law_low" 170 ["_law_top", "_law_bottom", "_law_one", "_law_two"] ["_law_top", "_law_bottom"] := ⟨⟨rfl, rfl, rfl, by decide +kernel, rfl, by decide +kernel, by decide +kernel⟩, fun _ _ _ _ _ _ us hl => match us, hl with | [_, _], _ => rfl, List.mem_cons_self⟩
theorem df171 : Df "_law_on" 171 ["_law_pile", "_law_marks", "_law_letter", "_law_much"] ["_law_pile", "_law_marks", "_law_letter"] := ⟨⟨rfl, rfl, rfl, by decide +kernel, rfl, by decide +kernel, by decide +kernel⟩, fun _ _ _ _ _ _ us hl => match us, hl with | [_, _, _], _ => rfl, List.mem_cons_self⟩
theorem df172 : Df "_law_off" 172 ["_law_pile", "_law_marks", "_law_letter", "_law_rest"] ["_law_pile", "_law_marks"] := ⟨⟨rfl, rfl, rfl, by decide +kernel, rfl, by decide +kernel, by decide +kernel⟩, fun _ _ _ _ _ _ us hl => match us, hl with | [_, _], _ => rfl, List.mem_cons_self⟩
theorem df173 : Df "_law_teacher" 173 ["_law_feed_here", "_law_kinds", "_law_nought", "_law_starts", "_law_x"] ["_law_feed_here", "_law_kinds", "_law_nought"] := ⟨⟨rfl, rfl, rfl, by decide +kernel, rfl, by decide +kernel, by decide +kernel⟩, fun _ _ _ _ _ _ us hl => match us, hl with | [_, _, _], _ => rfl, List.mem_cons_self⟩
theorem df174 : Df "_law_chance" 174 ["_law_teacher_here", "_law_row", "_law_gain", "_law_starts", "_law_top", "_law_bottom", "_law_x", "_law_k"] ["_law_teacher_here", "_law_row"] := ⟨⟨rfl, rfl, rfl, by decide +kernel, rfl, by decide +kernel, by decide +kernel⟩, fun _ _ _ _ _ _ us hl => match us, hl with | [_, _], _ => rfl, List.mem_cons_self⟩
theorem df175 : Df "_law_pushed" 175 ["_law_pile", "_law_teacher_here", "_law_row", "_law_gain", "_law_starts", "_law_k", "_law_x"] ["_law_pile", "_law_teacher_here", "_law_row"] := ⟨⟨rfl, rfl, rfl, by decide +kernel, rfl, by decide +kernel, by decide +kernel⟩, fun _ _ _ _ _ _ us hl => match us, hl with | [_, _, _], _ => rfl, List.mem_cons_self⟩
theorem df176 : Df "_law_popped" 176 ["_law_pile", "_law_teacher_here", "_law_long", "_law_gain", "_law_starts", "_law_row", "_law_k", "_law_letter", "_law_x"] ["_law_pile", "_law_teacher_here", "_law_long"] := ⟨⟨rfl, rfl, rfl, by decide +kernel, rfl, by decide +kernel, by decide +kernel⟩, fun _ _ _ _ _ _ us hl => match us, hl with | [_, _, _], _ => rfl, List.mem_cons_self⟩
theorem df177 : Df "_law_orders" 177 ["_law_lot", "_law_found", "_law_lap", "_law_longer", "_law_row", "_law_left", "_law_spots", "_law_k", "_law_one"] ["_law_lot"] := ⟨⟨rfl, rfl, rfl, by decide +kernel, rfl, by decide +kernel, by decide +kernel⟩, fun _ _ _ _ _ _ us hl => match us, hl with | [_], _ => rfl, List.mem_cons_self⟩
theorem df178 : Df "_law_placed" 178 ["_law_row", "_law_tally_here", "_law_ways", "_law_spot", "_law_k", "_law_letter"] ["_law_row"] := ⟨⟨rfl, rfl, rfl, by decide +kernel, rfl, by decide +kernel, by decide +kernel⟩, fun _ _ _ _ _ _ us hl => match us, hl with | [_], _ => rfl, List.mem_cons_self⟩
theorem df179 : Df "_law_next" 179 ["_law_row", "_law_rises", "_law_k", "_law_at", "_law_other", "_law_tail"] ["_law_row"] := ⟨⟨rfl, rfl, rfl, by decide +kernel, rfl, by decide +kernel, by decide +kernel⟩, fun _ _ _ _ _ _ us hl => match us, hl with | [_], _ => rfl, List.mem_cons_self⟩
theorem df180 : Df "_law_bags" 180 ["_law_able", "_law_long", "_law_found", "_law_lap", "_law_longer", "_law_row", "_law_x"] ["_law_able", "_law_long"] := ⟨⟨rfl, rfl, rfl, by decide +kernel, rfl, by decide +kernel, by decide +kernel⟩, fun _ _ _ _ _ _ us hl => match us, hl with | [_, _], _ => rfl, List.mem_cons_self⟩
theorem df181 : Df "_law_bag_on" 181 ["_law_pile", "_law_teacher_here", "_law_lot", "_law_left", "_law_row", "_law_x", "_law_lap", "_law_letter"] ["_law_pile", "_law_teacher_here", "_law_lot"] := ⟨⟨rfl, rfl, rfl, by decide +kernel, rfl, by decide +kernel, by decide +kernel⟩, fun _ _ _ _ _ _ us hl => match us, hl with | [_, _, _], _ => rfl, List.mem_cons_self⟩
theorem df182 : Df "_law_bag_off" 182 ["_law_pile", "_law_teacher_here", "_law_long", "_law_row", "_law_k", "_law_x"] ["_law_pile", "_law_teacher_here", "_law_long"] := ⟨⟨rfl, rfl, rfl, by decide +kernel, rfl, by decide +kernel, by decide +kernel⟩, fun _ _ _ _ _ _ us hl => match us, hl with | [_, _, _], _ => rfl, List.mem_cons_self⟩
theorem df183 : Df "_law_tally" 183 ["_law_kinds", "_law_row", "_law_x"] ["_law_kinds", "_law_row"] := ⟨⟨rfl, rfl, rfl, by decide +kernel, rfl, by decide +kernel, by decide +kernel⟩, fun _ _ _ _ _ _ us hl => match us, hl with | [_, _], _ => rfl, List.mem_cons_self⟩
theorem df184 : Df "_law_ways_right" 184 ["_law_pile", "_law_teacher_here", "_law_row", "_law_kinds", "_law_lot", "_law_plan", "_law_spot", "_law_ways", "_law_mid", "_law_after", "_law_told", "_law_found", "_law_rest", "_law_left", "_law_word"] ["_law_pile", "_law_teacher_here", "_law_row"] := ⟨⟨rfl, rfl, rfl, by decide +kernel, rfl, by decide +kernel, by decide +kernel⟩, fun _ _ _ _ _ _ us hl => match us, hl with | [_, _, _], _ => rfl, List.mem_cons_self⟩
theorem df185 : Df "_law_all_right" 185 ["_law_teacher_here", "_law_able", "_law_long", "_law_plan", "_law_some", "_law_told", "_law_top", "_law_bottom", "_law_lot", "_law_chance_here"] ["_law_teacher_here", "_law_able", "_law_long"] := ⟨⟨rfl, rfl, rfl, by decide +kernel, rfl, by decide +kernel, by decide +kernel⟩, fun _ _ _ _ _ _ us hl => match us, hl with | [_, _, _], _ => rfl, List.mem_cons_self⟩
theorem df186 : Df "_law_ranks_right" 186 ["_law_row", "_law_kinds", "_law_spot", "_law_ways", "_law_late", "_law_round_row", "_law_x"] ["_law_row", "_law_kinds"] := ⟨⟨rfl, rfl, rfl, by decide +kernel, rfl, by decide +kernel, by decide +kernel⟩, fun _ _ _ _ _ _ us hl => match us, hl with | [_, _], _ => rfl, List.mem_cons_self⟩
theorem df187 : Df "_law_orders_right" 187 ["_law_lot", "_law_kinds", "_law_some", "_law_tally_here", "_law_told", "_law_k", "_law_row"] ["_law_lot", "_law_kinds"] := ⟨⟨rfl, rfl, rfl, by decide +kernel, rfl, by decide +kernel, by decide +kernel⟩, fun _ _ _ _ _ _ us hl => match us, hl with | [_, _], _ => rfl, List.mem_cons_self⟩
theorem df188 : Df "_law_holds" 188 ["_law_feed_here", "_law_kinds", "_law_teacher_here", "_law_able", "_law_x", "_law_row", "_law_k", "_law_lot", "_law_plan", "_law_piles_here", "_law_ways", "_law_chance_here", "_law_due", "_law_told", "_law_pile", "_law_more", "_law_longer"] ["_law_feed_here"] := ⟨⟨rfl, rfl, rfl, by decide +kernel, rfl, by decide +kernel, by decide +kernel⟩, fun _ _ _ _ _ _ us hl => match us, hl with | [_], _ => rfl, List.mem_cons_self⟩
theorem df189 : Df "law" 189 ["_law_script"] ["_law_script"] := ⟨⟨rfl, rfl, rfl, by decide +kernel, rfl, by decide +kernel, by decide +kernel⟩, fun _ _ _ _ _ _ us hl => match us, hl with | [_], _ => rfl, List.mem_cons_self⟩
end K67
namespace K67
open PySem PySem.Spec PyProof.Rows L2
def blkB (N : List Str) (sc scope : Scope) (own : List (Str × Nat)) : Bool :=
  decide (∀ y ∈ scope.names, scope.names.lookup y.1 = some y.2) && decide (∀ p ∈ own, N[p.2]? = some p.1) && decide (∀ y ∈ scope.names, y.2 = .free → sc.names.lookup y.1 = some .cell ∨ sc.names.lookup y.1 = some .free) &&
  decide (∀ y ∈ scope.names, y.2 = .local ∨ y.2 = .cell → y.1 ∈ own.map (·.1) ∨ y.1 ∉ N)
theorem blk_of {N : List Str} {sc scope : Scope} {own : List (Str × Nat)} (hk : scope.kind = .function) (h : blkB N sc scope own = true) : BlkOk N sc scope own := by
  unfold blkB at h
  rw [Bool.and_eq_true, Bool.and_eq_true, Bool.and_eq_true] at h
  obtain ⟨⟨⟨h1, h2⟩, h3⟩, h4⟩ := h
  exact ⟨hk, of_decide_eq_true h1, of_decide_eq_true h2, of_decide_eq_true h3, of_decide_eq_true h4⟩
theorem kt_ii {i : Int} : kitB (tyD (.int i)) "int" = some true := by show kitB "int" "int" = _; decide +kernel
theorem kt_ib {i : Int} : kitB (tyD (.int i)) "bool" = some false := by show kitB "int" "bool" = _; decide +kernel
theorem kt_tt {ds : List PyData} : kitB (tyD (.tuple ds)) "tuple" = some true := by show kitB "tuple" "tuple" = _; decide +kernel
theorem kt_ll {ds : List PyData} : kitB (tyD (.list ds)) "list" = some true := by show kitB "list" "list" = _; decide +kernel
theorem kt_ss {s : Str} : kitB (tyD (.str s)) "str" = some true := by show kitB "str" "str" = _; decide +kernel
theorem fm_some {α β : Type} (xs : List α) (h : α → β) : (xs.map fun a => some (h a)).filterMap id = xs.map h := by
  induction xs with
  | nil => rfl
  | cons a r ih =>
    rw [List.map_cons, List.filterMap_cons, List.map_cons, ← ih]
    rfl
theorem fm_ite {α β : Type} (xs : List α) (t : α → Bool) (h : α → β) : (xs.map fun a => if t a then some (h a) else none).filterMap id = (xs.filter t).map h := by
  induction xs with
  | nil => rfl
  | cons a r ih =>
    rw [List.map_cons, List.filterMap_cons]
    cases ht : t a with
    | true =>
      rw [List.filter_cons_of_pos ht, List.map_cons, ← ih]
      rfl
    | false =>
      rw [List.filter_cons_of_neg (by simp [ht]), ← ih]
      rfl
theorem get_map2 {α β γ : Type} {xs : List α} {g : α → β} {h : α → γ} {k : Nat} {d : β} {o : γ} (h1 : (xs.map g)[k]? = some d) (h2 : (xs.map h)[k]? = some o) : ∃ a, a ∈ xs ∧ xs[k]? = some a ∧ d = g a ∧ o = h a := by
  rw [List.getElem?_map] at h1 h2
  cases e : xs[k]? with
  | none => rw [e] at h1; cases h1
  | some a =>
    rw [e] at h1 h2
    exact ⟨a, List.mem_of_getElem? e, rfl, (Option.some.inj h1).symm, (Option.some.inj h2).symm⟩
section
variable {P : Program} {w : World} {K : PySem.W.Frag} {mg : Str → Option Value} {base : Heap}
variable {k : Nat} {ι : Type} {F : ι → Cx} {e elt it tg : Expr} {ρ : DE} {d : PyData} {ds : List PyData} {ifs : List Expr} {scope : Scope} {pos : Pos} {Δ : De}
theorem nd_ [C : Cal P w K mg base k F] : ∀ i, (F i).N.Nodup := C.nd
theorem q_isi [C : Cal P w K mg base k F] [W : Wd K mg] {T : String} {nT : Str} {p p2 : Pos} {r : Bool} (he : E K F e ρ d) (hk : kitB (tyD d) T = some r) (hnf : nT ∈ freeL := by decide +kernel)
    (hvT : bootBuiltins nT = some (.type T) := by decide +kernel) (hg : ∀ i, Gl (F i) "isinstance" := by intro _; rfl) (hgT : ∀ i, Gl (F i) nT := by intro _; rfl) (hnT : nT ≠ "__name__" := by decide) (hdT : (nT == ("__debug__" : Str)) = false := by decide)
    (h1 : ∀ i, starEach [e, Expr.Name nT p2] (F i).env = (false, eval e (F i).env) :: starEach [Expr.Name nT p2] (F i).env := by intro _; rfl) (h2 : ∀ i, starEach [Expr.Name nT p2] (F i).env = (false, eval (.Name nT p2) (F i).env) :: starEach [] (F i).env := by intro _; rfl)
    (hpl : ∀ i, (backTo pos (starEach [Expr.Name nT p2] (F i).env)).any (·.1) = false := by intro _; rfl) :
    E K F (.Call (.Name "isinstance" p) [e, .Name nT p2] [] pos) ρ (.bool r) := e_isi cK he hk (fr_ (by decide +kernel)) (fr_ hnf) hvT hg hgT hnT hdT h1 h2 hpl
/-- an item of a list comprehension without a test, its target one name -/
theorem lc_map [C : Cal P w K mg base k F] {x : Str} {px : Pos} {vs : List Nat} {z : PyData} (j : Nat) (hE : E K (blkF F scope) elt ((wipeD ρ vs).set j (.im d)) z) (hj : j ∈ vs := by simp) (hN : ∀ i, (blkF F scope i).N[j]? = some x := by intro _; rfl) (hx : ∀ i, Loc (blkF F scope i).env.scope x := by intro _; first | exact Or.inl rfl | exact Or.inr rfl)
    (hf : ∀ i, (blkF F scope i).fn x = true ∨ (blkF F scope i).env.scope.names.lookup x = some .local := by intro _; first | exact Or.inl rfl | exact Or.inr rfl) :
    LcT K (blkF F scope) (.Name x px) elt [] vs (wipeD ρ vs) d (some z) :=
  ⟨[j], _, true, fun i hi => by rw [List.mem_singleton.mp hi]; exact hj, tg_name j (Cal.nd (F := blkF F scope)) hN hx hf, ts_nil, nofun, fun _ => ⟨z, rfl, hE⟩⟩
/-- .. with a test -/
theorem lc_if [C : Cal P w K mg base k F] {x : Str} {px : Pos} {vs : List Nat} {z : PyData} {c : Expr} {t : Bool} (j : Nat) (hT : T K (blkF F scope) c ((wipeD ρ vs).set j (.im d)) t) (hE : t = true → E K (blkF F scope) elt ((wipeD ρ vs).set j (.im d)) z) (hj : j ∈ vs := by simp) (hN : ∀ i, (blkF F scope i).N[j]? = some x := by intro _; rfl) (hx : ∀ i, Loc (blkF F scope i).env.scope x := by intro _; first | exact Or.inl rfl | exact Or.inr rfl)
    (hf : ∀ i, (blkF F scope i).fn x = true ∨ (blkF F scope i).env.scope.names.lookup x = some .local := by intro _; first | exact Or.inl rfl | exact Or.inr rfl) :
    LcT K (blkF F scope) (.Name x px) elt [c] vs (wipeD ρ vs) d (if t then some z else none) :=
  ⟨[j], _, t, fun i hi => by rw [List.mem_singleton.mp hi]; exact hj, tg_name j (Cal.nd (F := blkF F scope)) hN hx hf, ts_one hT, fun h => by rw [h]; rfl, fun h => ⟨z, by rw [h]; rfl, hE h⟩⟩
/-- [elt for tg in it], an item a word of xs -/
theorem q_lcM [C : Cal P w K mg base k F] {α : Type} {xs : List α} {g h : α → PyData} (own : List (Str × Nat)) (hs : Src K F tg it ρ (xs.map g)) (hl : xs.length < 5000) (ht : ∀ a ∈ xs, LcT K (blkF F scope) tg elt ifs (own.map (·.2)) (wipeD ρ (own.map (·.2))) (g a) (some (h a)))
    (hkd : scope.kind = .function := by rfl) (hb : ∀ i, blkB (F i).N (F i).env.scope scope own = true := by intro _; kernel_rfl) (hf : ∀ i x, foldedSetIterable it (F i).env x = pure x := by intro _ _; rfl) :
    EL K F (.ListComp elt [⟨tg, it, ifs, 0⟩] scope pos) ρ (xs.map h) := by
  have q := el_lc (K := K) (F := F) (ρ := ρ) (pos := pos) (elt := elt) (tg := tg) (it := it) (ifs := ifs) (scope := scope) (ds := xs.map g) (os := xs.map fun a => some (h a)) own (by rw [List.length_map]; exact Nat.lt_trans hl (by rw [sizeLine_eq]; decide)) (by rw [List.length_map, List.length_map]) C.nd hs (fun i => blk_of hkd (hb i)) (fun k d o h1 h2 => by
    obtain ⟨a, ha, _, rfl, rfl⟩ := get_map2 h1 h2
    exact ht a ha) C.calm hf
  rwa [fm_some] at q
theorem q_lcF [C : Cal P w K mg base k F] {α : Type} {xs : List α} {g h : α → PyData} {t : α → Bool} (own : List (Str × Nat)) (hs : Src K F tg it ρ (xs.map g)) (hl : xs.length < 5000) (ht : ∀ a ∈ xs, LcT K (blkF F scope) tg elt ifs (own.map (·.2)) (wipeD ρ (own.map (·.2))) (g a) (if t a then some (h a) else none))
    (hkd : scope.kind = .function := by rfl) (hb : ∀ i, blkB (F i).N (F i).env.scope scope own = true := by intro _; kernel_rfl) (hf : ∀ i x, foldedSetIterable it (F i).env x = pure x := by intro _ _; rfl) :
    EL K F (.ListComp elt [⟨tg, it, ifs, 0⟩] scope pos) ρ ((xs.filter t).map h) := by
  have q := el_lc (K := K) (F := F) (ρ := ρ) (pos := pos) (elt := elt) (tg := tg) (it := it) (ifs := ifs) (scope := scope) (ds := xs.map g) (os := xs.map fun a => if t a then some (h a) else none) own (by rw [List.length_map]; exact Nat.lt_trans hl (by rw [sizeLine_eq]; decide)) (by rw [List.length_map, List.length_map]) C.nd hs (fun i => blk_of hkd (hb i)) (fun k d o h1 h2 => by
    obtain ⟨a, ha, _, rfl, rfl⟩ := get_map2 h1 h2
    exact ht a ha) C.calm hf
  rwa [fm_ite] at q
/-- name = [..] on one line: data, or one's own -/
theorem s_lcIM [C : Cal P w K mg base k F] {α : Type} {xs : List α} {g h : α → PyData} {n : Str} {py spos : Pos} (j : Nat) (own : List (Str × Nat)) (hs : Src K F tg it ρ (xs.map g)) (hl : xs.length < 5000) (ht : ∀ a ∈ xs, LcT K (blkF F scope) tg elt ifs (own.map (·.2)) (wipeD ρ (own.map (·.2))) (g a) (some (h a)))
    (hn : Δ.nx (ρ.set j (.im (.list (xs.map h))))) (hkd : scope.kind = .function := by rfl) (hb : ∀ i, blkB (F i).N (F i).env.scope scope own = true := by intro _; kernel_rfl) (hy : ∀ i, (F i).N[j]? = some n := by intro _; rfl) (hyl : ∀ i, (F i).env.scope.names.lookup n = some .local := by intro _; rfl)
    (hsw : ∀ i, swapsWith (.ListComp elt [⟨tg, it, ifs, 0⟩] scope pos) (some (.Name n py)) spos.line (F i).env = pure true := by intro _; exact sw_true rfl rfl rfl (by decide +kernel)) (hf : ∀ i x, foldedSetIterable it (F i).env x = pure x := by intro _ _; rfl) :
    S K F (.Assign [.Name n py] (.ListComp elt [⟨tg, it, ifs, 0⟩] scope pos) spos) ρ Δ :=
  s_lcI (ds := xs.map g) (os := xs.map fun a => some (h a)) j own (by rw [List.length_map]; exact Nat.lt_trans hl (by rw [sizeLine_eq]; decide)) (by rw [List.length_map, List.length_map]) C.nd hs (fun i => blk_of hkd (hb i)) (fun k d o h1 h2 => by
    obtain ⟨a, ha, _, rfl, rfl⟩ := get_map2 h1 h2
    exact ht a ha) (by rw [fm_some]; exact hn) hy hyl hsw C.calm hf
theorem s_lcOM [C : Cal P w K mg base k F] {α : Type} {xs : List α} {g h : α → PyData} {n : Str} {py spos : Pos} (j : Nat) (own : List (Str × Nat)) (hs : Src K F tg it ρ (xs.map g)) (hl : xs.length < 5000) (ht : ∀ a ∈ xs, LcT K (blkF F scope) tg elt ifs (own.map (·.2)) (wipeD ρ (own.map (·.2))) (g a) (some (h a)))
    (hn : Δ.nx (ρ.set j (.ow (xs.map h)))) (hkd : scope.kind = .function := by rfl) (hb : ∀ i, blkB (F i).N (F i).env.scope scope own = true := by intro _; kernel_rfl) (hy : ∀ i, (F i).N[j]? = some n := by intro _; rfl) (hyl : ∀ i, (F i).env.scope.names.lookup n = some .local := by intro _; rfl)
    (hsw : ∀ i, swapsWith (.ListComp elt [⟨tg, it, ifs, 0⟩] scope pos) (some (.Name n py)) spos.line (F i).env = pure true := by intro _; exact sw_true rfl rfl rfl (by decide +kernel)) (hf : ∀ i x, foldedSetIterable it (F i).env x = pure x := by intro _ _; rfl) :
    S K F (.Assign [.Name n py] (.ListComp elt [⟨tg, it, ifs, 0⟩] scope pos) spos) ρ Δ :=
  s_lcO (ds := xs.map g) (os := xs.map fun a => some (h a)) j own (by rw [List.length_map]; exact Nat.lt_trans hl (by rw [sizeLine_eq]; decide)) (by rw [List.length_map, List.length_map]) C.nd hs (fun i => blk_of hkd (hb i)) (fun k d o h1 h2 => by
    obtain ⟨a, ha, _, rfl, rfl⟩ := get_map2 h1 h2
    exact ht a ha) (by rw [fm_some]; exact hn) hy hyl hsw C.calm hf
theorem s_lcIF [C : Cal P w K mg base k F] {α : Type} {xs : List α} {g h : α → PyData} {t : α → Bool} {n : Str} {py spos : Pos} (j : Nat) (own : List (Str × Nat)) (hs : Src K F tg it ρ (xs.map g)) (hl : xs.length < 5000) (ht : ∀ a ∈ xs, LcT K (blkF F scope) tg elt ifs (own.map (·.2)) (wipeD ρ (own.map (·.2))) (g a) (if t a then some (h a) else none))
    (hn : Δ.nx (ρ.set j (.im (.list ((xs.filter t).map h))))) (hkd : scope.kind = .function := by rfl) (hb : ∀ i, blkB (F i).N (F i).env.scope scope own = true := by intro _; kernel_rfl) (hy : ∀ i, (F i).N[j]? = some n := by intro _; rfl) (hyl : ∀ i, (F i).env.scope.names.lookup n = some .local := by intro _; rfl)
    (hsw : ∀ i, swapsWith (.ListComp elt [⟨tg, it, ifs, 0⟩] scope pos) (some (.Name n py)) spos.line (F i).env = pure true := by intro _; exact sw_true rfl rfl rfl (by decide +kernel)) (hf : ∀ i x, foldedSetIterable it (F i).env x = pure x := by intro _ _; rfl) :
    S K F (.Assign [.Name n py] (.ListComp elt [⟨tg, it, ifs, 0⟩] scope pos) spos) ρ Δ :=
  s_lcI (ds := xs.map g) (os := xs.map fun a => if t a then some (h a) else none) j own (by rw [List.length_map]; exact Nat.lt_trans hl (by rw [sizeLine_eq]; decide)) (by rw [List.length_map, List.length_map]) C.nd hs (fun i => blk_of hkd (hb i)) (fun k d o h1 h2 => by
    obtain ⟨a, ha, _, rfl, rfl⟩ := get_map2 h1 h2
    exact ht a ha) (by rw [fm_ite]; exact hn) hy hyl hsw C.calm hf
end
end K67
namespace K67
open PySem PySem.Spec PyProof.Rows L2
open Evl (Ex ex_l ex_t)

/-! ### enumerate(tuple) -/
set_option maxHeartbeats 1000000 in
theorem enum_tup_new {v : Value} {o : Obj} {HH : Heap → Prop} (B : Begins v o HH) :
    Meets (Builtin.«enumerate.__new__» ⟨[.type "enumerate", v], []⟩) (fun _ R s => HH s.heap ∧
      R (.ok (.ret (.ref (s.heap.push o).objs.size))) { s with heap := (s.heap.push o).push { cls := .type "enumerate", data := .fields #[.none, .bool false, .ref s.heap.objs.size, rawInt 0, .none, .none] } }) :=
  .of_wp fun prog w A R s h => by
    obtain ⟨hp, g, d, tk, os⟩ := s
    obtain ⟨h1, h⟩ := h
    have hsub := sub_enumerate
    have q1 : ∀ {A' : Around} {E : Value → Shared → Prop} {Q : Value → Shared → Prop}, Q (.ref hp.objs.size) ⟨hp.push o, g, d, tk, os⟩ → wpAny (model prog w) A' (pyIter v) Q E ⟨hp, g, d, tk, os⟩ := fun q => B.iter prog w _ _ ⟨hp, g, d, tk, os⟩ _ h1 q
    wp_walk using q1
    refine wpAny_stack_any fun st => wpAny_pure ?_
    split
    · rename_i c _ _ _ _ _
      cases (c == Value.type "enumerate") <;> (wp_walk using q1; exact ⟨_, rfl, h⟩)
    · wp_walk using q1
      exact ⟨_, rfl, h⟩
theorem call_enum_tup {prog : Program} {w : World} {A : Around} {E : Value → Shared → Prop} {s : Shared} {t : Addr} {items : Array Value} {Q : Value → Shared → Prop} (ht : s.heap.IsTuple t items)
    (h : ∀ h', IsEnum h' (s.heap.objs.size + 1) s.heap.objs.size 0 .none → h'.IsTupleIter s.heap.objs.size t 0 → (∀ b o, s.heap.get? b = some o → h'.get? b = some o) → Q (.ref (s.heap.objs.size + 1)) { s with heap := h' }) :
    wpAny (model prog w) A (call (.type "enumerate") [.ref t]) Q E s := by
  refine callType_new F.called_enumerate (by decide) (F.typeCall_enumerate_1 _) (F.newCall_enumerate_1 _) (fun obj => F.args_object_init_2 obj _) F.entry_enumerate_new (enum_tup_new (begins_tuple t items)) ⟨ht, ?_⟩
  have hz : (s.heap.push { cls := .type "tuple_iterator", data := .fields #[.ref t, .int 0 0] }).objs.size = s.heap.objs.size + 1 := Heap.size_push ..
  show _ ∧ _
  rw [hz]
  have he := Heap.get?_push_size (s.heap.push { cls := .type "tuple_iterator", data := .fields #[.ref t, .int 0 0] }) (o := { cls := .type "enumerate", data := .fields #[.none, .bool false, .ref s.heap.objs.size, rawInt 0, .none, .none] }) rfl
  rw [hz] at he
  exact ⟨⟨_, he, rfl⟩, h _ he ⟨_, Heap.get?_push_of_some _ (Heap.get?_push_size _ rfl), rfl, rfl⟩ fun b o x => Heap.get?_push_of_some _ (Heap.get?_push_of_some _ x)⟩
/-- the tuple at a as it stands at each turn, each item in a new pair -/
def ItT (K : PySem.W.Frag) (a : Addr) : It :=
  ⟨fun i H => ∃ (xs : List V) (x : V), SqT K H a xs ∧ xs[i]? = some x, fun i H v H' => ∃ T x, v = .ref T ∧ H T = none ∧ (∃ o, Plt o ∧ H' = upd H T (.frz o (.tup [.int (i : Nat), x]))) ∧ ∀ xs, SqT K H a xs → xs[i]? = some x, fun i H => ∃ xs : List V, SqT K H a xs ∧ xs.length = i⟩
theorem turn_enumT {P : Program} {w : World} {K : PySem.W.Frag} {elts : List Expr} {kk : Nat} {tpos : Pos} (a e it : Addr) (hai : a ≠ it) (hea : e ≠ a) :
    Turn P w K (.Tuple elts kk tpos) (ItT K a) [e, it] e (fun i h => (∃ old, IsEnum h e it ((i : Nat) : Int) old) ∧ h.IsTupleIter it a i ∧ e ≠ it) where
  mem := by simp
  obj := fun i h st b hb => by
    obtain ⟨⟨old, he⟩, ⟨o, ho, hc, hd⟩, _⟩ := st
    have e' : b = e ∨ b = it := by simpa using hb
    rcases e' with rfl | rfl
    · exact ⟨_, he, fun v q => nomatch q⟩
    · exact ⟨o, ho, fun v q => by rw [hd] at q; cases q⟩
  keep := fun i h h' ⟨⟨old, he⟩, hi, hne⟩ k => ⟨⟨old, k e (by simp) _ he⟩, hi.at fun o q => k it (by simp) o q, hne⟩
  item := by
    intro X hP hw hK hc i pins s σ H E I hf ⟨⟨old, he⟩, hit, hne⟩ ⟨xs, x, hq, hx⟩
    subst hP hw hK
    obtain ⟨its, rv, p, hz⟩ := I.tuple hq
    obtain ⟨u, hu, ru⟩ := rv.get hx
    have hel : e < s.heap.objs.size := Heap.lt_size he
    have hil : it < s.heap.objs.size := by obtain ⟨_, q, _⟩ := hit; exact Heap.lt_size q
    have hli : i < its.toArray.size := by rw [List.size_toArray]; exact (List.getElem?_eq_some_iff.mp hu).1
    refine wpAny_pyNext_enum_itemD (Draws.tuple (A := X.A.in1) (by exact I.ok.hd hc) it a hai its.toArray) he ⟨hit, p⟩ hli hne (by simp; exact ⟨hne, hea⟩) fun y h' tk hy ho st' hT hsz hk => ?_
    have ey : y = u := by
      have h1 : its[i]? = some y := by simpa using hy
      rw [hu] at h1
      exact (Option.some.inj h1).symm
    subst ey
    refine ⟨_, rfl, wpAny_letOwnedTupleGo_enum (s := { s with heap := h', toks := tk + 1 }) ho fun h'' he' sb => ?_⟩
    have hT2 : h''.get? s.heap.objs.size = some { cls := .type "tuple", data := .seq #[.int i tk, y] } := (sb.2 _ (Nat.ne_of_gt hel)).trans hT
    have new : ObjOk X.prog X.w (upd H s.heap.objs.size (.frz { cls := .type "tuple", data := .seq #[.int i tk, y] } (.tup [.int (i : Nat), x]))) h'' s.heap.objs.size (.frz { cls := .type "tuple", data := .seq #[.int i tk, y] } (.tup [.int (i : Nat), x])) := ⟨hT2, by show 2 ≤ sizeLine; decide, [.int i tk, y], .cons ⟨_, rfl⟩ (.cons ru .nil), ⟨_, hT2, rfl, _, rfl⟩⟩
    have I1 : Inv X pins σ (upd H s.heap.objs.size (.frz { cls := .type "tuple", data := .seq #[.int i tk, y] } (.tup [.int (i : Nat), x]))) { s with heap := h'', toks := tk + 1 } :=
      I.turnedNew (ch := [e, it]) (fun b ob hb q => (sb.2 b fun z => hb (by simp [z])).trans (hk b ob (fun z => hb (by simp [z])) (fun z => hb (by simp [z])) q)) hf (Nat.le_refl _) new
    refine ⟨.ref s.heap.objs.size, _, I1, rfl, ⟨_, x, rfl, I.hok.fresh (Nat.le_refl _), ⟨_, ⟨rfl, rfl⟩, rfl⟩, fun ys hy => by rw [I.tuple_inj hy hq]; exact hx⟩, ⟨⟨y, ?_⟩, st'.1.at fun o q => (sb.2 it (Ne.symm hne)).trans q, hne⟩, fun b hb => ?_⟩
    · rw [show ((i + 1 : Nat) : Int) = (i : Int) + 1 by omega]
      exact he'
    · have hb' : b < s.heap.objs.size := by
        have e' : b = e ∨ b = it := by simpa using hb
        rcases e' with rfl | rfl
        · exact hel
        · exact hil
      rw [upd_ne (Nat.ne_of_lt hb')]
      exact (hf b hb).1
  done := by
    intro X hP hw hK hc i pins s σ H E I hf ⟨⟨old, he⟩, hit, hne⟩ ⟨xs, hq, hx⟩
    subst hP hw hK
    obtain ⟨its, rv, p, hz⟩ := I.tuple hq
    obtain ⟨f0, f1, f2, f3, f4, f5⟩ := hf it (by simp)
    have hl : its.toArray.size = i := by rw [List.size_toArray, ← rv.length, hx]
    refine wpAny_pyNext_enum_endD (Draws.tuple (A := X.A.in1) (by exact I.ok.hd hc) it a hai its.toArray) he (by rw [hl]; exact ⟨hit, p⟩) fun h' eb => ?_
    exact ⟨rfl, I.turned (t' := s.toks) (fun b o hb q => eb b o hb q) f0 f1 f3 f4 f5⟩
  self := fun A i s Q E ⟨⟨_, he⟩, _⟩ h => wpAny_pyIter_enum he h
def iEnT (K : PySem.W.Frag) (ta : TA) : TI := fun σ H R => ta σ H fun vs H1 => ∃ a xs, vs = [.ref a] ∧ SqT K H1 a xs ∧ R (ItT K a) H1
theorem pi_enumT {X : Cx} {e : Expr} {ta : TA} {p pos tpos : Pos} {elts : List Expr} {kk : Nat} (hg : Gl X "enumerate") (hm : X.mg "enumerate" = none) (ha : PA X [e] ta) (hs : starEach [e] X.env = [(false, eval e X.env)]) :
    PI X (.Tuple elts kk tpos) (.Call (.Name "enumerate" p) [e] [] pos) (iEnT X.K ta) := by
  refine ⟨fun pins s σ H R I h => ?_⟩
  refine Call_ (ld_blt I hg hm boot_enumerate (PyProof.Rows.callWith_type1 (thn (ha.run pos pins s σ H _ I h) fun us s1 ⟨vs, H1, I1, r1, a, xs, ex, hq, q⟩ => ?_) hs rfl))
  subst ex
  rw [Vals.ref1 r1]
  obtain ⟨its, rv, p', hz⟩ := I1.tuple hq
  have hal : a < s1.heap.objs.size := by obtain ⟨_, q, _⟩ := p'; exact Heap.lt_size q
  refine call_enum_tup p' fun h' he hit hk => wpAny_pyIter_enum he ?_
  have I2 : Inv X pins σ H1 { s1 with heap := h' } := I1.kept (t' := s1.toks) hk
  refine ⟨s1.heap.objs.size + 1, [s1.heap.objs.size + 1, s1.heap.objs.size], _, _, H1, rfl, I2, turn_enumT a (s1.heap.objs.size + 1) s1.heap.objs.size (Nat.ne_of_lt hal) (Nat.ne_of_gt (Nat.lt_succ_of_lt hal)), ⟨⟨.none, he⟩, hit, Nat.succ_ne_self _⟩, fun b hb => ?_, q⟩
  have e' : b = s1.heap.objs.size + 1 ∨ b = s1.heap.objs.size := by simpa using hb
  have hle : s1.heap.objs.size ≤ b := by rcases e' with z | z <;> rw [z] <;> first | exact Nat.le_add_right _ _ | exact Nat.le_refl _
  exact I1.fpOk hle (I1.hok.fresh hle)
section
variable {P : Program} {w : World} {K : PySem.W.Frag} {mg : Str → Option Value} {base : Heap} {k : Nat} {ι : Type} {F : ι → Cx} {e a b : Expr} {ρ : DE} {ds es : List PyData} {pos p : Pos}
/-- the pairs of places and items -/
def enumD (ds : List PyData) : List PyData := ds.zipIdx.map fun x => .tuple [nD x.2, x.1]
theorem enumD_len (ds : List PyData) : (enumD ds).length = ds.length := by simp [enumD]
theorem enumD_get {ds : List PyData} {i : Nat} {d : PyData} (h : (enumD ds)[i]? = some d) : ∃ x, ds[i]? = some x ∧ d = .tuple [nD i, x] := by
  unfold enumD at h
  rw [List.getElem?_map, List.getElem?_zipIdx] at h
  cases e : ds[i]? with
  | none => rw [e] at h; cases h
  | some x =>
    rw [e] at h
    refine ⟨x, rfl, ?_⟩
    have := (Option.some.inj h).symm
    simpa using this
theorem src_enumT [C : Cal P w K mg base k F] [W : Wd K mg] {elts : List Expr} {kk : Nat} {tpos : Pos} (h : E K F e ρ (.tuple ds)) (hg : ∀ i, Gl (F i) "enumerate" := by intro _; rfl) (hs : ∀ i, starEach [e] (F i).env = [(false, eval e (F i).env)] := by intro _; rfl) :
    Src K F (.Tuple elts kk tpos) (.Call (.Name "enumerate" p) [e] [] pos) ρ (enumD ds) := fun B I0 I H σ r RR q => by
  refine ⟨iEnT K (tA F [e]), fun i => by rw [← cK (F := F) i]; exact pi_enumT (hg i) (fr_ (by decide +kernel) i) (pa_tA i) (hs i), ?_⟩
  refine a_cons h a_nil (fun i => hs i) B I0 I H σ r _ fun vs I1 H1 f1 d1 => ?_
  cases d1 with
  | cons d1 d2 =>
    cases d2
    cases d1 with
    | tup hs ha =>
      rename_i t xs
      refine ⟨_, xs, rfl, ex_t f1.ih hs, q _ I1 H1 f1 ⟨fun k I2 H2 e1 e2 hk => ?_, fun I2 H2 e1 e2 => ?_, fun k d I2 H2 x H3 hd e1 e2 y => ?_⟩⟩
      · rw [enumD_len] at hk
        obtain ⟨v, g1, g2⟩ := dpa_get ha (List.getElem?_eq_getElem hk)
        exact ⟨_, v, ex_t (e1.trans e2) hs, g1⟩
      · exact ⟨_, ex_t (e1.trans e2) hs, by rw [enumD_len]; exact dpa_len ha⟩
      · obtain ⟨T, z, rfl, hT, ⟨oo, po, rfl⟩, hz⟩ := y
        obtain ⟨dx, g1, rfl⟩ := enumD_get hd
        obtain ⟨v, g2, g3⟩ := dpa_get ha g1
        have g4 := hz _ (ex_t (e1.trans e2) hs)
        rw [g2] at g4
        cases g4
        have f := Fr.new (o := .frz oo (.tup [.int (k : Nat), z])) e2 hT po.2
        exact ⟨_, f, .tup (sqt_frz upd_same) (.cons (.int _) (.cons (dp_mono f.i (dp_mono e1 g3)) .nil))⟩
end
end K67
namespace K67
open PySem PySem.Spec PyProof.Rows L2
open Evl (Ex ex_l ex_t)

/-! ### zip of a tuple with a list or a tuple -/
/-- what stands at an address that is walked: a tuple (true) or a list -/
def SqB (K : PySem.W.Frag) (t : Bool) (H : Hp) (a : Addr) (xs : List V) : Prop := if t then SqT K H a xs else SqL K H a xs
def IsB (t : Bool) (h : Heap) (a : Addr) (its : Array Value) : Prop := if t then h.IsTuple a its else h.IsList a its
def ItB (t : Bool) (h : Heap) (it a : Addr) (i : Nat) : Prop := if t then h.IsTupleIter it a i else h.IsListIter it a i
def obB (t : Bool) (a : Addr) : Obj := if t then { cls := .type "tuple_iterator", data := .fields #[.ref a, .int 0 0] } else { cls := .type "list_iterator", data := .fields #[.ref a, .int 0 0] }
theorem drawsB {prog : Program} {w : World} {A : Around} (hh : A.handled = none) (t : Bool) (it a : Addr) (hne : a ≠ it) (items : Array Value) :
    Draws prog w A it [it, a] items.size (fun i v => items[i]? = some v) (fun i h => ItB t h it a i ∧ IsB t h a items) := by
  cases t with
  | true => exact Draws.tuple hh it a hne items
  | false => exact Draws.list hh it a hne items
theorem beginsB (t : Bool) (a : Addr) (items : Array Value) : Begins (.ref a) (obB t a) fun h => IsB t h a items := by
  cases t with
  | true => exact begins_tuple a items
  | false => exact begins_list a items
theorem ItB.at {t : Bool} {h h' : Heap} {it a : Addr} {i : Nat} (x : ItB t h it a i) (e : ∀ o, h.get? it = some o → h'.get? it = some o) : ItB t h' it a i := by
  cases t with
  | true => exact PySem.Heap.IsTupleIter.at x e
  | false => exact PySem.Heap.IsListIter.at x e
theorem ItB.ob {t : Bool} {h : Heap} {it a : Addr} {i : Nat} (x : ItB t h it a i) : ∃ o, h.get? it = some o ∧ ∀ v, o.data ≠ .cell v := by
  cases t with
  | true =>
    obtain ⟨o, e1, _, d1⟩ := x
    exact ⟨o, e1, fun v q => by rw [d1] at q; cases q⟩
  | false =>
    obtain ⟨o, e1, _, d1⟩ := x
    exact ⟨o, e1, fun v q => by rw [d1] at q; cases q⟩
theorem ItB.new {t : Bool} {h : Heap} {it a : Addr} (x : h.get? it = some (obB t a)) : ItB t h it a 0 := by
  cases t with
  | true => exact ⟨_, x, rfl, rfl⟩
  | false => exact ⟨_, x, rfl, rfl⟩
theorem inv_B {X : Cx} {pins : List (Addr × Obj)} {σ : L2.St} {H : Hp} {s : Shared} {t : Bool} {a : Addr} {xs : List V} (I : Inv X pins σ H s) (h : SqB X.K t H a xs) : ∃ its : List Value, Vals xs its ∧ IsB t s.heap a its.toArray ∧ a < s.heap.objs.size := by
  cases t with
  | true =>
    obtain ⟨its, rv, p, _⟩ := I.tuple h
    exact ⟨its, rv, p, by obtain ⟨_, q, _⟩ := p; exact Heap.lt_size q⟩
  | false =>
    obtain ⟨its, rv, p, _⟩ := I.list h
    exact ⟨its, rv, p.isList, p.lt⟩
theorem injB {X : Cx} {pins : List (Addr × Obj)} {σ : L2.St} {H : Hp} {s : Shared} {t : Bool} {a : Addr} {xs ys : List V} (I : Inv X pins σ H s) (h : SqB X.K t H a xs) (g : SqB X.K t H a ys) : xs = ys := by
  cases t with
  | true => exact I.tuple_inj h g
  | false => exact I.list_inj h g
def ItZ (K : PySem.W.Frag) (t u : Bool) (a b : Addr) : It :=
  ⟨fun i H => ∃ (xs ys : List V) (x y : V), SqB K t H a xs ∧ SqB K u H b ys ∧ xs[i]? = some x ∧ ys[i]? = some y,
    fun i H v H' => ∃ T x y, v = .ref T ∧ H T = none ∧ (∃ o, Plt o ∧ H' = upd H T (.frz o (.tup [x, y]))) ∧ (∀ xs, SqB K t H a xs → xs[i]? = some x) ∧ ∀ ys, SqB K u H b ys → ys[i]? = some y,
    fun i H => ∃ xs ys : List V, SqB K t H a xs ∧ SqB K u H b ys ∧ i = xs.length ∧ i = ys.length⟩
theorem turn_zipB {P : Program} {w : World} {K : PySem.W.Frag} {elts : List Expr} {kk : Nat} {tpos : Pos} {t u : Bool} {a b z TI TO i1 i2 : Addr} (D : ZipSep2 z TI TO i1 i2 [i1, a] [i2, b]) (ha : a ≠ i1) (hb : b ≠ i2) :
    Turn P w K (.Tuple elts kk tpos) (ItZ K t u a b) [z, TI, TO, i1, i2] z (fun i h => IsZip h z TI TO .none ∧ IsTupOf2 h TI (.ref i1) (.ref i2) ∧ (∃ x y, IsTupOf2 h TO x y) ∧ ItB t h i1 a i ∧ ItB u h i2 b i) where
  mem := by simp
  obj := fun i h st c hc => by
    obtain ⟨hz, hTI, ⟨x, y, hTO⟩, h1, h2⟩ := st
    have e' : c = z ∨ c = TI ∨ c = TO ∨ c = i1 ∨ c = i2 := by simpa using hc
    rcases e' with rfl | rfl | rfl | rfl | rfl
    · exact ⟨_, hz, fun v q => nomatch q⟩
    · exact ⟨_, hTI, fun v q => nomatch q⟩
    · exact ⟨_, hTO, fun v q => nomatch q⟩
    · exact h1.ob
    · exact h2.ob
  keep := fun i h h' ⟨hz, hTI, ⟨x, y, hTO⟩, h1, h2⟩ k =>
    ⟨k z (by simp) _ hz, k TI (by simp) _ hTI, ⟨x, y, k TO (by simp) _ hTO⟩, h1.at fun o q => k i1 (by simp) o q, h2.at fun o q => k i2 (by simp) o q⟩
  item := by
    intro X hP hw hK hc i pins s σ H E I hf ⟨hz, hTI, ⟨x0, y0, hTO⟩, h1, h2⟩ ⟨xs, ys, x, y, hqx, hqy, hx, hy⟩
    subst hP hw hK
    obtain ⟨its, rv, p, hla⟩ := inv_B I hqx
    obtain ⟨its2, rv2, p2, hlb⟩ := inv_B I hqy
    obtain ⟨v, hu, ru⟩ := rv.get hx
    obtain ⟨v2, hu2, ru2⟩ := rv2.get hy
    have hzl : z < s.heap.objs.size := Heap.lt_size hz
    have n1 : i < its.toArray.size := by rw [List.size_toArray]; exact (List.getElem?_eq_some_iff.mp hu).1
    have n2 : i < its2.toArray.size := by rw [List.size_toArray]; exact (List.getElem?_eq_some_iff.mp hu2).1
    refine wpAny_pyNext_zipD2_item D (drawsB (A := X.A.in1) (by exact I.ok.hd hc) t i1 a ha its.toArray) (drawsB (A := X.A.in1) (by exact I.ok.hd hc) u i2 b hb its2.toArray) hz hTI hTO ⟨h1, p⟩ ⟨h2, p2⟩ n1 n2 fun w1 w2 h' tk y1 y2 z' TO' g1 g2 hT hsz hk => ?_
    have ew1 : w1 = v := by
      have q : its[i]? = some w1 := by simpa using y1
      rw [hu] at q
      exact (Option.some.inj q).symm
    have ew2 : w2 = v2 := by
      have q : its2[i]? = some w2 := by simpa using y2
      rw [hu2] at q
      exact (Option.some.inj q).symm
    subst ew1 ew2
    refine ⟨_, rfl, wpAny_letOwnedTupleGo_zip (s := { s with heap := h', toks := tk }) z' fun h'' z'' sb => ?_⟩
    have hT2 : h''.get? s.heap.objs.size = some { cls := .type "tuple", data := .seq #[w1, w2] } := (sb.2 _ (Nat.ne_of_gt hzl)).trans hT
    have new : ObjOk X.prog X.w (upd H s.heap.objs.size (.frz { cls := .type "tuple", data := .seq #[w1, w2] } (.tup [x, y]))) h'' s.heap.objs.size (.frz { cls := .type "tuple", data := .seq #[w1, w2] } (.tup [x, y])) := ⟨hT2, by show 2 ≤ sizeLine; decide, [w1, w2], .cons ru (.cons ru2 .nil), ⟨_, hT2, rfl, _, rfl⟩⟩
    have I1 : Inv X pins σ (upd H s.heap.objs.size (.frz { cls := .type "tuple", data := .seq #[w1, w2] } (.tup [x, y]))) { s with heap := h'', toks := tk } :=
      I.turnedNew (ch := [z, TI, TO, i1, i2]) (fun c o hb q => (sb.2 c fun q' => hb (by simp [q'])).trans (hk c o (fun q' => hb (by simp [q'])) (fun q' => hb (by simp [q'])) (fun q' => hb (by simp [q'])) (fun q' => hb (by simp [q'])) q)) hf (Nat.le_refl _) new
    refine ⟨.ref s.heap.objs.size, _, I1, rfl, ⟨_, x, y, rfl, I.hok.fresh (Nat.le_refl _), ⟨_, ⟨rfl, rfl⟩, rfl⟩, fun l hl => by rw [injB I hl hqx]; exact hx, fun l hl => by rw [injB I hl hqy]; exact hy⟩, ⟨z'', ?_, ⟨w1, w2, ?_⟩, ?_, ?_⟩, fun c hcm => ?_⟩
    · exact (sb.2 _ D.TIz).trans (hk _ _ D.TIz D.TITO D.TIi1 D.TIi2 hTI)
    · exact (sb.2 _ D.TOz).trans TO'
    · exact g1.1.at fun o q => (sb.2 _ (Ne.symm D.zi1)).trans q
    · exact g2.1.at fun o q => (sb.2 _ (Ne.symm D.zi2)).trans q
    · have e' : c = z ∨ c = TI ∨ c = TO ∨ c = i1 ∨ c = i2 := by simpa using hcm
      have hlt : c < s.heap.objs.size := by
        rcases e' with q | q | q | q | q <;> rw [q]
        · exact hzl
        · exact Heap.lt_size hTI
        · exact Heap.lt_size hTO
        · obtain ⟨_, e1, _⟩ := h1.ob; exact Heap.lt_size e1
        · obtain ⟨_, e2, _⟩ := h2.ob; exact Heap.lt_size e2
      rw [upd_ne (Nat.ne_of_lt hlt)]
      exact (hf c hcm).1
  done := by
    intro X hP hw hK hc i pins s σ H E I hf ⟨hz, hTI, ⟨x0, y0, hTO⟩, h1, h2⟩ ⟨xs, ys, hqx, hqy, l1, l2⟩
    subst hP hw hK
    obtain ⟨its, rv, p, hla⟩ := inv_B I hqx
    obtain ⟨its2, rv2, p2, hlb⟩ := inv_B I hqy
    have n1 : i = its.toArray.size := by rw [List.size_toArray, ← rv.length, l1]
    have n2 : i = its2.toArray.size := by rw [List.size_toArray, ← rv2.length, l2]
    refine wpAny_pyNext_zipD2_end D (drawsB (A := X.A.in1) (by exact I.ok.hd hc) t i1 a ha its.toArray) (drawsB (A := X.A.in1) (by exact I.ok.hd hc) u i2 b hb its2.toArray) hz hTI hTO ⟨h1, p⟩ ⟨h2, p2⟩ (Nat.le_of_eq n1) (Nat.le_of_eq n2) (.inl n1) fun h' tk hk => ⟨rfl, I.turnedL (ch := [z, TI, TO, i1, i2]) (fun c o hb q => ?_) hf⟩
    exact hk c o (fun q' => hb (by simp [q'])) (fun q' => hb (by simp [q'])) (fun q' => hb (by simp [q'])) (fun q' => hb (by simp [q'])) q
  self := fun A i s Q E st h => wpAny_pyIter_zip st.1 h
def iZp (K : PySem.W.Frag) (t u : Bool) (ta : TA) : TI := fun σ H R => ta σ H fun vs H1 => ∃ a b xs ys, vs = [.ref a, .ref b] ∧ SqB K t H1 a xs ∧ SqB K u H1 b ys ∧ R (ItZ K t u a b) H1
theorem pi_zipB {X : Cx} {e e2 : Expr} {ta : TA} {p pos tpos : Pos} {elts : List Expr} {kk : Nat} {t u : Bool} (hg : Gl X "zip") (hm : X.mg "zip" = none) (ha : PA X [e, e2] ta)
    (hs : starEach [e, e2] X.env = (false, eval e X.env) :: starEach [e2] X.env) (hpl : (backTo pos (starEach [e2] X.env)).any (·.1) = false) :
    PI X (.Tuple elts kk tpos) (.Call (.Name "zip" p) [e, e2] [] pos) (iZp X.K t u ta) := by
  refine ⟨fun pins s σ H R I h => ?_⟩
  refine Call_ (ld_blt I hg hm PyProof.Rows.boot_zip (PyProof.Rows.callWith_type1 (thn (ha.run pos pins s σ H _ I h) fun us s1 ⟨vs, H1, I1, r1, a, b, xs, ys, ex, hqx, hqy, q⟩ => ?_) hs hpl))
  subst ex
  cases r1 with
  | cons r rr =>
    cases rr with
    | cons r' rr =>
      cases rr
      cases r
      cases r'
      obtain ⟨its, rv, p1, hla⟩ := inv_B I1 hqx
      obtain ⟨its2, rv2, p2, hlb⟩ := inv_B I1 hqy
      refine zip_begins2 (beginsB t a its.toArray) (beginsB u b its2.toArray) p1 p2 fun h' hz hTI hTO h1 h2 hsz hk => wpAny_pyIter_zip hz ?_
      have I2 : Inv X pins σ H1 { s1 with heap := h' } := I1.kept (t' := s1.toks) hk
      refine ⟨s1.heap.objs.size + 4, [s1.heap.objs.size + 4, s1.heap.objs.size + 2, s1.heap.objs.size + 3, s1.heap.objs.size, s1.heap.objs.size + 1], _, _, H1, rfl, I2,
        turn_zipB (t := t) (u := u) (zip_sep2 (fp1 := [a]) (fp2 := [b]) (fun c hc => by rw [List.mem_singleton.mp hc]; exact hla) (fun c hc => by rw [List.mem_singleton.mp hc]; exact hlb)) (Nat.ne_of_lt hla) (Nat.ne_of_lt (Nat.lt_succ_of_lt hlb)), ⟨hz, hTI, ⟨_, _, hTO⟩, .new h1, .new h2⟩, fun c hcm => ?_, q⟩
      have hle : s1.heap.objs.size ≤ c := by
        have e' : c = s1.heap.objs.size + 4 ∨ c = s1.heap.objs.size + 2 ∨ c = s1.heap.objs.size + 3 ∨ c = s1.heap.objs.size ∨ c = s1.heap.objs.size + 1 := by simpa using hcm
        rcases e' with z | z | z | z | z <;> rw [z] <;> first | exact Nat.le_add_right _ _ | exact Nat.le_refl _
      exact I1.fpOk hle (I1.hok.fresh hle)
section
variable {P : Program} {w : World} {K : PySem.W.Frag} {mg : Str → Option Value} {base : Heap} {k : Nat} {ι : Type} {F : ι → Cx} {e a b : Expr} {ρ : DE} {ds es : List PyData} {pos p : Pos}
def sqD : Bool → List PyData → PyData
  | true, ds => .tuple ds
  | false, ds => .list ds
theorem dp_sq {t : Bool} {I : Hp} {v : V} (h : Dp K I v (sqD t ds)) : ∃ l xs, v = .ref l ∧ SqB K t I l xs ∧ DpAll K I xs ds := by
  cases t with
  | true => cases h with | tup hs ha => exact ⟨_, _, rfl, hs, ha⟩
  | false => cases h with | lst hs ha => exact ⟨_, _, rfl, hs, ha⟩
theorem ex_B {t : Bool} {I H : Hp} {l : Addr} {xs : List V} (e : Ex I H) (h : SqB K t I l xs) : SqB K t H l xs := by
  cases t with
  | true => exact ex_t e h
  | false => exact ex_l e h
def zipD (ds es : List PyData) : List PyData := (ds.zip es).map fun x => .tuple [x.1, x.2]
theorem src_zip [C : Cal P w K mg base k F] [W : Wd K mg] {elts : List Expr} {kk : Nat} {tpos : Pos} (t u : Bool) (h1 : E K F a ρ (sqD t ds)) (h2 : E K F b ρ (sqD u es)) (hl : ds.length = es.length) (hg : ∀ i, Gl (F i) "zip" := by intro _; rfl)
    (hs : ∀ i, starEach [a, b] (F i).env = (false, eval a (F i).env) :: starEach [b] (F i).env := by intro _; rfl) (hs2 : ∀ i, starEach [b] (F i).env = (false, eval b (F i).env) :: starEach [] (F i).env := by intro _; rfl) (hpl : ∀ i, (backTo pos (starEach [b] (F i).env)).any (·.1) = false := by intro _; rfl) :
    Src K F (.Tuple elts kk tpos) (.Call (.Name "zip" p) [a, b] [] pos) ρ (zipD ds es) := fun B I0 I H σ r RR q => by
  refine ⟨iZp K t u (tA F [a, b]), fun i => by rw [← cK (F := F) i]; exact pi_zipB (hg i) (fr_ (by decide +kernel) i) (pa_tA i) (hs i) (hpl i), ?_⟩
  refine a_cons h1 (a_cons h2 a_nil hs2) hs B I0 I H σ r _ fun vs I1 H1 f1 d1 => ?_
  cases d1 with
  | cons d1 d2 =>
    cases d2 with
    | cons d2 d3 =>
      cases d3
      obtain ⟨l1, xs, rfl, hsx, hax⟩ := dp_sq d1
      obtain ⟨l2, ys, rfl, hsy, hay⟩ := dp_sq d2
      have hz : (zipD ds es).length = ds.length := by simp [zipD, ← hl]
      refine ⟨_, _, xs, ys, rfl, ex_B f1.ih hsx, ex_B f1.ih hsy, q _ I1 H1 f1 ⟨fun k I2 H2 e1 e2 hk => ?_, fun I2 H2 e1 e2 => ?_, fun k d I2 H2 x H3 hd e1 e2 y => ?_⟩⟩
      · rw [hz] at hk
        obtain ⟨v, g1, g2⟩ := dpa_get hax (List.getElem?_eq_getElem hk)
        obtain ⟨v', g1', g2'⟩ := dpa_get hay (List.getElem?_eq_getElem (hl ▸ hk))
        exact ⟨_, _, v, v', ex_B (e1.trans e2) hsx, ex_B (e1.trans e2) hsy, g1, g1'⟩
      · exact ⟨_, _, ex_B (e1.trans e2) hsx, ex_B (e1.trans e2) hsy, by rw [hz, dpa_len hax], by rw [hz, hl, dpa_len hay]⟩
      · obtain ⟨T, z, z', rfl, hT, ⟨oo, po, rfl⟩, hz1, hz2⟩ := y
        unfold zipD at hd
        rw [List.getElem?_map] at hd
        have hkl : k < (ds.zip es).length := by
          cases e : (ds.zip es)[k]? with
          | none => rw [e] at hd; cases hd
          | some x => exact (List.getElem?_eq_some_iff.mp e).1
        have hk1 : k < ds.length := by rw [List.length_zip] at hkl; omega
        have hk2 : k < es.length := by omega
        rw [List.getElem?_eq_getElem hkl, List.getElem_zip] at hd
        obtain rfl : d = .tuple [ds[k], es[k]] := (Option.some.inj hd).symm
        obtain ⟨v, g1, g2⟩ := dpa_get hax (List.getElem?_eq_getElem hk1)
        obtain ⟨v', g1', g2'⟩ := dpa_get hay (List.getElem?_eq_getElem hk2)
        have q1 := hz1 _ (ex_B (e1.trans e2) hsx)
        have q2 := hz2 _ (ex_B (e1.trans e2) hsy)
        rw [g1] at q1
        rw [g1'] at q2
        cases q1
        cases q2
        have f := Fr.new (o := .frz oo (.tup [z, z'])) e2 hT po.2
        exact ⟨_, f, .tup (sqt_frz upd_same) (.cons (dp_mono f.i (dp_mono e1 g2)) (.cons (dp_mono f.i (dp_mono e1 g2')) .nil))⟩
end
end K67
namespace K67
open PySem PySem.Spec PyProof.Rows L2
open Evl (Ex ex_l ex_t)

/-! ### t[::-1] of a tuple -/
section
variable {prog : Program} {w : World} {A : Around} {E : Value → Shared → Prop} {s : Shared}
theorem sliceApplied_rev {sl : Addr} {vk : Value} {n : Nat} {Q : Int × Int × Nat → Shared → Prop} (hs : s.heap.IsSliceOf sl .none .none vk) (pk : IsPart vk (some (-1)))
    (h : Q ((n : Int) - 1, -1, n) s) : wpAny (model prog w) A (Builtin.Slice.sliceApplied (.ref sl) (pure (n : Int))) Q E s := by
  obtain ⟨os, hos, hcs, hds⟩ := id hs
  unfold Builtin.Slice.sliceApplied Builtin.Slice.sliceFields
  refine wpAny_bind (wpAny_bind (wpAny_field hos hds (x := .none) rfl (wpAny_bind (wpAny_field hos hds (x := .none) rfl (wpAny_bind (wpAny_field hos hds (x := vk) rfl (wpAny_pure ?_)))))))
  refine wpAny_bind (HT.slicePart_ pk ?_)
  show wpAny _ _ (if ((-1 : Int) == 0) = true then _ else _) _ _ s
  rw [if_neg (by decide)]
  refine wpAny_bind (HT.slicePart_ .none (wpAny_bind (HT.slicePart_ .none (wpAny_bind (wpAny_pure ?_)))))
  have e1 : Builtin.Slice.sliceAdjust none none (-1) (n : Int) = ((n : Int) - 1, -1) := by
    unfold Builtin.Slice.sliceAdjust
    simp
  show wpAny _ _ (match Builtin.Slice.sliceAdjust none none (-1) (n : Int) with | (lo, hi) => pure (lo, (-1 : Int), Builtin.Slice.slicePlaces lo hi (-1))) _ _ s
  rw [e1]
  have e2 : Builtin.Slice.slicePlaces ((n : Int) - 1) (-1) (-1) = n := by
    unfold Builtin.Slice.slicePlaces
    simp
    try omega
  show wpAny _ _ (pure ((n : Int) - 1, (-1 : Int), Builtin.Slice.slicePlaces ((n : Int) - 1) (-1) (-1))) _ _ s
  rw [e2]
  exact wpAny_pure h
theorem pick_rev (xs : Array Value) : ((List.range xs.size).filterMap fun (m : Nat) => xs[((xs.size : Int) - 1 + (m : Int) * -1).toNat]?).toArray = xs.toList.reverse.toArray := by
  congr 1
  have e : (List.range xs.size).filterMap (fun (m : Nat) => xs[((xs.size : Int) - 1 + (m : Int) * -1).toNat]?) = ((List.range xs.size).map fun k => xs.size - 1 - k).filterMap (xs[·]?) := by
    rw [List.filterMap_map]
    congr 1
    funext m
    have : ((xs.size : Int) - 1 + (m : Int) * -1).toNat = xs.size - 1 - m := by omega
    rw [this]
    rfl
  rw [e, PySem.W.krv_range, List.filterMap_reverse, PySem.W.krv_all]
theorem getItem_tuple_rev {t sl : Addr} {items : Array Value} {vk : Value} {Q : Value → Shared → Prop} (ht : IsTup s.heap t items) (hs : s.heap.IsSliceOf sl .none .none vk) (pk : IsPart vk (some (-1)))
    (h : Q (.ref s.heap.objs.size) { s with heap := s.heap.push { cls := .type "tuple", data := .seq items.toList.reverse.toArray } }) (hsz : items.size ≤ sizeLine) : wpAny (model prog w) A (getItem (.ref t) (.ref sl)) Q E s := by
  have fit : sizeOk (.seq items.toList.reverse.toArray) := by
    show items.toList.reverse.toArray.size ≤ sizeLine
    simpa using hsz
  obtain ⟨os, hos, hcs, hds⟩ := id hs
  have isl : s.TypeIs (.ref sl) "slice" := ⟨os, hos, hcs⟩
  unfold getItem
  try with_reducible refine wpAny_holding ?_
  first | refine wpAny_bind (wpAny_pure ?_) | skip
  refine wpAny_bind (wpAny_sequenceKey ht.typeIs (by decide) (wpAny_bind (wpAny_callSpecial?_slot (name := Str.ofString "__getitem__") ht.typeIs PyProof.Rows.slot_tuple_getitem (wpAny_call_entry PyProof.Rows.slot_tuple_getitem ht.typeIs entry_tuple_getitem ?_ (args_tuple_getitem _ _)))))
  show wpAny _ _ (Builtin.Tuple.tupleItemsOf (.ref t) >>= _) _ _ s
  refine wpAny_bind (tupleItemsOf_ ht (wpAny_bind (wpAny_typeOf isl ?_)))
  rw [if_pos (by decide)]
  refine wpAny_bind (sliceApplied_rev hs pk ?_)
  have hno : ¬ ((((items.size : Int) - 1) == 0 && (-1 : Int) == 1 && items.size == items.size) = true) := by simp
  show wpAny _ _ (if ((((items.size : Int) - 1) == 0 && (-1 : Int) == 1 && items.size == items.size) = true) then _ else _) _ _ s
  rw [if_neg hno, pick_rev]
  first
    | exact wpAny_bind (m := Builtin.Tuple.tupleExact _) (wpAny_newObj_type (wpAny_pure ⟨_, rfl, wpAny_pure h⟩) fit)
    | exact wpAny_bind (m := Builtin.Tuple.tupleExact _) (wpAny_newObj_type (wpAny_bind (wpAny_pure (wpAny_pure ⟨_, rfl, wpAny_pure h⟩))) fit)
    | exact wpAny_bind (wpAny_bind (m := Builtin.Tuple.tupleExact _) (wpAny_newObj_type (wpAny_pure (wpAny_pure ⟨_, rfl, wpAny_pure h⟩)) fit))
    | exact wpAny_bind (wpAny_bind (m := Builtin.Tuple.tupleExact _) (wpAny_newObj_type (wpAny_pure ⟨_, rfl, wpAny_pure h⟩) fit))
end
def tRevT (K : PySem.W.Frag) (te : TE) : TE := fun σ H Q => te σ H fun x H1 => ∃ a xs, x = .ref a ∧ SqT K H1 a xs ∧ ∀ p o, Plt o → H1 p = none → Q (.ref p) (upd H1 p (.frz o (.tup xs.reverse)))
theorem pe_revT {X : Cx} {e : Expr} {te : TE} {k : Nat} {p1 p2 p3 pos : Pos} (he : PE X e te) : PE X (.Subscript e (.Slice none none (some (.UnaryOp .USub (.Constant (.int 1) k p1) p2)) p3) pos) (tRevT X.K te) := by
  refine ⟨fun pins s σ H Q I h => Subscript_ (thn (he.run pins s σ H _ I h) fun v s1 ⟨x, H1, I1, r1, a, xs, ex, hx, q⟩ => ?_)⟩
  subst ex
  cases r1
  have hst : PO X (some (.UnaryOp .USub (.Constant (.int 1) k p1) p2)) (tPart (tUn (rU fun i => .int (-i)) (tC (.int 1)))) := po_some (pe_un un_neg pe_int)
  refine wpAny_Slice (thn (po_none.run pins s1 σ H1 (fun o H2 => o = none ∧ H2 = H1) I1 ⟨rfl, rfl⟩) fun vl s2 ⟨l, H2, I2, pl, el, e2⟩ => ?_)
  subst el e2
  refine thn (po_none.run pins s2 σ H2 (fun o H3 => o = none ∧ H3 = H2) I2 ⟨rfl, rfl⟩) fun vu s3 ⟨u, H3, I3, pu, eu, e3⟩ => ?_
  subst eu e3
  cases pl
  cases pu
  refine thn (hst.run pins s3 σ H3 (fun o H4 => o = some (-1) ∧ H4 = H3) I3 ⟨1, rfl, -1, rfl, rfl, rfl⟩) fun vs s4 ⟨o, H4, I4, ps, eo, e4⟩ => ?_
  subst eo e4
  have I5 : Inv X pins σ H4 { s4 with heap := s4.heap.push { cls := .type "slice", data := .fields #[.none, .none, vs] } } := I4.kept (t' := s4.toks) fun b ob q => Heap.get?_push_of_some _ q
  obtain ⟨its, r, ht, hz⟩ := I5.tuple hx
  show wpAny (model X.prog X.w) X.A (subscriptTail e (.Slice none none (some (.UnaryOp .USub (.Constant (.int 1) k p1) p2)) p3) (.ref a) (.ref s4.heap.objs.size)) (EP X pins σ Q) X.xe { s4 with heap := s4.heap.push { cls := .type "slice", data := .fields #[.none, .none, vs] } }
  refine tail_any (ops := [.ref a, .ref s4.heap.objs.size]) ht.typeIs (PyProof.Rows.slot_tuple_getitem.lookup) ?_ (by with_unfolding_all rfl)
  refine getItem_tuple_rev ht (Heap.IsSliceOf.new _ .none .none vs) ps ?_ (by rw [List.size_toArray, ← r.length]; exact hz)
  refine ⟨.ref _, _, I5.laid (t' := s4.toks) (o := .frz { cls := .type "tuple", data := .seq its.toArray.toList.reverse.toArray } (.tup xs.reverse)) (fun b ob q => Heap.get?_push_of_some _ q) (Nat.le_refl _) ?_, rfl, q _ _ ⟨rfl, rfl⟩ (I5.hok.fresh (Nat.le_refl _))⟩
  exact ⟨Heap.get?_push_size _ rfl, by rw [List.length_reverse]; exact hz, _, r.reverse, ⟨_, Heap.get?_push_size _ rfl, rfl, _, rfl⟩⟩
end K67
namespace K67
open PySem PySem.Spec PyProof.Rows L2
open Evl (Ex ex_l ex_t)

/-! ### sorted nats -/
def ins (a : Nat) : List Nat → List Nat
  | [] => [a]
  | b :: r => if a ≤ b then a :: b :: r else b :: ins a r
def srt : List Nat → List Nat
  | [] => []
  | a :: r => ins a (srt r)
theorem ins_perm (a : Nat) : ∀ l : List Nat, (ins a l).Perm (a :: l)
  | [] => .refl _
  | b :: r => by
    unfold ins
    split
    · exact .refl _
    · exact ((ins_perm a r).cons b).trans (.swap a b r)
theorem srt_perm : ∀ l : List Nat, (srt l).Perm l
  | [] => .refl _
  | a :: r => (ins_perm a _).trans ((srt_perm r).cons a)
theorem ins_asc (a : Nat) : ∀ l : List Nat, l.Pairwise (· ≤ ·) → (ins a l).Pairwise (· ≤ ·)
  | [], _ => List.pairwise_singleton _ _
  | b :: r, h => by
    unfold ins
    rw [List.pairwise_cons] at h
    split
    · rename_i q
      refine List.pairwise_cons.mpr ⟨fun x hx => ?_, List.pairwise_cons.mpr h⟩
      rcases List.mem_cons.mp hx with rfl | hx
      · exact q
      · exact Nat.le_trans q (h.1 x hx)
    · rename_i q
      refine List.pairwise_cons.mpr ⟨fun x hx => ?_, ins_asc a r h.2⟩
      rcases List.mem_cons.mp ((ins_perm a r).mem_iff.mp hx) with rfl | hx
      · omega
      · exact h.1 x hx
theorem srt_asc : ∀ l : List Nat, (srt l).Pairwise (· ≤ ·)
  | [] => .nil
  | a :: r => ins_asc a _ (srt_asc r)
theorem asc_uniq : ∀ {l m : List Nat}, l.Pairwise (· ≤ ·) → m.Pairwise (· ≤ ·) → l.Perm m → l = m
  | [], m, _, _, h => h.symm.eq_nil.symm
  | a :: l, [], _, _, h => absurd h.eq_nil (by simp)
  | a :: l, b :: m, h1, h2, h => by
    rw [List.pairwise_cons] at h1 h2
    have e : a = b := by
      have ha : a ∈ b :: m := h.mem_iff.mp List.mem_cons_self
      have hb : b ∈ a :: l := h.mem_iff.mpr List.mem_cons_self
      rcases List.mem_cons.mp ha with q | q
      · exact q
      · rcases List.mem_cons.mp hb with q2 | q2
        · exact q2.symm
        · have x := h1.1 b q2
          have y := h2.1 a q
          omega
    subst e
    rw [asc_uniq h1.2 h2.2 ((List.perm_cons a).mp h)]
theorem srt_of {l m : List Nat} (h : m.Pairwise (· ≤ ·)) (p : m.Perm l) : m = srt l := asc_uniq h (srt_asc l) (p.trans (srt_perm l).symm)
/-- ints that are nats -/
theorem nats_of {ns : List Int} (h : ∀ x ∈ ns, 0 ≤ x) : ns = (ns.map Int.toNat).map fun n : Nat => (n : Int) := by
  induction ns with
  | nil => rfl
  | cons a r ih =>
    rw [List.map_cons, List.map_cons, ← ih (fun x hx => h x (List.mem_cons_of_mem _ hx))]
    have := h a List.mem_cons_self
    rw [show ((a.toNat : Nat) : Int) = a by omega]
theorem toNat_cast (l : List Nat) : (l.map fun n : Nat => (n : Int)).map Int.toNat = l := by
  rw [List.map_map]
  exact List.map_id'' (fun _ => rfl) l
/-- the letters below 8 of a text, ascending -/
def known (ns : List Nat) : List Nat := (List.range 8).filter (ns.contains ·)
/-! ### factorials -/
def fact : Nat → Nat
  | 0 => 1
  | n + 1 => fact n * (n + 1)
theorem fact_eq : ∀ n : Nat, Builtin.Math.factorialNat n = fact n
  | 0 => rfl
  | n + 1 => by rw [PySem.W.mc_fac_succ, fact_eq n]; rfl
section
variable {P : Program} {w : World} {K : PySem.W.Frag} {mg : Str → Option Value} {base : Heap} {k : Nat} {ι : Type} {F : ι → Cx} {e a b : Expr} {es : List Expr} {ρ : DE} {d x y z : PyData} {ds : List PyData} {pos p : Pos} {m v : Nat} {ns : List Nat}
/-! ### methods -/
theorem e_mt {T id : String} {name : Str} {apos : Pos} {o : Expr} {xs : List PyData} [C : Cal P w K mg base k F] (pa : PlainAttrs T) (slot : Slot T name id) (hty : typeOf (.builtin id) = pure (.type "method_descriptor")) (hM : MtD K F T id x xs z) (ho : E K F o ρ x) (ha : A K F (e :: es) ρ xs)
    (h1 : ∀ i, attributeBase o name (F i).env (eval o (F i).env) = eval o (F i).env := by intro _; rfl)
    (h2 : ∀ i, ((backTo pos (starEach (e :: es) (F i).env)).all (fun x => !x.1) && (backToKw pos (keywordEach [] (F i).env)).all (fun x => x.1.isSome) && decide ((e :: es).length + ([] : List Keyword).length + (if ([] : List Keyword).isEmpty then 0 else 1) < 30)) = true := by intro _; rfl)
    (h3 : (apos.endLine == pos.line) = true := by rfl) (h4 : ∀ i, starEach (e :: es) (F i).env = (false, eval e (F i).env) :: starEach es (F i).env := by intro _; rfl) (h5 : ∀ i, (backTo pos (starEach es (F i).env)).any (·.1) = false := by intro _; rfl) :
    E K F (.Call (.Attribute o name apos) (e :: es) [] pos) ρ z := fun B I0 I H σ r Q q => by
  obtain ⟨rr, hr, hty', hv⟩ := hM
  refine ⟨tBM K T rr (tE F o) (tA F (e :: es)), fun i => ?_, ?_⟩
  · have q := pe_bm (X := F i) (apos := apos) (cpos := pos) pa slot hty (hr i) (pe_tE (F := F) (e := o) i) (pa_tA (F := F) (e := e :: es) i) (h1 i) (h2 i) h3 (h4 i) (h5 i)
    rw [cK (F := F) i] at q
    exact q
  · refine ho B I0 I H σ r _ fun v I1 H1 f1 d1 => ⟨hty' I1 H1 v f1.ih d1, ?_⟩
    refine ha B I0 I1 H1 σ (r.ext f1) _ fun vs I2 H2 f2 d2 => ?_
    exact hv I2 H2 v vs Q f2.ih (dp_mono f2.i d1) d2 fun u I3 H3 f3 d3 => q u I3 H3 ((f1.trans f2).trans f3) d3
/-- a method of a tuple whose object is known -/
def tBMT (K : PySem.W.Frag) (r : V → List V → Hp → VK → Prop) (to : TE) (t : TA) : TE := fun σ H Q => to σ H fun x H1 =>
  (∃ p o, x = .ref p ∧ o.dict = none ∧ ((∃ xs, H1 p = some (.frz o (.tup xs))) ∨ (K.lookup p = some o ∧ o.cls = .type "tuple"))) ∧ t σ H1 fun xs H2 => r x xs H2 Q
theorem pe_bmT {X : Cx} {o : Expr} {to : TE} {t : TA} {name : Str} {apos cpos : Pos} {id : String} {r : V → List V → Hp → VK → Prop} (slot : Slot "tuple" name id) (hty : typeOf (.builtin id) = pure (.type "method_descriptor")) (hm : MtR X id r) (ho : PE X o to) (ha : PA X (e :: es) t)
    (hbase : attributeBase o name X.env (eval o X.env) = eval o X.env)
    (hfew : ((backTo cpos (starEach (e :: es) X.env)).all (fun x => !x.1) && (backToKw cpos (keywordEach [] X.env)).all (fun x => x.1.isSome) && decide ((e :: es).length + ([] : List Keyword).length + (if ([] : List Keyword).isEmpty then 0 else 1) < 30)) = true)
    (hline : (apos.endLine == cpos.line) = true) (hs : starEach (e :: es) X.env = (false, eval e X.env) :: starEach es X.env) (hplain : (backTo cpos (starEach es X.env)).any (·.1) = false) :
    PE X (.Call (.Attribute o name apos) (e :: es) [] cpos) (tBMT X.K r to t) := by
  refine ⟨fun pins s σ H Q I h => wpAny_Call_method_late hbase hfew hline rfl (thn (ho.run pins s σ H _ I h) fun v s1 ⟨x, H1, I1, r1, ⟨p, ob, ex, hd, hk⟩, q1⟩ => ?_)⟩
  subst ex
  cases r1
  have h1 : ∃ ob', s1.heap.get? p = some ob' ∧ ob'.cls = .type "tuple" ∧ ob'.dict = none := by
    rcases hk with ⟨xs, hk⟩ | ⟨hk, hc⟩
    · obtain ⟨g1, g2, its, g3, o2, g4, g5, _⟩ := I1.hok p _ hk
      rw [g1] at g4
      cases g4
      exact ⟨ob, g1, g5, hd⟩
    · exact ⟨ob, I1.kIn p ob hk, hc, hd⟩
  obtain ⟨ob', g1, g2, g3⟩ := h1
  refine ⟨"tuple", id, PySem.F.plainAttrs_tuple, slot, hty, ⟨ob', g1, g2⟩, fun a e => ?_, ?_⟩
  · cases e
    exact ⟨ob', g1, g3⟩
  have hA := ha.run cpos pins s1 σ H1 _ I1 q1
  rw [hs] at hA ⊢
  refine Calls.callWith_builtin (by show (false || (backTo cpos (starEach es X.env)).any (·.1)) = false; rw [hplain] <;> rfl) (Calls.evalArgs_plain ?_)
  exact thn hA fun us s2 ⟨xs, H2, I2, r2, q2⟩ => hm pins s2 σ H2 (V.ref p) xs _ us Q I2 rfl r2 q2
theorem q_count [C : Cal P w K mg base k F] [W : Wd K mg] {apos : Pos} {o : Expr} (ho : E K F o ρ (tN ns)) (ha : E K F e ρ (nD m)) (h1 : ∀ i, attributeBase o "count" (F i).env (eval o (F i).env) = eval o (F i).env := by intro _; rfl)
    (h2 : ∀ i, ((backTo pos (starEach [e] (F i).env)).all (fun x => !x.1) && (backToKw pos (keywordEach [] (F i).env)).all (fun x => x.1.isSome) && decide (([e] : List Expr).length + ([] : List Keyword).length + (if ([] : List Keyword).isEmpty then 0 else 1) < 30)) = true := by intro _; rfl)
    (h3 : (apos.endLine == pos.line) = true := by rfl) (h4 : ∀ i, starEach [e] (F i).env = (false, eval e (F i).env) :: starEach [] (F i).env := by intro _; rfl) (h5 : ∀ i, (backTo pos (starEach [] (F i).env)).any (·.1) = false := by intro _; rfl) :
    E K F (.Call (.Attribute o "count" apos) [e] [] pos) ρ (nD (ns.count m)) := fun B I0 I H σ r Q q => by
  refine ⟨tBMT K (rCntT K) (tE F o) (tA F [e]), fun i => ?_, ?_⟩
  · have q := pe_bmT (X := F i) (apos := apos) (cpos := pos) PySem.F.slot_tuple_count PySem.F.type_tuple_count mt_tcount (pe_tE (F := F) (e := o) i) (pa_tA (F := F) (e := [e]) i) (h1 i) (h2 i) h3 (h4 i) (h5 i)
    rw [cK (F := F) i] at q
    exact q
  · refine ho B I0 I H σ r _ fun v I1 H1 f1 d1 => ?_
    have r1 := r.ext f1
    cases d1 with
    | tup hs ha' =>
      rename_i p xs
      refine ⟨?_, ?_⟩
      · rcases hs with (hs | ⟨ob, hs⟩) | ⟨ob, its, n, hk, hc, _⟩
        · exact (r1.nd _ _ hs).elim
        · exact ⟨p, ob, rfl, r1.nd _ _ hs, .inl ⟨_, f1.ih _ _ hs⟩⟩
        · exact ⟨p, ob, rfl, W.kt _ _ hk hc, .inr ⟨hk, hc⟩⟩
      · refine a_cons ha a_nil h4 B I0 I1 H1 σ r1 _ fun vs I2 H2 f2 d2 => ?_
        cases d2 with
        | cons d2 d3 =>
          cases d3
          cases d2
          rw [map_nD] at ha'
          rw [dpa_ints ha'] at hs
          refine ⟨_, _, (m : Int), rfl, rfl, ex_t (f1.ih.trans f2.h) hs, ?_⟩
          rw [count_cast]
          exact q _ I2 H2 (f1.trans f2) (.int _)
theorem flat_ints (l : List Nat) : (l.map fun n : Nat => V.int (n : Int)).all flatV = true := by
  rw [List.all_eq_true]
  intro x hx
  obtain ⟨n, _, rfl⟩ := List.mem_map.mp hx
  rfl
theorem mt_indexN [C : Cal P w K mg base k F] {j : Nat} (h1 : ns[j]? = some m) (h2 : ∀ i, i < j → ns[i]? ≠ some m) : MtD K F "list" "list.index" (lN ns) [nD m] (nD j) := ⟨rIndex K, fun i => by rw [← cK (F := F) i]; exact mt_index, fun I H a e d => by
  cases d with
  | lst hs ha => exact .inl ⟨rfl, _, ex_l e hs⟩, fun I H a vs Q e d1 d2 q => by
  cases d1 with
  | lst hs ha =>
    cases d2 with
    | cons d2 d3 =>
      cases d3
      cases d2
      rw [map_nD] at ha
      have ev := dpa_ints ha
      rw [List.map_map] at ev
      rw [ev] at hs
      refine ⟨_, _, .int (m : Int), j, .int (m : Int), rfl, rfl, ex_l e hs, rfl, flat_ints ns, ?_, by simp [eqV], fun i z hi hz => ?_, q _ I H (Fr.refl e) (.int _)⟩
      · rw [List.getElem?_map, h1]
        rfl
      · rw [List.getElem?_map] at hz
        have hn := h2 i hi
        cases en : ns[i]? with
        | none => rw [en] at hz; cases hz
        | some u =>
          rw [en] at hz
          cases hz
          have hne : u ≠ m := fun q => hn (by rw [en, q])
          show eqV (.int (u : Int)) (.int (m : Int)) = false
          have : ((u : Nat) : Int) ≠ (m : Int) := by omega
          simp [eqV, this]⟩
theorem q_index [C : Cal P w K mg base k F] {apos : Pos} {o : Expr} {j : Nat} (ho : E K F o ρ (lN ns)) (ha : E K F e ρ (nD m)) (hj : ns[j]? = some m) (hn : ∀ i, i < j → ns[i]? ≠ some m) (h1 : ∀ i, attributeBase o "index" (F i).env (eval o (F i).env) = eval o (F i).env := by intro _; rfl)
    (h2 : ∀ i, ((backTo pos (starEach [e] (F i).env)).all (fun x => !x.1) && (backToKw pos (keywordEach [] (F i).env)).all (fun x => x.1.isSome) && decide (([e] : List Expr).length + ([] : List Keyword).length + (if ([] : List Keyword).isEmpty then 0 else 1) < 30)) = true := by intro _; rfl)
    (h3 : (apos.endLine == pos.line) = true := by rfl) (h4 : ∀ i, starEach [e] (F i).env = (false, eval e (F i).env) :: starEach [] (F i).env := by intro _; rfl) (h5 : ∀ i, (backTo pos (starEach [] (F i).env)).any (·.1) = false := by intro _; rfl) :
    E K F (.Call (.Attribute o "index" apos) [e] [] pos) ρ (nD j) := e_mt PySem.F.plainAttrs_list PySem.F.slot_list_index PySem.F.type_list_index (mt_indexN hj hn) ho (a_cons ha a_nil h4) h1 h2 h3 h4 h5
/-! ### t[::-1] -/
theorem e_rev [C : Cal P w K mg base k F] {kk : Nat} {p1 p2 p3 : Pos} (h : E K F e ρ (.tuple ds)) : E K F (.Subscript e (.Slice none none (some (.UnaryOp .USub (.Constant (.int 1) kk p1) p2)) p3) pos) ρ (.tuple ds.reverse) := fun B I0 I H σ r Q q => by
  refine ⟨tRevT K (tE F e), fun i => by rw [← cK (F := F) i]; exact pe_revT (pe_tE i), ?_⟩
  refine h B I0 I H σ r _ fun v I1 H1 f1 d1 => ?_
  cases d1 with
  | tup hs ha =>
    rename_i l xs
    refine ⟨_, _, rfl, ex_t f1.ih hs, fun p o po hp => ?_⟩
    have f := Fr.new (o := .frz o (.tup xs.reverse)) f1.ih hp po.2
    exact q _ _ _ (f1.trans f) (.tup (sqt_frz upd_same) (dpa_mono f.i (dpa_rev ha)))
/-! ### sorted -/
theorem c_sortTN [C : Cal P w K mg base k F] : CallDL K F (.builtin "sorted") [tN ns] ((srt ns).map nD) := call1L (r := rSortT K) (fun i => by rw [← cK (F := F) i]; exact cr_sortTI) fun I H v Q e d q => by
  cases d with
  | tup hs ha =>
    rw [map_nD] at ha
    rw [dpa_ints ha] at hs
    refine ⟨_, _, rfl, ex_t e hs, fun ns' p hp hw hn => ?_⟩
    have hpos : ∀ x ∈ ns', 0 ≤ x := fun x hx => by
      obtain ⟨n, _, rfl⟩ := List.mem_map.mp (hp.mem_iff.mp hx)
      exact Int.natCast_nonneg n
    have e1 := nats_of hpos
    have e2 : ns'.map Int.toNat = srt ns := by
      refine srt_of ?_ ?_
      · rw [List.pairwise_map]
        exact hw.imp fun h => Int.toNat_le_toNat h
      · have := hp.map Int.toNat
        rwa [toNat_cast] at this
    refine q p (ns'.map V.int) I _ (Fr.own e hn) hn (Ex.none e hn) upd_same ?_
    rw [map_nD, ← e2, ← e1]
    exact dpa_of_ints ns'
theorem q_sorted [C : Cal P w K mg base k F] [W : Wd K mg] (h : E K F e ρ (tN ns)) (hg : ∀ i, Gl (F i) "sorted" := by intro _; rfl) (he : ∀ i, starEach [e] (F i).env = (false, eval e (F i).env) :: starEach [] (F i).env := by intro _; rfl) :
    EL K F (.Call (.Name "sorted" p) [e] [] pos) ρ ((srt ns).map nD) := el_blt (a_cons h a_nil he) c_sortTN (fr_ (by decide +kernel)) (by decide +kernel) hg (by decide) (by decide) he fun _ => rfl
theorem strict_uniq : ∀ {l m : List Nat}, l.Pairwise (· < ·) → m.Pairwise (· < ·) → (∀ x, x ∈ l ↔ x ∈ m) → l = m
  | [], [], _, _, _ => rfl
  | [], b :: m, _, _, h => absurd ((h b).mpr List.mem_cons_self) (by simp)
  | a :: l, [], _, _, h => absurd ((h a).mp List.mem_cons_self) (by simp)
  | a :: l, b :: m, h1, h2, h => by
    rw [List.pairwise_cons] at h1 h2
    have e : a = b := by
      rcases List.mem_cons.mp ((h a).mp List.mem_cons_self) with q | q
      · exact q
      · rcases List.mem_cons.mp ((h b).mpr List.mem_cons_self) with q2 | q2
        · exact q2.symm
        · have x := h1.1 b q2
          have y := h2.1 a q
          omega
    subst e
    rw [strict_uniq h1.2 h2.2 fun x => ⟨fun hx => ?_, fun hx => ?_⟩]
    · rcases List.mem_cons.mp ((h x).mp (List.mem_cons_of_mem _ hx)) with q | q
      · have := h1.1 x hx; omega
      · exact q
    · rcases List.mem_cons.mp ((h x).mpr (List.mem_cons_of_mem _ hx)) with q | q
      · have := h2.1 x hx; omega
      · exact q
theorem known_of {ns l : List Nat} (h8 : ∀ x ∈ ns, x < 8) (h1 : l.Pairwise (· < ·)) (h2 : ∀ x, x ∈ l ↔ x ∈ ns) : l = known ns := by
  refine strict_uniq h1 ?_ fun x => ?_
  · exact (List.pairwise_lt_range (n := 8)).filter _
  · unfold known
    rw [h2 x, List.mem_filter, List.mem_range, List.contains_iff_mem]
    exact ⟨fun h => ⟨h8 x h, h⟩, fun h => h.2⟩
/-- sorted(set(t)), letters below 8 -/
theorem q_sortSet [C : Cal P w K mg base k F] [W : Wd K mg] {p2 pos2 : Pos} (h : E K F e ρ (tN ns)) (h8 : ∀ x ∈ ns, x < 8) (hl : ns.length < 63) (hg : ∀ i, Gl (F i) "sorted" := by intro _; rfl) (hg2 : ∀ i, Gl (F i) "set" := by intro _; rfl)
    (he : ∀ i, starEach [e] (F i).env = (false, eval e (F i).env) :: starEach [] (F i).env := by intro _; rfl)
    (he2 : ∀ i, starEach [Expr.Call (.Name "set" p2) [e] [] pos2] (F i).env = (false, eval (.Call (.Name "set" p2) [e] [] pos2) (F i).env) :: starEach [] (F i).env := by intro _; rfl) :
    EL K F (.Call (.Name "sorted" p) [.Call (.Name "set" p2) [e] [] pos2] [] pos) ρ ((known ns).map nD) := fun B I0 I H σ r Q q => by
  refine ⟨tCB (rSortedSet w) (tCons (tCB (rSetTI K w) (tCons (tE F e) tNil)) tNil), fun i => ?_, ?_⟩
  · have c1 := cr_setTI (X := F i) (C.calm i)
    have c2 := cr_sortedSet (X := F i) (C.calm i)
    rw [cK (F := F) i, (C.same i).w] at c1
    rw [(C.same i).w] at c2
    exact pe_callB c2 (hg i) (fr_ (by decide +kernel) i) (by decide +kernel) (pa_cons (pe_callTy c1 (hg2 i) (fr_ (by decide +kernel) i) (by decide +kernel) (pa_cons (pe_tE i) pa_nil (he i)) (by decide) (by decide) (he i) rfl) pa_nil (he2 i)) (by decide) (by decide) (he2 i) rfl
  · refine h B I0 I H σ r _ fun v I1 H1 f1 d1 => ?_
    cases d1 with
    | tup hs ha =>
      rw [map_nD] at ha
      rw [dpa_ints ha] at hs
      refine ⟨_, _, rfl, ex_t f1.ih hs, by simpa using hl, fun p1 n hn hp => ?_⟩
      rw [List.length_map] at hn
      refine ⟨p1, _, n, rfl, upd_same, by omega, fun zs p2 hz hm _ hp2 => ?_⟩
      have g1 : Fr I1 H1 I1 (upd H1 p1 (SetO w p1 (fun j => decide (j ∈ ns.map fun n : Nat => (n : Int))) n)) := Fr.own f1.ih hp
      have g2 := Fr.own (o := .lst (zs.map V.int)) g1.ih hp2
      have hpos : ∀ x ∈ zs, 0 ≤ x := fun x hx => by
        have := (hm x).mp hx
        obtain ⟨n, _, rfl⟩ := List.mem_map.mp (of_decide_eq_true this)
        exact Int.natCast_nonneg n
      have e1 := nats_of hpos
      have e2 : zs.map Int.toNat = known ns := by
        refine known_of h8 ?_ fun x => ?_
        · rw [List.pairwise_map]
          exact hz.imp_of_mem fun ha hb hab => by
            have := hpos _ ha
            omega
        · constructor
          · intro hx
            obtain ⟨y, hy, rfl⟩ := List.mem_map.mp hx
            obtain ⟨n, hn, rfl⟩ := List.mem_map.mp (of_decide_eq_true ((hm y).mp hy))
            exact hn
          · intro hx
            exact List.mem_map.mpr ⟨(x : Int), (hm _).mpr (decide_eq_true (List.mem_map.mpr ⟨x, hx, rfl⟩)), rfl⟩
      have hH : H p2 = none := by
        cases e : H p2 with
        | none => rfl
        | some o => rw [g1.h _ _ (f1.h _ _ e)] at hp2; cases hp2
      refine q p2 (zs.map V.int) I1 _ ((f1.trans g1).trans g2) hH (Ex.none g1.ih hp2) upd_same ?_
      rw [map_nD, ← e2, ← e1]
      exact dpa_of_ints zs
/-! ### comb, factorial -/
def rComb : List V → Hp → VK → Prop := fun vs H Q => ∃ a b : Int, vs = [.int a, .int b] ∧ 0 ≤ a ∧ 0 ≤ b ∧ a < 10000 ∧ Q (.int (PySem.W.mcComb a b)) H
theorem cr_comb {X : Cx} : CallR X (.builtin "math.comb") rComb := by
  intro pins s σ H vs us Q I r h
  obtain ⟨a, b, rfl, h1, h2, h3, q⟩ := h
  obtain ⟨t, u, rfl⟩ := Vals.int2 r
  exact PySem.W.mc_comb h1 h2 (by omega) (.inr (by omega)) fun _ => ⟨.int _, H, I.tok _, ⟨_, rfl⟩, q⟩
def rFac : List V → Hp → VK → Prop := fun vs H Q => ∃ a : Int, vs = [.int a] ∧ 0 ≤ a ∧ a ≤ 20000 ∧ Q (.int ((Builtin.Math.factorialNat a.toNat : Nat) : Int)) H
theorem cr_fac {X : Cx} : CallR X (.builtin "math.factorial") rFac := by
  intro pins s σ H vs us Q I r h
  obtain ⟨a, rfl, h1, h2, q⟩ := h
  obtain ⟨u, rfl, ru⟩ := r.one
  obtain ⟨t, rfl⟩ := ru
  exact PySem.W.mc_factorial h1 h2 fun _ => ⟨.int _, H, I.tok _, ⟨_, rfl⟩, q⟩
/-- C(n, k) -/
def cmb (n k : Nat) : Nat := (PySem.W.mcComb (n : Int) (k : Int)).toNat
theorem q_comb [C : Cal P w K mg base k F] [W : Wd K mg] (h1 : E K F a ρ (nD m)) (h2 : E K F b ρ (nD v)) (hm : m < 10000) (hg : ∀ i, Gl (F i) "comb" := by intro _; rfl) (he : ∀ i, starEach [a, b] (F i).env = (false, eval a (F i).env) :: starEach [b] (F i).env := by intro _; rfl) (he2 : ∀ i, starEach [b] (F i).env = (false, eval b (F i).env) :: starEach [] (F i).env := by intro _; rfl)
    (hpl : ∀ i, (backTo pos (starEach [b] (F i).env)).any (·.1) = false := by intro _; rfl) : E K F (.Call (.Name "comb" p) [a, b] [] pos) ρ (nD (cmb m v)) :=
  e_mathf (a_cons h1 (a_cons h2 a_nil he2) he) (call2 (fun i => cr_comb) fun I H x y Q e d1 d2 q => by
    cases d1
    cases d2
    refine ⟨(m : Int), (v : Int), rfl, by omega, by omega, by omega, ?_⟩
    have h0 := (PySem.W.mc_comb_known (a := (m : Int)) (b := (v : Int)) (by omega) (by omega)).1
    have e1 : PySem.W.mcComb (m : Int) (v : Int) = ((cmb m v : Nat) : Int) := by unfold cmb; omega
    rw [e1]
    exact q _ I H (Fr.refl e) (.int _)) (fun i => by rw [cmg (F := F) i]; exact W.comb) hg (by decide) he hpl
theorem q_fact [C : Cal P w K mg base k F] [W : Wd K mg] (h1 : E K F a ρ (nD m)) (hm : m ≤ 20000) (hg : ∀ i, Gl (F i) "factorial" := by intro _; rfl) (he : ∀ i, starEach [a] (F i).env = (false, eval a (F i).env) :: starEach [] (F i).env := by intro _; rfl) : E K F (.Call (.Name "factorial" p) [a] [] pos) ρ (nD (fact m)) :=
  e_mathf (a_cons h1 a_nil he) (call1 (fun i => cr_fac) fun I H x Q e d1 q => by
    cases d1
    refine ⟨(m : Int), rfl, by omega, by omega, ?_⟩
    have e1 : ((Builtin.Math.factorialNat ((m : Int)).toNat : Nat) : Int) = ((fact m : Nat) : Int) := by rw [Int.toNat_natCast, fact_eq]
    rw [e1]
    exact q _ I H (Fr.refl e) (.int _)) (fun i => by rw [cmg (F := F) i]; exact W.factorial) hg (by decide) he fun _ => rfl
end
end K67
namespace K67
open PySem PySem.Spec PyProof.Rows L2
open Evl (Ex ex_l ex_t)

abbrev partedL : List Str := ["row", "choice", "hidden"]
abbrev learntL : List Str := ["learned", "treed", "mixed", "bag"]
/-- the module's constants -/
class WdE (w : outParam World) (K : PySem.W.Frag) (mg : Str → Option Value) : Prop where
  parted : ∃ p, mg "E_PARTED" = some (.ref p) ∧ Dp K (fun _ => none) (.ref p) (.tuple (partedL.map PyData.str))
  learnt : ∃ p, mg "E_LEARNT" = some (.ref p) ∧ Dp K (fun _ => none) (.ref p) (.tuple (learntL.map PyData.str))
  elen : ∃ a es n, mg "E_LENGTHS" = some (.ref a) ∧ KDict K w a es n ∧ KDct K w a "bag" (.int 3)
theorem ex_nil {I : Hp} : Ex (fun _ => none) I := fun _ _ h => by cases h
section
variable {P : Program} {w : World} {K : PySem.W.Frag} {mg : Str → Option Value} {base : Heap} {k : Nat} {ι : Type} {F : ι → Cx} {e a b : Expr} {es : List Expr} {ρ : DE} {d x y z : PyData} {ds ds2 : List PyData} {pos p : Pos} {m v : Nat} {ns : List Nat} {t : Bool} {Δ : De}
/-! ### the module's constants -/
theorem e_glob [C : Cal P w K mg base k F] {n : Str} {q : Addr} (hm : mg n = some (.ref q)) (hd : Dp K (fun _ => none) (.ref q) d) (hg : ∀ i, Gl (F i) n := by intro _; rfl) (hdb : (n == ("__debug__" : Str)) = false := by decide) : E K F (.Name n pos) ρ d := fun B I0 I H σ r Q qq =>
  ⟨_, fun i => pe_glob (v := V.ref q) (hg i) (by rw [cmg (F := F) i]; exact hm) rfl hdb, qq _ I H (Fr.refl r.fr.ih) (dp_mono ex_nil hd)⟩
theorem q_parted [C : Cal P w K mg base k F] [W : WdE w K mg] (hg : ∀ i, Gl (F i) "E_PARTED" := by intro _; rfl) : E K F (.Name "E_PARTED" pos) ρ (.tuple (partedL.map PyData.str)) := by
  obtain ⟨q, h1, h2⟩ := W.parted
  exact e_glob h1 h2 hg
theorem q_learnt [C : Cal P w K mg base k F] [W : WdE w K mg] (hg : ∀ i, Gl (F i) "E_LEARNT" := by intro _; rfl) : E K F (.Name "E_LEARNT" pos) ρ (.tuple (learntL.map PyData.str)) := by
  obtain ⟨q, h1, h2⟩ := W.learnt
  exact e_glob h1 h2 hg
theorem dpa_strs {I : Hp} : ∀ {ss : List Str} {vs : List V}, DpAll K I vs (ss.map PyData.str) → vs = ss.map V.str
  | [], _, h => by cases h; rfl
  | n :: ns, _, h => by
    cases h with
    | cons a b =>
      cases a
      rw [dpa_strs b]
      rfl
theorem o_inS [C : Cal P w K mg base k F] {s : Str} {ss : List Str} (ht : (ss.any fun u => eqV (.str u) (.str s)) = t := by decide +kernel) : OpD K F (compareOp .In) (.str s) (.tuple (ss.map PyData.str)) (.bool t) := ⟨rIn K false, fun i => by rw [← cK (F := F) i]; exact op_in_seq, fun I H a b Q e d1 d2 q => by
  cases d1
  cases d2 with
  | tup hs ha =>
    rw [dpa_strs ha] at hs
    refine ⟨_, _, rfl, .inr (ex_t e hs), rfl, ?_, ?_⟩
    · rw [List.all_eq_true]
      intro x hx
      obtain ⟨n, _, rfl⟩ := List.mem_map.mp hx
      rfl
    · have e2 : inV (.str s) (ss.map V.str) = t := by
        unfold inV
        rw [List.any_map]
        exact ht
      show Q (.bl (inV (.str s) (ss.map V.str))) H
      rw [e2]
      exact q _ I H (Fr.refl e) (.bl _)⟩
theorem t_lenNot [C : Cal P w K mg base k F] [W : WdE w K mg] {pn : Pos} (h : E K F e ρ (.str "bag")) (hg : ∀ i, Gl (F i) "E_LENGTHS" := by intro _; rfl) (hm : behindInMarks .NotIn (.Name "E_LENGTHS" pn) = false := by rfl) : T K F (.Compare e [.NotIn] [.Name "E_LENGTHS" pn] pos) ρ false := fun B I0 I H σ r Q q => by
  obtain ⟨d, es, n, h1, h2, h3⟩ := W.elen
  refine ⟨tTest (tOp (fun x y H Q => ∃ (z : Str) (r : Option Value), x = .str z ∧ y = .ref d ∧ PySem.W.nsIn K d z = some r ∧ Q (.bl (!r.isSome)) H) (tE F e) (tC (.ref d))), fun i => ?_, ?_⟩
  · have c := op_notIn_kd (X := F i) (d := d) (es := es) (n := n) (by rw [(C.same i).K, (C.same i).w]; exact h2)
    rw [(C.same i).K] at c
    exact pt_cmpR c (pe_tE i) (pe_glob (v := V.ref d) (hg i) (by rw [cmg (F := F) i]; exact h1) rfl (by decide)) hm
  · refine h B I0 I H σ r _ fun v I1 H1 f1 d1 => ?_
    cases d1
    obtain ⟨es', n', u, g1, g2, g3, g4⟩ := h3
    exact ⟨_, _, rfl, rfl, g3, false, rfl, q I1 H1 f1⟩
theorem e_lenAt [C : Cal P w K mg base k F] [W : WdE w K mg] {pn : Pos} (h : E K F e ρ (.str "bag")) (hg : ∀ i, Gl (F i) "E_LENGTHS" := by intro _; rfl) (hp : PlainIx e := by exact fun _ _ => rfl) : E K F (.Subscript (.Name "E_LENGTHS" pn) e pos) ρ (.int 3) := fun B I0 I H σ r Q q => by
  obtain ⟨d, es, n, h1, h2, h3⟩ := W.elen
  refine ⟨tOp (rIxD K w) (tC (.ref d)) (tE F e), fun i => ?_, ?_⟩
  · have c := ix_kdict (X := F i)
    rw [(C.same i).K, (C.same i).w] at c
    exact pe_ix c (pe_glob (v := V.ref d) (hg i) (by rw [cmg (F := F) i]; exact h1) rfl (by decide)) (pe_tE i) hp
  · refine h B I0 I H σ r _ fun v I1 H1 f1 d1 => ?_
    cases d1
    exact ⟨d, _, _, rfl, rfl, h3, q _ I1 H1 f1 (.int 3)⟩
/-! ### list + list, list * int -/
theorem el_cat {n : Str} {p1 : Pos} {lo : Option Addr} (j : Nat) (hρ : ρ[j]? = some (.own lo ds)) (h : EL K F e ρ ds2) (hz : ds.length + ds2.length ≤ 100000) (hN : ∀ i, (F i).N[j]? = some n := by intro _; rfl) (hv : ∀ i, Vis (F i).env.scope n := by intro _; first | exact Or.inl rfl | exact Or.inr (Or.inl rfl) | exact Or.inr (Or.inr rfl))
    (hd : (n == ("__debug__" : Str)) = false := by decide) (hcd : (n == ("__classdict__" : Str)) = false := by decide) : EL K F (.BinOp (.Name n p1) .Add e pos) ρ (ds ++ ds2) := fun B I0 I H σ r Q q => by
  refine ⟨_, fun i => pe_op op_cat (pe_var (hN i) (hv i) hd hcd) (pe_tE i), ?_⟩
  obtain ⟨l, vs, g1, g2, g3, g4, g5, g6⟩ := r.ow j lo ds hρ
  refine ⟨.ref l, g1, ?_⟩
  refine h B I0 I H σ r _ fun l2 ws I1 H1 f1 k1 k2 k3 k4 => ?_
  refine ⟨l, l2, vs, ws, rfl, rfl, f1.h _ _ g4, k3, by rw [dpa_len g5, dpa_len k4]; exact Nat.le_trans hz (by rw [sizeLine_eq]; decide), fun p hp => ?_⟩
  have f2 := Fr.own (o := .lst (vs ++ ws)) f1.ih hp
  refine q p (vs ++ ws) I1 _ (f1.trans f2) ?_ (Ex.none f1.ih hp) upd_same (dpa_app (dpa_mono f1.i g5) k4)
  cases e : H p with
  | none => rfl
  | some o => rw [f1.h p o e] at hp; cases hp
theorem dpa_rep {I : Hp} {vs : List V} (h : DpAll K I vs ds) : ∀ m, DpAll K I (List.replicate m vs).flatten (List.replicate m ds).flatten
  | 0 => .nil
  | m + 1 => by
    rw [List.replicate_succ, List.replicate_succ, List.flatten_cons, List.flatten_cons]
    exact dpa_app h (dpa_rep h m)
theorem el_rep (h : EL K F a ρ ds) (h2 : E K F b ρ (nD m)) (hm : m < 1000) (hz : ds.length < 1000) : EL K F (.BinOp a .Mult b pos) ρ (List.replicate m ds).flatten := fun B I0 I H σ r Q q => by
  refine ⟨_, fun i => pe_op op_rep (pe_tE i) (pe_tE i), ?_⟩
  refine h B I0 I H σ r _ fun l vs I1 H1 f1 g1 g2 g3 g4 => ?_
  refine h2 B I0 I1 H1 σ (r.ext f1) _ fun w I2 H2 f2 d2 => ?_
  cases d2
  have e1 : ((m : Nat) : Int).toNat = m := Int.toNat_natCast m
  refine ⟨l, (m : Int), vs, rfl, rfl, f2.h _ _ g3, by omega, by omega, ?_, fun p hp => ?_⟩
  · rw [dpa_len g4, e1, sizeLine_eq]
    have := Nat.mul_le_mul (Nat.le_of_lt hz) (Nat.le_of_lt hm)
    omega
  · have f3 := Fr.own (o := .lst (List.replicate ((m : Nat) : Int).toNat vs).flatten) f2.ih hp
    refine q p _ I2 _ ((f1.trans f2).trans f3) ?_ (Ex.none f2.ih hp) upd_same ?_
    · cases e : H p with
      | none => rfl
      | some o => rw [f2.h p o (f1.h p o e)] at hp; cases hp
    · rw [e1]
      exact dpa_rep (dpa_mono f2.i g4) m
end
end K67
namespace K67
open PySem PySem.Spec PyProof.Rows L2
open Evl (Ex ex_l ex_t)

section
variable {P : Program} {w : World} {K : PySem.W.Frag} {mg : Str → Option Value} {base : Heap} {k : Nat} {ι : Type} {F : ι → Cx} {e elt it tg it1 tg1 : Expr} {ρ : DE} {d : PyData} {ds ws : List PyData} {ifs : List Expr} {scope : Scope} {pos py spos : Pos} {Δ : De} {n : Str} {j : Nat}
/-- name = a comprehension on one line: a new list -/
def LS (K : PySem.W.Frag) {ι : Type} (F : ι → Cx) (j : Nat) (n : Str) (py : Pos) (e : Expr) (spos : Pos) (ρ : DE) (ws : List PyData) : Prop := ∀ B I0 I H σ, R K B I0 I H σ ρ → ∀ Q : VK,
  (∀ l vs I' H', Fr I H I' H' → H l = none → I' l = none → H' l = some (.lst vs) → DpAll K I' vs ws → Q (.ref l) H') → ∃ t : TE, (∀ i, PS (F i) (.Assign [.Name n py] e spos) (tAsg t (gName j))) ∧ t σ H Q
theorem ls_own (h : LS K F j n py e spos ρ ws) (hn : Δ.nx (ρ.set j (.ow ws))) : S K F (.Assign [.Name n py] e spos) ρ Δ := fun B I0 I H σ D r re => by
  obtain ⟨t, h1, h2⟩ := h B I0 I H σ r (fun x H1 => gName j x σ H1 D.nx) fun l vs I1 H1 f1 g1 g2 g3 g4 => by
    refine re.nx I1 H1 _ _ ((r.ext f1).setOw (Ex.none r.fr.h g1) g2 g3 g4 fun k us hk hu hO hσ => ?_) hn
    obtain ⟨l2, vs2, k1, k2, k3, k4⟩ := r.lo hu hO
    rw [hσ] at k1
    cases k1
    rw [g1] at k4
    cases k4
  exact ⟨_, h1, h2⟩
theorem ls_im (h : LS K F j n py e spos ρ ws) (hn : Δ.nx (ρ.set j (.im (.list ws)))) : S K F (.Assign [.Name n py] e spos) ρ Δ := fun B I0 I H σ D r re => by
  obtain ⟨t, h1, h2⟩ := h B I0 I H σ r (fun x H1 => gName j x σ H1 D.nx) fun l vs I1 H1 f1 g1 g2 g3 g4 => by
    have f2 : Fr I H (upd I1 l (.lst vs)) H1 := ⟨f1.i.trans (Evl.Ex.new g2), f1.h, fun a u h => by
      by_cases ha : a = l
      · subst ha; rw [upd_same] at h; rw [g3, h]
      · rw [upd_ne ha] at h; exact f1.ih a u h, fun x k1 k2 => by
      rw [upd_ne (fun z => k2 (by rw [z]; exact g1))]
      exact f1.sep x k1 k2, fun h => (f1.nd h).upd trivial⟩
    exact re.nx _ H1 _ _ ((r.ext f2).set (.lst (SqL.of upd_same) (dpa_mono (Evl.Ex.new g2) g4))) hn
  exact ⟨_, h1, h2⟩
theorem dp_flat_del {I2 : Hp} {l : Addr} {vs : List V} {v : V} (il : I2 l = some (.lst vs)) (hf : flatD d = true) (d2 : Dp K I2 v d) : Dp K (del I2 l) v d := by
  cases d2 with
  | non => exact .non
  | bl b => exact .bl b
  | int i => exact .int i
  | str i => exact .str i
  | lst _ _ => cases hf
  | tup hs ha =>
    refine .tup ?_ (dpa_scal hf ha)
    rcases hs with (hs | ⟨o, hs⟩) | hs
    · refine .inl (.inl ?_)
      rw [del_ne (fun z => by subst z; rw [il] at hs; cases hs)]
      exact hs
    · refine .inl (.inr ⟨o, ?_⟩)
      rw [del_ne (fun z => by subst z; rw [il] at hs; cases hs)]
      exact hs
    · exact .inr hs
theorem dpa_flat_del {I2 : Hp} {l : Addr} {us : List V} (il : I2 l = some (.lst us)) : ∀ {vs : List V} {ds : List PyData}, ds.all flatD = true → DpAll K I2 vs ds → DpAll K (del I2 l) vs ds
  | _, _, _, .nil => .nil
  | _, _, h, .cons a b => by
    rw [List.all_cons, Bool.and_eq_true] at h
    exact .cons (dp_flat_del il h.1 a) (dpa_flat_del il h.2 b)
/-- an own list put among the data for a while -/
theorem R.frozen {B I0 I H : Hp} {σ : L2.St} {m : Nat} {lo : Option Addr} {l : Addr} {vs : List V} (r : R K B I0 I H σ ρ) (hρ : ρ[m]? = some (.own lo ds)) (g1 : σ[m]? = some (some (V.ref l))) (g2 : B l = none) (g3 : I l = none) (g4 : H l = some (.lst vs)) (g5 : DpAll K I vs ds) :
    R K B I0 (upd I l (.lst vs)) H σ (ρ.set m (.im (.list ds))) := by
  have hj : m < ρ.length := (List.getElem?_eq_some_iff.mp hρ).1
  have ei : Ex I (upd I l (.lst vs)) := Evl.Ex.new g3
  refine ⟨r.fr.freeze g2 g3 g4, r.nd.upd trivial, by simp [r.len], fun k x hk => ?_, fun k lo2 us hk => ?_, fun k l2 n hk => ?_, fun k m s t l' hk hm hs ht sk sm => ?_⟩
  · rcases set_cases hk with ⟨rfl, q, z⟩ | ⟨hn, q⟩
    · cases z
      exact ⟨.ref l, g1, .lst (SqL.of upd_same) (dpa_mono ei g5)⟩
    · obtain ⟨v, k1, k2⟩ := r.im k x q
      exact ⟨v, k1, dp_mono ei k2⟩
  · rcases set_cases hk with ⟨rfl, q, z⟩ | ⟨hn, q⟩
    · cases z
    · obtain ⟨l2, vs2, k1, k2, k3, k4, k5, k6⟩ := r.ow k lo2 us q
      refine ⟨l2, vs2, k1, k2, ?_, k4, dpa_mono ei k5, k6⟩
      rw [upd_ne (fun z => by subst z; exact hn (r.dis _ k _ _ l2 hρ q rfl rfl g1 k1))]
      exact k3
  · rcases set_cases hk with ⟨rfl, q, z⟩ | ⟨hn, q⟩
    · cases z
    · obtain ⟨vs2, ds2, k1, k2, k3, k4, k5, k6⟩ := r.fd k l2 n q
      refine ⟨vs2, ds2, k1, k2, ?_, k4, dpa_mono ei k5, k6⟩
      rw [upd_ne (fun z => by subst z; exact hn (r.dis _ k _ _ l2 hρ q rfl rfl g1 k1))]
      exact k3
  · rcases set_cases hk with ⟨rfl, q, z⟩ | ⟨n1, q⟩
    · subst z; cases hs
    · rcases set_cases hm with ⟨rfl, q2, z⟩ | ⟨n2, q2⟩
      · subst z; cases ht
      · exact r.dis k m s t l' q q2 hs ht sk sm
/-- .. and taken back -/
theorem Fr.thaw {I H I2 H2 : Hp} {l : Addr} {vs : List V} (g3 : I l = none) (f2 : Fr (upd I l (.lst vs)) H I2 H2) : Fr I H (del I2 l) H2 := by
  have sub : Ex (del I2 l) I2 := fun a u k => by
    by_cases ha : a = l
    · subst ha; rw [del_same] at k; cases k
    · rw [del_ne ha] at k; exact k
  refine ⟨fun a u k => ?_, f2.h, sub.trans f2.ih, fun a k1 k2 => ?_, fun hn a u k => f2.nd (hn.upd trivial) a u (sub a u k)⟩
  · have ha : a ≠ l := ne_of_none k g3
    rw [del_ne ha]
    exact f2.i a u (Evl.Ex.new g3 a u k)
  · by_cases ha : a = l
    · subst ha; exact del_same
    · rw [del_ne ha]
      exact f2.sep a (by rw [upd_ne ha]; exact k1) k2
theorem ls_un {m : Nat} {lo : Option Addr} (h : LS K F j n py e spos (ρ.set m (.im (.list ds))) ws) (hρ : ρ[m]? = some (.own lo ds)) (hf : ws.all flatD = true) : LS K F j n py e spos ρ ws := fun B I0 I H σ r Q q => by
  obtain ⟨l, vs, g1, g2, g3, g4, g5, g6⟩ := r.ow m lo ds hρ
  refine h B I0 _ H σ (r.frozen hρ g1 g2 g3 g4 g5) Q fun l2 us I2 H2 f2 k1 k2 k3 k4 => ?_
  have il : I2 l = some (.lst vs) := f2.i l _ upd_same
  refine q l2 us (del I2 l) H2 (f2.thaw g3) k1 ?_ k3 (dpa_flat_del il hf k4)
  by_cases hl : l2 = l
  · rw [hl]; exact del_same
  · rw [del_ne hl]; exact k2
/-- .. for an expression that gives a new list -/
theorem el_un {m : Nat} {lo : Option Addr} (h : EL K F e (ρ.set m (.im (.list ds))) ws) (hρ : ρ[m]? = some (.own lo ds)) (hf : ws.all flatD = true) : EL K F e ρ ws := fun B I0 I H σ r Q q => by
  obtain ⟨l, vs, g1, g2, g3, g4, g5, g6⟩ := r.ow m lo ds hρ
  refine h B I0 _ H σ (r.frozen hρ g1 g2 g3 g4 g5) Q fun l2 us I2 H2 f2 k1 k2 k3 k4 => ?_
  have il : I2 l = some (.lst vs) := f2.i l _ upd_same
  refine q l2 us (del I2 l) H2 (f2.thaw g3) k1 ?_ k3 (dpa_flat_del il hf k4)
  by_cases hl : l2 = l
  · rw [hl]; exact del_same
  · rw [del_ne hl]; exact k2
theorem ls_lc [C : Cal P w K mg base k F] {os : List (Option PyData)} (own : List (Str × Nat)) (hs : Src K F tg it ρ ds) (hl : ds.length < 100000) (ho : os.length = ds.length) (ht : ∀ (k : Nat) d o, ds[k]? = some d → os[k]? = some o → LcT K (blkF F scope) tg elt ifs (own.map (·.2)) (wipeD ρ (own.map (·.2))) d o)
    (hkd : scope.kind = .function := by rfl) (hb : ∀ i, blkB (F i).N (F i).env.scope scope own = true := by intro _; kernel_rfl) (hy : ∀ i, (F i).N[j]? = some n := by intro _; rfl) (hyl : ∀ i, (F i).env.scope.names.lookup n = some .local := by intro _; rfl)
    (hsw : ∀ i, swapsWith (.ListComp elt [⟨tg, it, ifs, 0⟩] scope pos) (some (.Name n py)) spos.line (F i).env = pure true := by intro _; exact sw_true rfl rfl rfl (by decide +kernel)) (hf : ∀ i x, foldedSetIterable it (F i).env x = pure x := by intro _ _; rfl) :
    LS K F j n py (.ListComp elt [⟨tg, it, ifs, 0⟩] scope pos) spos ρ (os.filterMap id) := fun B I0 I H σ r Q q => by
  refine ⟨tLc (tI F tg it) (tG (blkF F scope) tg) (tTs (blkF F scope) ifs) (tE (blkF F scope) elt) (own.map (·.2)), fun i => ?_, tlc_of (Nat.lt_trans hl (by rw [sizeLine_eq]; decide)) ho hs ht r q⟩
  exact ps_setLc (C.calm i) (C.nd i) (hy i) (hyl i) (hsw i) (pi_tI i) (blk_of hkd (hb i)) (fun s H C cl fp => pg_tG (F := blkF F scope) (i, s, H, C, cl, fp)) (fun s H C cl fp => pts_tTs (F := blkF F scope) (i, s, H, C, cl, fp)) (fun s H C cl fp => pe_tE (F := blkF F scope) (i, s, H, C, cl, fp)) (hf i)
/-- by words, with a test -/
theorem ls_lcF [C : Cal P w K mg base k F] {α : Type} {xs : List α} {g h : α → PyData} {t : α → Bool} (own : List (Str × Nat)) (hs : Src K F tg it ρ (xs.map g)) (hl : xs.length < 100000) (ht : ∀ a ∈ xs, LcT K (blkF F scope) tg elt ifs (own.map (·.2)) (wipeD ρ (own.map (·.2))) (g a) (if t a then some (h a) else none))
    (hkd : scope.kind = .function := by rfl) (hb : ∀ i, blkB (F i).N (F i).env.scope scope own = true := by intro _; kernel_rfl) (hy : ∀ i, (F i).N[j]? = some n := by intro _; rfl) (hyl : ∀ i, (F i).env.scope.names.lookup n = some .local := by intro _; rfl)
    (hsw : ∀ i, swapsWith (.ListComp elt [⟨tg, it, ifs, 0⟩] scope pos) (some (.Name n py)) spos.line (F i).env = pure true := by intro _; exact sw_true rfl rfl rfl (by decide +kernel)) (hf : ∀ i x, foldedSetIterable it (F i).env x = pure x := by intro _ _; rfl) :
    LS K F j n py (.ListComp elt [⟨tg, it, ifs, 0⟩] scope pos) spos ρ ((xs.filter t).map h) := by
  have q := ls_lc (K := K) (F := F) (ρ := ρ) (pos := pos) (py := py) (spos := spos) (j := j) (n := n) (elt := elt) (tg := tg) (it := it) (ifs := ifs) (scope := scope) (ds := xs.map g) (os := xs.map fun a => if t a then some (h a) else none) own hs (by rw [List.length_map]; exact hl) (by rw [List.length_map, List.length_map]) (fun k d o h1 h2 => by
    obtain ⟨a, ha, _, rfl, rfl⟩ := get_map2 h1 h2
    exact ht a ha) hkd hb hy hyl hsw hf
  rwa [fm_ite] at q
/-! ### two for clauses -/
/-- a list under way, beside all that stands -/
theorem R.addD {B I0 I1 H1 I H : Hp} {σ : L2.St} {D : Addr} {o : HO} (r1 : R K B I0 I1 H1 σ ρ) (hD : H1 D = none) (f : Fr I1 H1 I H) (nD : I D = none) (eD : H D = some o) : R K (upd B D o) I0 I H σ ρ := by
  have r := r1.ext f
  have hB : B D = none := Ex.none r1.fr.h hD
  have ne : ∀ {l : Addr} {u : HO}, H1 l = some u → l ≠ D := fun h z => by subst z; rw [hD] at h; cases h
  refine ⟨⟨r.fr.i, fun a u h => ?_, r.fr.ih, fun a h1 h2 => ?_, r.fr.nd⟩, r.nd, r.len, r.im, fun i lo ds h => ?_, fun i l n h => ?_, r.dis⟩
  · by_cases ha : a = D
    · subst ha; rw [upd_same] at h; rw [eD, h]
    · rw [upd_ne ha] at h; exact r.fr.h a u h
  · by_cases ha : a = D
    · subst ha; exact nD
    · rw [upd_ne ha] at h2; exact r.fr.sep a h1 h2
  · obtain ⟨l, vs, g1, g2, g3, g4, g5, g6⟩ := r.ow i lo ds h
    obtain ⟨l', vs', k1, k2, k3, k4, k5, k6⟩ := r1.ow i lo ds h
    rw [g1] at k1
    cases k1
    exact ⟨l, vs, g1, by rw [upd_ne (ne k4)]; exact g2, g3, g4, g5, g6⟩
  · obtain ⟨vs, ds, g1, g2, g3, g4, g5, g6⟩ := r.fd i l n h
    obtain ⟨vs', ds', k1, k2, k3, k4, k5, k6⟩ := r1.fd i l n h
    exact ⟨vs, ds, g1, by rw [upd_ne (ne k4)]; exact g2, g3, g4, g5, g6⟩
theorem R.swapD {B I0 I H : Hp} {σ : L2.St} {D : Addr} {o o' : HO} (r : R K (upd B D o) I0 I H σ ρ) (nD : I D = none) : R K (upd B D o') I0 I (upd H D o') σ ρ := by
  have ne : ∀ {l : Addr}, upd B D o l = none → l ≠ D := fun h z => by subst z; rw [upd_same] at h; cases h
  refine ⟨⟨r.fr.i, fun a u h => ?_, fun a u h => ?_, fun a h1 h2 => ?_, r.fr.nd⟩, r.nd, r.len, r.im, fun i lo ds h => ?_, fun i l n h => ?_, r.dis⟩
  · by_cases ha : a = D
    · subst ha; rw [upd_same] at h ⊢; exact h
    · rw [upd_ne ha] at h ⊢; exact r.fr.h a u (by rw [upd_ne ha]; exact h)
  · rw [upd_ne (fun z => by subst z; rw [nD] at h; cases h)]; exact r.fr.ih a u h
  · by_cases ha : a = D
    · subst ha; exact nD
    · rw [upd_ne ha] at h2; exact r.fr.sep a h1 (by rw [upd_ne ha]; exact h2)
  · obtain ⟨l, vs, g1, g2, g3, g4, g5, g6⟩ := r.ow i lo ds h
    have hl := ne g2
    exact ⟨l, vs, g1, by rw [upd_ne hl] at g2 ⊢; exact g2, g3, by rw [upd_ne hl]; exact g4, g5, g6⟩
  · obtain ⟨vs, ds, g1, g2, g3, g4, g5, g6⟩ := r.fd i l n h
    have hl := ne g2
    exact ⟨vs, ds, g1, by rw [upd_ne hl] at g2 ⊢; exact g2, g3, by rw [upd_ne hl]; exact g4, g5, g6⟩
theorem tlc2_of {α β : Type} {xs : List α} {g : α → PyData} {ys : α → List β} {g1 h : α → β → PyData} {vs vs1 : List Nat} {B I0 I H : Hp} {σ : L2.St} {Q : VK} (hs : Src K F tg it ρ (xs.map g))
    (ht : ∀ a ∈ xs, ∃ js ρ2, (∀ j ∈ js, j ∈ vs) ∧ Tg K (blkF F scope) tg js (g a) (wipeD ρ vs) ρ2 ∧ Src K (blkF F scope) tg1 it1 ρ2 ((ys a).map (g1 a)) ∧ ∀ b ∈ ys a, ∃ js1 ρ3, (∀ j ∈ js1, j ∈ vs1) ∧ Tg K (blkF F scope) tg1 js1 (g1 a b) (wipeD ρ2 vs1) ρ3 ∧ E K (blkF F scope) elt ρ3 (h a b))
    (hl : (xs.flatMap fun a => (ys a).map (h a)).length < 100000) (r : R K B I0 I H σ ρ)
    (q : ∀ l us I' H', Fr I H I' H' → H l = none → I' l = none → H' l = some (.lst us) → DpAll K I' us (xs.flatMap fun a => (ys a).map (h a)) → Q (.ref l) H') :
    tLc2 (tI F tg it) (tG (blkF F scope) tg) (tTs (blkF F scope) []) (tI (blkF F scope) tg1 it1) (tG (blkF F scope) tg1) (tTs (blkF F scope) []) (tE (blkF F scope) elt) vs vs1 σ H Q := by
  refine hs B I0 I H σ r _ fun J I1 H1 f1 yl => ?_
  intro D hD
  have r1 := r.ext f1
  have hlen : (xs.map g).length = xs.length := List.length_map ..
  refine ⟨fun i m H' => m = xs.length - i ∧ i ≤ xs.length ∧ ∃ I' acc, Fr I1 H1 I' H' ∧ I' D = none ∧ H' D = some (.lst acc) ∧ DpAll K I' acc ((xs.take i).flatMap fun a => (ys a).map (h a)), ⟨xs.length, by simp, Nat.zero_le _, I1, [], Fr.own f1.ih hD, Ex.none f1.ih hD, upd_same, .nil⟩, ?_⟩
  rintro i m H' ⟨rfl, hi, I', acc, f', nD, eD, dA⟩
  have r' := r1.ext f'
  by_cases hlt : i < xs.length
  · have hd : (xs.map g)[i]? = some (g xs[i]) := by rw [List.getElem?_map, List.getElem?_eq_getElem hlt]; rfl
    have tk : (xs.take (i + 1)).flatMap (fun a => (ys a).map (h a)) = (xs.take i).flatMap (fun a => (ys a).map (h a)) ++ (ys xs[i]).map (h xs[i]) := by
      rw [List.take_succ_eq_append_getElem hlt, List.flatMap_append]
      simp
    have short : ((xs.take i).flatMap (fun a => (ys a).map (h a))).length + (ys xs[i]).length ≤ (xs.flatMap fun a => (ys a).map (h a)).length := by
      have e1 : xs = xs.take (i + 1) ++ xs.drop (i + 1) := (List.take_append_drop _ _).symm
      have e2 : (xs.flatMap fun a => (ys a).map (h a)).length = ((xs.take (i + 1)).flatMap (fun a => (ys a).map (h a))).length + ((xs.drop (i + 1)).flatMap (fun a => (ys a).map (h a))).length := by
        rw [← List.length_append, ← List.flatMap_append, List.take_append_drop]
      rw [e2, tk, List.length_append, List.length_map]
      omega
    refine .inr ⟨yl.go i I' H' f'.i f'.ih (by rw [hlen]; exact hlt), fun H2 => ∃ I' acc, Fr I1 H1 I' H2 ∧ I' D = none ∧ H2 D = some (.lst acc) ∧ DpAll K I' acc ((xs.take (i + 1)).flatMap fun a => (ys a).map (h a)), fun H2 p2 => ⟨xs.length - (i + 1), by omega, rfl, hlt, p2⟩, fun x H3 y => ?_⟩
    obtain ⟨I3, f3, d3⟩ := yl.yld i _ I' H' x H3 hd f'.i f'.ih y
    obtain ⟨js, ρ2, hjs, hT, hs1, hin⟩ := ht xs[i] (List.getElem_mem hlt)
    have n3 : I3 D = none := f3.sep D nD (by rw [eD]; exact nofun)
    have e3 : H3 D = some (.lst acc) := f3.h _ _ eD
    have r3 := (r1.addD hD (f'.trans f3) n3 e3).wiped vs
    refine hT (upd B D (.lst acc)) I0 I3 H3 (wipe σ vs) x r3 d3 _ fun σ2 r2 ⟨l2, k2⟩ => ?_
    refine ⟨wipe_same l2 fun j hj => k2 j fun z => hj (hjs j z), ?_⟩
    refine ts_nil (upd B D (.lst acc)) I0 I3 H3 σ2 r2 _ fun I4 H4 f4 => ?_
    show (if true = true then _ else _)
    rw [if_pos rfl]
    have r4 := r2.ext f4
    refine hs1 (upd B D (.lst acc)) I0 I4 H4 σ2 r4 _ fun J1 I5 H5 f5 yl1 => ?_
    have g5 : Fr I1 H1 I5 H5 := ((f'.trans f3).trans f4).trans f5
    have e5 : H5 D = some (.lst acc) := f5.h _ _ (f4.h _ _ e3)
    have n4 : I4 D = none := f4.sep D n3 (by rw [e3]; exact nofun)
    have n5 : I5 D = none := f5.sep D n4 (by rw [f4.h _ _ e3]; exact nofun)
    have d5 : DpAll K I5 acc ((xs.take i).flatMap fun a => (ys a).map (h a)) := dpa_mono (((f3.i.trans f4.i).trans f5.i)) dA
    have r5 := r4.ext f5
    have hlen1 : ((ys xs[i]).map (g1 xs[i])).length = (ys xs[i]).length := List.length_map ..
    refine ⟨fun j k H' => k = (ys xs[i]).length - j ∧ j ≤ (ys xs[i]).length ∧ ∃ I' acc', Fr I1 H1 I' H' ∧ Ex I5 I' ∧ I' D = none ∧ H' D = some (.lst acc') ∧ DpAll K I' acc' ((xs.take i).flatMap (fun a => (ys a).map (h a)) ++ ((ys xs[i]).take j).map (h xs[i])) ∧ R K (upd B D (.lst acc')) I0 I' H' σ2 ρ2,
      ⟨(ys xs[i]).length, by simp, Nat.zero_le _, I5, acc, g5, Evl.Ex.refl _, n5, e5, by rw [List.take_zero, List.map_nil, List.append_nil]; exact d5, r5⟩, ?_⟩
    rintro j k H6 ⟨rfl, hj, I6, acc6, f6, x6, n6, e6, d6, r6⟩
    by_cases hjl : j < (ys xs[i]).length
    · have hdj : ((ys xs[i]).map (g1 xs[i]))[j]? = some (g1 xs[i] (ys xs[i])[j]) := by rw [List.getElem?_map, List.getElem?_eq_getElem hjl]; rfl
      have tkj : ((ys xs[i]).take (j + 1)).map (h xs[i]) = ((ys xs[i]).take j).map (h xs[i]) ++ [h xs[i] (ys xs[i])[j]] := by
        rw [List.take_succ_eq_append_getElem hjl, List.map_append]
        rfl
      refine .inr ⟨yl1.go j I6 H6 x6 r6.fr.ih (by rw [hlen1]; exact hjl), fun H' => ∃ I' acc', Fr I1 H1 I' H' ∧ Ex I5 I' ∧ I' D = none ∧ H' D = some (.lst acc') ∧ DpAll K I' acc' ((xs.take i).flatMap (fun a => (ys a).map (h a)) ++ ((ys xs[i]).take (j + 1)).map (h xs[i])) ∧ R K (upd B D (.lst acc')) I0 I' H' σ2 ρ2,
        fun H' p => ⟨(ys xs[i]).length - (j + 1), by omega, rfl, hjl, p⟩, fun z H7 y7 => ?_⟩
      obtain ⟨I7, f7, d7⟩ := yl1.yld j _ I6 H6 z H7 hdj x6 r6.fr.ih y7
      obtain ⟨js1, ρ3, hjs1, hT1, hE⟩ := hin (ys xs[i])[j] (List.getElem_mem hjl)
      have r7 := (r6.ext f7).wiped vs1
      refine hT1 (upd B D (.lst acc6)) I0 I7 H7 (wipe σ2 vs1) z r7 d7 _ fun σ3 r8 ⟨l3, k3⟩ => ?_
      refine ⟨wipe_same l3 fun j hj => k3 j fun z => hj (hjs1 j z), ?_⟩
      refine ts_nil (upd B D (.lst acc6)) I0 I7 H7 σ3 r8 _ fun I8 H8 f8 => ?_
      show (if true = true then _ else _)
      rw [if_pos rfl]
      refine hE (upd B D (.lst acc6)) I0 I8 H8 σ3 (r8.ext f8) _ fun v I9 H9 f9 d9 => ?_
      have f69 : Fr I6 H6 I9 H9 := (f7.trans f8).trans f9
      have e9 : H9 D = some (.lst acc6) := f69.h _ _ e6
      have n9 : I9 D = none := f69.sep D n6 (by rw [e6]; exact nofun)
      have da9 := dpa_mono f69.i d6
      have g9 := f6.trans f69
      refine ⟨acc6, e9, ?_, I9, acc6 ++ [v], ?_, x6.trans f69.i, n9, upd_same, ?_, (r6.ext f69).swapD n9⟩
      · rw [dpa_len da9, List.length_append, List.length_map, List.length_take]
        have e0 : min j (ys xs[i]).length = j := Nat.min_eq_left (Nat.le_of_lt hjl)
        rw [e0]
        have e1 : 100000 < sizeLine := by rw [sizeLine_eq]; decide
        omega
      · refine ⟨g9.i, fun a u k => ?_, fun a u k => ?_, g9.sep, g9.nd⟩
        · rw [upd_ne (ne_of_none k hD)]; exact g9.h a u k
        · rw [upd_ne (ne_of_none k n9)]; exact g9.ih a u k
      · rw [tkj, ← List.append_assoc]
        exact dpa_app da9 (dpa_one d9)
    · have e : j = (ys xs[i]).length := by omega
      subst e
      rw [List.take_length, ← tk] at d6
      exact .inl ⟨by have := yl1.stop I6 H6 x6 r6.fr.ih; rwa [hlen1] at this, I6, acc6, f6, n6, e6, d6⟩
  · have e : i = xs.length := by omega
    subst e
    rw [List.take_length] at dA
    refine .inl ⟨by have := yl.stop I' H' f'.i f'.ih; rwa [hlen] at this, q D acc I' H' (f1.trans f') ?_ nD eD dA⟩
    cases e : H D with
    | none => rfl
    | some o => rw [f1.h D o e] at hD; cases hD
/-- name = [elt for tg in it for tg1 in it1] on one line -/
theorem ls_lc2 [C : Cal P w K mg base k F] {α β : Type} {xs : List α} {g : α → PyData} {ys : α → List β} {g1 h : α → β → PyData} (own : List (Str × Nat)) (vs1 : List Nat) (hs : Src K F tg it ρ (xs.map g))
    (ht : ∀ a ∈ xs, ∃ js ρ2, (∀ j ∈ js, j ∈ own.map (·.2)) ∧ Tg K (blkF F scope) tg js (g a) (wipeD ρ (own.map (·.2))) ρ2 ∧ Src K (blkF F scope) tg1 it1 ρ2 ((ys a).map (g1 a)) ∧ ∀ b ∈ ys a, ∃ js1 ρ3, (∀ j ∈ js1, j ∈ vs1) ∧ Tg K (blkF F scope) tg1 js1 (g1 a b) (wipeD ρ2 vs1) ρ3 ∧ E K (blkF F scope) elt ρ3 (h a b))
    (hl : (xs.flatMap fun a => (ys a).map (h a)).length < 100000) (hv : ∀ i ∈ vs1, i ∈ own.map (·.2)) (hkd : scope.kind = .function := by rfl) (hb : ∀ i, blkB (F i).N (F i).env.scope scope own = true := by intro _; kernel_rfl) (hy : ∀ i, (F i).N[j]? = some n := by intro _; rfl) (hyl : ∀ i, (F i).env.scope.names.lookup n = some .local := by intro _; rfl)
    (hsw : ∀ i, swapsWith (.ListComp elt [⟨tg, it, [], 0⟩, ⟨tg1, it1, [], 0⟩] scope pos) (some (.Name n py)) spos.line (F i).env = pure true := by intro _; exact sw_true rfl rfl rfl (by decide +kernel)) (hf : ∀ i x, foldedSetIterable it (F i).env x = pure x := by intro _ _; rfl) (hf1 : ∀ env x, foldedSetIterable it1 env x = pure x := by intro _ _; rfl) :
    LS K F j n py (.ListComp elt [⟨tg, it, [], 0⟩, ⟨tg1, it1, [], 0⟩] scope pos) spos ρ (xs.flatMap fun a => (ys a).map (h a)) := fun B I0 I H σ r Q q => by
  refine ⟨tLc2 (tI F tg it) (tG (blkF F scope) tg) (tTs (blkF F scope) []) (tI (blkF F scope) tg1 it1) (tG (blkF F scope) tg1) (tTs (blkF F scope) []) (tE (blkF F scope) elt) (own.map (·.2)) vs1, fun i => ?_, tlc2_of hs ht hl r q⟩
  exact ps_setLc2 (C.calm i) (C.nd i) (hy i) (hyl i) (hsw i) (pi_tI i) (blk_of hkd (hb i)) hv (fun s H C cl fp => pg_tG (F := blkF F scope) (i, s, H, C, cl, fp)) (fun s H C cl fp => pts_tTs (F := blkF F scope) (i, s, H, C, cl, fp)) (fun s H C cl fp => pi_tI (F := blkF F scope) (i, s, H, C, cl, fp)) (fun s H C cl fp => pg_tG (F := blkF F scope) (i, s, H, C, cl, fp)) (fun s H C cl fp => pts_tTs (F := blkF F scope) (i, s, H, C, cl, fp)) (fun s H C cl fp => pe_tE (F := blkF F scope) (i, s, H, C, cl, fp)) (hf i) hf1
end
end K67
namespace K67
open PySem PySem.Spec PyProof.Rows L2
open Evl (Ex ex_l ex_t)

/-! ### what repr shows is short -/
mutual
def nodes : PyData → Nat
  | .list xs => nodesAll xs + 1
  | .tuple xs => nodesAll xs + 1
  | .dict kvs => 0
  | _ => 1
def nodesAll : List PyData → Nat
  | [] => 0
  | x :: xs => nodes x + nodesAll xs
end
mutual
/-- no text, no dict in it -/
def plainD : PyData → Bool
  | .list xs => plainAll xs
  | .tuple xs => plainAll xs
  | .dict _ => false
  | .str _ => false
  | .int i => decide (i.natAbs.log2 < 1920)
  | .none => true
  | .bool _ => true
def plainAll : List PyData → Bool
  | [] => true
  | x :: xs => plainD x && plainAll xs
end
theorem list_text (ts : List Str) : (listText ts).length ≤ piled ts + 2 := by
  unfold listText
  rw [strLen_append]
  have e1 : ("]" : Str).length = 1 := rfl
  have e0 : ("[" : Str).length = 1 := rfl
  rw [e1]
  cases ts with
  | nil => show ("[" : Str).length + 1 ≤ _; rw [e0]; omega
  | cons t r =>
    show (textFrom 1 (("[" : Str) ++ (if 0 > 0 then ", " else "" : String) ++ t) r).length + 1 ≤ _
    rw [textFrom_length_pos _ _ _ (by decide), strLen_append, strLen_append, piled_cons, e0]
    have e2 : ((if 0 > 0 then ", " else "" : String) : Str).length = 0 := rfl
    rw [e2]
    omega
theorem tuple_text (ts : List Str) : (tupleText ts).length ≤ piled ts + 3 := by
  unfold tupleText
  rw [strLen_append, strLen_append]
  have e0 : ("(" : Str).length = 1 := rfl
  have e2 : ((if ts.length == 1 then ",)" else ")" : String) : Str).length ≤ 2 := by split <;> decide
  rw [e0]
  by_cases h : ts = []
  · subst h
    have : (Str.join ", " ([] : List Str)).length = 0 := rfl
    rw [this]
    omega
  · have := join_length_add ts h
    omega
mutual
theorem shown_le : ∀ d : PyData, plainD d = true → d.shown.length + 2 ≤ 2000 * nodes d
  | .none, _ => by show ("None" : Str).length + 2 ≤ _; decide
  | .bool true, _ => by show ("True" : Str).length + 2 ≤ _; decide
  | .bool false, _ => by show ("False" : Str).length + 2 ≤ _; decide
  | .int i, h => by
    have := int_text_len_1921 (of_decide_eq_true h)
    show (Str.ofString (toString i)).length + 2 ≤ 2000 * 1
    omega
  | .str _, h => by cases h
  | .dict _, h => by cases h
  | .list xs, h => by
    have e : (PyData.shown (.list xs)) = listText (PyData.shownAll xs) := by simp only [PyData.shown]
    rw [e]
    have h1 := list_text (PyData.shownAll xs)
    have h2 := shownAll_le xs h
    show _ ≤ 2000 * (nodesAll xs + 1)
    omega
  | .tuple xs, h => by
    have e : (PyData.shown (.tuple xs)) = tupleText (PyData.shownAll xs) := by simp only [PyData.shown]
    rw [e]
    have h1 := tuple_text (PyData.shownAll xs)
    have h2 := shownAll_le xs h
    show _ ≤ 2000 * (nodesAll xs + 1)
    omega
theorem shownAll_le : ∀ xs : List PyData, plainAll xs = true → piled (PyData.shownAll xs) ≤ 2000 * nodesAll xs
  | [], _ => by simp only [PyData.shownAll]; decide
  | x :: xs, h => by
    unfold plainAll at h
    rw [Bool.and_eq_true] at h
    have h1 := shown_le x h.1
    have h2 := shownAll_le xs h.2
    simp only [PyData.shownAll]
    rw [piled_cons]
    show _ ≤ 2000 * (nodes x + nodesAll xs)
    omega
end
mutual
theorem plain_show : ∀ d : PyData, plainD d = true → d.showable = true ∧ d.hasDict = false
  | .none, _ => ⟨by simp only [PyData.showable], by simp only [PyData.hasDict]⟩
  | .bool _, _ => ⟨by simp only [PyData.showable], by simp only [PyData.hasDict]⟩
  | .int i, h => ⟨by simp only [PyData.showable]; exact h, by simp only [PyData.hasDict]⟩
  | .str _, h => by cases h
  | .dict _, h => by cases h
  | .list xs, h => by
    obtain ⟨a, b⟩ := plainAll_show xs h
    exact ⟨by simp only [PyData.showable]; exact a, by simp only [PyData.hasDict]; exact b⟩
  | .tuple xs, h => by
    obtain ⟨a, b⟩ := plainAll_show xs h
    exact ⟨by simp only [PyData.showable]; exact a, by simp only [PyData.hasDict]; exact b⟩
theorem plainAll_show : ∀ xs : List PyData, plainAll xs = true → PyData.showableAll xs = true ∧ PyData.hasDictAll xs = false
  | [], _ => ⟨by simp only [PyData.showableAll], by simp only [PyData.hasDictAll]⟩
  | x :: xs, h => by
    unfold plainAll at h
    rw [Bool.and_eq_true] at h
    obtain ⟨a, b⟩ := plain_show x h.1
    obtain ⟨c, d⟩ := plainAll_show xs h.2
    exact ⟨by simp only [PyData.showableAll]; rw [a, c]; rfl, by simp only [PyData.hasDictAll]; rw [b, d]; rfl⟩
end
/-- fit for _law_same -/
structure Rp (d : PyData) : Prop where
  plain : plainD d = true
  deep : d.depth ≤ 50
  few : nodes d ≤ 8000
section
variable {P : Program} {w : World} {K : PySem.W.Frag} {mg : Str → Option Value} {base : Heap} {k : Nat} {ι : Type} {F : ι → Cx} {e a b : Expr} {es : List Expr} {ρ : DE} {d x y z : PyData} {ds ds2 : List PyData} {pos p : Pos} {m v : Nat} {ns : List Nat} {t : Bool} {Δ : De}
theorem c_reprS [C : Cal P w K mg base k F] (h : Rp x) (hx : (∃ ds, x = .list ds) ∨ (∃ ds, x = .tuple ds)) : CallD K F (.builtin "repr") [x] (.str x.shown) := call1 (r := rRepr K) (fun i => by rw [← cK (F := F) i]; exact cr_repr (C.room i).g (C.room i).r.units) fun I H v Q e d q => by
  obtain ⟨h1, h2⟩ := plain_show x h.plain
  have h3 := shown_le x h.plain
  have h4 := h.deep
  have h5 := h.few
  refine ⟨v, x, rfl, dp_mono e d, h1, h2, by omega, by rw [sizeLine_eq]; omega, ?_, q _ I H (Fr.refl e) (.str _)⟩
  rcases hx with ⟨ds, rfl⟩ | ⟨ds, rfl⟩
  · cases d with | lst hs ha => exact ⟨_, rfl⟩
  · cases d with | tup hs ha => exact ⟨_, rfl⟩
theorem c_reprI [C : Cal P w K mg base k F] {i : Int} (h : Rp (.int i)) : CallD K F (.builtin "repr") [.int i] (.str (PyData.int i).shown) := call1 (fun i => SkE.call_repr_int) fun I H v Q e d q => by
  cases d
  refine ⟨i, rfl, of_decide_eq_true h.plain, ?_⟩
  have := q (.str (PyData.int i).shown) I H (Fr.refl e) (.str _)
  exact this
theorem c_reprD [C : Cal P w K mg base k F] (h : Rp x) (hx : (∃ i, x = .int i) ∨ (∃ ds, x = .list ds) ∨ (∃ ds, x = .tuple ds)) : CallD K F (.builtin "repr") [x] (.str x.shown) := by
  rcases hx with ⟨i, rfl⟩ | hx
  · exact c_reprI h
  · exact c_reprS h hx
theorem q_repr [C : Cal P w K mg base k F] [W : Wd K mg] (h : E K F e ρ x) (hr : Rp x) (hx : (∃ i, x = .int i) ∨ (∃ ds, x = .list ds) ∨ (∃ ds, x = .tuple ds)) (hg : ∀ i, Gl (F i) "repr" := by intro _; rfl) (he : ∀ i, starEach [e] (F i).env = (false, eval e (F i).env) :: starEach [] (F i).env := by intro _; rfl) :
    E K F (.Call (.Name "repr" p) [e] [] pos) ρ (.str x.shown) := e_blt (a_cons h a_nil he) (c_reprD hr hx) (fr_ (by decide +kernel)) (by decide +kernel) hg (by decide) (by decide) he fun _ => rfl
/-- _law_same of equal data -/
theorem ok_law_same [W : Wd K mg] : Cle P w K mg base "_law_same" 169 ["_law_told", "_law_due"] 1 (spP K (fun x : PyData => [x, x]) (fun x => Rp x ∧ ((∃ i, x = .int i) ∨ (∃ ds, x = .list ds) ∨ (∃ ds, x = .tuple ds))) (fun _ => .bool true)) := by
  refine mkP df169 (fun _ => rfl) (fun f cdv A outer s H E' ci a hp => ?_)
  exact ss_cons (s_ret (e_cmp (q_repr (e_name 0) hp.1 hp.2) (q_repr (e_name 1) hp.1 hp.2) o_eqS) (by simp))
end
end K67
namespace K67
open PySem PySem.Spec PyProof.Rows L2
theorem e_to {K : PySem.W.Frag} {ι : Type} {F : ι → Cx} {e : Expr} {ρ : DE} {x y : PyData} (h : E K F e ρ x) (hx : x = y) : E K F e ρ y := hx ▸ h
theorem t_to {K : PySem.W.Frag} {ι : Type} {F : ι → Cx} {e : Expr} {ρ : DE} {x y : Bool} (h : T K F e ρ x) (hx : x = y) : T K F e ρ y := hx ▸ h
theorem el_to {K : PySem.W.Frag} {ι : Type} {F : ι → Cx} {e : Expr} {ρ : DE} {x y : List PyData} (h : EL K F e ρ x) (hx : x = y) : EL K F e ρ y := hx ▸ h
section
variable {P : Program} {w : World} {K : PySem.W.Frag} {mg : Str → Option Value} {base : Heap}
theorem ok_a_want [W : Wd K mg] : Cle P w K mg base "a_want" 6 ["good", "word"] 1 (spP K (fun s : Str => [.bool true, .str s]) (fun _ => True) (fun _ => .none)) := by
  refine mkP df6 (fun _ => rfl) (fun f cdv A outer s H E' ci a hp => ?_)
  exact ss_cons (s_if (t_not (t_val (e_name 0))) (fun h => by cases h) fun _ => ss_nil (ss_nil rfl))
section
variable {k : Nat} {ι : Type} {F : ι → Cx} {e : Expr} {ρ : DE} {pos p p2 : Pos} {Δ : De} {s : Str} {kk : Nat}
/-- a_want(e, 'word') as a statement, e true -/
theorem s_want [C : Cal P w K mg base k F] [W : Wd K mg] (h : E K F e ρ (.bool true)) (hn : Δ.nx ρ) (hk : 1 ≤ k := by decide) (hg : ∀ i, Gl (F i) "a_want" := by intro _; rfl) (he : ∀ i, starEach [e, .Constant (.str s) kk p2] (F i).env = (false, eval e (F i).env) :: starEach [.Constant (.str s) kk p2] (F i).env := by intro _; rfl)
    (he2 : ∀ i, starEach [.Constant (.str s) kk p2] (F i).env = (false, eval (.Constant (.str s) kk p2) (F i).env) :: starEach [] (F i).env := by intro _; rfl) (hpl : ∀ i, (backTo pos (starEach [.Constant (.str s) kk p2] (F i).env)).any (·.1) = false := by intro _; rfl)
    {pos2 : Pos} (hs : ∀ i, swapsWith (.Call (.Name "a_want" p) [e, .Constant (.str s) kk p2] [] pos) none pos2.line (F i).env = pure false := by intro _; rfl) : S K F (.Expr (.Call (.Name "a_want" p) [e, .Constant (.str s) kk p2] [] pos) pos2) ρ Δ :=
  s_expr (q_call ok_a_want s (a_cons h (a_cons e_str a_nil he2) he) trivial hk hg (by decide) he hpl) hn hs
end
theorem ok_is_integer [W : Wd K mg] : Cle P w K mg base "is_integer" 8 ["thing"] 1 (spP K (fun i : Int => [.int i]) (fun _ => True) (fun _ => .bool true)) := by
  refine mkP df8 (fun _ => rfl) (fun f cdv A outer s H E' ci a hp => ?_)
  exact ss_cons (s_ret (e_and (q_isi (e_name 0) kt_ii) fun _ => e_one (e_not (q_isi (e_name 0) kt_ib))) rfl)
theorem ok_is_number [W : Wd K mg] : Cle P w K mg base "is_number" 9 ["thing"] 2 (spP K (fun i : Nat => [nD i]) (fun _ => True) (fun _ => .bool true)) := by
  refine mkP df9 (fun _ => rfl) (fun f cdv A outer s H E' ci a hp => ?_)
  exact ss_cons (s_ret (e_and (q_call ok_is_integer _ (a_cons (e_name 0) a_nil) trivial) fun _ => e_one (e_cmp (e_name 0) (e_nat 0) n_ge)) (by simp))
theorem ok_is_quotient [W : Wd K mg] : Cle P w K mg base "is_quotient" 10 ["thing"] 2 (spP K (fun q : Nat × Nat => [.tuple [nD q.1, nD q.2]]) (fun q => 1 ≤ q.2 ∧ Nat.gcd q.1 q.2 = 1) (fun _ => .bool true)) := by
  refine mkP df10 (fun _ => rfl) (fun f cdv A outer s H E' ci a hp => ?_)
  obtain ⟨x, y⟩ := a
  refine ss_cons (s_if (t_of (t_or (t_not (t_val (q_isi (e_name 0) kt_tt))) fun _ => t_or1 (t_cmp (q_len (e_name 0)) (e_nat 2) n_ne))) (fun h => by cases h) fun _ => ss_nil ?_)
  refine ss_cons (s_asg (e_name 0) (tg_tup cK ci.calm (tgs_cons (tg_name 1 nd_) (tgs_cons (tg_name 2 nd_) tgs_nil))) ?_)
  refine ss_cons (s_if (t_of (t_or (t_not (t_val (q_call ok_is_integer _ (a_cons (e_name 1) a_nil) trivial))) fun _ => t_or (t_not (t_val (q_call ok_is_integer _ (a_cons (e_name 2) a_nil) trivial))) fun _ => t_or1 (t_cmp (e_name 2) (e_nat 1) n_lt))) (fun h => ?_) fun _ => ss_nil ?_)
  · have h1 : y < 1 := by simpa using h
    have h2 : 1 ≤ y := hp.1
    omega
  · exact ss_cons (s_ret (e_cmp (q_gcd (e_name 1) (e_name 2)) (e_nat 1) n_eq) (by simpa using hp.2))
theorem ok_a_is_numbers [W : Wd K mg] : Cle P w K mg base "a_is_numbers" 11 ["thing"] 3 (spP K (fun ns : List Nat => [tN ns]) (fun ns => ns.length < 5000) (fun _ => .bool true)) := by
  refine mkP df11 (fun _ => rfl) (fun f cdv A outer s H E' ci a hp => ?_)
  refine ss_cons (s_ret (e_and (q_isi (e_name 0) kt_tt) fun _ => e_one (q_all (bs := a.map fun _ => true) ?_)) (by simp))
  rw [List.map_map]
  exact (q_lcM (g := nD) (h := fun _ => .bool true) [("part", 1)] (src_tup cK (e_name 0)) hp fun n hn => lc_map 1 (q_call ok_is_number n (a_cons (e_name 1) a_nil) trivial)).im
theorem ok_is_text [W : Wd K mg] : Cle P w K mg base "is_text" 12 ["letters", "thing"] 4 (spP K (fun x : Nat × List Nat => [nD x.1, tN x.2]) (fun x => x.2.length < 5000 ∧ ∀ n ∈ x.2, n < x.1) (fun _ => .bool true)) := by
  refine mkP df12 (fun _ => rfl) (fun f cdv A outer s H E' ci a hp => ?_)
  obtain ⟨m, xs⟩ := a
  refine ss_cons (s_want (q_call ok_is_number m (a_cons (e_name 0) a_nil) trivial) ?_)
  refine ss_cons (s_ret (e_and (q_call ok_a_is_numbers xs (a_cons (e_name 1) a_nil) hp.1) fun _ => e_one (q_all (bs := xs.map fun _ => true) ?_)) (by simp))
  rw [List.map_map]
  refine (q_lcM (g := nD) (h := fun _ => .bool true) [("part", 2)] (src_tup cK (e_name 1)) hp.1 fun n hn => lc_map 2 ?_).im
  exact e_to (e_cmp (e_name 2) (e_name 0) n_lt) (by simpa using hp.2 n hn)
theorem ok_choose [W : Wd K mg] : Cle P w K mg base "choose" 16 ["many", "few"] 3 (spP K (fun x : Nat × Nat => [nD x.1, nD x.2]) (fun x => x.1 < 10000) (fun x => nD (cmb x.1 x.2))) := by
  refine mkP df16 (fun _ => rfl) (fun f cdv A outer s H E' ci a hp => ?_)
  refine ss_cons (s_want (q_call ok_is_number a.1 (a_cons (e_name 0) a_nil) trivial) ?_)
  refine ss_cons (s_want (q_call ok_is_number a.2 (a_cons (e_name 1) a_nil) trivial) ?_)
  exact ss_cons (s_ret (q_comb (e_name 0) (e_name 1) hp) rfl)
theorem ok_factorial_of [W : Wd K mg] : Cle P w K mg base "factorial_of" 17 ["many"] 3 (spP K (fun x : Nat => [nD x]) (fun x => x ≤ 20000) (fun x => nD (fact x))) := by
  refine mkP df17 (fun _ => rfl) (fun f cdv A outer s H E' ci a hp => ?_)
  refine ss_cons (s_want (q_call ok_is_number a (a_cons (e_name 0) a_nil) trivial) ?_)
  exact ss_cons (s_ret (q_fact (e_name 0) hp) rfl)
end
end K67
namespace K67
/-! What the defs compute, in plain words (no program here). -/
def seek : List Nat → Nat → Nat × Nat
  | [], p => (0, p)
  | a :: r, p => if p < a then (0, p) else ((seek r (p - a)).1 + 1, (seek r (p - a)).2)
def pushB (st : Nat) (tb : List Nat) (l : Nat) : Nat := tb.sum * (st / tb.getD l 0) + (tb.take l).sum + st % tb.getD l 0
def popB (st : Nat) (tb : List Nat) : Nat × Nat := ((seek tb (st % tb.sum)).1, tb.getD (seek tb (st % tb.sum)).1 0 * (st / tb.sum) + (seek tb (st % tb.sum)).2)
def lowQ (t b : Nat) : Nat × Nat := (t / Nat.gcd t b, b / Nat.gcd t b)
def afterT (gain : Nat) (starts row : List Nat) : List Nat := row.foldl (fun cs l => cs.set l (cs.getD l 0 + gain)) starts
def rise (s g : Nat) : Nat → Nat
  | 0 => 1
  | n + 1 => rise s g n * (s + g * n)
def chT (gain : Nat) (starts counts : List Nat) : Nat := (starts.zip counts).foldl (fun t p => t * rise p.1 gain p.2) 1
def multi (cs : List Nat) : Nat := cs.foldl (fun m c => m / fact c) (fact cs.sum)
theorem getD_le_sum : ∀ (tb : List Nat) (l : Nat), tb.getD l 0 ≤ tb.sum
  | [], l => by simp
  | a :: r, 0 => by simp
  | a :: r, l + 1 => by
    have := getD_le_sum r l
    simp only [List.getD_cons_succ, List.sum_cons]
    omega
theorem take_le_sum : ∀ (tb : List Nat) (l : Nat), (tb.take l).sum ≤ tb.sum
  | [], l => by simp
  | a :: r, 0 => by simp
  | a :: r, l + 1 => by
    have := take_le_sum r l
    simp only [List.take_succ_cons, List.sum_cons]
    omega
theorem seek_lt : ∀ {tb : List Nat} {p : Nat}, p < tb.sum → (seek tb p).1 < tb.length ∧ (seek tb p).2 < tb.getD (seek tb p).1 0 ∧ (tb.take (seek tb p).1).sum + (seek tb p).2 = p
  | [], p, h => by simp at h
  | a :: r, p, h => by
    unfold seek
    by_cases q : p < a
    · rw [if_pos q]
      simp [q]
    · rw [if_neg q]
      rw [List.sum_cons] at h
      obtain ⟨h1, h2, h3⟩ := seek_lt (tb := r) (p := p - a) (by omega)
      simp only [List.length_cons, List.getD_cons_succ, List.take_succ_cons, List.sum_cons]
      refine ⟨by omega, h2, by omega⟩
/-- a walk along the marks -/
theorem seek_drop {tb : List Nat} {j p : Nat} (hj : j < tb.length) (h : ¬ p < tb.getD j 0) : seek (tb.drop j) p = ((seek (tb.drop (j + 1)) (p - tb.getD j 0)).1 + 1, (seek (tb.drop (j + 1)) (p - tb.getD j 0)).2) := by
  have e : tb.drop j = tb.getD j 0 :: tb.drop (j + 1) := by
    rw [List.drop_eq_getElem_cons hj, List.getD_eq_getElem?_getD, List.getElem?_eq_getElem hj]
    rfl
  rw [e]
  show (if p < tb.getD j 0 then _ else _) = _
  rw [if_neg h]
theorem seek_stop {tb : List Nat} {j p : Nat} (hj : j < tb.length) (h : p < tb.getD j 0) : seek (tb.drop j) p = (0, p) := by
  have e : tb.drop j = tb.getD j 0 :: tb.drop (j + 1) := by
    rw [List.drop_eq_getElem_cons hj, List.getD_eq_getElem?_getD, List.getElem?_eq_getElem hj]
    rfl
  rw [e]
  show (if p < tb.getD j 0 then _ else _) = _
  rw [if_pos h]
theorem sum_drop {tb : List Nat} {j : Nat} (hj : j < tb.length) : (tb.drop j).sum = tb.getD j 0 + (tb.drop (j + 1)).sum := by
  rw [List.drop_eq_getElem_cons hj, List.sum_cons, List.getD_eq_getElem?_getD, List.getElem?_eq_getElem hj]
  rfl
theorem afterT_len (gain : Nat) : ∀ (row starts : List Nat), (afterT gain starts row).length = starts.length
  | [], starts => rfl
  | l :: r, starts => by
    show (afterT gain (starts.set l (starts.getD l 0 + gain)) r).length = _
    rw [afterT_len gain r, List.length_set]
theorem afterT_snoc (gain : Nat) (starts row : List Nat) (l : Nat) : afterT gain starts (row ++ [l]) = (afterT gain starts row).set l ((afterT gain starts row).getD l 0 + gain) := by
  unfold afterT
  rw [List.foldl_append]
  rfl
/-- a rising product's size -/
theorem rise_lt {s g b : Nat} : ∀ n : Nat, (∀ i, i < n → s + g * i < 2 ^ b) → rise s g n < 2 ^ (b * n + 1)
  | 0, _ => by show 1 < 2 ^ (b * 0 + 1); simp
  | n + 1, h => by
    have h1 := rise_lt n (fun i hi => h i (by omega))
    have h2 := h n (by omega)
    show rise s g n * (s + g * n) < _
    calc rise s g n * (s + g * n) < 2 ^ (b * n + 1) * 2 ^ b := Nat.mul_lt_mul'' h1 h2
      _ = 2 ^ (b * (n + 1) + 1) := by rw [← Nat.pow_add]; congr 1; rw [Nat.mul_succ]; omega
end K67
namespace K67
open PySem PySem.Spec PyProof.Rows L2
theorem zipD_nat (xs ys : List Nat) : zipD (xs.map nD) (ys.map nD) = (xs.zip ys).map fun p => .tuple [nD p.1, nD p.2] := by
  unfold zipD
  rw [List.zip_map, List.map_map]
  rfl
theorem ramp_nat (n : Nat) : ramp 0 1 n = (List.range n).map nD := by
  unfold ramp
  congr 1
  funext i
  show PyData.int (0 + (i : Int) * 1) = PyData.int (i : Int)
  congr 1
  omega
/-- a table's conditions -/
structure Tb (tb : List Nat) : Prop where
  len : tb.length < 1000
  pos : 0 < tb.sum
  big : tb.sum < BIG
section
variable {P : Program} {w : World} {K : PySem.W.Frag} {mg : Str → Option Value} {base : Heap} [W : Wd K mg]
section
variable {k : Nat} {ι : Type} {F : ι → Cx} {e : Expr} {ρ : DE} {pos p : Pos} {ds : List PyData}
theorem src_B [C : Cal P w K mg base k F] {tg : Expr} {t : Bool} (h : E K F e ρ (sqD t ds)) : Src K F tg e ρ ds := by
  cases t with
  | true => exact src_tup cK h
  | false => exact src_list cK h
theorem q_rng [C : Cal P w K mg base k F] {tg : Expr} {m : Nat} (h : E K F e ρ (nD m)) (hm : m < 100000) (hg : ∀ i, Gl (F i) "range" := by intro _; rfl) (hs : ∀ i, starEach [e] (F i).env = [(false, eval e (F i).env)] := by intro _; rfl) :
    Src K F tg (.Call (.Name "range" p) [e] [] pos) ρ ((List.range m).map nD) := by
  have q := src_rng1 (K := K) (F := F) (ρ := ρ) (tg := tg) (p := p) (pos := pos) h (by omega) (fr_ (by decide +kernel)) hg hs
  rwa [Int.toNat_natCast, ramp_nat] at q
end
theorem ok_numbers : Cle P w K mg base "_numbers" 31 ["thing"] 3 (spP K (fun ns : List Nat => [tN ns]) (fun _ => True) (fun _ => .bool true)) := by
  refine mkP df31 (fun _ => rfl) (fun f cdv A outer s H E' ci a hp => ?_)
  refine ss_cons (s_if (t_not (t_val (q_isi (e_name 0) kt_tt))) (fun h => by cases h) fun _ => ss_nil ?_)
  refine ss_cons (s_for (fun _ ρ' => ∃ u, ρ' = [.im (tN a), u]) (src_tup cK (e_name 0)) ⟨_, rfl⟩ (fun k d ρ' hd ⟨u, hu⟩ => ?_) (fun ρ' ⟨u, hu⟩ => ?_))
  · subst hu
    rw [List.getElem?_map] at hd
    cases hx : a[k]? with
    | none => rw [hx] at hd; cases hd
    | some x =>
      rw [hx] at hd
      cases hd
      refine ⟨[1], _, tg_name 1 nd_, ss_cons (s_if (t_not (t_val (q_call ok_is_number x (a_cons (e_name 1) a_nil) trivial))) (fun h => by cases h) fun _ => ss_nil (ss_nil ⟨_, rfl⟩))⟩
  · subst hu
    exact ss_cons (s_ret e_bool rfl)
theorem ok_is_table : Cle P w K mg base "is_table" 32 ["thing"] 4 (spP K (fun ns : List Nat => [tN ns]) (fun ns => 0 < ns.sum) (fun _ => .bool true)) := by
  refine mkP df32 (fun _ => rfl) (fun f cdv A outer s H E' ci a hp => ?_)
  exact ss_cons (s_ret (e_and (q_call ok_numbers a (a_cons (e_name 0) a_nil) trivial) fun _ => e_one (e_cmp (q_sum (e_name 0)) (e_nat 0) n_gt)) (by simpa using hp))
theorem ok_b_stands : Cle P w K mg base "b_stands" 33 ["table", "letter"] 3 (spP K (fun x : List Nat × Nat => [tN x.1, nD x.2]) (fun x => x.2 < x.1.length ∧ 0 < x.1.getD x.2 0) (fun _ => .bool true)) := by
  refine mkP df33 (fun _ => rfl) (fun f cdv A outer s H E' ci a hp => ?_)
  obtain ⟨tb, l⟩ := a
  exact ss_cons (s_ret (e_and (q_call ok_is_number l (a_cons (e_name 1) a_nil) trivial) fun _ => e_and (e_cmp (e_name 1) (q_len (e_name 0)) n_lt) fun _ => e_one (e_cmp (e_ix (e_name 0) (e_name 1) (i_tN hp.1)) (e_nat 0) n_gt)) (by simpa using hp))
theorem ok_b_table_letter : Cle P w K mg base "b_table_letter" 34 ["table", "letter"] 5 (spP K (fun x : List Nat × Nat => [tN x.1, nD x.2]) (fun x => x.2 < x.1.length ∧ 0 < x.1.getD x.2 0) (fun _ => .none)) := by
  refine mkP df34 (fun _ => rfl) (fun f cdv A outer s H E' ci a hp => ?_)
  obtain ⟨tb, l⟩ := a
  have h0 : 0 < tb.sum := Nat.lt_of_lt_of_le hp.2 (getD_le_sum tb l)
  refine ss_cons (s_want (q_call ok_is_table tb (a_cons (e_name 0) a_nil) h0) ?_)
  exact ss_cons (s_want (q_call ok_b_stands (tb, l) (a_cons (e_name 0) (a_cons (e_name 1) a_nil)) hp) (ss_nil rfl))
theorem ok_push_by : Cle P w K mg base "push_by" 63 ["stack", "table", "letter"] 6 (spP K (fun x : Nat × List Nat × Nat => [nD x.1, tN x.2.1, nD x.2.2]) (fun x => x.1 < BIG ∧ Tb x.2.1 ∧ x.2.2 < x.2.1.length ∧ 0 < x.2.1.getD x.2.2 0) (fun x => nD (pushB x.1 x.2.1 x.2.2))) := by
  refine mkP df63 (fun _ => rfl) (fun f cdv A outer s H E' ci a hp => ?_)
  obtain ⟨st, tb, l⟩ := a
  obtain ⟨h1, h2, h3, h4⟩ := hp
  have hc : tb.getD l 0 < BIG := Nat.lt_of_le_of_lt (getD_le_sum tb l) h2.big
  refine ss_cons (s_want (q_call ok_is_number st (a_cons (e_name 0) a_nil) trivial) ?_)
  refine ss_cons (s_expr (q_call ok_b_table_letter (tb, l) (a_cons (e_name 1) (a_cons (e_name 2) a_nil)) ⟨h3, h4⟩) ?_)
  refine ss_cons (s_set 3 (e_ix (e_name 1) (e_name 2) (i_tN h3)) nd_ ?_)
  refine ss_cons (s_ret (e_bin (e_bin (e_bin (q_sum (e_name 1)) (e_bin (e_name 0) (e_name 3) (n_div h4 hc)) (n_mul h2.big (Nat.lt_of_le_of_lt (Nat.div_le_self _ _) h1))) (q_sum (e_slice (e_name 1) o_none (o_nat (e_name 2)) (q_toTN l))) n_add) (e_bin (e_name 0) (e_name 3) (n_mod h4)) n_add) rfl)
theorem ok_pop_by : Cle P w K mg base "pop_by" 64 ["stack", "table"] 5 (spP K (fun x : Nat × List Nat => [nD x.1, tN x.2]) (fun x => x.1 < BIG ∧ Tb x.2) (fun x => .tuple [nD (popB x.1 x.2).1, nD (popB x.1 x.2).2])) := by
  refine mkP df64 (fun _ => rfl) (fun f cdv A outer s H E' ci a hp => ?_)
  obtain ⟨st, tb⟩ := a
  obtain ⟨h1, h2⟩ := hp
  have hm : st % tb.sum < tb.sum := Nat.mod_lt _ h2.pos
  have hlp : st / tb.sum < BIG := Nat.lt_of_le_of_lt (Nat.div_le_self _ _) h1
  refine ss_cons (s_want (q_call ok_is_number st (a_cons (e_name 0) a_nil) trivial) ?_)
  refine ss_cons (s_want (q_call ok_is_table tb (a_cons (e_name 1) a_nil) h2.pos) ?_)
  refine ss_cons (s_asg (q_divmod (e_name 0) (q_sum (e_name 1)) h2.pos h1) (tg_tup cK ci.calm (tgs_cons (tg_name 2 nd_) (tgs_cons (tg_name 3 nd_) tgs_nil))) ?_)
  refine ss_cons (s_set 4 (e_nat 0) nd_ ?_)
  refine ss_cons (s_while (fun m ρ' => ∃ j p, m = tb.length - j ∧ p < (tb.drop j).sum ∧ j ≤ tb.length ∧ seek tb (st % tb.sum) = (j + (seek (tb.drop j) p).1, (seek (tb.drop j) p).2) ∧ ρ' = [.im (nD st), .im (tN tb), .im (nD (st / tb.sum)), .im (nD p), .im (nD j)]) tb.length ⟨0, st % tb.sum, by simp, by simpa using hm, by simp, by simp, rfl⟩ ?_)
  rintro m ρ' ⟨j, p, rfl, hp, hj, hs, rfl⟩
  have hjl : j < tb.length := by
    rcases Nat.lt_or_eq_of_le hj with q | q
    · exact q
    · subst q; simp at hp
  have hc : tb.getD j 0 < BIG := Nat.lt_of_le_of_lt (getD_le_sum tb j) h2.big
  refine ⟨_, t_cmp (e_name 3) (e_ix (e_name 1) (e_name 4) (i_tN hjl)) n_ge, fun h => ?_, fun h => ?_⟩
  · have hge : tb.getD j 0 ≤ p := of_decide_eq_true h
    have hno : ¬ p < tb.getD j 0 := by omega
    refine ss_cons (s_aug 3 rfl (e_ix (e_name 1) (e_name 4) (i_tN hjl)) (ipn_sub hge) nd_ ?_)
    refine ss_cons (s_aug 4 rfl (e_nat 1) ipn_add nd_ (ss_nil ⟨tb.length - (j + 1), by omega, j + 1, p - tb.getD j 0, rfl, ?_, hjl, ?_, rfl⟩))
    · rw [sum_drop hjl] at hp
      omega
    · rw [hs, seek_drop hjl hno]
      simp only [Prod.mk.injEq, and_true]
      omega
  · have hlt : p < tb.getD j 0 := by
      have := of_decide_eq_false h
      omega
    rw [seek_stop hjl hlt] at hs
    refine ss_cons (s_ret (e_tup (a_cons (e_name 4) (a_cons (e_bin (e_bin (e_ix (e_name 1) (e_name 4) (i_tN hjl)) (e_name 2) (n_mul hc hlp)) (e_name 3) n_add) a_nil))) ?_)
    show PyData.tuple _ = _
    unfold popB
    rw [hs]
    rfl
end
end K67
namespace K67
/-- letters pushed from the last to the first, each with its table -/
def pushL (st : Nat) (ps : List (List Nat × Nat)) : Nat := ps.foldr (fun p s => pushB s p.1 p.2) st
theorem pushB_le {st B : Nat} {tb : List Nat} {l : Nat} (h0 : 0 < tb.getD l 0) (h1 : tb.sum ≤ 1024) (h2 : st + 2 ≤ 2 ^ B) : pushB st tb l + 2 ≤ 2 ^ (B + 11) := by
  have a := take_le_sum tb l
  have b := getD_le_sum tb l
  have c : st % tb.getD l 0 < tb.getD l 0 := Nat.mod_lt _ h0
  have d : tb.sum * (st / tb.getD l 0) ≤ 1024 * st := Nat.mul_le_mul h1 (Nat.div_le_self _ _)
  have e : 2 ^ (B + 11) = 2048 * 2 ^ B := by rw [Nat.pow_add]; omega
  unfold pushB
  omega
theorem pushL_le {st B : Nat} : ∀ {ps : List (List Nat × Nat)}, (∀ p ∈ ps, 0 < p.1.getD p.2 0 ∧ p.1.sum ≤ 1024) → st + 2 ≤ 2 ^ B → pushL st ps + 2 ≤ 2 ^ (B + 11 * ps.length)
  | [], _, h => h
  | p :: r, hp, h => by
    have ih := pushL_le (ps := r) (fun q hq => hp q (List.mem_cons_of_mem _ hq)) h
    obtain ⟨a, b⟩ := hp p List.mem_cons_self
    have := pushB_le a b ih
    show pushB (pushL st r) p.1 p.2 + 2 ≤ 2 ^ (B + 11 * (r.length + 1))
    rw [show B + 11 * (r.length + 1) = B + 11 * r.length + 11 by omega]
    exact this
theorem pushL_drop {st : Nat} {ps : List (List Nat × Nat)} {j : Nat} (h : j < ps.length) : pushL st (ps.drop j) = pushB (pushL st (ps.drop (j + 1))) ps[j].1 ps[j].2 := by
  rw [List.drop_eq_getElem_cons h]
  rfl
theorem lt_BIG {m B : Nat} (h : m + 2 ≤ 2 ^ B) (hB : B ≤ 4000) : m < BIG := lt_big (k := B) (by omega) hB
/-- the tables of a text that is learned by -/
def tabsOf (g : Nat) (st text : List Nat) : List (List Nat) := (List.range text.length).map fun i => afterT g st (text.take i)
def pushLn (stack g : Nat) (st text : List Nat) : Nat := pushL stack ((tabsOf g st text).zip text)
/-- letters popped: what is popped so far, the stack -/
def popLn (g : Nat) (st : List Nat) (stack : Nat) : Nat → List Nat × Nat
  | 0 => ([], stack)
  | n + 1 => ((popLn g st stack n).1 ++ [(popB (popLn g st stack n).2 (afterT g st (popLn g st stack n).1)).1], (popB (popLn g st stack n).2 (afterT g st (popLn g st stack n).1)).2)
theorem sum_set {l : Nat} : ∀ {cs : List Nat} {x : Nat}, l < cs.length → (cs.set l x).sum + cs.getD l 0 = cs.sum + x := by
  induction l with
  | zero =>
    intro cs x h
    cases cs with
    | nil => simp at h
    | cons a r => simp; omega
  | succ l ih =>
    intro cs x h
    cases cs with
    | nil => simp at h
    | cons a r =>
      have := ih (cs := r) (x := x) (by simpa using h)
      simp only [List.set_cons_succ, List.sum_cons, List.getD_cons_succ]
      omega
theorem afterT_sum (g : Nat) : ∀ (row st : List Nat), (∀ l ∈ row, l < st.length) → (afterT g st row).sum = st.sum + g * row.length
  | [], st, _ => by simp [afterT]
  | l :: r, st, h => by
    have hl := h l List.mem_cons_self
    have e := sum_set (cs := st) (x := st.getD l 0 + g) hl
    show (afterT g (st.set l (st.getD l 0 + g)) r).sum = _
    rw [afterT_sum g r _ (by rw [List.length_set]; exact fun x hx => h x (List.mem_cons_of_mem _ hx))]
    simp only [List.length_cons, Nat.mul_succ]
    omega
theorem getD_set (cs : List Nat) (l x y : Nat) (hl : l < cs.length) : (cs.set l x).getD y 0 = if l = y then x else cs.getD y 0 := by
  rw [List.getD_eq_getElem?_getD, List.getD_eq_getElem?_getD, List.getElem?_set]
  by_cases h : l = y
  · subst h
    simp [hl]
  · simp [h]
/-- a letter's mark: its start and the gain as often as it came -/
theorem afterT_get (g : Nat) : ∀ (row st : List Nat) (x : Nat), (∀ l ∈ row, l < st.length) → (afterT g st row).getD x 0 = st.getD x 0 + g * row.count x
  | [], st, x, _ => by simp [afterT]
  | l :: r, st, x, h => by
    have hl := h l List.mem_cons_self
    show (afterT g (st.set l (st.getD l 0 + g)) r).getD x 0 = _
    rw [afterT_get g r _ x (by rw [List.length_set]; exact fun y hy => h y (List.mem_cons_of_mem _ hy)), getD_set _ _ _ _ hl, List.count_cons]
    by_cases q : l = x
    · subst q
      simp [Nat.mul_succ]
      omega
    · simp [q]
end K67
namespace K67
open PySem PySem.Spec PyProof.Rows L2
theorem ramp_down (m : Nat) : ramp ((m : Int) - 1) (-1) m = (List.range m).map fun i => nD (m - 1 - i) := by
  unfold ramp
  apply List.map_congr_left
  intro i hi
  rw [List.mem_range] at hi
  show PyData.int _ = PyData.int _
  congr 1
  omega
abbrev lrn (g : Nat) (st : List Nat) : PyData := .tuple [nD g, tN st]
/-- a learner's conditions -/
structure Lr (g : Nat) (st : List Nat) : Prop where
  gain : g ≤ 9
  len : st.length ≤ 4
  small : st.sum ≤ 36
  pos : 0 < st.sum
/-- a text that a learner may have -/
structure Tx (st text : List Nat) : Prop where
  len : text.length ≤ 8
  lt : ∀ l ∈ text, l < st.length
  can : ∀ l ∈ text, 0 < st.getD l 0
theorem Lr.tb {g : Nat} {st row : List Nat} (h : Lr g st) (hr : ∀ l ∈ row, l < st.length) (hl : row.length ≤ 8) : Tb (afterT g st row) ∧ (afterT g st row).sum ≤ 1024 := by
  have e := afterT_sum g row st hr
  have h1 := h.gain
  have h2 := h.len
  have h3 := h.small
  have h4 := h.pos
  have h5 : g * row.length ≤ 9 * 8 := Nat.mul_le_mul h1 hl
  refine ⟨⟨by rw [afterT_len]; omega, by omega, lt_big (k := 10) (by omega) (by decide)⟩, by omega⟩
section
variable {P : Program} {w : World} {K : PySem.W.Frag} {mg : Str → Option Value} {base : Heap} [W : Wd K mg]
section
variable {k : Nat} {ι : Type} {F : ι → Cx} {e : Expr} {ρ : DE} {pos p : Pos} {ds : List PyData} {Δ : De} {sts : List Stmt}
/-- a loop by words -/
theorem s_forM [C : Cal P w K mg base k F] {α : Type} {xs : List α} {g : α → PyData} {tg it : Expr} (Pv : Nat → DE → Prop) (hs : Src K F tg it ρ (xs.map g)) (h0 : Pv 0 ρ)
    (turn : ∀ (k : Nat) (hk : k < xs.length) (ρ' : DE), Pv k ρ' → ∃ js ρ3, Tg K F tg js (g xs[k]) ρ' ρ3 ∧ Ss K F sts ρ3 { nx := Pv (k + 1), rt := Δ.rt, bk := Δ.nx, ct := Pv (k + 1), rl := Δ.rl })
    (done : ∀ ρ', Pv xs.length ρ' → Δ.nx ρ') (hc : ∀ i, (F i).calm = true := by intro _; rfl) (hp : ∀ i, PassesOwn (model (F i).prog (F i).w) (F i).A (F i).env (F i).xe := by intro _; exact PassesOwn.never)
    (hf : ∀ i x, foldedSetIterable it (F i).env x = pure x := by intro _ _; rfl) : S K F (.For tg it sts [] pos) ρ Δ :=
  s_for Pv hs h0 (fun k d ρ' hd hPv => by
    have hk : k < xs.length := by
      have := (List.getElem?_eq_some_iff.mp hd).1
      rwa [List.length_map] at this
    rw [List.getElem?_map, List.getElem?_eq_getElem hk] at hd
    cases hd
    exact turn k hk ρ' hPv) (fun ρ' h => done ρ' (by rwa [List.length_map] at h)) hc hp hf
theorem q_revr [C : Cal P w K mg base k F] {tg : Expr} {p2 pos2 : Pos} {m : Nat} (h : E K F e ρ (nD m)) (hm : m < 100000) (hg : ∀ i, Gl (F i) "reversed" := by intro _; rfl) (hg2 : ∀ i, Gl (F i) "range" := by intro _; rfl)
    (hs : ∀ i, starEach [Expr.Call (.Name "range" p2) [e] [] pos2] (F i).env = (false, eval (.Call (.Name "range" p2) [e] [] pos2) (F i).env) :: starEach [] (F i).env := by intro _; rfl) (na : ∀ i, starEach [e] (F i).env = (false, eval e (F i).env) :: starEach [] (F i).env := by intro _; rfl) :
    Src K F tg (.Call (.Name "reversed" p) [.Call (.Name "range" p2) [e] [] pos2] [] pos) ρ ((List.range m).map fun i => nD (m - 1 - i)) := by
  have q := src_rev (K := K) (F := F) (ρ := ρ) (tg := tg) (p := p) (pos := pos) (p2 := p2) (pos2 := pos2) h (by omega) (fr_ (by decide +kernel)) (fr_ (by decide +kernel)) hg hg2 hs na
  rwa [Int.toNat_natCast, ramp_down] at q
end
theorem ok_b_are_tables : Cle P w K mg base "b_are_tables" 35 ["tables"] 5 (spP K (fun tbs : List (List Nat) => [.tuple (tbs.map tN)]) (fun tbs => ∀ tb ∈ tbs, 0 < tb.sum) (fun _ => .bool true)) := by
  refine mkP df35 (fun _ => rfl) (fun f cdv A outer s H E' ci a hp => ?_)
  refine ss_cons (s_if (t_not (t_val (q_isi (e_name 0) kt_tt))) (fun h => by cases h) fun _ => ss_nil ?_)
  refine ss_cons (s_forM (fun _ ρ' => ∃ u, ρ' = [.im (.tuple (a.map tN)), u]) (src_tup cK (e_name 0)) ⟨_, rfl⟩ (fun k hk ρ' ⟨u, hu⟩ => ?_) (fun ρ' ⟨u, hu⟩ => ?_))
  · subst hu
    exact ⟨[1], _, tg_name 1 nd_, ss_cons (s_if (t_not (t_val (q_call ok_is_table a[k] (a_cons (e_name 1) a_nil) (hp _ (List.getElem_mem hk))))) (fun h => by cases h) fun _ => ss_nil (ss_nil ⟨_, rfl⟩))⟩
  · subst hu
    exact ss_cons (s_ret e_bool rfl)
/-- letters that stand in their tables -/
def Fits (tbs : List (List Nat)) (ls : List Nat) : Prop := tbs.length = ls.length ∧ ∀ p ∈ tbs.zip ls, p.2 < p.1.length ∧ 0 < p.1.getD p.2 0
theorem ok_b_fit : Cle P w K mg base "b_fit" 36 ["tables", "letters"] 4 (spP K (fun x : List (List Nat) × List Nat => [.tuple (x.1.map tN), tN x.2]) (fun x => Fits x.1 x.2) (fun _ => .bool true)) := by
  refine mkP df36 (fun _ => rfl) (fun f cdv A outer s H E' ci a hp => ?_)
  obtain ⟨tbs, ls⟩ := a
  obtain ⟨hl, hp⟩ := hp
  have hl : tbs.length = ls.length := hl
  refine ss_cons (s_if (t_of (t_or (t_not (t_val (q_isi (e_name 1) kt_tt))) fun _ => t_or1 (t_cmp (q_len (e_name 1)) (q_len (e_name 0)) n_ne))) (fun h => ?_) fun _ => ss_nil ?_)
  · simp [hl] at h
  have hz : zipD (tbs.map tN) (ls.map nD) = (tbs.zip ls).map fun p => .tuple [tN p.1, nD p.2] := by
    unfold zipD
    rw [List.zip_map, List.map_map]
    rfl
  refine ss_cons (s_forM (xs := tbs.zip ls) (g := fun p => .tuple [tN p.1, nD p.2]) (fun _ ρ' => ∃ u v, ρ' = [.im (.tuple (tbs.map tN)), .im (tN ls), u, v]) (by rw [← hz]; exact src_zip true true (e_name 0) (e_name 1) (by simp [hl])) ⟨_, _, rfl⟩ (fun k hk ρ' ⟨u, v, hu⟩ => ?_) (fun ρ' ⟨u, v, hu⟩ => ?_))
  · subst hu
    refine ⟨[2, 3], _, tg_tup cK ci.calm (tgs_cons (js := [2]) (tg_name 2 nd_) (tgs_cons (js := [3]) (tg_name 3 nd_) tgs_nil)), ss_cons (s_if (t_not (t_val (q_call ok_b_stands (tbs.zip ls)[k] (a_cons (e_name 2) (a_cons (e_name 3) a_nil)) (hp _ (List.getElem_mem hk))))) (fun h => by cases h) fun _ => ss_nil (ss_nil ⟨_, _, rfl⟩))⟩
  · subst hu
    exact ss_cons (s_ret e_bool rfl)
theorem ok_b_tables_letters : Cle P w K mg base "b_tables_letters" 37 ["tables", "letters"] 6 (spP K (fun x : List (List Nat) × List Nat => [.tuple (x.1.map tN), tN x.2]) (fun x => Fits x.1 x.2 ∧ ∀ tb ∈ x.1, 0 < tb.sum) (fun _ => .none)) := by
  refine mkP df37 (fun _ => rfl) (fun f cdv A outer s H E' ci a hp => ?_)
  refine ss_cons (s_want (q_call ok_b_are_tables a.1 (a_cons (e_name 0) a_nil) hp.2) ?_)
  exact ss_cons (s_want (q_call ok_b_fit a (a_cons (e_name 0) (a_cons (e_name 1) a_nil)) hp.1) (ss_nil rfl))
theorem ok_push_letters : Cle P w K mg base "push_letters" 66 ["stack", "tables", "letters"] 7 (spP K (fun x : Nat × List (List Nat) × List Nat => [nD x.1, .tuple (x.2.1.map tN), tN x.2.2]) (fun x => x.1 + 2 ≤ 2 ^ 1000 ∧ Fits x.2.1 x.2.2 ∧ (∀ tb ∈ x.2.1, Tb tb ∧ tb.sum ≤ 1024) ∧ x.2.1.length ≤ 8) (fun x => nD (pushL x.1 (x.2.1.zip x.2.2)))) := by
  refine mkP df66 (fun _ => rfl) (fun f cdv A outer s H E' ci a hp => ?_)
  obtain ⟨st, tbs, ls⟩ := a
  obtain ⟨h1, h2, h3, h4⟩ := hp
  have hl : tbs.length = ls.length := h2.1
  have h4 : tbs.length ≤ 8 := h4
  have hzl : (tbs.zip ls).length = tbs.length := by rw [List.length_zip, ← hl, Nat.min_self]
  refine ss_cons (s_want (q_call ok_is_number st (a_cons (e_name 0) a_nil) trivial) ?_)
  refine ss_cons (s_expr (q_call ok_b_tables_letters (tbs, ls) (a_cons (e_name 1) (a_cons (e_name 2) a_nil)) ⟨h2, fun tb ht => (h3 tb ht).1.pos⟩) ?_)
  refine ss_cons (s_forM (xs := List.range tbs.length) (fun k ρ' => ∃ u, ρ' = [.im (nD (pushL st ((tbs.zip ls).drop (tbs.length - k)))), .im (.tuple (tbs.map tN)), .im (tN ls), u]) (q_revr (m := tbs.length) (q_len (e_name 1) (hm := List.length_map ..)) (by omega)) ⟨.no, ?_⟩ (fun k hk ρ' ⟨u, hu⟩ => ?_) (fun ρ' ⟨u, hu⟩ => ?_))
  · rw [Nat.sub_zero, ← hzl, List.drop_length]
    rfl
  · subst hu
    simp only [List.length_range] at hk
    have hj : tbs.length - 1 - k < (tbs.zip ls).length := by omega
    have e1 : (List.range tbs.length)[k]'(by simpa using hk) = k := by simp
    have hm : (tbs.zip ls)[tbs.length - 1 - k] ∈ tbs.zip ls := List.getElem_mem hj
    have hq := h2.2 _ hm
    have e2 : (tbs.zip ls)[tbs.length - 1 - k] = (tbs[tbs.length - 1 - k]'(by omega), ls[tbs.length - 1 - k]'(by omega)) := List.getElem_zip
    rw [e2] at hq
    have ht := h3 _ (List.getElem_mem (show tbs.length - 1 - k < tbs.length by omega))
    have hbig := pushL_le (st := st) (B := 1000) (ps := (tbs.zip ls).drop (tbs.length - k)) (fun p hp => by
      have hm := List.mem_of_mem_drop hp
      exact ⟨(h2.2 p hm).2, (h3 _ (List.of_mem_zip hm).1).2⟩) h1
    have hB : pushL st ((tbs.zip ls).drop (tbs.length - k)) < BIG := lt_BIG hbig (by rw [List.length_drop]; omega)
    refine ⟨[3], _, tg_name 3 nd_, ss_cons (s_set 0 (q_call ok_push_by (_, tbs[tbs.length - 1 - k]'(by omega), ls[tbs.length - 1 - k]'(by omega)) (a_cons (e_name 0) (a_cons (e_ix (e_name 1) (e_name 3) (i_tD ?_)) (a_cons (e_ix (e_name 2) (e_name 3) (i_tD ?_)) a_nil))) ⟨hB, ht.1, hq⟩) nd_ (ss_nil ?_))⟩
    · rw [e1, List.getElem?_map, List.getElem?_eq_getElem (show tbs.length - 1 - k < tbs.length by omega)]
      rfl
    · rw [e1, List.getElem?_map, List.getElem?_eq_getElem (show tbs.length - 1 - k < ls.length by omega)]
      rfl
    · have e3 : tbs.length - (k + 1) = tbs.length - 1 - k := by omega
      have e4 : tbs.length - 1 - k + 1 = tbs.length - k := by omega
      exact ⟨_, by rw [e3, pushL_drop hj, e2, e4]; rfl⟩
  · subst hu
    refine ss_cons (s_ret (e_name 0) ?_)
    show nD _ = nD _
    simp
end
end K67
namespace K67
open PySem PySem.Spec PyProof.Rows L2
abbrev qD (q : Nat × Nat) : PyData := .tuple [nD q.1, nD q.2]
/-- a quotient in lowest terms, not great -/
structure Qt (q : Nat × Nat) : Prop where
  pos : 1 ≤ q.2
  low : Nat.gcd q.1 q.2 = 1
  b1 : q.1 < 2 ^ 1900
  b2 : q.2 < 2 ^ 1900
theorem lowQ_ok {t b : Nat} (h : 0 < b) (h1 : t < 2 ^ 1900) (h2 : b < 2 ^ 1900) : Qt (lowQ t b) := by
  have hg : 0 < Nat.gcd t b := Nat.gcd_pos_of_pos_right _ h
  refine ⟨Nat.div_pos (Nat.gcd_le_right _ h) hg, ?_, Nat.lt_of_le_of_lt (Nat.div_le_self _ _) h1, Nat.lt_of_le_of_lt (Nat.div_le_self _ _) h2⟩
  show Nat.gcd (t / Nat.gcd t b) (b / Nat.gcd t b) = 1
  rw [Nat.gcd_div (Nat.gcd_dvd_left t b) (Nat.gcd_dvd_right t b), Nat.div_self hg]
theorem mul_BIG {a b : Nat} (h1 : a < 2 ^ 1900) (h2 : b < 2 ^ 1900) : a * b < BIG := by
  refine lt_big (k := 3800) ?_ (by decide)
  rw [show (3800 : Nat) = 1900 + 1900 by rfl, Nat.pow_add]
  exact Nat.mul_lt_mul'' h1 h2
theorem q_BIG {a : Nat} (h1 : a < 2 ^ 1900) : a < BIG := lt_big h1 (by decide)
theorem rise_le {s g n : Nat} (hs : s ≤ 36) (hg : g ≤ 9) (hn : n ≤ 8) : rise s g n < 2 ^ 57 := by
  refine Nat.lt_of_lt_of_le (rise_lt (b := 7) n fun i hi => ?_) (Nat.pow_le_pow_right (by decide) (by omega))
  have : g * i ≤ 9 * 8 := Nat.mul_le_mul hg (by omega)
  omega
section
variable {P : Program} {w : World} {K : PySem.W.Frag} {mg : Str → Option Value} {base : Heap} [W : Wd K mg]
theorem ok_is_learner : Cle P w K mg base "is_learner" 40 ["thing"] 5 (spP K (fun x : Nat × List Nat => [lrn x.1 x.2]) (fun x => 0 < x.2.sum) (fun _ => .bool true)) := by
  refine mkP df40 (fun _ => rfl) (fun f cdv A outer s H E' ci a hp => ?_)
  refine ss_cons (s_if (t_of (t_or (t_not (t_val (q_isi (e_name 0) kt_tt))) fun _ => t_or1 (t_cmp (q_len (e_name 0)) (e_nat 2) n_ne))) (fun h => by cases h) fun _ => ss_nil ?_)
  exact ss_cons (s_ret (e_and (q_call ok_is_number a.1 (a_cons (e_ix (e_name 0) (e_nat 0) (i_tD rfl)) a_nil) trivial) fun _ => e_one (q_call ok_is_table a.2 (a_cons (e_ix (e_name 0) (e_nat 1) (i_tD rfl)) a_nil) hp)) rfl)
theorem ok_d_is_possible : Cle P w K mg base "d_is_possible" 48 ["learner", "thing"] 5 (spP K (fun x : Nat × List Nat × List Nat => [lrn x.1 x.2.1, tN x.2.2]) (fun x => Tx x.2.1 x.2.2) (fun _ => .bool true)) := by
  refine mkP df48 (fun _ => rfl) (fun f cdv A outer s H E' ci a hp => ?_)
  obtain ⟨g, st, text⟩ := a
  have hl : text.length < 5000 := Nat.lt_of_le_of_lt hp.len (by decide)
  refine ss_cons (s_set 2 (e_ix (e_name 0) (e_nat 1) (i_tD rfl)) nd_ ?_)
  refine ss_cons (s_if (t_not (t_val (q_call ok_is_text (st.length, text) (a_cons (q_len (e_name 2) (hm := List.length_map ..)) (a_cons (e_name 1) a_nil)) ⟨hl, hp.lt⟩))) (fun h => by cases h) fun _ => ss_nil ?_)
  refine ss_cons (s_ret (q_all (bs := text.map fun _ => true) ?_) (by simp))
  rw [List.map_map]
  refine (q_lcM (g := nD) (h := fun _ => .bool true) [("letter", 3)] (src_tup cK (e_name 1)) hl fun n hn => lc_map 3 ?_).im
  exact e_to (e_cmp (e_ix (e_name 2) (e_name 3) (i_tN (hp.lt n hn))) (e_nat 0) n_gt) (by simpa using hp.can n hn)
theorem ok_d_want_text : Cle P w K mg base "d_want_text" 49 ["learner", "text"] 6 (spP K (fun x : Nat × List Nat × List Nat => [lrn x.1 x.2.1, tN x.2.2]) (fun x => 0 < x.2.1.sum ∧ Tx x.2.1 x.2.2) (fun _ => .none)) := by
  refine mkP df49 (fun _ => rfl) (fun f cdv A outer s H E' ci a hp => ?_)
  refine ss_cons (s_want (q_call ok_is_learner (a.1, a.2.1) (a_cons (e_name 0) a_nil) hp.1) ?_)
  exact ss_cons (s_want (q_call ok_d_is_possible a (a_cons (e_name 0) (a_cons (e_name 1) a_nil)) hp.2) (ss_nil rfl))
theorem ok_a_lowest : Cle P w K mg base "a_lowest" 54 ["top", "bottom"] 1 (spP K (fun x : Nat × Nat => [nD x.1, nD x.2]) (fun x => 0 < x.2 ∧ x.2 < BIG) (fun x => qD (lowQ x.1 x.2))) := by
  refine mkP df54 (fun _ => rfl) (fun f cdv A outer s H E' ci a hp => ?_)
  obtain ⟨t, b⟩ := a
  have h1 : 0 < Nat.gcd t b := Nat.gcd_pos_of_pos_right _ hp.1
  have h2 : Nat.gcd t b < BIG := Nat.lt_of_le_of_lt (Nat.gcd_le_right _ hp.1) hp.2
  refine ss_cons (s_set 2 (q_gcd (e_name 0) (e_name 1)) nd_ ?_)
  refine ss_cons (s_if (t_cmp (e_name 1) (e_nat 0) n_lt) (fun h => by simp at h) fun _ => ss_nil ?_)
  exact ss_cons (s_ret (e_tup (a_cons (e_bin (e_name 0) (e_name 2) (n_div h1 h2)) (a_cons (e_bin (e_name 1) (e_name 2) (n_div h1 h2)) a_nil))) rfl)
theorem ok_want_both : Cle P w K mg base "_want_both" 55 ["one", "other"] 3 (spP K (fun x : (Nat × Nat) × (Nat × Nat) => [qD x.1, qD x.2]) (fun x => Qt x.1 ∧ Qt x.2) (fun _ => .none)) := by
  refine mkP df55 (fun _ => rfl) (fun f cdv A outer s H E' ci a hp => ?_)
  refine ss_cons (s_want (q_call ok_is_quotient a.1 (a_cons (e_name 0) a_nil) ⟨hp.1.pos, hp.1.low⟩) ?_)
  exact ss_cons (s_want (q_call ok_is_quotient a.2 (a_cons (e_name 1) a_nil) ⟨hp.2.pos, hp.2.low⟩) (ss_nil rfl))
theorem ok_times : Cle P w K mg base "times" 58 ["one", "other"] 4 (spP K (fun x : (Nat × Nat) × (Nat × Nat) => [qD x.1, qD x.2]) (fun x => Qt x.1 ∧ Qt x.2) (fun x => qD (lowQ (x.1.1 * x.2.1) (x.1.2 * x.2.2)))) := by
  refine mkP df58 (fun _ => rfl) (fun f cdv A outer s H E' ci a hp => ?_)
  obtain ⟨⟨a1, a2⟩, ⟨b1, b2⟩⟩ := a
  obtain ⟨ha, hb⟩ := hp
  refine ss_cons (s_expr (q_call ok_want_both ((a1, a2), (b1, b2)) (a_cons (e_name 0) (a_cons (e_name 1) a_nil)) ⟨ha, hb⟩) ?_)
  exact ss_cons (s_ret (q_call ok_a_lowest (a1 * b1, a2 * b2) (a_cons (e_bin (e_ix (e_name 0) (e_nat 0) (i_tD rfl)) (e_ix (e_name 1) (e_nat 0) (i_tD rfl)) (n_mul (q_BIG ha.b1) (q_BIG hb.b1))) (a_cons (e_bin (e_ix (e_name 0) (e_nat 1) (i_tD rfl)) (e_ix (e_name 1) (e_nat 1) (i_tD rfl)) (n_mul (q_BIG ha.b2) (q_BIG hb.b2))) a_nil)) ⟨Nat.mul_pos ha.pos hb.pos, mul_BIG ha.b2 hb.b2⟩) rfl)
theorem ok_over : Cle P w K mg base "over" 59 ["one", "other"] 4 (spP K (fun x : (Nat × Nat) × (Nat × Nat) => [qD x.1, qD x.2]) (fun x => Qt x.1 ∧ Qt x.2 ∧ 0 < x.2.1) (fun x => qD (lowQ (x.1.1 * x.2.2) (x.1.2 * x.2.1)))) := by
  refine mkP df59 (fun _ => rfl) (fun f cdv A outer s H E' ci a hp => ?_)
  obtain ⟨⟨a1, a2⟩, ⟨b1, b2⟩⟩ := a
  obtain ⟨ha, hb, hn⟩ := hp
  refine ss_cons (s_expr (q_call ok_want_both ((a1, a2), (b1, b2)) (a_cons (e_name 0) (a_cons (e_name 1) a_nil)) ⟨ha, hb⟩) ?_)
  refine ss_cons (s_want (e_to (e_cmp (e_ix (e_name 1) (e_nat 0) (i_tD rfl)) (e_nat 0) n_ne) (by simp; exact Nat.pos_iff_ne_zero.mp hn)) ?_)
  exact ss_cons (s_ret (q_call ok_a_lowest (a1 * b2, a2 * b1) (a_cons (e_bin (e_ix (e_name 0) (e_nat 0) (i_tD rfl)) (e_ix (e_name 1) (e_nat 1) (i_tD rfl)) (n_mul (q_BIG ha.b1) (q_BIG hb.b2))) (a_cons (e_bin (e_ix (e_name 0) (e_nat 1) (i_tD rfl)) (e_ix (e_name 1) (e_nat 0) (i_tD rfl)) (n_mul (q_BIG ha.b2) (q_BIG hb.b1))) a_nil)) ⟨Nat.mul_pos ha.pos hn, mul_BIG ha.b2 hb.b1⟩) rfl)
theorem ok_d_climbed : Cle P w K mg base "d_climbed" 69 ["start", "gain", "many"] 1 (spP K (fun x : Nat × Nat × Nat => [nD x.1, nD x.2.1, nD x.2.2]) (fun x => x.1 ≤ 36 ∧ x.2.1 ≤ 9 ∧ x.2.2 ≤ 8) (fun x => nD (rise x.1 x.2.1 x.2.2))) := by
  refine mkP df69 (fun _ => rfl) (fun f cdv A outer s H E' ci a hp => ?_)
  obtain ⟨st, g, n⟩ := a
  obtain ⟨h1, h2, h3⟩ := hp
  have h3 : n ≤ 8 := h3
  refine ss_cons (s_set 3 (e_nat 1) nd_ ?_)
  refine ss_cons (s_forM (xs := List.range n) (fun k ρ' => ∃ u, ρ' = [.im (nD st), .im (nD g), .im (nD n), .im (nD (rise st g k)), u]) (q_rng (e_name 2) (by omega)) ⟨_, rfl⟩ (fun k hk ρ' ⟨u, hu⟩ => ?_) (fun ρ' ⟨u, hu⟩ => ?_))
  · subst hu
    rw [List.length_range] at hk
    have e1 : (List.range n)[k]'(by simpa using hk) = k := by simp
    have hb := rise_le (n := k) h1 h2 (by omega)
    have hg : g ≤ 9 := h2
    have hs : st ≤ 36 := h1
    have hm : g * k ≤ 9 * 8 := Nat.mul_le_mul hg (by omega)
    rw [e1]
    exact ⟨[4], _, tg_name 4 nd_, ss_cons (s_set 3 (e_bin (e_name 3) (e_bin (e_name 0) (e_bin (e_name 1) (e_name 4) (n_mul (lt_big (k := 10) (by omega) (by decide)) (lt_big (k := 10) (by omega) (by decide)))) n_add) (n_mul (lt_big hb (by decide)) (lt_big (k := 10) (by omega) (by decide)))) nd_ (ss_nil ⟨_, rfl⟩))⟩
  · subst hu
    rw [List.length_range]
    exact ss_cons (s_ret (e_name 3) rfl)
theorem ok_d_after : Cle P w K mg base "d_after" 68 ["learner", "letters"] 1 (spP K (fun x : Bool × Nat × List Nat × List Nat => [lrn x.2.1 x.2.2.1, sqD x.1 (x.2.2.2.map nD)]) (fun x => ∀ l ∈ x.2.2.2, l < x.2.2.1.length) (fun x => tN (afterT x.2.1 x.2.2.1 x.2.2.2))) := by
  refine mkP df68 (fun _ => rfl) (fun f cdv A outer s H E' ci a hp => ?_)
  obtain ⟨b, g, st, row⟩ := a
  refine ss_cons (s_asg (e_name 0) (tg_tup cK ci.calm (tgs_cons (js := [2]) (tg_name 2 nd_) (tgs_cons (js := [3]) (tg_name 3 nd_) tgs_nil))) ?_)
  refine ss_cons (s_setL 4 (q_list (e_name 3)) nd_ ?_)
  refine ss_cons (s_forM (xs := row) (g := nD) (fun k ρ' => ∃ u, ρ' = [.im (lrn g st), .im (sqD b (row.map nD)), .im (nD g), .im (tN st), .ow ((afterT g st (row.take k)).map nD), u]) (src_B (e_name 1)) ⟨_, rfl⟩ (fun k hk ρ' ⟨u, hu⟩ => ?_) (fun ρ' ⟨u, hu⟩ => ?_))
  · subst hu
    have hl : row[k] < (afterT g st (row.take k)).length := by rw [afterT_len]; exact hp _ (List.getElem_mem hk)
    refine ⟨[5], _, tg_name 5 nd_, ss_cons (s_seti 4 (k := row[k]) rfl (e_un (j := 4) (e_bin (e_ix (e_name 4) (e_name 5) (i_lN hl)) (e_name 2) n_add) rfl rfl) (e_name 5) rfl (by rw [List.length_map]; exact hl) (ss_nil ?_))⟩
    exact ⟨_, by rw [List.take_succ_eq_append_getElem hk, afterT_snoc, List.map_set]; rfl⟩
  · subst hu
    refine ss_cons (s_ret (e_un (j := 4) (q_tuple (e_name 4)) rfl ?_) ?_)
    · show ((afterT g st (row.take row.length)).map nD).all scalD = true
      rw [List.all_map]
      exact List.all_eq_true.mpr fun _ _ => rfl
    · show PyData.tuple _ = PyData.tuple _
      rw [List.take_length]
end
end K67
namespace K67
open PySem PySem.Spec PyProof.Rows L2
/-- how often each letter comes -/
def tally (n : Nat) (row : List Nat) : List Nat := (List.range n).map fun x => row.count x
theorem tally_len (n : Nat) (row : List Nat) : (tally n row).length = n := by simp [tally]
theorem tally_get (n : Nat) (row : List Nat) {x : Nat} (h : x < n) : (tally n row).getD x 0 = row.count x := by
  unfold tally
  rw [List.getD_eq_getElem?_getD, List.getElem?_map, List.getElem?_range h]
  rfl
theorem ext_getD {l m : List Nat} (h : l.length = m.length) (g : ∀ x, x < l.length → l.getD x 0 = m.getD x 0) : l = m := by
  apply List.ext_getElem h
  intro i h1 h2
  have := g i h1
  rwa [List.getD_eq_getElem?_getD, List.getD_eq_getElem?_getD, List.getElem?_eq_getElem h1, List.getElem?_eq_getElem h2] at this
theorem tally_after (n : Nat) (row : List Nat) (h : ∀ l ∈ row, l < n) : afterT 1 (List.replicate n 0) row = tally n row := by
  refine ext_getD (by rw [afterT_len, tally_len, List.length_replicate]) fun x hx => ?_
  rw [afterT_len, List.length_replicate] at hx
  rw [afterT_get 1 row _ x (by rw [List.length_replicate]; exact h), tally_get n row hx]
  rw [List.getD_eq_getElem?_getD, List.getElem?_replicate]
  simp [hx]
theorem afterT_eq (g : Nat) (st row : List Nat) (h : ∀ l ∈ row, l < st.length) : afterT g st row = (List.range st.length).map fun x => st.getD x 0 + g * row.count x := by
  refine ext_getD (by simp [afterT_len]) fun x hx => ?_
  rw [afterT_len] at hx
  rw [afterT_get g row st x h, List.getD_eq_getElem?_getD (l := List.map _ _), List.getElem?_map, List.getElem?_range hx]
  rfl
theorem tally_sum (n : Nat) : ∀ (row : List Nat), (∀ l ∈ row, l < n) → (tally n row).sum = row.length := fun row h => by
  rw [← tally_after n row h, afterT_sum 1 row _ (by rw [List.length_replicate]; exact h)]
  simp
/-- the chance of the letters counted -/
def chanceC (g : Nat) (st cs : List Nat) : Nat × Nat := lowQ (chT g st cs * 1) (1 * rise st.sum g cs.sum)
theorem chT_le {g : Nat} (hg : g ≤ 9) : ∀ (ps : List (Nat × Nat)) (t : Nat), (∀ p ∈ ps, p.1 ≤ 36 ∧ p.2 ≤ 8) → ∀ b, t < 2 ^ b → ps.foldl (fun t p => t * rise p.1 g p.2) t < 2 ^ (b + 57 * ps.length)
  | [], t, _, b, h => h
  | p :: r, t, hp, b, h => by
    have q := hp p List.mem_cons_self
    have h2 := rise_le q.1 hg q.2
    have h3 : t * rise p.1 g p.2 < 2 ^ (b + 57) := by
      rw [Nat.pow_add]
      exact Nat.mul_lt_mul'' h h2
    have := chT_le hg r _ (fun x hx => hp x (List.mem_cons_of_mem _ hx)) _ h3
    show r.foldl _ _ < 2 ^ (b + 57 * (r.length + 1))
    rw [show b + 57 * (r.length + 1) = b + 57 + 57 * r.length by omega]
    exact this
theorem mem_le_sum : ∀ {l : List Nat} {a : Nat}, a ∈ l → a ≤ l.sum
  | b :: r, a, h => by
    rw [List.sum_cons]
    rcases List.mem_cons.mp h with q | q
    · omega
    · have := mem_le_sum q
      omega
theorem rise_pos {s g : Nat} (h : 0 < s) : ∀ n, 0 < rise s g n
  | 0 => Nat.one_pos
  | n + 1 => Nat.mul_pos (rise_pos h n) (by omega)
section
variable {P : Program} {w : World} {K : PySem.W.Frag} {mg : Str → Option Value} {base : Heap} [W : Wd K mg]
/-- counts that go with a learner -/
structure Cn (st cs : List Nat) : Prop where
  len : cs.length = st.length
  sum : cs.sum ≤ 8
theorem Cn.each {st cs : List Nat} (h : Cn st cs) (hl : st.sum ≤ 36) : ∀ p ∈ st.zip cs, p.1 ≤ 36 ∧ p.2 ≤ 8 := fun p hp => by
  have q := List.of_mem_zip hp
  have a : p.1 ≤ st.sum := mem_le_sum q.1
  have b : p.2 ≤ cs.sum := mem_le_sum q.2
  have := h.sum
  exact ⟨by omega, by omega⟩
theorem chT_lt {g : Nat} {st cs : List Nat} (h : Lr g st) (hc : Cn st cs) (k : Nat) : ((st.zip cs).take k).foldl (fun t p => t * rise p.1 g p.2) 1 < 2 ^ 229 := by
  have q := chT_le h.gain ((st.zip cs).take k) 1 (fun p hp => hc.each h.small p (List.mem_of_mem_take hp)) 1 (by decide)
  refine Nat.lt_of_lt_of_le q (Nat.pow_le_pow_right (by decide) ?_)
  have := h.len
  rw [List.length_take, List.length_zip]
  omega
theorem ok_d_chance_counted : Cle P w K mg base "d_chance_counted" 70 ["learner", "counts"] 5 (spP K (fun x : Nat × List Nat × List Nat => [lrn x.1 x.2.1, lN x.2.2]) (fun x => Lr x.1 x.2.1 ∧ Cn x.2.1 x.2.2) (fun x => qD (chanceC x.1 x.2.1 x.2.2))) := by
  refine mkP df70 (fun _ => rfl) (fun f cdv A outer s H E' ci a hp => ?_)
  obtain ⟨g, st, cs⟩ := a
  obtain ⟨hl, hc⟩ := hp
  have hl : Lr g st := hl
  have hc : Cn st cs := hc
  refine ss_cons (s_asg (e_name 0) (tg_tup cK ci.calm (tgs_cons (js := [2]) (tg_name 2 nd_) (tgs_cons (js := [3]) (tg_name 3 nd_) tgs_nil))) ?_)
  refine ss_cons (s_set 4 (e_nat 1) nd_ ?_)
  refine ss_cons (s_forM (xs := st.zip cs) (g := fun p => .tuple [nD p.1, nD p.2]) (fun k ρ' => ∃ u v, ρ' = [.im (lrn g st), .im (lN cs), .im (nD g), .im (tN st), .im (nD (((st.zip cs).take k).foldl (fun t p => t * rise p.1 g p.2) 1)), u, v, .no]) (by rw [← zipD_nat]; exact src_zip true false (e_name 3) (e_name 1) (by rw [List.length_map, List.length_map, hc.len])) ⟨_, _, rfl⟩ (fun k hk ρ' ⟨u, v, hu⟩ => ?_) (fun ρ' ⟨u, v, hu⟩ => ?_))
  · subst hu
    have hm := hc.each hl.small _ (List.getElem_mem hk)
    refine ⟨[5, 6], _, tg_tup cK ci.calm (tgs_cons (js := [5]) (tg_name 5 nd_) (tgs_cons (js := [6]) (tg_name 6 nd_) tgs_nil)), ss_cons (s_set 4 (e_bin (e_name 4) (q_call ok_d_climbed ((st.zip cs)[k].1, g, (st.zip cs)[k].2) (a_cons (e_name 5) (a_cons (e_name 2) (a_cons (e_name 6) a_nil))) ⟨hm.1, hl.gain, hm.2⟩) (n_mul (lt_big (chT_lt hl hc k) (by decide)) (lt_big (rise_le hm.1 hl.gain hm.2) (by decide)))) nd_ (ss_nil ?_))⟩
    exact ⟨_, _, by rw [List.take_succ_eq_append_getElem hk, List.foldl_append]; rfl⟩
  · subst hu
    refine ss_cons (s_set 7 (q_call ok_d_climbed (st.sum, g, cs.sum) (a_cons (q_sum (e_name 3)) (a_cons (e_name 2) (a_cons (q_sumL (e_name 1)) a_nil))) ⟨hl.small, hl.gain, hc.sum⟩) nd_ ?_)
    have ht := chT_lt hl hc (st.zip cs).length
    have hr := rise_le (s := st.sum) (g := g) (n := cs.sum) hl.small hl.gain hc.sum
    have e1 : ((st.zip cs).take (st.zip cs).length).foldl (fun t p => t * rise p.1 g p.2) 1 = chT g st cs := by rw [List.take_length]; rfl
    rw [e1] at ht
    rw [e1]
    refine ss_cons (s_ret (q_call ok_over ((chT g st cs, 1), (rise st.sum g cs.sum, 1)) (a_cons (e_tup (a_cons (e_name 4) (a_cons (e_nat 1) a_nil))) (a_cons (e_tup (a_cons (e_name 7) (a_cons (e_nat 1) a_nil))) a_nil)) ⟨⟨Nat.le_refl 1, Nat.gcd_one_right _, ?_, ?_⟩, ⟨Nat.le_refl 1, Nat.gcd_one_right _, ?_, ?_⟩, rise_pos hl.pos _⟩) rfl)
    · exact Nat.lt_of_lt_of_le ht (Nat.pow_le_pow_right (by decide) (by decide))
    · exact Nat.one_lt_two_pow (by decide)
    · exact Nat.lt_of_lt_of_le hr (Nat.pow_le_pow_right (by decide) (by decide))
    · exact Nat.one_lt_two_pow (by decide)
theorem ok_d_chance : Cle P w K mg base "d_chance" 71 ["learner", "letters"] 6 (spP K (fun x : Nat × List Nat × List Nat => [lrn x.1 x.2.1, tN x.2.2]) (fun x => Lr x.1 x.2.1 ∧ Tx x.2.1 x.2.2) (fun x => qD (chanceC x.1 x.2.1 (tally x.2.1.length x.2.2)))) := by
  refine mkP df71 (fun _ => rfl) (fun f cdv A outer s H E' ci a hp => ?_)
  obtain ⟨g, st, row⟩ := a
  obtain ⟨hl, hc⟩ := hp
  have hl : Lr g st := hl
  have hc : Tx st row := hc
  refine ss_cons (s_lcOM 2 [("_", 3)] (xs := st) (g := nD) (h := fun _ => nD 0) (src_tup cK (e_ix (e_name 0) (e_nat 1) (i_tD rfl))) (by have := hl.len; omega) (fun n hn => lc_map 3 (e_nat 0)) ?_)
  have e0 : st.map (fun _ => nD 0) = (List.replicate st.length 0).map nD := by
    rw [List.map_replicate, List.map_const']
  rw [e0]
  refine ss_cons (s_forM (xs := row) (g := nD) (fun k ρ' => ∃ u v, ρ' = [.im (lrn g st), .im (tN row), .ow ((afterT 1 (List.replicate st.length 0) (row.take k)).map nD), u, v]) (src_tup cK (e_name 1)) ⟨_, _, rfl⟩ (fun k hk ρ' ⟨u, v, hu⟩ => ?_) (fun ρ' ⟨u, v, hu⟩ => ?_))
  · subst hu
    have hl' : row[k] < (afterT 1 (List.replicate st.length 0) (row.take k)).length := by rw [afterT_len, List.length_replicate]; exact hc.lt _ (List.getElem_mem hk)
    refine ⟨[4], _, tg_name 4 nd_, ss_cons (s_seti 2 (k := row[k]) rfl (e_un (j := 2) (e_bin (e_ix (e_name 2) (e_name 4) (i_lN hl')) (e_nat 1) n_add) rfl rfl) (e_name 4) rfl (by rw [List.length_map]; exact hl') (ss_nil ?_))⟩
    exact ⟨_, _, by rw [List.take_succ_eq_append_getElem hk, afterT_snoc, List.map_set]; rfl⟩
  · subst hu
    rw [List.take_length, tally_after _ _ hc.lt]
    exact ss_cons (s_ret (e_un (j := 2) (q_call ok_d_chance_counted (g, st, tally st.length row) (a_cons (e_name 0) (a_cons (e_name 2) a_nil)) ⟨hl, ⟨tally_len _ _, by rw [tally_sum _ _ hc.lt]; exact hc.len⟩⟩) rfl rfl) rfl)
theorem ok_chance_learned : Cle P w K mg base "chance_learned" 72 ["learner", "text"] 7 (spP K (fun x : Nat × List Nat × List Nat => [lrn x.1 x.2.1, tN x.2.2]) (fun x => Lr x.1 x.2.1 ∧ Tx x.2.1 x.2.2) (fun x => qD (chanceC x.1 x.2.1 (tally x.2.1.length x.2.2)))) := by
  refine mkP df72 (fun _ => rfl) (fun f cdv A outer s H E' ci a hp => ?_)
  refine ss_cons (s_expr (q_call ok_d_want_text a (a_cons (e_name 0) (a_cons (e_name 1) a_nil)) ⟨hp.1.pos, hp.2⟩) ?_)
  exact ss_cons (s_ret (q_call ok_d_chance a (a_cons (e_name 0) (a_cons (e_name 1) a_nil)) hp) rfl)
end
end K67
namespace K67
open PySem PySem.Spec PyProof.Rows L2
theorem popB_lt {st : Nat} {tb : List Nat} (h : 0 < tb.sum) : (popB st tb).1 < tb.length ∧ 0 < tb.getD (popB st tb).1 0 ∧ (popB st tb).2 ≤ st := by
  obtain ⟨h1, h2, h3⟩ := seek_lt (tb := tb) (p := st % tb.sum) (Nat.mod_lt _ h)
  refine ⟨h1, by show 0 < tb.getD (seek tb (st % tb.sum)).1 0; omega, ?_⟩
  show tb.getD (seek tb (st % tb.sum)).1 0 * (st / tb.sum) + (seek tb (st % tb.sum)).2 ≤ st
  have a := Nat.mul_le_mul_right (st / tb.sum) (getD_le_sum tb (seek tb (st % tb.sum)).1)
  have b := Nat.div_add_mod st tb.sum
  omega
/-- letters popped by a learner are possible, the stack does not grow -/
theorem popLn_ok {g : Nat} {st : List Nat} (h : Lr g st) (stack : Nat) : ∀ n, n ≤ 8 → Tx st (popLn g st stack n).1 ∧ (popLn g st stack n).1.length = n ∧ (popLn g st stack n).2 ≤ stack
  | 0, _ => ⟨⟨Nat.zero_le _, (by intro l hl; cases hl), (by intro l hl; cases hl)⟩, rfl, Nat.le_refl _⟩
  | n + 1, hn => by
    obtain ⟨t, l, b⟩ := popLn_ok h stack n (by omega)
    have tb := (h.tb t.lt t.len).1
    obtain ⟨q1, q2, q3⟩ := popB_lt (st := (popLn g st stack n).2) tb.pos
    rw [afterT_len] at q1
    refine ⟨⟨by show ((popLn g st stack n).1 ++ [_]).length ≤ 8; rw [List.length_append, l]; exact hn, fun x hx => ?_, fun x hx => ?_⟩, by show ((popLn g st stack n).1 ++ [_]).length = _; rw [List.length_append, l]; rfl, Nat.le_trans q3 b⟩
    · rcases List.mem_append.mp hx with hx | hx
      · exact t.lt x hx
      · rw [List.mem_singleton.mp hx]; exact q1
    · rcases List.mem_append.mp hx with hx | hx
      · exact t.can x hx
      · rw [List.mem_singleton.mp hx]
        rw [afterT_get g _ st _ t.lt] at q2
        rcases Nat.eq_zero_or_pos (st.getD (popB (popLn g st stack n).2 (afterT g st (popLn g st stack n).1)).1 0) with z | z
        · rw [z] at q2
          have hc : 0 < (popLn g st stack n).1.count (popB (popLn g st stack n).2 (afterT g st (popLn g st stack n).1)).1 := by
            rcases Nat.eq_zero_or_pos ((popLn g st stack n).1.count (popB (popLn g st stack n).2 (afterT g st (popLn g st stack n).1)).1) with y | y
            · rw [y] at q2; simp at q2
            · exact y
          have := t.can _ (List.count_pos_iff.mp hc)
          omega
        · exact z
theorem tabs_len (g : Nat) (st text : List Nat) : (tabsOf g st text).length = text.length := by simp [tabsOf]
theorem tabs_fit {g : Nat} {st text : List Nat} (h : Tx st text) : Fits (tabsOf g st text) text := by
  refine ⟨tabs_len g st text, fun p hp => ?_⟩
  obtain ⟨i, hi, rfl⟩ := List.mem_iff_getElem.mp hp
  have hi2 : i < text.length := by rw [List.length_zip, tabs_len, Nat.min_self] at hi; exact hi
  rw [List.getElem_zip]
  have e : (tabsOf g st text)[i]'(by rw [tabs_len]; exact hi2) = afterT g st (text.take i) := by
    unfold tabsOf
    rw [List.getElem_map, List.getElem_range]
  show text[i] < ((tabsOf g st text)[i]'_).length ∧ 0 < ((tabsOf g st text)[i]'_).getD text[i] 0
  rw [e, afterT_len]
  have hm : text[i] ∈ text := List.getElem_mem hi2
  refine ⟨h.lt _ hm, ?_⟩
  rw [afterT_get g _ st _ fun l hl => h.lt l (List.mem_of_mem_take hl)]
  have := h.can _ hm
  omega
/-- the bag's letters drawn by the stack: counts, text, stack -/
def drawB (cs : List Nat) (stack : Nat) : Nat → List Nat × List Nat × Nat
  | 0 => (cs, [], stack)
  | n + 1 => ((drawB cs stack n).1.set (popB (drawB cs stack n).2.2 (drawB cs stack n).1).1 ((drawB cs stack n).1.getD (popB (drawB cs stack n).2.2 (drawB cs stack n).1).1 0 - 1), (drawB cs stack n).2.1 ++ [(popB (drawB cs stack n).2.2 (drawB cs stack n).1).1], (popB (drawB cs stack n).2.2 (drawB cs stack n).1).2)
def pushBag (stack g : Nat) (st bag : List Nat) : Nat := pushLn (drawB (tally st.length bag) stack bag.length).2.2 g st (drawB (tally st.length bag) stack bag.length).2.1
/-- a text's letters, each with the counts from it on -/
def backOf (n : Nat) (text : List Nat) : List (List Nat × Nat) := (List.range text.length).map fun i => (tally n (text.drop i), text.getD i 0)
def popBag (stack g : Nat) (st : List Nat) (many : Nat) : List Nat × Nat := (srt (popLn g st stack many).1, pushL (popLn g st stack many).2 (backOf st.length (popLn g st stack many).1))
def ordB (bag : List Nat) (o i : Nat) : Nat := if i = 0 ∨ bag.getD (i - 1) 0 ≠ bag.getD i 0 then o / fact (bag.count (bag.getD i 0)) else o
def ordersB (bag : List Nat) : Nat := (List.range bag.length).foldl (ordB bag) (fact bag.length)
section
variable {P : Program} {w : World} {K : PySem.W.Frag} {mg : Str → Option Value} {base : Heap} [W : Wd K mg]
theorem ok_push_learned : Cle P w K mg base "push_learned" 73 ["stack", "learner", "text"] 8 (spP K (fun x : Nat × Nat × List Nat × List Nat => [nD x.1, lrn x.2.1 x.2.2.1, tN x.2.2.2]) (fun x => x.1 + 2 ≤ 2 ^ 1000 ∧ Lr x.2.1 x.2.2.1 ∧ Tx x.2.2.1 x.2.2.2) (fun x => nD (pushLn x.1 x.2.1 x.2.2.1 x.2.2.2))) := by
  refine mkP df73 (fun _ => rfl) (fun f cdv A outer s H E' ci a hp => ?_)
  obtain ⟨stk, g, st, text⟩ := a
  obtain ⟨h1, h2, h3⟩ := hp
  have h2 : Lr g st := h2
  have h3 : Tx st text := h3
  have hl := h3.len
  refine ss_cons (s_want (q_call ok_is_number stk (a_cons (e_name 0) a_nil) trivial) ?_)
  refine ss_cons (s_expr (q_call ok_d_want_text (g, st, text) (a_cons (e_name 1) (a_cons (e_name 2) a_nil)) ⟨h2.pos, h3⟩) ?_)
  refine ss_cons (s_lcIM 3 [("place", 4)] (xs := List.range text.length) (g := nD) (h := fun i => tN (afterT g st (text.take i))) (q_rng (q_len (e_name 2) (hm := List.length_map ..)) (by omega)) (by rw [List.length_range]; omega) (fun i hi => lc_map 4 (q_call ok_d_after (true, g, st, text.take i) (a_cons (e_name 1) (a_cons (e_slice (e_name 2) o_none (o_nat (e_name 4)) (q_toTN i)) a_nil)) (fun l hl => h3.lt l (List.mem_of_mem_take hl)))) ?_)
  rw [show (List.range text.length).map (fun i => tN (afterT g st (text.take i))) = (tabsOf g st text).map tN from by unfold tabsOf; rw [List.map_map]; rfl]
  refine ss_cons (s_ret (q_call ok_push_letters (stk, tabsOf g st text, text) (a_cons (e_name 0) (a_cons (q_tuple (e_name 3)) (a_cons (e_name 2) a_nil))) ⟨h1, tabs_fit h3, fun tb ht => ?_, by rw [tabs_len]; exact hl⟩) rfl)
  obtain ⟨i, hi, rfl⟩ := List.mem_map.mp ht
  exact h2.tb (fun l hl => h3.lt l (List.mem_of_mem_take hl)) (by rw [List.length_take]; omega)
theorem ok_pop_learned : Cle P w K mg base "pop_learned" 74 ["stack", "learner", "many"] 7 (spP K (fun x : Nat × Nat × List Nat × Nat => [nD x.1, lrn x.2.1 x.2.2.1, nD x.2.2.2]) (fun x => x.1 < BIG ∧ Lr x.2.1 x.2.2.1 ∧ x.2.2.2 ≤ 8) (fun x => .tuple [tN (popLn x.2.1 x.2.2.1 x.1 x.2.2.2).1, nD (popLn x.2.1 x.2.2.1 x.1 x.2.2.2).2])) := by
  refine mkP df74 (fun _ => rfl) (fun f cdv A outer s H E' ci a hp => ?_)
  obtain ⟨stk, g, st, n⟩ := a
  obtain ⟨h1, h2, h3⟩ := hp
  have h2 : Lr g st := h2
  have h3 : n ≤ 8 := h3
  refine ss_cons (s_want (q_call ok_is_number stk (a_cons (e_name 0) a_nil) trivial) ?_)
  refine ss_cons (s_want (q_call ok_is_learner (g, st) (a_cons (e_name 1) a_nil) h2.pos) ?_)
  refine ss_cons (s_want (q_call ok_is_number n (a_cons (e_name 2) a_nil) trivial) ?_)
  refine ss_cons (s_setL 3 (el_list a_nil) nd_ ?_)
  refine ss_cons (s_forM (xs := List.range n) (g := nD) (fun k ρ' => ∃ u v, ρ' = [.im (nD (popLn g st stk k).2), .im (lrn g st), .im (nD n), .ow ((popLn g st stk k).1.map nD), u, v]) (q_rng (e_name 2) (by omega)) ⟨_, _, rfl⟩ (fun k hk ρ' ⟨u, v, hu⟩ => ?_) (fun ρ' ⟨u, v, hu⟩ => ?_))
  · subst hu
    rw [List.length_range] at hk
    obtain ⟨t, l, b⟩ := popLn_ok h2 stk k (by omega)
    have tb := (h2.tb t.lt t.len).1
    refine ⟨[4], _, tg_name 4 nd_, ?_⟩
    refine ss_cons (s_asg (e_un (j := 3) (q_call ok_pop_by ((popLn g st stk k).2, afterT g st (popLn g st stk k).1) (a_cons (e_name 0) (a_cons (q_call ok_d_after (false, g, st, (popLn g st stk k).1) (a_cons (e_name 1) (a_cons (e_name 3) a_nil)) t.lt) a_nil)) ⟨Nat.lt_of_le_of_lt b h1, tb⟩) rfl rfl) (tg_tup cK ci.calm (tgs_cons (js := [5]) (tg_name 5 nd_) (tgs_cons (js := [0]) (tg_name 0 nd_) tgs_nil))) ?_)
    refine ss_cons (s_app 3 cK rfl (e_name 5) ?_ (ss_nil ?_))
    · rw [List.length_map, l, sizeLine_eq]; omega
    · exact ⟨_, _, by show _ = [SD.im (nD (popLn g st stk (k + 1)).2), _, _, SD.ow ((popLn g st stk (k + 1)).1.map nD), _, _]; rw [show (popLn g st stk (k + 1)).1.map nD = (popLn g st stk k).1.map nD ++ [nD (popB (popLn g st stk k).2 (afterT g st (popLn g st stk k).1)).1] by show ((popLn g st stk k).1 ++ [_]).map nD = _; rw [List.map_append]; rfl]; rfl⟩
  · subst hu
    rw [List.length_range]
    refine ss_cons (s_ret (e_tup (a_cons (e_un (j := 3) (q_tuple (e_name 3)) rfl ?_) (a_cons (e_name 0) a_nil))) rfl)
    show ((popLn g st stk n).1.map nD).all scalD = true
    rw [List.all_map]
    exact List.all_eq_true.mpr fun _ _ => rfl
theorem ok_bag_of : Cle P w K mg base "bag_of" 76 ["text"] 4 (spP K (fun x : List Nat => [tN x]) (fun x => x.length < 5000) (fun x => tN (srt x))) := by
  refine mkP df76 (fun _ => rfl) (fun f cdv A outer s H E' ci a hp => ?_)
  refine ss_cons (s_want (q_call ok_a_is_numbers a (a_cons (e_name 0) a_nil) hp) ?_)
  exact ss_cons (s_ret (q_tuple (q_sorted (e_name 0)).im) rfl)
theorem ok_e_counts : Cle P w K mg base "e_counts" 29 ["letters", "text"] 1 (spP K (fun x : Nat × List Nat => [nD x.1, tN x.2]) (fun x => x.1 < 1000) (fun x => tN (tally x.1 x.2))) := by
  refine mkP df29 (fun _ => rfl) (fun f cdv A outer s H E' ci a hp => ?_)
  obtain ⟨n, row⟩ := a
  have hp : n < 1000 := hp
  refine ss_cons (s_ret (q_tuple (q_lcM (xs := List.range n) (g := nD) (h := fun x => nD (row.count x)) [("letter", 2)] (q_rng (e_name 0) (by omega)) (by rw [List.length_range]; omega) fun x hx => lc_map 2 (q_count (e_name 1) (e_name 2))).im) ?_)
  show PyData.tuple _ = PyData.tuple _
  unfold tally
  rw [List.map_map]
  rfl
end
end K67
namespace K67
open PySem PySem.Spec PyProof.Rows L2
theorem cnt_step {D T : List Nat} {p x c : Nat} (q1 : p < D.length) (q2 : 0 < D.getD p 0) (h : D.getD x 0 + T.count x = c) : (D.set p (D.getD p 0 - 1)).getD x 0 + (T ++ [p]).count x = c := by
  rw [getD_set _ _ _ _ q1, List.count_append]
  by_cases z : p = x
  · subst z
    rw [if_pos rfl]
    have : [p].count p = 1 := by simp
    omega
  · rw [if_neg z]
    have : [p].count x = 0 := List.count_eq_zero.mpr (by simp; exact fun q => z q.symm)
    omega
structure DrB (n : Nat) (bag : List Nat) (stack k : Nat) (d : List Nat × List Nat × Nat) : Prop where
  len : d.1.length = n
  sum : d.1.sum + k = bag.length
  lt : ∀ l ∈ d.2.1, l < n
  tl : d.2.1.length = k
  cnt : ∀ x, x < n → d.1.getD x 0 + d.2.1.count x = bag.count x
  le : d.2.2 ≤ stack
theorem drawB_ok {n : Nat} {bag : List Nat} (h : ∀ l ∈ bag, l < n) (stack : Nat) : ∀ k, k ≤ bag.length → DrB n bag stack k (drawB (tally n bag) stack k)
  | 0, _ => ⟨tally_len _ _, by show (tally n bag).sum + 0 = _; rw [tally_sum n bag h]; rfl, (by intro l hl; cases hl), rfl, fun x hx => by show (tally n bag).getD x 0 + 0 = _; rw [tally_get n bag hx]; rfl, Nat.le_refl _⟩
  | k + 1, hk => by
    have d := drawB_ok h stack k (by omega)
    have hs : 0 < (drawB (tally n bag) stack k).1.sum := by have := d.sum; omega
    obtain ⟨q1, q2, q3⟩ := popB_lt (st := (drawB (tally n bag) stack k).2.2) hs
    have e := sum_set (cs := (drawB (tally n bag) stack k).1) (x := (drawB (tally n bag) stack k).1.getD (popB (drawB (tally n bag) stack k).2.2 (drawB (tally n bag) stack k).1).1 0 - 1) q1
    refine ⟨?_, ?_, fun l hl => ?_, ?_, fun x hx => ?_, Nat.le_trans q3 d.le⟩
    · show (List.set _ _ _).length = n
      rw [List.length_set, d.len]
    · show (List.set _ _ _).sum + (k + 1) = _
      have := d.sum
      omega
    · rcases List.mem_append.mp hl with hl | hl
      · exact d.lt l hl
      · rw [List.mem_singleton.mp hl]; exact Nat.lt_of_lt_of_eq q1 d.len
    · show (_ ++ [_]).length = k + 1
      rw [List.length_append, d.tl]
      rfl
    · exact cnt_step q1 q2 (d.cnt x hx)
theorem DrB.tx {st bag : List Nat} {stack k : Nat} {d : List Nat × List Nat × Nat} (h : DrB st.length bag stack k d) (t : Tx st bag) (hk : k ≤ bag.length) : Tx st d.2.1 := by
  refine ⟨by rw [h.tl]; exact Nat.le_trans hk t.len, h.lt, fun l hl => t.can l ?_⟩
  have a := h.cnt l (h.lt l hl)
  have b := List.count_pos_iff.mpr hl
  exact List.count_pos_iff.mp (by omega)
/-- ascending from b on -/
def ascF : List Nat → Nat → Bool
  | [], _ => true
  | a :: r, b => decide (b ≤ a) && ascF r a
def asc (xs : List Nat) : Bool := ascF xs 0
section
variable {P : Program} {w : World} {K : PySem.W.Frag} {mg : Str → Option Value} {base : Heap} [W : Wd K mg]
theorem ok_e_ascends : Cle P w K mg base "e_ascends" 25 ["thing"] 4 (spP K (fun x : List Nat => [tN x]) (fun x => x.length < 5000) (fun x => .bool (asc x))) := by
  refine mkP df25 (fun _ => rfl) (fun f cdv A outer s H E' ci a hp => ?_)
  refine ss_cons (s_if (t_not (t_val (q_call ok_a_is_numbers a (a_cons (e_name 0) a_nil) hp))) (fun h => by cases h) fun _ => ss_nil ?_)
  refine ss_cons (s_set 1 (e_nat 0) nd_ ?_)
  refine ss_cons (s_forM (xs := a) (g := nD) (fun k ρ' => ∃ u b, asc a = ascF (a.drop k) b ∧ ρ' = [.im (tN a), .im (nD b), u]) (src_tup cK (e_name 0)) ⟨_, 0, rfl, rfl⟩ (fun k hk ρ' ⟨u, b, hb, hu⟩ => ?_) (fun ρ' ⟨u, b, hb, hu⟩ => ?_))
  · subst hu
    rw [List.drop_eq_getElem_cons hk] at hb
    refine ⟨[2], _, tg_name 2 nd_, ss_cons (s_if (t_cmp (e_name 2) (e_name 1) n_lt) (fun h => ?_) fun h => ss_nil ?_)⟩
    · refine ss_cons (s_ret e_bool ?_)
      have h1 : a[k] < b := of_decide_eq_true h
      show PyData.bool false = PyData.bool (asc a)
      rw [hb]
      unfold ascF
      rw [decide_eq_false (by omega)]
      rfl
    · have h1 : ¬ a[k] < b := of_decide_eq_false h
      refine ss_cons (s_set 1 (e_name 2) nd_ (ss_nil ⟨_, a[k], ?_, rfl⟩))
      rw [hb]
      show (decide (b ≤ a[k]) && _) = _
      rw [decide_eq_true (by omega)]
      rfl
  · subst hu
    refine ss_cons (s_ret e_bool ?_)
    rw [List.drop_length] at hb
    show PyData.bool true = PyData.bool (asc a)
    rw [hb]
    rfl
theorem ok_e_possible : Cle P w K mg base "e_possible" 28 ["starts", "thing"] 4 (spP K (fun x : List Nat × List Nat => [tN x.1, tN x.2]) (fun x => Tx x.1 x.2) (fun _ => .bool true)) := by
  refine mkP df28 (fun _ => rfl) (fun f cdv A outer s H E' ci a hp => ?_)
  obtain ⟨st, xs⟩ := a
  have hp : Tx st xs := hp
  refine ss_cons (s_if (t_not (t_val (q_call ok_a_is_numbers xs (a_cons (e_name 1) a_nil) (Nat.lt_of_le_of_lt hp.len (by decide))))) (fun h => by cases h) fun _ => ss_nil ?_)
  refine ss_cons (s_forM (xs := xs) (g := nD) (fun k ρ' => ∃ u, ρ' = [.im (tN st), .im (tN xs), u]) (src_tup cK (e_name 1)) ⟨_, rfl⟩ (fun k hk ρ' ⟨u, hu⟩ => ?_) (fun ρ' ⟨u, hu⟩ => ?_))
  · subst hu
    have h1 := hp.lt _ (List.getElem_mem hk)
    have h2 := hp.can _ (List.getElem_mem hk)
    refine ⟨[2], _, tg_name 2 nd_, ss_cons (s_if (t_of (t_or (t_cmp (e_name 2) (q_len (e_name 0) (hm := List.length_map ..)) n_ge) fun _ => t_or1 (t_cmp (e_ix (e_name 0) (e_name 2) (i_tN h1)) (e_nat 0) n_eq))) (fun h => ?_) fun h => ss_nil (ss_nil ⟨_, rfl⟩))⟩
    rw [Bool.or_eq_true] at h
    rcases h with h | h
    · have := of_decide_eq_true h; omega
    · have := of_decide_eq_true h; omega
  · subst hu
    exact ss_cons (s_ret e_bool rfl)
/-- a bag of a learner -/
structure Bg (st bag : List Nat) : Prop where
  tx : Tx st bag
  asc : asc bag = true
theorem ok_want_bag : Cle P w K mg base "_want_bag" 78 ["learner", "bag"] 6 (spP K (fun x : Nat × List Nat × List Nat => [lrn x.1 x.2.1, tN x.2.2]) (fun x => 0 < x.2.1.sum ∧ Bg x.2.1 x.2.2) (fun _ => .none)) := by
  refine mkP df78 (fun _ => rfl) (fun f cdv A outer s H E' ci a hp => ?_)
  obtain ⟨g, st, bag⟩ := a
  obtain ⟨h1, h2⟩ := hp
  have h2 : Bg st bag := h2
  refine ss_cons (s_want (q_call ok_is_learner (g, st) (a_cons (e_name 0) a_nil) h1) ?_)
  refine ss_cons (s_want (e_to (e_and (q_call ok_e_ascends bag (a_cons (e_name 1) a_nil) (Nat.lt_of_le_of_lt h2.tx.len (by decide))) fun _ => e_one (q_call ok_e_possible (st, bag) (a_cons (e_ix (e_name 0) (e_nat 1) (i_tD rfl)) (a_cons (e_name 1) a_nil)) h2.tx)) (by rw [h2.asc]; rfl)) (ss_nil rfl))
theorem ok_push_bag : Cle P w K mg base "push_bag" 80 ["stack", "learner", "bag"] 9 (spP K (fun x : Nat × Nat × List Nat × List Nat => [nD x.1, lrn x.2.1 x.2.2.1, tN x.2.2.2]) (fun x => x.1 + 2 ≤ 2 ^ 1000 ∧ Lr x.2.1 x.2.2.1 ∧ Bg x.2.2.1 x.2.2.2) (fun x => nD (pushBag x.1 x.2.1 x.2.2.1 x.2.2.2))) := by
  refine mkP df80 (fun _ => rfl) (fun f cdv A outer s H E' ci a hp => ?_)
  obtain ⟨stk, g, st, bag⟩ := a
  obtain ⟨h1, h2, h3⟩ := hp
  have h1 : stk + 2 ≤ 2 ^ 1000 := h1
  have h2 : Lr g st := h2
  have h3 : Bg st bag := h3
  have hl := h3.tx.len
  have h4 := h2.len
  have hB : stk < BIG := lt_BIG h1 (by decide)
  refine ss_cons (s_want (q_call ok_is_number stk (a_cons (e_name 0) a_nil) trivial) ?_)
  refine ss_cons (s_expr (q_call ok_want_bag (g, st, bag) (a_cons (e_name 1) (a_cons (e_name 2) a_nil)) ⟨h2.pos, h3⟩) ?_)
  refine ss_cons (s_setL 3 (q_list (q_call ok_e_counts (st.length, bag) (a_cons (q_len (e_ix (e_name 1) (e_nat 1) (i_tD rfl)) (hm := List.length_map ..)) (a_cons (e_name 2) a_nil)) (show st.length < 1000 by omega))) nd_ ?_)
  refine ss_cons (s_setL 4 (el_list a_nil) nd_ ?_)
  refine ss_cons (s_set 5 (e_name 0) nd_ ?_)
  refine ss_cons (s_forM (xs := List.range bag.length) (g := nD) (fun k ρ' => ∃ u v, ρ' = [.im (nD stk), .im (lrn g st), .im (tN bag), .ow ((drawB (tally st.length bag) stk k).1.map nD), .ow ((drawB (tally st.length bag) stk k).2.1.map nD), .im (nD (drawB (tally st.length bag) stk k).2.2), u, v]) (q_rng (q_len (e_name 2) (hm := List.length_map ..)) (by omega)) ⟨_, _, rfl⟩ (fun k hk ρ' ⟨u, v, hu⟩ => ?_) (fun ρ' ⟨u, v, hu⟩ => ?_))
  · subst hu
    rw [List.length_range] at hk
    have d := drawB_ok h3.tx.lt stk k (by omega)
    have hs : 0 < (drawB (tally st.length bag) stk k).1.sum := by have := d.sum; omega
    have tb : Tb (drawB (tally st.length bag) stk k).1 := ⟨by rw [d.len]; omega, hs, lt_big (k := 10) (by have := d.sum; omega) (by decide)⟩
    obtain ⟨q1, q2, q3⟩ := popB_lt (st := (drawB (tally st.length bag) stk k).2.2) hs
    refine ⟨[6], _, tg_name 6 nd_, ?_⟩
    refine ss_cons (s_asg (e_un (j := 3) (q_call ok_pop_by ((drawB (tally st.length bag) stk k).2.2, (drawB (tally st.length bag) stk k).1) (a_cons (e_name 5) (a_cons (q_tuple (e_name 3)) a_nil)) ⟨Nat.lt_of_le_of_lt d.le hB, tb⟩) rfl rfl) (tg_tup cK ci.calm (tgs_cons (js := [7]) (tg_name 7 nd_) (tgs_cons (js := [5]) (tg_name 5 nd_) tgs_nil))) ?_)
    refine ss_cons (s_seti 3 (k := (popB (drawB (tally st.length bag) stk k).2.2 (drawB (tally st.length bag) stk k).1).1) rfl (e_un (j := 3) (e_bin (e_ix (e_name 3) (e_name 7) (i_lN q1)) (e_nat 1) (n_sub q2)) rfl rfl) (e_name 7) rfl (by rw [List.length_map]; exact q1) ?_)
    refine ss_cons (s_app 4 cK rfl (e_name 7) ?_ (ss_nil ?_))
    · rw [List.length_map, d.tl, sizeLine_eq]; omega
    · exact ⟨_, _, by show _ = [_, _, _, SD.ow ((List.set _ _ _).map nD), SD.ow ((_ ++ [_]).map nD), SD.im (nD (popB _ _).2), _, _]; rw [List.map_append, List.map_set]; rfl⟩
  · subst hu
    rw [List.length_range]
    have d := drawB_ok h3.tx.lt stk bag.length (Nat.le_refl _)
    refine ss_cons (s_ret (q_call ok_push_learned ((drawB (tally st.length bag) stk bag.length).2.2, g, st, (drawB (tally st.length bag) stk bag.length).2.1) (a_cons (e_name 5) (a_cons (e_name 1) (a_cons (e_un (j := 4) (q_tuple (e_name 4)) rfl ?_) a_nil))) ⟨by have := d.le; show _ + 2 ≤ _; omega, h2, d.tx h3.tx (Nat.le_refl _)⟩) rfl)
    show ((drawB (tally st.length bag) stk bag.length).2.1.map nD).all scalD = true
    rw [List.all_map]
    exact List.all_eq_true.mpr fun _ _ => rfl
end
end K67
namespace K67
/-! multinomials -/
theorem fact_pos : ∀ n, 0 < fact n
  | 0 => Nat.one_pos
  | n + 1 => Nat.mul_pos (fact_pos n) (by omega)
theorem fact_add : ∀ (s m n : Nat), m + n = s → ∃ b, b * (fact m * fact n) = fact s
  | 0, m, n, h => ⟨1, by
    have hm : m = 0 := by omega
    have hn : n = 0 := by omega
    subst hm hn
    rfl⟩
  | s + 1, 0, n, h => ⟨1, by
    have hn : n = s + 1 := by omega
    subst hn
    simp [fact]⟩
  | s + 1, m + 1, 0, h => ⟨1, by
    have hm : m = s := by omega
    subst hm
    simp [fact]⟩
  | s + 1, m + 1, n + 1, h => by
    obtain ⟨b1, e1⟩ := fact_add s m (n + 1) (by omega)
    obtain ⟨b2, e2⟩ := fact_add s (m + 1) n (by omega)
    refine ⟨b1 + b2, ?_⟩
    have e3 : fact (s + 1) = fact s * (m + 1) + fact s * (n + 1) := by
      show fact s * (s + 1) = _
      rw [← Nat.mul_add]
      congr 1
      omega
    have e4 : b1 * (fact (m + 1) * fact (n + 1)) = fact s * (m + 1) := by
      rw [← e1]
      show b1 * (fact m * (m + 1) * fact (n + 1)) = b1 * (fact m * fact (n + 1)) * (m + 1)
      simp [Nat.mul_assoc, Nat.mul_comm, Nat.mul_left_comm]
    have e5 : b2 * (fact (m + 1) * fact (n + 1)) = fact s * (n + 1) := by
      rw [← e2]
      show b2 * (fact (m + 1) * (fact n * (n + 1))) = b2 * (fact (m + 1) * fact n) * (n + 1)
      simp [Nat.mul_assoc, Nat.mul_comm, Nat.mul_left_comm]
    rw [Nat.add_mul, e4, e5, e3]
def prodf : List Nat → Nat
  | [] => 1
  | c :: r => fact c * prodf r
theorem prodf_pos : ∀ cs, 0 < prodf cs
  | [] => Nat.one_pos
  | c :: r => Nat.mul_pos (fact_pos c) (prodf_pos r)
theorem prodf_dvd : ∀ cs : List Nat, ∃ b, b * prodf cs = fact cs.sum
  | [] => ⟨1, rfl⟩
  | c :: r => by
    obtain ⟨b, e⟩ := prodf_dvd r
    obtain ⟨b2, e2⟩ := fact_add (c + r.sum) c r.sum rfl
    refine ⟨b2 * b, ?_⟩
    rw [List.sum_cons, ← e2, ← e]
    show b2 * b * (fact c * prodf r) = _
    simp [Nat.mul_assoc, Nat.mul_comm, Nat.mul_left_comm]
theorem fold_div : ∀ (cs : List Nat) (x : Nat), cs.foldl (fun m c => m / fact c) x = x / prodf cs
  | [], x => (Nat.div_one x).symm
  | c :: r, x => by
    show r.foldl _ (x / fact c) = _
    rw [fold_div r, Nat.div_div_eq_div_mul]
    rfl
theorem multi_eq (cs : List Nat) : multi cs * prodf cs = fact cs.sum := by
  obtain ⟨b, e⟩ := prodf_dvd cs
  unfold multi
  rw [fold_div, ← e, Nat.mul_div_cancel _ (prodf_pos cs)]
theorem multi_pos (cs : List Nat) : 0 < multi cs := by
  have := multi_eq cs
  have h := fact_pos cs.sum
  rcases Nat.eq_zero_or_pos (multi cs) with z | z
  · rw [z, Nat.zero_mul] at this; omega
  · exact z
theorem multi_le (cs : List Nat) : multi cs ≤ fact cs.sum := by
  rw [← multi_eq cs]
  exact Nat.le_mul_of_pos_right _ (prodf_pos cs)
/-- one letter fewer -/
def less (cs : List Nat) (p : Nat) : List Nat := cs.set p (cs.getD p 0 - 1)
theorem less_len (cs : List Nat) (p : Nat) : (less cs p).length = cs.length := List.length_set ..
theorem getD_lt {cs : List Nat} {p : Nat} (h : 0 < cs.getD p 0) : p < cs.length := by
  rcases Nat.lt_or_ge p cs.length with q | q
  · exact q
  · rw [List.getD_eq_getElem?_getD, List.getElem?_eq_none q] at h
    simp at h
theorem less_sum {cs : List Nat} {p : Nat} (h : 0 < cs.getD p 0) : (less cs p).sum + 1 = cs.sum := by
  have := sum_set (cs := cs) (x := cs.getD p 0 - 1) (getD_lt h)
  unfold less
  omega
theorem prodf_less : ∀ {cs : List Nat} {p : Nat}, 0 < cs.getD p 0 → prodf cs = cs.getD p 0 * prodf (less cs p)
  | [], p, h => by simp at h
  | c :: r, 0, h => by
    have hc : 0 < c := h
    obtain ⟨d, rfl⟩ : ∃ d, c = d + 1 := ⟨c - 1, by omega⟩
    show fact d * (d + 1) * prodf r = (d + 1) * (fact d * prodf r)
    simp [Nat.mul_assoc, Nat.mul_comm, Nat.mul_left_comm]
  | c :: r, p + 1, h => by
    have ih := prodf_less (cs := r) (p := p) h
    show fact c * prodf r = r.getD p 0 * (fact c * prodf (less r p))
    rw [ih]
    simp [Nat.mul_assoc, Nat.mul_comm, Nat.mul_left_comm]
theorem multi_less {cs : List Nat} {p : Nat} (h : 0 < cs.getD p 0) : multi cs * cs.getD p 0 = cs.sum * multi (less cs p) := by
  have e1 := multi_eq cs
  have e2 := multi_eq (less cs p)
  have e3 := less_sum h
  have e4 : fact cs.sum = fact (less cs p).sum * cs.sum := by rw [← e3]; rfl
  have e5 := prodf_less h
  apply Nat.eq_of_mul_eq_mul_right (prodf_pos (less cs p))
  calc multi cs * cs.getD p 0 * prodf (less cs p) = multi cs * prodf cs := by rw [e5, Nat.mul_assoc]
    _ = multi (less cs p) * prodf (less cs p) * cs.sum := by rw [e1, e4, ← e2]
    _ = cs.sum * multi (less cs p) * prodf (less cs p) := by simp [Nat.mul_assoc, Nat.mul_comm, Nat.mul_left_comm]
/-- how many texts begin with the letter p -/
def begins (cs : List Nat) (p : Nat) : Nat := multi cs * cs.getD p 0 / cs.sum
theorem begins_pos {cs : List Nat} {p : Nat} (h : 0 < cs.getD p 0) : begins cs p = multi (less cs p) := by
  unfold begins
  have := getD_le_sum cs p
  rw [multi_less h, Nat.mul_div_cancel_left _ (by omega)]
theorem begins_zero {cs : List Nat} {p : Nat} (h : cs.getD p 0 = 0) : begins cs p = 0 := by
  unfold begins
  rw [h, Nat.mul_zero, Nat.zero_div]
/-- exact: the sum times a letter's count -/
theorem begins_mul (cs : List Nat) (p : Nat) : cs.sum * begins cs p = multi cs * cs.getD p 0 := by
  rcases Nat.eq_zero_or_pos (cs.getD p 0) with z | z
  · rw [begins_zero z, z]; simp
  · rw [begins_pos z, multi_less z]
/-- the marks of the letters -/
def marks (cs : List Nat) : List Nat := cs.map fun c => multi cs * c / cs.sum
theorem marks_len (cs : List Nat) : (marks cs).length = cs.length := by simp [marks]
theorem marks_get (cs : List Nat) (p : Nat) : (marks cs).getD p 0 = begins cs p := by
  unfold marks begins
  rw [List.getD_eq_getElem?_getD, List.getElem?_map, List.getD_eq_getElem?_getD]
  cases cs[p]? with
  | none => simp
  | some c => rfl
theorem marks_take {cs : List Nat} (n : Nat) (h : 0 < cs.sum) : cs.sum * ((marks cs).take n).sum = multi cs * (cs.take n).sum := by
  induction n with
  | zero => simp
  | succ n ih =>
    by_cases hn : n < cs.length
    · have hm : n < (marks cs).length := by rw [marks_len]; exact hn
      rw [List.take_succ_eq_append_getElem hn, List.take_succ_eq_append_getElem hm, List.sum_append, List.sum_append, Nat.mul_add, Nat.mul_add, ih]
      congr 1
      have e1 : (marks cs)[n] = begins cs n := by rw [← marks_get, List.getD_eq_getElem?_getD, List.getElem?_eq_getElem hm]; rfl
      have e2 : cs[n] = cs.getD n 0 := by rw [List.getD_eq_getElem?_getD, List.getElem?_eq_getElem hn]; rfl
      simp only [List.sum_cons, List.sum_nil, Nat.add_zero]
      rw [e1, e2, begins_mul]
    · have e1 : cs.take (n + 1) = cs.take n := by rw [List.take_of_length_le (show cs.length ≤ n + 1 by omega), List.take_of_length_le (show cs.length ≤ n by omega)]
      have hm : ¬ n < (marks cs).length := by rw [marks_len]; exact hn
      have e2 : (marks cs).take (n + 1) = (marks cs).take n := by rw [List.take_of_length_le (show (marks cs).length ≤ n + 1 by omega), List.take_of_length_le (show (marks cs).length ≤ n by omega)]
      rw [e1, e2]
      exact ih
/-- the texts that begin with a letter below n, by one division -/
theorem marks_div {cs : List Nat} (n : Nat) (h : 0 < cs.sum) : multi cs * (cs.take n).sum / cs.sum = ((marks cs).take n).sum := by
  rw [← marks_take n h, Nat.mul_div_cancel_left _ h]
theorem marks_sum {cs : List Nat} (h : 0 < cs.sum) : (marks cs).sum = multi cs := by
  have := marks_take cs.length h
  rw [List.take_of_length_le (by rw [marks_len]; exact Nat.le_refl _), List.take_length, Nat.mul_comm] at this
  exact Nat.eq_of_mul_eq_mul_right h this
end K67
namespace K67
open PySem PySem.Spec PyProof.Rows L2
theorem fact_mono {m n : Nat} (h : m ≤ n) : fact m ≤ fact n := by
  induction n with
  | zero => rw [Nat.le_zero.mp h]; exact Nat.le_refl _
  | succ n ih =>
    rcases Nat.lt_or_eq_of_le h with q | q
    · exact Nat.le_trans (ih (by omega)) (Nat.le_mul_of_pos_right _ (by omega))
    · rw [q]; exact Nat.le_refl _
theorem fact41 : fact 41 < 2 ^ 200 := by decide +kernel
theorem fact_BIG {n : Nat} (h : n ≤ 41) : fact n < BIG := lt_big (Nat.lt_of_le_of_lt (fact_mono h) fact41) (by decide)
theorem back_len (n : Nat) (text : List Nat) : (backOf n text).length = text.length := by simp [backOf]
theorem back_get {n : Nat} {text : List Nat} {i : Nat} (h : i < text.length) : (backOf n text)[i]'(by rw [back_len]; exact h) = (tally n (text.drop i), text.getD i 0) := by
  unfold backOf
  rw [List.getElem_map, List.getElem_range]
theorem back_fit {n : Nat} {text : List Nat} (h : ∀ l ∈ text, l < n) {i : Nat} (hi : i < text.length) : text.getD i 0 < (tally n (text.drop i)).length ∧ 0 < (tally n (text.drop i)).getD (text.getD i 0) 0 := by
  have e : text.getD i 0 = text[i] := by rw [List.getD_eq_getElem?_getD, List.getElem?_eq_getElem hi]; rfl
  have hm := h _ (List.getElem_mem hi)
  rw [e, tally_len, tally_get n _ hm]
  refine ⟨hm, List.count_pos_iff.mpr ?_⟩
  rw [List.drop_eq_getElem_cons hi]
  exact List.mem_cons_self
theorem back_ok {n : Nat} {text : List Nat} (h : ∀ l ∈ text, l < n) (hl : text.length ≤ 8) : ∀ p ∈ backOf n text, 0 < p.1.getD p.2 0 ∧ p.1.sum ≤ 1024 := fun p hp => by
  obtain ⟨i, hi, rfl⟩ := List.mem_map.mp hp
  rw [List.mem_range] at hi
  refine ⟨(back_fit h hi).2, ?_⟩
  show (tally n (text.drop i)).sum ≤ 1024
  rw [tally_sum n _ fun l q => h l (List.mem_of_mem_drop q), List.length_drop]
  omega
theorem ordB_le (bag : List Nat) : ∀ (is : List Nat) (o : Nat), is.foldl (ordB bag) o ≤ o
  | [], o => Nat.le_refl _
  | i :: r, o => by
    refine Nat.le_trans (ordB_le bag r _) ?_
    unfold ordB
    split
    · exact Nat.div_le_self _ _
    · exact Nat.le_refl _
theorem ordersB_le (bag : List Nat) : ordersB bag ≤ fact bag.length := ordB_le bag _ _
section
variable {P : Program} {w : World} {K : PySem.W.Frag} {mg : Str → Option Value} {base : Heap} [W : Wd K mg]
theorem ok_pop_bag : Cle P w K mg base "pop_bag" 81 ["stack", "learner", "many"] 8 (spP K (fun x : Nat × Nat × List Nat × Nat => [nD x.1, lrn x.2.1 x.2.2.1, nD x.2.2.2]) (fun x => x.1 + 2 ≤ 2 ^ 1000 ∧ Lr x.2.1 x.2.2.1 ∧ x.2.2.2 ≤ 8) (fun x => .tuple [tN (popBag x.1 x.2.1 x.2.2.1 x.2.2.2).1, nD (popBag x.1 x.2.1 x.2.2.1 x.2.2.2).2])) := by
  refine mkP df81 (fun _ => rfl) (fun f cdv A outer s H E' ci a hp => ?_)
  obtain ⟨stk, g, st, n⟩ := a
  obtain ⟨h1, h2, h3⟩ := hp
  have h1 : stk + 2 ≤ 2 ^ 1000 := h1
  have h2 : Lr g st := h2
  have h3 : n ≤ 8 := h3
  have h4 := h2.len
  have hB : stk < BIG := lt_BIG h1 (by decide)
  obtain ⟨t, tl, le⟩ := popLn_ok h2 stk n h3
  have hb1 : (popLn g st stk n).2 + 2 ≤ 2 ^ 1000 := by omega
  refine ss_cons (s_want (q_call ok_is_number stk (a_cons (e_name 0) a_nil) trivial) ?_)
  refine ss_cons (s_want (q_call ok_is_learner (g, st) (a_cons (e_name 1) a_nil) h2.pos) ?_)
  refine ss_cons (s_want (q_call ok_is_number n (a_cons (e_name 2) a_nil) trivial) ?_)
  refine ss_cons (s_asg (q_call ok_pop_learned (stk, g, st, n) (a_cons (e_name 0) (a_cons (e_name 1) (a_cons (e_name 2) a_nil))) ⟨hB, h2, h3⟩) (tg_tup cK ci.calm (tgs_cons (js := [3]) (tg_name 3 nd_) (tgs_cons (js := [4]) (tg_name 4 nd_) tgs_nil))) ?_)
  refine ss_cons (s_set 5 (q_len (e_ix (e_name 1) (e_nat 1) (i_tD rfl)) (hm := List.length_map ..)) nd_ ?_)
  show Ss K _ _ [.im (nD stk), .im (lrn g st), .im (nD n), .im (tN (popLn g st stk n).1), .im (nD (popLn g st stk n).2), .im (nD st.length), .no] _
  obtain ⟨pq, hpq⟩ : ∃ pq, popLn g st stk n = pq := ⟨_, rfl⟩
  have hval : popBag stk g st n = (srt pq.1, pushL pq.2 (backOf st.length pq.1)) := by unfold popBag; rw [hpq]
  rw [hpq] at t tl le hb1 ⊢
  have hback := back_ok (n := st.length) t.lt (by rw [tl]; exact h3)
  refine ss_cons (s_forM (xs := List.range n) (fun k ρ' => ∃ u, ρ' = [.im (nD stk), .im (lrn g st), .im (nD n), .im (tN pq.1), .im (nD (pushL pq.2 ((backOf st.length pq.1).drop (n - k)))), .im (nD st.length), u]) (q_revr (m := n) (e_name 2) (by omega)) ⟨.no, ?_⟩ (fun k hk ρ' ⟨u, hu⟩ => ?_) (fun ρ' ⟨u, hu⟩ => ?_))
  · rw [Nat.sub_zero, List.drop_eq_nil_of_le (by rw [back_len, tl]; exact Nat.le_refl _)]
    rfl
  · subst hu
    rw [List.length_range] at hk
    have e1 : (List.range n)[k]'(by simpa using hk) = k := by simp
    have hj : n - 1 - k < pq.1.length := by omega
    have hq := back_fit (n := st.length) t.lt hj
    have hts : (tally st.length (pq.1.drop (n - 1 - k))).sum ≤ 8 := by
      rw [tally_sum _ _ fun l q => t.lt l (List.mem_of_mem_drop q), List.length_drop]; omega
    have hbig := pushL_le (st := pq.2) (B := 1000) (ps := (backOf st.length pq.1).drop (n - k)) (fun p hp => hback p (List.mem_of_mem_drop hp)) hb1
    have hB2 : pushL pq.2 ((backOf st.length pq.1).drop (n - k)) < BIG := lt_BIG hbig (by rw [List.length_drop, back_len]; omega)
    have tb : Tb (tally st.length (pq.1.drop (n - 1 - k))) := ⟨by rw [tally_len]; omega, Nat.lt_of_lt_of_le hq.2 (getD_le_sum _ _), lt_big (k := 10) (by omega) (by decide)⟩
    refine ⟨[6], _, tg_name 6 nd_, ss_cons (s_set 4 (q_call ok_push_by (_, tally st.length (pq.1.drop (n - 1 - k)), pq.1.getD (n - 1 - k) 0) (a_cons (e_name 4) (a_cons (q_call ok_e_counts (st.length, pq.1.drop (n - 1 - k)) (a_cons (e_name 5) (a_cons (e_slice (e_name 3) (o_nat (e_name 6)) o_none ?_) a_nil)) (show st.length < 1000 by omega)) (a_cons (e_ix (e_name 3) (e_name 6) ?_) a_nil))) ⟨hB2, tb, hq⟩) nd_ (ss_nil ?_))⟩
    · rw [e1]; exact q_fromTN (n - 1 - k)
    · rw [e1]; exact i_tN hj
    · have e3 : n - (k + 1) = n - 1 - k := by omega
      have e4 : n - 1 - k + 1 = n - k := by omega
      exact ⟨_, by rw [e3, pushL_drop (j := n - 1 - k) (by rw [back_len]; exact hj), back_get hj, e4]; rfl⟩
  · subst hu
    refine ss_cons (s_ret (e_tup (a_cons (q_call ok_bag_of pq.1 (a_cons (e_name 3) a_nil) (show pq.1.length < 5000 by omega)) (a_cons (e_name 4) a_nil))) ?_)
    show PyData.tuple [tN (srt pq.1), nD (pushL pq.2 ((backOf st.length pq.1).drop (n - (List.range n).length)))] = PyData.tuple [tN (popBag stk g st n).1, nD (popBag stk g st n).2]
    rw [List.length_range, Nat.sub_self, List.drop_zero, hval]
theorem ok_orders_of_bag : Cle P w K mg base "orders_of_bag" 77 ["bag"] 5 (spP K (fun x : List Nat => [tN x]) (fun x => x.length ≤ 8 ∧ asc x = true) (fun x => nD (ordersB x))) := by
  refine mkP df77 (fun _ => rfl) (fun f cdv A outer s H E' ci a hp => ?_)
  obtain ⟨hl, ha⟩ := hp
  refine ss_cons (s_want (e_to (q_call ok_e_ascends a (a_cons (e_name 0) a_nil) (show a.length < 5000 by omega)) (by rw [ha])) ?_)
  refine ss_cons (s_set 1 (q_call ok_factorial_of a.length (a_cons (q_len (e_name 0) (hm := List.length_map ..)) a_nil) (show a.length ≤ 20000 by omega)) nd_ ?_)
  have he : enumD (a.map nD) = (List.range a.length).map fun i => .tuple [nD i, nD (a.getD i 0)] := by
    apply List.ext_getElem
    · simp [enumD_len]
    · intro i h1 h2
      rw [enumD_len, List.length_map] at h1
      obtain ⟨x, g1, g2⟩ := enumD_get (ds := a.map nD) (i := i) (d := (enumD (a.map nD))[i]'(by rw [enumD_len, List.length_map]; exact h1)) (List.getElem?_eq_getElem _)
      rw [g2, List.getElem_map, List.getElem_range]
      rw [List.getElem?_map, List.getElem?_eq_getElem h1] at g1
      cases g1
      rw [List.getD_eq_getElem?_getD, List.getElem?_eq_getElem h1]
      rfl
  refine ss_cons (s_forM (xs := List.range a.length) (g := fun i => .tuple [nD i, nD (a.getD i 0)]) (fun k ρ' => ∃ u v, ρ' = [.im (tN a), .im (nD ((List.range k).foldl (ordB a) (fact a.length))), u, v]) (by rw [← he]; exact src_enumT (e_name 0)) ⟨_, _, rfl⟩ (fun k hk ρ' ⟨u, v, hu⟩ => ?_) (fun ρ' ⟨u, v, hu⟩ => ?_))
  · subst hu
    rw [List.length_range] at hk
    have e1 : (List.range a.length)[k]'(by simpa using hk) = k := by simp
    rw [e1]
    have er : (List.range (k + 1)).foldl (ordB a) (fact a.length) = ordB a ((List.range k).foldl (ordB a) (fact a.length)) k := by
      rw [List.range_succ, List.foldl_append]
      rfl
    have hc : a.count (a.getD k 0) ≤ 8 := Nat.le_trans List.count_le_length hl
    refine ⟨[2, 3], _, tg_tup cK ci.calm (tgs_cons (js := [2]) (tg_name 2 nd_) (tgs_cons (js := [3]) (tg_name 3 nd_) tgs_nil)), ?_⟩
    refine ss_cons (s_if (t_of (t_or (t_cmp (e_name 2) (e_nat 0) n_eq) fun h0 => t_or1 (t_cmp (e_ix (e_name 0) (e_bin (e_name 2) (e_nat 1) (n_sub (by have := of_decide_eq_false h0; omega))) (i_tN (by omega))) (e_name 3) n_ne))) (fun h => ?_) fun h => ?_)
    · refine ss_cons (s_set 1 (e_bin (e_name 1) (q_call ok_factorial_of (a.count (a.getD k 0)) (a_cons (q_count (e_name 0) (e_name 3)) a_nil) (show a.count (a.getD k 0) ≤ 20000 by omega)) (n_div (fact_pos _) (fact_BIG (by omega)))) nd_ (ss_nil (ss_nil ?_)))
      exact ⟨_, _, by rw [er, ordB, if_pos (by simpa using h)]; rfl⟩
    · exact ss_nil (ss_nil ⟨_, _, by rw [er, ordB, if_neg (by simpa using h)]; rfl⟩)
  · subst hu
    rw [List.length_range]
    exact ss_cons (s_ret (e_name 1) rfl)
end
end K67
namespace K67
open PySem PySem.Spec PyProof.Rows L2
def chB (g : Nat) (st bag : List Nat) : Nat × Nat := lowQ (ordersB bag * (chanceC g st (tally st.length bag)).1) (1 * (chanceC g st (tally st.length bag)).2)
theorem chanceC_ok {g : Nat} {st row : List Nat} (h : Lr g st) (t : Tx st row) : Qt (chanceC g st (tally st.length row)) := by
  have c : Cn st (tally st.length row) := ⟨tally_len _ _, by rw [tally_sum _ _ t.lt]; exact t.len⟩
  have ht := chT_lt h c (st.zip (tally st.length row)).length
  rw [List.take_length] at ht
  have hr := rise_le (s := st.sum) (g := g) (n := (tally st.length row).sum) h.small h.gain c.sum
  refine lowQ_ok (by rw [Nat.one_mul]; exact rise_pos h.pos _) ?_ ?_
  · rw [Nat.mul_one]
    exact Nat.lt_of_lt_of_le ht (Nat.pow_le_pow_right (by decide) (by decide))
  · rw [Nat.one_mul]
    exact Nat.lt_of_lt_of_le hr (Nat.pow_le_pow_right (by decide) (by decide))
/-- the rank of places among the texts of these counts -/
def rankF : List Nat → List Nat → Nat
  | _, [] => 0
  | cs, p :: r => ((marks cs).take p).sum + rankF (less cs p) r
/-- the places can be taken -/
def Can : List Nat → List Nat → Prop
  | _, [] => True
  | cs, p :: r => 0 < cs.getD p 0 ∧ Can (less cs p) r
def lessAll (cs ps : List Nat) : List Nat := ps.foldl less cs
theorem lessAll_snoc (cs ps : List Nat) (p : Nat) : lessAll cs (ps ++ [p]) = less (lessAll cs ps) p := by
  unfold lessAll
  rw [List.foldl_append]
  rfl
theorem can_at : ∀ {cs ps : List Nat}, Can cs ps → ∀ k (hk : k < ps.length), 0 < (lessAll cs (ps.take k)).getD ps[k] 0 ∧ (lessAll cs (ps.take k)).sum + k = cs.sum ∧ (lessAll cs (ps.take k)).length = cs.length
  | cs, [], _, k, hk => by simp at hk
  | cs, p :: r, h, 0, hk => ⟨h.1, rfl, rfl⟩
  | cs, p :: r, h, k + 1, hk => by
    obtain ⟨a, b, c⟩ := can_at h.2 k (by simpa using hk)
    have := less_sum h.1
    refine ⟨a, ?_, ?_⟩
    · show (lessAll (less cs p) (r.take k)).sum + (k + 1) = _
      omega
    · show (lessAll (less cs p) (r.take k)).length = _
      rw [c, less_len]
theorem rankF_split : ∀ (cs ps : List Nat) (k : Nat) (hk : k < ps.length), rankF (lessAll cs (ps.take k)) (ps.drop k) = ((marks (lessAll cs (ps.take k))).take ps[k]).sum + rankF (lessAll cs (ps.take (k + 1))) (ps.drop (k + 1)) := by
  intro cs ps k hk
  rw [List.drop_eq_getElem_cons hk, List.take_succ_eq_append_getElem hk, lessAll_snoc]
  rfl
def idx (kn : List Nat) (x : Nat) : Nat := kn.idxOf x
def rankT (text : List Nat) : Nat := rankF ((known text).map fun x => text.count x) (text.map (idx (known text)))
theorem known_nodup (text : List Nat) : (known text).Pairwise (· < ·) := (List.pairwise_lt_range (n := 8)).filter _
theorem known_mem {text : List Nat} {x : Nat} : x ∈ known text ↔ x < 8 ∧ x ∈ text := by
  unfold known
  rw [List.mem_filter, List.mem_range, List.contains_iff_mem]
theorem idx_get {kn : List Nat} {x : Nat} (h : x ∈ kn) : kn[idx kn x]? = some x := by
  unfold idx
  have hl := List.idxOf_lt_length_iff.mpr h
  rw [List.getElem?_eq_getElem hl]
  congr 1
  exact List.getElem_idxOf hl
theorem idx_first {kn : List Nat} (hp : kn.Pairwise (· < ·)) {x : Nat} (h : x ∈ kn) (i : Nat) (hi : i < idx kn x) : kn[i]? ≠ some x := fun e => by
  have h2 := idx_get h
  obtain ⟨a1, a2⟩ := List.getElem?_eq_some_iff.mp e
  obtain ⟨b1, b2⟩ := List.getElem?_eq_some_iff.mp h2
  have := List.pairwise_iff_getElem.mp hp i (idx kn x) a1 b1 hi
  omega
/-- counts by a list of letters -/
theorem less_map {kn : List Nat} (hp : kn.Pairwise (· < ·)) {x : Nat} {r : List Nat} (h : x ∈ kn) : less (kn.map fun y => (x :: r).count y) (idx kn x) = kn.map fun y => r.count y := by
  have hx := idx_get h
  have hl : idx kn x < kn.length := (List.getElem?_eq_some_iff.mp hx).1
  have hl' : idx kn x < (kn.map fun y => (x :: r).count y).length := by rw [List.length_map]; exact hl
  refine ext_getD (by rw [less_len, List.length_map, List.length_map]) fun i hi => ?_
  rw [less_len, List.length_map] at hi
  unfold less
  rw [getD_set _ _ _ _ hl']
  have e1 : (kn.map fun y => (x :: r).count y).getD i 0 = (x :: r).count kn[i] := by rw [List.getD_eq_getElem?_getD, List.getElem?_map, List.getElem?_eq_getElem hi]; rfl
  have e2 : (kn.map fun y => r.count y).getD i 0 = r.count kn[i] := by rw [List.getD_eq_getElem?_getD, List.getElem?_map, List.getElem?_eq_getElem hi]; rfl
  have e3 : (kn.map fun y => (x :: r).count y).getD (idx kn x) 0 = (x :: r).count x := by rw [List.getD_eq_getElem?_getD, List.getElem?_map, hx]; rfl
  rw [e2]
  by_cases q : idx kn x = i
  · rw [if_pos q, e3, List.count_cons_self]
    subst q
    have : kn[idx kn x] = x := (List.getElem?_eq_some_iff.mp hx).2
    rw [this]
    omega
  · rw [if_neg q, e1]
    have hne : kn[i] ≠ x := fun z => by
      rcases Nat.lt_or_gt_of_ne q with w | w
      · have := List.pairwise_iff_getElem.mp hp (idx kn x) i hl hi w
        have e : kn[idx kn x] = x := (List.getElem?_eq_some_iff.mp hx).2
        omega
      · have := List.pairwise_iff_getElem.mp hp i (idx kn x) hi hl w
        have e : kn[idx kn x] = x := (List.getElem?_eq_some_iff.mp hx).2
        omega
    rw [List.count_cons_of_ne (fun z => hne z.symm)]
theorem can_map {kn : List Nat} (hp : kn.Pairwise (· < ·)) : ∀ (t : List Nat), (∀ x ∈ t, x ∈ kn) → Can (kn.map fun y => t.count y) (t.map (idx kn))
  | [], _ => trivial
  | x :: r, h => by
    have hx := h x List.mem_cons_self
    have e : (kn.map fun y => (x :: r).count y).getD (idx kn x) 0 = (x :: r).count x := by rw [List.getD_eq_getElem?_getD, List.getElem?_map, idx_get hx]; rfl
    refine ⟨by rw [e, List.count_cons_self]; omega, ?_⟩
    rw [less_map hp hx]
    exact can_map hp r fun y hy => h y (List.mem_cons_of_mem _ hy)
theorem sum_counts : ∀ {kn : List Nat} (hp : kn.Pairwise (· < ·)) (t : List Nat), (∀ x ∈ t, x ∈ kn) → (kn.map fun y => t.count y).sum = t.length
  | kn, hp, [], _ => by
    induction kn with
    | nil => rfl
    | cons a r ih => simpa using ih (List.pairwise_cons.mp hp).2 (by intro x hx; cases hx)
  | kn, hp, x :: r, h => by
    have hx := h x List.mem_cons_self
    have e : (kn.map fun y => (x :: r).count y).getD (idx kn x) 0 = (x :: r).count x := by rw [List.getD_eq_getElem?_getD, List.getElem?_map, idx_get hx]; rfl
    have := less_sum (cs := kn.map fun y => (x :: r).count y) (p := idx kn x) (by rw [e, List.count_cons_self]; omega)
    rw [less_map hp hx, sum_counts hp r fun y hy => h y (List.mem_cons_of_mem _ hy)] at this
    rw [← this]
    rfl
section
variable {P : Program} {w : World} {K : PySem.W.Frag} {mg : Str → Option Value} {base : Heap} [W : Wd K mg]
theorem ok_chance_of_bag : Cle P w K mg base "chance_of_bag" 79 ["learner", "bag"] 8 (spP K (fun x : Nat × List Nat × List Nat => [lrn x.1 x.2.1, tN x.2.2]) (fun x => Lr x.1 x.2.1 ∧ Bg x.2.1 x.2.2) (fun x => qD (chB x.1 x.2.1 x.2.2))) := by
  refine mkP df79 (fun _ => rfl) (fun f cdv A outer s H E' ci a hp => ?_)
  obtain ⟨g, st, bag⟩ := a
  obtain ⟨h2, h3⟩ := hp
  have h2 : Lr g st := h2
  have h3 : Bg st bag := h3
  refine ss_cons (s_expr (q_call ok_want_bag (g, st, bag) (a_cons (e_name 0) (a_cons (e_name 1) a_nil)) ⟨h2.pos, h3⟩) ?_)
  refine ss_cons (s_ret (q_call ok_times ((ordersB bag, 1), chanceC g st (tally st.length bag)) (a_cons (e_tup (a_cons (q_call ok_orders_of_bag bag (a_cons (e_name 1) a_nil) ⟨h3.tx.len, h3.asc⟩) (a_cons (e_nat 1) a_nil))) (a_cons (q_call ok_chance_learned (g, st, bag) (a_cons (e_name 0) (a_cons (e_name 1) a_nil)) ⟨h2, h3.tx⟩) a_nil)) ⟨⟨Nat.le_refl 1, Nat.gcd_one_right _, ?_, Nat.one_lt_two_pow (by decide)⟩, chanceC_ok h2 h3.tx⟩) rfl)
  have h5 := ordersB_le bag
  have h6 := fact_mono h3.tx.len
  have h7 : fact 8 < 2 ^ 20 := by decide +kernel
  exact Nat.lt_of_lt_of_le (show ordersB bag < 2 ^ 20 by omega) (Nat.pow_le_pow_right (by decide) (by decide))
theorem ok_a_is_size : Cle P w K mg base "a_is_size" 83 ["thing"] 2 (spP K (fun x : Nat => [nD x]) (fun x => 1 ≤ x) (fun _ => .bool true)) := by
  refine mkP df83 (fun _ => rfl) (fun f cdv A outer s H E' ci a hp => ?_)
  exact ss_cons (s_ret (e_and (q_call ok_is_integer (a : Int) (a_cons (e_name 0) a_nil) trivial) fun _ => e_one (e_cmp (e_name 0) (e_nat 1) n_ge)) (by simpa using hp))
theorem ok_push_even : Cle P w K mg base "push_even" 84 ["stack", "many", "digit"] 3 (spP K (fun x : Nat × Nat × Nat => [nD x.1, nD x.2.1, nD x.2.2]) (fun x => x.1 < BIG ∧ x.2.1 < BIG ∧ x.2.2 < x.2.1) (fun x => nD (x.2.1 * x.1 + x.2.2))) := by
  refine mkP df84 (fun _ => rfl) (fun f cdv A outer s H E' ci a hp => ?_)
  obtain ⟨st, m, d⟩ := a
  obtain ⟨h1, h2, h3⟩ := hp
  have h3 : d < m := h3
  refine ss_cons (s_want (q_call ok_is_number st (a_cons (e_name 0) a_nil) trivial) ?_)
  refine ss_cons (s_want (q_call ok_a_is_size m (a_cons (e_name 1) a_nil) (show 1 ≤ m by omega)) ?_)
  refine ss_cons (s_want (e_to (e_and (q_call ok_is_number d (a_cons (e_name 2) a_nil) trivial) fun _ => e_one (e_cmp (e_name 2) (e_name 1) n_lt)) (by rw [decide_eq_true h3]; rfl)) ?_)
  exact ss_cons (s_ret (e_bin (e_bin (e_name 1) (e_name 0) (n_mul h2 h1)) (e_name 2) n_add) rfl)
theorem ok_pop_even : Cle P w K mg base "pop_even" 85 ["stack", "many"] 3 (spP K (fun x : Nat × Nat => [nD x.1, nD x.2]) (fun x => 0 < x.2 ∧ x.2 < BIG) (fun x => .tuple [nD (x.1 % x.2), nD (x.1 / x.2)])) := by
  refine mkP df85 (fun _ => rfl) (fun f cdv A outer s H E' ci a hp => ?_)
  obtain ⟨st, m⟩ := a
  refine ss_cons (s_want (q_call ok_is_number st (a_cons (e_name 0) a_nil) trivial) ?_)
  refine ss_cons (s_want (q_call ok_a_is_size m (a_cons (e_name 1) a_nil) hp.1) ?_)
  exact ss_cons (s_ret (e_tup (a_cons (e_bin (e_name 0) (e_name 1) (n_mod hp.1)) (a_cons (e_bin (e_name 0) (e_name 1) (n_div hp.1 hp.2)) a_nil))) rfl)
theorem q_sumB {k : Nat} {ι : Type} {F : ι → Cx} {e : Expr} {ρ : DE} {pos p : Pos} {ns : List Nat} [C : Cal P w K mg base k F] {t : Bool} (h : E K F e ρ (sqD t (ns.map nD))) (hg : ∀ i, Gl (F i) "sum" := by intro _; rfl) (he : ∀ i, starEach [e] (F i).env = (false, eval e (F i).env) :: starEach [] (F i).env := by intro _; rfl) :
    E K F (.Call (.Name "sum" p) [e] [] pos) ρ (nD ns.sum) := by
  cases t with
  | true => exact q_sum h hg he
  | false => exact q_sumL h hg he
theorem ok_f_how_many : Cle P w K mg base "f_how_many" 19 ["counts"] 4 (spP K (fun x : Bool × List Nat => [sqD x.1 (x.2.map nD)]) (fun x => x.2.sum ≤ 41) (fun x => nD (multi x.2))) := by
  refine mkP df19 (fun _ => rfl) (fun f cdv A outer s H E' ci a hp => ?_)
  obtain ⟨t, cs⟩ := a
  have hp : cs.sum ≤ 41 := hp
  refine ss_cons (s_set 1 (q_call ok_factorial_of cs.sum (a_cons (q_sumB (e_name 0)) a_nil) (show cs.sum ≤ 20000 by omega)) nd_ ?_)
  refine ss_cons (s_forM (xs := cs) (g := nD) (fun k ρ' => ∃ u, ρ' = [.im (sqD t (cs.map nD)), .im (nD ((cs.take k).foldl (fun m c => m / fact c) (fact cs.sum))), u]) (src_B (e_name 0)) ⟨_, rfl⟩ (fun k hk ρ' ⟨u, hu⟩ => ?_) (fun ρ' ⟨u, hu⟩ => ?_))
  · subst hu
    have hc : cs[k] ≤ 41 := Nat.le_trans (mem_le_sum (List.getElem_mem hk)) hp
    exact ⟨[2], _, tg_name 2 nd_, ss_cons (s_set 1 (e_bin (e_name 1) (q_call ok_factorial_of cs[k] (a_cons (e_name 2) a_nil) (show cs[k] ≤ 20000 by omega)) (n_div (fact_pos _) (fact_BIG hc))) nd_ (ss_nil ⟨_, by rw [List.take_succ_eq_append_getElem hk, List.foldl_append]; rfl⟩))⟩
  · subst hu
    refine ss_cons (s_ret (e_name 1) ?_)
    show nD _ = nD _
    rw [List.take_length]
    rfl
theorem ok_rank_of_text : Cle P w K mg base "rank_of_text" 20 ["text"] 5 (spP K (fun x : List Nat => [tN x]) (fun x => x.length ≤ 41 ∧ ∀ l ∈ x, l < 8) (fun x => nD (rankT x))) := by
  refine mkP df20 (fun _ => rfl) (fun f cdv A outer s H E' ci text hp => ?_)
  obtain ⟨hl, h8⟩ := hp
  have hkn : ∀ x ∈ text, x ∈ known text := fun x hx => known_mem.mpr ⟨h8 x hx, hx⟩
  have hpw := known_nodup text
  refine ss_cons (s_want (q_call ok_a_is_numbers text (a_cons (e_name 0) a_nil) (show text.length < 5000 by omega)) ?_)
  refine ss_cons (s_set 1 (q_sortSet (e_name 0) h8 (by omega)).im nd_ ?_)
  have hk8 : (known text).length ≤ 8 := by
    unfold known
    exact Nat.le_trans (List.length_filter_le _ _) (by simp)
  refine ss_cons (s_lcOM 2 [("letter", 3)] (xs := known text) (g := nD) (h := fun x => nD (text.count x)) (src_list cK (e_name 1)) (by omega) (fun x hx => lc_map 3 (q_count (e_name 0) (e_name 3))) ?_)
  rw [show (known text).map (fun x => nD (text.count x)) = ((known text).map fun x => text.count x).map nD from by rw [List.map_map]; rfl]
  have hsum := sum_counts hpw text hkn
  have hcan := can_map hpw text hkn
  have hlc : ((known text).map fun x => text.count x).length = (known text).length := List.length_map ..
  generalize hcs : ((known text).map fun x => text.count x) = cs at hsum hcan hlc ⊢
  refine ss_cons (s_par3 4 5 6 (e_un (j := 2) (q_call ok_f_how_many (false, cs) (a_cons (e_name 2) a_nil) (show cs.sum ≤ 41 by omega)) rfl rfl) (q_len (e_name 0) (hm := List.length_map ..)) (e_nat 0) nd_ ?_)
  let ps := text.map (idx (known text))
  have hpl : ps.length = text.length := List.length_map ..
  refine ss_cons (s_forM (xs := text) (g := nD) (fun k ρ' => ∃ u v r, r + rankF (lessAll cs (ps.take k)) (ps.drop k) = rankF cs ps ∧ ρ' = [.im (tN text), .im (lN (known text)), .ow ((lessAll cs (ps.take k)).map nD), u, .im (nD (multi (lessAll cs (ps.take k)))), .im (nD (text.length - k)), .im (nD r), v]) (src_tup cK (e_name 0)) ⟨_, _, 0, by simp [lessAll], rfl⟩ (fun k hk ρ' ⟨u, v, r, hr, hu⟩ => ?_) (fun ρ' ⟨u, v, r, hr, hu⟩ => ?_))
  · subst hu
    have hkp : k < ps.length := by rw [hpl]; exact hk
    obtain ⟨c1, c2, c3⟩ := can_at hcan k hkp
    have ep : ps[k] = idx (known text) text[k] := List.getElem_map ..
    have hm := hkn _ (List.getElem_mem hk)
    rw [rankF_split cs ps k hkp] at hr
    have et : lessAll cs (ps.take (k + 1)) = less (lessAll cs (ps.take k)) ps[k] := by rw [List.take_succ_eq_append_getElem hkp, lessAll_snoc]
    rw [et] at hr
    rw [et]
    generalize hD : lessAll cs (ps.take k) = D at c1 c2 c3 hr ⊢
    rw [ep] at c1 hr ⊢
    have hsD : D.sum = text.length - k := by omega
    have hDp : 0 < D.sum := by omega
    have hD41 : D.sum ≤ 41 := by omega
    have hmu : multi D < BIG := Nat.lt_of_le_of_lt (multi_le D) (fact_BIG hD41)
    have hcb : D.getD (idx (known text) text[k]) 0 < BIG := lt_big (k := 10) (by have := getD_le_sum D (idx (known text) text[k]); omega) (by decide)
    have htb : (D.take (idx (known text) text[k])).sum < BIG := lt_big (k := 10) (by have := take_le_sum D (idx (known text) text[k]); omega) (by decide)
    have hlb : text.length - k < BIG := lt_big (k := 10) (by omega) (by decide)
    have hpd := getD_lt c1
    have hd1 : 1 ≤ D[idx (known text) text[k]] := by
      have : D[idx (known text) text[k]] = D.getD (idx (known text) text[k]) 0 := by rw [List.getD_eq_getElem?_getD, List.getElem?_eq_getElem hpd]; rfl
      omega
    refine ⟨[3], _, tg_name 3 nd_, ?_⟩
    refine ss_cons (s_set 7 (q_index (e_name 1) (e_name 3) (idx_get hm) (idx_first hpw hm)) nd_ ?_)
    refine ss_cons (s_aug 6 rfl (e_un (j := 2) (e_bin (e_bin (e_name 4) (q_sumL (e_slice (e_name 2) o_none (o_nat (e_name 7)) (q_toLN _))) (n_mul hmu htb)) (e_name 5) (n_div (by omega) hlb)) rfl rfl) ipn_add nd_ ?_)
    refine ss_cons (s_set 4 (e_un (j := 2) (e_bin (e_bin (e_name 4) (e_ix (e_name 2) (e_name 7) (i_lN hpd)) (n_mul hmu hcb)) (e_name 5) (n_div (by omega) hlb)) rfl rfl) nd_ ?_)
    refine ss_cons (s_augi 2 (k := idx (known text) text[k]) cK rfl (by rw [List.getElem?_map, List.getElem?_eq_getElem hpd]; rfl) (e_name 7) rfl (e_nat 1) (ipn_sub hd1) ?_)
    refine ss_cons (s_aug 5 rfl (e_nat 1) (ipn_sub (by omega)) nd_ (ss_nil ?_))
    have e1 : multi D * D.getD (idx (known text) text[k]) 0 / (text.length - k) = multi (less D (idx (known text) text[k])) := by rw [← hsD]; exact begins_pos c1
    have e2 : multi D * (D.take (idx (known text) text[k])).sum / (text.length - k) = ((marks D).take (idx (known text) text[k])).sum := by rw [← hsD]; exact marks_div _ hDp
    have e3 : (D.map nD).set (idx (known text) text[k]) (nD (D[idx (known text) text[k]] - 1)) = (less D (idx (known text) text[k])).map nD := by
      unfold less
      rw [List.map_set, List.getD_eq_getElem?_getD, List.getElem?_eq_getElem hpd]
      rfl
    exact ⟨_, _, r + ((marks D).take (idx (known text) text[k])).sum, by rw [Nat.add_assoc]; exact hr, by rw [← e1, ← e2, ← e3, show text.length - (k + 1) = text.length - k - 1 by omega]; rfl⟩
  · subst hu
    refine ss_cons (s_ret (e_name 6) ?_)
    show nD r = nD (rankT text)
    rw [← hpl, List.drop_length] at hr
    unfold rankT
    rw [hcs]
    have : r = rankF cs ps := by rw [← hr]; rfl
    rw [this]
end
end K67
namespace K67
open PySem PySem.Spec PyProof.Rows L2
abbrev sch (g : Nat) (st : List Nat) (n : Nat) : PyData := .tuple [.str "bag", lrn g st, nD n]
/-- the letters that may come -/
def ableL (st : List Nat) : List Nat := (List.range st.length).filter fun i => decide (0 < st.getD i 0)
section
variable {P : Program} {w : World} {K : PySem.W.Frag} {mg : Str → Option Value} {base : Heap} [W : Wd K mg] [WE : WdE w K mg]
theorem ix_last {k : Nat} {ι : Type} {F : ι → Cx} {ds : List PyData} {d : PyData} [C : Cal P w K mg base k F] {m : Int} (h : atI ds m = some d) : IxD K F (.tuple ds) (.int m) d := i_tup cK h
theorem ok_letters_of : Cle P w K mg base "letters_of" 38 ["table"] 5 (spP K (fun x : List Nat => [tN x]) (fun x => 0 < x.sum ∧ x.length ≤ 4) (fun x => tN (ableL x))) := by
  refine mkP df38 (fun _ => rfl) (fun f cdv A outer s H E' ci a hp => ?_)
  obtain ⟨h1, h2⟩ := hp
  refine ss_cons (s_want (q_call ok_is_table a (a_cons (e_name 0) a_nil) h1) ?_)
  have he : enumD (a.map nD) = (List.range a.length).map fun i => .tuple [nD i, nD (a.getD i 0)] := by
    apply List.ext_getElem
    · simp [enumD_len]
    · intro i h1 h2
      rw [enumD_len, List.length_map] at h1
      obtain ⟨x, g1, g2⟩ := enumD_get (ds := a.map nD) (i := i) (d := (enumD (a.map nD))[i]'(by rw [enumD_len, List.length_map]; exact h1)) (List.getElem?_eq_getElem _)
      rw [g2, List.getElem_map, List.getElem_range]
      rw [List.getElem?_map, List.getElem?_eq_getElem h1] at g1
      cases g1
      rw [List.getD_eq_getElem?_getD, List.getElem?_eq_getElem h1]
      rfl
  refine ss_cons (s_ret (q_tuple (q_lcF (xs := List.range a.length) (g := fun i => .tuple [nD i, nD (a.getD i 0)]) (h := nD) (t := fun i => decide (0 < a.getD i 0)) [("letter", 1), ("many", 2)] (by rw [← he]; exact src_enumT (e_name 0)) (by rw [List.length_range]; omega) (fun i hi => ?_)).im) rfl)
  refine ⟨[1, 2], _, decide (0 < a.getD i 0), fun j hj => by simpa using hj, tg_tup cK (Cal.calm) (tgs_cons (js := [1]) (tg_name 1 nd_) (tgs_cons (js := [2]) (tg_name 2 nd_) tgs_nil)), ts_one (t_cmp (e_name 2) (e_nat 0) n_gt), fun h => by rw [h]; rfl, fun h => ⟨nD i, by rw [h]; rfl, e_name 1⟩⟩
theorem ok_is_learnt : Cle P w K mg base "_is_learnt" 111 ["thing"] 6 (spP K (fun x : Nat × List Nat × Nat => [sch x.1 x.2.1 x.2.2]) (fun x => 0 < x.2.1.sum) (fun _ => .bool true)) := by
  refine mkP df111 (fun _ => rfl) (fun f cdv A outer s H E' ci a hp => ?_)
  obtain ⟨g, st, n⟩ := a
  refine ss_cons (s_if (t_not (t_val (q_call ok_is_number n (a_cons (e_ix (e_name 0) (e_sub (e_int (n := 1))) (ix_last rfl)) a_nil) trivial))) (fun h => by cases h) fun _ => ss_nil ?_)
  refine ss_cons (s_if (t_cmp (e_ix (e_name 0) (e_nat 0) (i_tD rfl)) e_str o_eqS) (fun h => absurd h (by decide +kernel)) fun _ => ss_nil ?_)
  refine ss_cons (s_if (t_not (t_val (q_call ok_is_learner (g, st) (a_cons (e_ix (e_name 0) (e_nat 1) (i_tD rfl)) a_nil) hp))) (fun h => by cases h) fun _ => ss_nil ?_)
  refine ss_cons (s_if (t_cmp (e_ix (e_name 0) (e_nat 0) (i_tD rfl)) e_str o_eqS) (fun h => absurd h (by decide +kernel)) fun _ => ss_nil ?_)
  exact ss_cons (s_ret e_bool rfl)
theorem ok_is_scheme : Cle P w K mg base "is_scheme" 108 ["thing"] 7 (spP K (fun x : Nat × List Nat × Nat => [sch x.1 x.2.1 x.2.2]) (fun x => 0 < x.2.1.sum) (fun _ => .bool true)) := by
  refine mkP df108 (fun _ => rfl) (fun f cdv A outer s H E' ci a hp => ?_)
  obtain ⟨g, st, n⟩ := a
  refine ss_cons (s_if (t_of (t_or (t_not (t_val (q_isi (e_name 0) kt_tt))) fun _ => t_or (t_cmp (q_len (e_name 0)) (e_nat 0) n_eq) fun _ => t_or1 (t_not (t_val (q_isi (e_ix (e_name 0) (e_nat 0) (i_tD rfl)) kt_ss))))) (fun h => by cases h) fun _ => ss_nil ?_)
  refine ss_cons (s_set 1 (e_ix (e_name 0) (e_nat 0) (i_tD rfl)) nd_ ?_)
  refine ss_cons (s_if (t_of (t_or (t_lenNot (e_name 1)) fun _ => t_or1 (t_cmp (q_len (e_name 0)) (e_lenAt (e_name 1)) (n_ne (v := 3))))) (fun h => by cases h) fun _ => ss_nil ?_)
  refine ss_cons (s_if (t_cmp (e_name 1) q_parted (o_inS (t := false))) (fun h => by cases h) fun _ => ss_nil ?_)
  refine ss_cons (s_if (t_cmp (e_name 1) q_learnt (o_inS (t := true))) (fun _ => ?_) fun h => by cases h)
  exact ss_cons (s_ret (q_call ok_is_learnt (g, st, n) (a_cons (e_name 0) a_nil) hp) rfl)
theorem ok_starts : Cle P w K mg base "_starts" 134 ["scheme"] 1 (spP K (fun x : Nat × List Nat × Nat => [sch x.1 x.2.1 x.2.2]) (fun x => True) (fun x => tN x.2.1)) := by
  refine mkP df134 (fun _ => rfl) (fun f cdv A outer s H E' ci a hp => ?_)
  obtain ⟨g, st, n⟩ := a
  exact ss_cons (s_ret (e_if (t_cmp (e_ix (e_name 0) (e_nat 0) (i_tD rfl)) e_str o_eqS) (fun h => absurd h (by decide +kernel)) fun _ => e_ix (e_ix (e_name 0) (e_nat 1) (i_tD rfl)) (e_nat 1) (i_tD rfl)) rfl)
theorem ok_e_is_thing : Cle P w K mg base "e_is_thing" 136 ["scheme", "thing"] 6 (spP K (fun x : Nat × List Nat × List Nat => [sch x.1 x.2.1 x.2.2.length, tN x.2.2]) (fun x => Tx x.2.1 x.2.2) (fun x => .bool (asc x.2.2))) := by
  refine mkP df136 (fun _ => rfl) (fun f cdv A outer s H E' ci a hp => ?_)
  obtain ⟨g, st, t⟩ := a
  have hp : Tx st t := hp
  refine ss_cons (s_set 2 (e_ix (e_name 0) (e_nat 0) (i_tD rfl)) nd_ ?_)
  refine ss_cons (s_if (t_cmp (e_name 2) q_parted (o_inS (t := false))) (fun h => by cases h) fun _ => ss_nil ?_)
  refine ss_cons (s_if (t_cmp (e_name 2) q_learnt (o_inS (t := true))) (fun _ => ?_) fun h => by cases h)
  refine ss_cons (s_if (t_of (t_or (t_not (t_val (q_call ok_e_possible (st, t) (a_cons (q_call ok_starts (g, st, t.length) (a_cons (e_name 0) a_nil) trivial) (a_cons (e_name 1) a_nil)) hp))) fun _ => t_or1 (t_cmp (q_len (e_name 1) (hm := List.length_map ..)) (e_ix (e_name 0) (e_sub (e_int (n := 1))) (ix_last rfl)) n_ne))) (fun h => by simp at h) fun _ => ss_nil ?_)
  refine ss_cons (s_ret (e_or (e_cmp (e_name 2) e_str o_neS) fun _ => e_one (q_call ok_e_ascends t (a_cons (e_name 1) a_nil) (Nat.lt_of_le_of_lt hp.len (by decide)))) ?_)
  show PyData.bool _ = PyData.bool (asc t)
  rw [show (!decide (("bag" : Str) = ("bag" : Str))) = false by decide +kernel]
  rfl
theorem ok_is_thing : Cle P w K mg base "is_thing" 137 ["scheme", "thing"] 8 (spP K (fun x : Nat × List Nat × List Nat => [sch x.1 x.2.1 x.2.2.length, tN x.2.2]) (fun x => 0 < x.2.1.sum ∧ Tx x.2.1 x.2.2) (fun x => .bool (asc x.2.2))) := by
  refine mkP df137 (fun _ => rfl) (fun f cdv A outer s H E' ci a hp => ?_)
  obtain ⟨g, st, t⟩ := a
  refine ss_cons (s_want (q_call ok_is_scheme (g, st, t.length) (a_cons (e_name 0) a_nil) hp.1) ?_)
  exact ss_cons (s_ret (q_call ok_e_is_thing (g, st, t) (a_cons (e_name 0) (a_cons (e_name 1) a_nil)) hp.2) rfl)
theorem ok_e_chance : Cle P w K mg base "e_chance" 139 ["scheme", "thing"] 9 (spP K (fun x : Nat × List Nat × List Nat => [sch x.1 x.2.1 x.2.2.length, tN x.2.2]) (fun x => Lr x.1 x.2.1 ∧ Bg x.2.1 x.2.2) (fun x => qD (chB x.1 x.2.1 x.2.2))) := by
  refine mkP df139 (fun _ => rfl) (fun f cdv A outer s H E' ci a hp => ?_)
  obtain ⟨g, st, t⟩ := a
  refine ss_cons (s_set 2 (e_ix (e_name 0) (e_nat 0) (i_tD rfl)) nd_ ?_)
  refine ss_cons (s_if (t_cmp (e_name 2) q_parted (o_inS (t := false))) (fun h => by cases h) fun _ => ss_nil ?_)
  refine ss_cons (s_if (t_cmp (e_name 2) e_str o_eqS) (fun h => absurd h (by decide +kernel)) fun _ => ss_nil ?_)
  refine ss_cons (s_if (t_cmp (e_name 2) e_str o_eqS) (fun h => absurd h (by decide +kernel)) fun _ => ss_nil ?_)
  refine ss_cons (s_if (t_cmp (e_name 2) e_str o_eqS) (fun h => absurd h (by decide +kernel)) fun _ => ss_nil ?_)
  refine ss_cons (s_if (t_cmp (e_name 2) e_str o_eqS) (fun _ => ?_) fun h => absurd h (by decide +kernel))
  exact ss_cons (s_ret (q_call ok_chance_of_bag (g, st, t) (a_cons (e_ix (e_name 0) (e_nat 1) (i_tD rfl)) (a_cons (e_name 1) a_nil)) hp) rfl)
theorem ok_chance_in : Cle P w K mg base "chance_in" 140 ["scheme", "thing"] 10 (spP K (fun x : Nat × List Nat × List Nat => [sch x.1 x.2.1 x.2.2.length, tN x.2.2]) (fun x => Lr x.1 x.2.1 ∧ Tx x.2.1 x.2.2) (fun x => qD (if asc x.2.2 then chB x.1 x.2.1 x.2.2 else (0, 1)))) := by
  refine mkP df140 (fun _ => rfl) (fun f cdv A outer s H E' ci a hp => ?_)
  obtain ⟨g, st, t⟩ := a
  obtain ⟨h1, h2⟩ := hp
  have h1 : Lr g st := h1
  refine ss_cons (s_want (q_call ok_is_scheme (g, st, t.length) (a_cons (e_name 0) a_nil) h1.pos) ?_)
  refine ss_cons (s_if (t_not (t_val (q_call ok_e_is_thing (g, st, t) (a_cons (e_name 0) (a_cons (e_name 1) a_nil)) h2))) (fun h => ?_) fun h => ss_nil ?_)
  · refine ss_cons (s_ret (e_tup (a_cons (e_nat 0) (a_cons (e_nat 1) a_nil))) ?_)
    have : asc t = false := by simpa using h
    show _ = qD (if asc t then chB g st t else (0, 1))
    rw [this]
    rfl
  · have ha : asc t = true := by simpa using h
    refine ss_cons (s_ret (q_call ok_e_chance (g, st, t) (a_cons (e_name 0) (a_cons (e_name 1) a_nil)) ⟨h1, ⟨h2, ha⟩⟩) ?_)
    show _ = qD (if asc t then chB g st t else (0, 1))
    rw [ha]
    rfl
theorem ok_push_text : Cle P w K mg base "_push_text" 157 ["stack", "scheme", "text"] 10 (spP K (fun x : Nat × Nat × List Nat × List Nat => [nD x.1, sch x.2.1 x.2.2.1 x.2.2.2.length, tN x.2.2.2]) (fun x => x.1 + 2 ≤ 2 ^ 1000 ∧ Lr x.2.1 x.2.2.1 ∧ Bg x.2.2.1 x.2.2.2) (fun x => nD (pushBag x.1 x.2.1 x.2.2.1 x.2.2.2))) := by
  refine mkP df157 (fun _ => rfl) (fun f cdv A outer s H E' ci a hp => ?_)
  obtain ⟨stk, g, st, t⟩ := a
  refine ss_cons (s_set 3 (e_ix (e_name 1) (e_nat 0) (i_tD rfl)) nd_ ?_)
  refine ss_cons (s_if (t_cmp (e_name 3) e_str o_eqS) (fun h => absurd h (by decide +kernel)) fun _ => ss_nil ?_)
  refine ss_cons (s_if (t_cmp (e_name 3) e_str o_eqS) (fun h => absurd h (by decide +kernel)) fun _ => ss_nil ?_)
  refine ss_cons (s_if (t_cmp (e_name 3) e_str o_eqS) (fun h => absurd h (by decide +kernel)) fun _ => ss_nil ?_)
  exact ss_cons (s_ret (q_call ok_push_bag (stk, g, st, t) (a_cons (e_name 0) (a_cons (e_ix (e_name 1) (e_nat 1) (i_tD rfl)) (a_cons (e_name 2) a_nil))) hp) rfl)
theorem ok_push : Cle P w K mg base "_push" 158 ["stack", "scheme", "thing"] 11 (spP K (fun x : Nat × Nat × List Nat × List Nat => [nD x.1, sch x.2.1 x.2.2.1 x.2.2.2.length, tN x.2.2.2]) (fun x => x.1 + 2 ≤ 2 ^ 1000 ∧ Lr x.2.1 x.2.2.1 ∧ Bg x.2.2.1 x.2.2.2) (fun x => nD (pushBag x.1 x.2.1 x.2.2.1 x.2.2.2))) := by
  refine mkP df158 (fun _ => rfl) (fun f cdv A outer s H E' ci a hp => ?_)
  refine ss_cons (s_set 3 (e_ix (e_name 1) (e_nat 0) (i_tD rfl)) nd_ ?_)
  refine ss_cons (s_if (t_cmp (e_name 3) q_parted (o_inS (t := false))) (fun h => by cases h) fun _ => ss_nil ?_)
  refine ss_cons (s_if (t_cmp (e_name 3) q_learnt (o_inS (t := true))) (fun _ => ?_) fun h => by cases h)
  exact ss_cons (s_ret (q_call ok_push_text a (a_cons (e_name 0) (a_cons (e_name 1) (a_cons (e_name 2) a_nil))) hp) rfl)
theorem ok_push_thing : Cle P w K mg base "push_thing" 159 ["stack", "scheme", "thing"] 12 (spP K (fun x : Nat × Nat × List Nat × List Nat => [nD x.1, sch x.2.1 x.2.2.1 x.2.2.2.length, tN x.2.2.2]) (fun x => x.1 + 2 ≤ 2 ^ 1000 ∧ Lr x.2.1 x.2.2.1 ∧ Bg x.2.2.1 x.2.2.2) (fun x => nD (pushBag x.1 x.2.1 x.2.2.1 x.2.2.2))) := by
  refine mkP df159 (fun _ => rfl) (fun f cdv A outer s H E' ci a hp => ?_)
  obtain ⟨stk, g, st, t⟩ := a
  obtain ⟨h1, h2, h3⟩ := hp
  have h2 : Lr g st := h2
  have h3 : Bg st t := h3
  refine ss_cons (s_want (q_call ok_is_number stk (a_cons (e_name 0) a_nil) trivial) ?_)
  refine ss_cons (s_want (q_call ok_is_scheme (g, st, t.length) (a_cons (e_name 1) a_nil) h2.pos) ?_)
  refine ss_cons (s_want (e_to (q_call ok_e_is_thing (g, st, t) (a_cons (e_name 1) (a_cons (e_name 2) a_nil)) h3.tx) (by show PyData.bool (asc t) = _; rw [h3.asc])) ?_)
  exact ss_cons (s_ret (q_call ok_push (stk, g, st, t) (a_cons (e_name 0) (a_cons (e_name 1) (a_cons (e_name 2) a_nil))) ⟨h1, h2, h3⟩) rfl)
theorem ok_pop_text : Cle P w K mg base "_pop_text" 161 ["stack", "scheme"] 9 (spP K (fun x : Nat × Nat × List Nat × Nat => [nD x.1, sch x.2.1 x.2.2.1 x.2.2.2]) (fun x => x.1 + 2 ≤ 2 ^ 1000 ∧ Lr x.2.1 x.2.2.1 ∧ x.2.2.2 ≤ 8) (fun x => .tuple [tN (popBag x.1 x.2.1 x.2.2.1 x.2.2.2).1, nD (popBag x.1 x.2.1 x.2.2.1 x.2.2.2).2])) := by
  refine mkP df161 (fun _ => rfl) (fun f cdv A outer s H E' ci a hp => ?_)
  obtain ⟨stk, g, st, n⟩ := a
  refine ss_cons (s_par 2 3 (e_ix (e_name 1) (e_nat 0) (i_tD rfl)) (e_ix (e_name 1) (e_sub (e_int (n := 1))) (ix_last rfl)) nd_ ?_)
  refine ss_cons (s_if (t_cmp (e_name 2) e_str o_eqS) (fun h => absurd h (by decide +kernel)) fun _ => ss_nil ?_)
  refine ss_cons (s_if (t_cmp (e_name 2) e_str o_eqS) (fun h => absurd h (by decide +kernel)) fun _ => ss_nil ?_)
  refine ss_cons (s_if (t_cmp (e_name 2) e_str o_eqS) (fun h => absurd h (by decide +kernel)) fun _ => ss_nil ?_)
  exact ss_cons (s_ret (q_call ok_pop_bag (stk, g, st, n) (a_cons (e_name 0) (a_cons (e_ix (e_name 1) (e_nat 1) (i_tD rfl)) (a_cons (e_name 3) a_nil))) hp) rfl)
theorem ok_pop : Cle P w K mg base "_pop" 162 ["stack", "scheme"] 10 (spP K (fun x : Nat × Nat × List Nat × Nat => [nD x.1, sch x.2.1 x.2.2.1 x.2.2.2]) (fun x => x.1 + 2 ≤ 2 ^ 1000 ∧ Lr x.2.1 x.2.2.1 ∧ x.2.2.2 ≤ 8) (fun x => .tuple [tN (popBag x.1 x.2.1 x.2.2.1 x.2.2.2).1, nD (popBag x.1 x.2.1 x.2.2.1 x.2.2.2).2])) := by
  refine mkP df162 (fun _ => rfl) (fun f cdv A outer s H E' ci a hp => ?_)
  refine ss_cons (s_set 2 (e_ix (e_name 1) (e_nat 0) (i_tD rfl)) nd_ ?_)
  refine ss_cons (s_if (t_cmp (e_name 2) q_parted (o_inS (t := false))) (fun h => by cases h) fun _ => ss_nil ?_)
  refine ss_cons (s_if (t_cmp (e_name 2) q_learnt (o_inS (t := true))) (fun _ => ?_) fun h => by cases h)
  exact ss_cons (s_ret (q_call ok_pop_text a (a_cons (e_name 0) (a_cons (e_name 1) a_nil)) hp) rfl)
theorem ok_pop_thing : Cle P w K mg base "pop_thing" 163 ["stack", "scheme"] 11 (spP K (fun x : Nat × Nat × List Nat × Nat => [nD x.1, sch x.2.1 x.2.2.1 x.2.2.2]) (fun x => x.1 + 2 ≤ 2 ^ 1000 ∧ Lr x.2.1 x.2.2.1 ∧ x.2.2.2 ≤ 8) (fun x => .tuple [tN (popBag x.1 x.2.1 x.2.2.1 x.2.2.2).1, nD (popBag x.1 x.2.1 x.2.2.1 x.2.2.2).2])) := by
  refine mkP df163 (fun _ => rfl) (fun f cdv A outer s H E' ci a hp => ?_)
  obtain ⟨stk, g, st, n⟩ := a
  have h2 : Lr g st := hp.2.1
  refine ss_cons (s_want (q_call ok_is_number stk (a_cons (e_name 0) a_nil) trivial) ?_)
  refine ss_cons (s_want (q_call ok_is_scheme (g, st, n) (a_cons (e_name 1) a_nil) h2.pos) ?_)
  exact ss_cons (s_ret (q_call ok_pop (stk, g, st, n) (a_cons (e_name 0) (a_cons (e_name 1) a_nil)) hp) rfl)
end
end K67
namespace K67
open PySem PySem.Spec PyProof.Rows L2
/-- the text of a rank among the texts of these counts -/
def textF : Nat → List Nat → Nat → List Nat
  | 0, _, _ => []
  | n + 1, cs, r => (seek (marks cs) r).1 :: textF n (less cs (seek (marks cs) r).1) (seek (marks cs) r).2
def textT (cs : List Nat) (r : Nat) : List Nat := textF cs.sum cs r
theorem seek_marks {cs : List Nat} {r : Nat} (h0 : 0 < cs.sum) (h : r < multi cs) : 0 < cs.getD (seek (marks cs) r).1 0 ∧ (seek (marks cs) r).2 < multi (less cs (seek (marks cs) r).1) ∧ ((marks cs).take (seek (marks cs) r).1).sum + (seek (marks cs) r).2 = r := by
  rw [← marks_sum h0] at h
  obtain ⟨a, b, c⟩ := seek_lt h
  rw [marks_get] at b
  have hp : 0 < cs.getD (seek (marks cs) r).1 0 := by
    rcases Nat.eq_zero_or_pos (cs.getD (seek (marks cs) r).1 0) with z | z
    · rw [begins_zero z] at b; omega
    · exact z
  rw [begins_pos hp] at b
  exact ⟨hp, b, c⟩
theorem ramp_left (m : Nat) : ramp (m : Int) (-1) m = (List.range m).map fun i => nD (m - i) := by
  unfold ramp
  apply List.map_congr_left
  intro i hi
  rw [List.mem_range] at hi
  show PyData.int _ = PyData.int _
  congr 1
  omega
/-- rows of letters, ascending where they are kept -/
def okRow (row : List Nat) : Bool := decide (row.length = 1) || decide (row.getD (row.length - 2) 0 ≤ row.getD (row.length - 1) 0)
def allTx (ls : List Nat) : Nat → List (List Nat)
  | 0 => [[]]
  | n + 1 => ((allTx ls n).flatMap fun r => ls.map fun l => r ++ [l]).filter okRow
theorem sum_rep (n c : Nat) : (List.replicate n c).sum = n * c := by
  induction n with
  | zero => simp
  | succ n ih => rw [List.replicate_succ, List.sum_cons, ih, Nat.succ_mul]; omega
theorem allTx_len (ls : List Nat) : ∀ n, (allTx ls n).length ≤ ls.length ^ n
  | 0 => Nat.le_refl _
  | n + 1 => by
    refine Nat.le_trans (List.length_filter_le _ _) ?_
    rw [List.length_flatMap]
    have e : (allTx ls n).map (fun r => (ls.map fun l => r ++ [l]).length) = List.replicate (allTx ls n).length ls.length := by
      rw [List.eq_replicate_iff]
      exact ⟨by simp, fun b hb => by
        obtain ⟨r, _, rfl⟩ := List.mem_map.mp hb
        simp⟩
    rw [e, sum_rep]
    show (allTx ls n).length * ls.length ≤ ls.length ^ (n + 1)
    rw [Nat.pow_succ]
    exact Nat.mul_le_mul_right _ (allTx_len ls n)
theorem allTx_row (ls : List Nat) : ∀ n r, r ∈ allTx ls n → r.length = n
  | 0, r, h => by rw [List.mem_singleton.mp h]; rfl
  | n + 1, r, h => by
    obtain ⟨q, hq, h2⟩ := List.mem_flatMap.mp (List.mem_filter.mp h).1
    obtain ⟨l, _, rfl⟩ := List.mem_map.mp h2
    rw [List.length_append, allTx_row ls n q hq]
    rfl
theorem at_neg {α : Type} {xs : List α} {j : Nat} {x : α} (hj : 0 < j) (hl : j ≤ xs.length) (h : xs[xs.length - j]? = some x) : atI xs (-(j : Int)) = some x := by
  unfold atI ixN
  rw [if_neg (by omega), if_pos (by omega)]
  show xs[((-(j : Int)) + xs.length).toNat]? = some x
  rw [show ((-(j : Int)) + xs.length).toNat = xs.length - j by omega]
  exact h
section
variable {P : Program} {w : World} {K : PySem.W.Frag} {mg : Str → Option Value} {base : Heap} [W : Wd K mg] [WE : WdE w K mg]
theorem ok_text_by : Cle P w K mg base "text_by" 21 ["counts", "rank"] 5 (spP K (fun x : List Nat × Nat => [tN x.1, nD x.2]) (fun x => x.1.length ≤ 8 ∧ x.1.sum ≤ 41 ∧ x.2 < multi x.1) (fun x => tN (textT x.1 x.2))) := by
  refine mkP df21 (fun _ => rfl) (fun f cdv A outer s H E' ci a hp => ?_)
  obtain ⟨cs0, r0⟩ := a
  obtain ⟨h1, h2, h3⟩ := hp
  have h1 : cs0.length ≤ 8 := h1
  have h2 : cs0.sum ≤ 41 := h2
  have h3 : r0 < multi cs0 := h3
  refine ss_cons (s_want (q_call ok_a_is_numbers cs0 (a_cons (e_name 0) a_nil) (show cs0.length < 5000 by omega)) ?_)
  refine ss_cons (s_set 2 (q_call ok_f_how_many (true, cs0) (a_cons (e_name 0) a_nil) h2) nd_ ?_)
  refine ss_cons (s_want (e_to (e_and (q_call ok_is_number r0 (a_cons (e_name 1) a_nil) trivial) fun _ => e_one (e_cmp (e_name 1) (e_name 2) n_lt)) (by rw [decide_eq_true h3]; rfl)) ?_)
  refine ss_cons (s_setL 3 (q_list (e_name 0)) nd_ ?_)
  refine ss_cons (s_setL 4 (el_list a_nil) nd_ ?_)
  refine ss_cons (s_forM (xs := List.range cs0.sum) (g := fun i => nD (cs0.sum - i)) (fun k ρ' => ∃ u v cs r t, cs.length = cs0.length ∧ cs.sum + k = cs0.sum ∧ r < multi cs ∧ t.length = k ∧ t ++ textF cs.sum cs r = textT cs0 r0 ∧ ρ' = [.im (tN cs0), .im (nD r), .im (nD (multi cs)), .ow (cs.map nD), .ow (t.map nD), u, v])
    (by rw [← ramp_left]; exact src_rng3 (q_sum (e_name 0)) (e_int (n := 0)) (e_sub (e_int (n := 1))) (by have q := RgC.neg (i := (cs0.sum : Int)) (j := 0) (by omega) (by omega) (by omega) (by omega); rwa [show ((cs0.sum : Int) - 0).toNat = cs0.sum by omega] at q) (fr_ (by decide +kernel))) ⟨_, _, cs0, r0, [], rfl, rfl, h3, rfl, rfl, rfl⟩ (fun k hk ρ' ⟨u, v, cs, r, t, c1, c2, c3, c4, c5, hu⟩ => ?_) (fun ρ' ⟨u, v, cs, r, t, c1, c2, c3, c4, c5, hu⟩ => ?_))
  · subst hu
    rw [List.length_range] at hk
    have e1 : (List.range cs0.sum)[k]'(by simpa using hk) = k := by simp
    rw [e1]
    have hs : 0 < cs.sum := by omega
    have hlb : cs0.sum - k = cs.sum := by omega
    rw [hlb]
    have hlB : cs.sum < BIG := lt_big (k := 10) (by omega) (by decide)
    have hmu : multi cs < BIG := Nat.lt_of_le_of_lt (multi_le cs) (fact_BIG (by omega))
    have hcb : ∀ j, cs.getD j 0 < BIG := fun j => lt_big (k := 10) (by have := getD_le_sum cs j; omega) (by decide)
    obtain ⟨m1, m2, m3⟩ := seek_marks hs c3
    have hmk : r < (marks cs).sum := by rw [marks_sum hs]; exact c3
    refine ⟨[5], _, tg_name 5 nd_, ?_⟩
    refine ss_cons (s_set 6 (e_nat 0) nd_ ?_)
    refine ss_cons (s_while (fun m ρ' => ∃ j p, m = cs.length - j ∧ p < ((marks cs).drop j).sum ∧ j ≤ cs.length ∧ seek (marks cs) r = (j + (seek ((marks cs).drop j) p).1, (seek ((marks cs).drop j) p).2) ∧ ρ' = [.im (tN cs0), .im (nD p), .im (nD (multi cs)), .ow (cs.map nD), .ow (t.map nD), .im (nD cs.sum), .im (nD j)]) cs.length ⟨0, r, by simp, by simpa using hmk, by simp, by simp, rfl⟩ ?_)
    rintro m ρ' ⟨j, p, rfl, hp, hj, hsk, rfl⟩
    have hjl : j < cs.length := by
      rcases Nat.lt_or_eq_of_le hj with q | q
      · exact q
      · rw [List.drop_eq_nil_of_le (by rw [marks_len]; omega)] at hp
        simp at hp
    have hjm : j < (marks cs).length := by rw [marks_len]; exact hjl
    have eb : multi cs * cs.getD j 0 / cs.sum = (marks cs).getD j 0 := by rw [marks_get]; rfl
    refine ⟨_, t_cmp (e_name 1) (e_un (j := 3) (e_bin (e_bin (e_name 2) (e_ix (e_name 3) (e_name 6) (i_lN hjl)) (n_mul hmu (hcb j))) (e_name 5) (n_div hs hlB)) rfl rfl) n_ge, fun h => ?_, fun h => ?_⟩
    · have hge : (marks cs).getD j 0 ≤ p := by rw [← eb]; exact of_decide_eq_true h
      have hno : ¬ p < (marks cs).getD j 0 := by omega
      refine ss_cons (s_aug 1 rfl (e_un (j := 3) (e_bin (e_bin (e_name 2) (e_ix (e_name 3) (e_name 6) (i_lN hjl)) (n_mul hmu (hcb j))) (e_name 5) (n_div hs hlB)) rfl rfl) (ipn_sub (by rw [eb]; exact hge)) nd_ ?_)
      refine ss_cons (s_aug 6 rfl (e_nat 1) ipn_add nd_ (ss_nil ⟨cs.length - (j + 1), by omega, j + 1, p - (marks cs).getD j 0, rfl, ?_, hjl, ?_, ?_⟩))
      · rw [sum_drop hjm] at hp
        omega
      · rw [hsk, seek_drop hjm hno]
        simp only [Prod.mk.injEq, and_true]
        omega
      · rw [← eb]; rfl
    · have hlt : p < (marks cs).getD j 0 := by
        have := of_decide_eq_false h
        rw [eb] at this
        omega
      rw [seek_stop hjm hlt] at hsk
      have ej : (seek (marks cs) r).1 = j := by rw [hsk]; rfl
      have ep : (seek (marks cs) r).2 = p := by rw [hsk]
      rw [ej] at m1 m2 m3
      rw [ep] at m2 m3
      have em : multi cs * cs.getD j 0 / cs.sum = multi (less cs j) := begins_pos m1
      have hd1 : 1 ≤ cs[j] := by
        have : cs[j] = cs.getD j 0 := by rw [List.getD_eq_getElem?_getD, List.getElem?_eq_getElem hjl]; rfl
        omega
      refine ss_cons (s_set 2 (e_un (j := 3) (e_bin (e_bin (e_name 2) (e_ix (e_name 3) (e_name 6) (i_lN hjl)) (n_mul hmu (hcb j))) (e_name 5) (n_div hs hlB)) rfl rfl) nd_ ?_)
      refine ss_cons (s_augi 3 (k := j) cK rfl (by rw [List.getElem?_map, List.getElem?_eq_getElem hjl]; rfl) (e_name 6) rfl (e_nat 1) (ipn_sub hd1) ?_)
      refine ss_cons (s_app 4 cK rfl (e_name 6) (by rw [List.length_map, sizeLine_eq]; omega) (ss_nil ?_))
      have e3 : (cs.map nD).set j (nD (cs[j] - 1)) = (less cs j).map nD := by
        unfold less
        rw [List.map_set, List.getD_eq_getElem?_getD, List.getElem?_eq_getElem hjl]
        rfl
      have hls := less_sum m1
      refine ⟨_, _, less cs j, p, t ++ [j], by rw [less_len]; exact c1, by omega, m2, by rw [List.length_append, c4]; rfl, ?_, by rw [← em, ← e3, List.map_append]; rfl⟩
      rw [← c5, ← hls, List.append_assoc]
      show t ++ (j :: textF (less cs j).sum (less cs j) p) = t ++ ((seek (marks cs) r).1 :: textF (less cs j).sum (less cs (seek (marks cs) r).1) (seek (marks cs) r).2)
      rw [ej, ep]
  · subst hu
    have hz : cs.sum = 0 := by rw [List.length_range] at c2; omega
    rw [hz] at c5
    refine ss_cons (s_ret (e_un (j := 4) (q_tuple (e_name 4)) rfl ?_) ?_)
    · show (t.map nD).all scalD = true
      rw [List.all_map]
      exact List.all_eq_true.mpr fun _ _ => rfl
    · show tN t = tN (textT cs0 r0)
      rw [← c5]
      show tN t = tN (t ++ [])
      rw [List.append_nil]
end
end K67
namespace K67
open PySem PySem.Spec PyProof.Rows L2
abbrev rowsD (rows : List (List Nat)) : List PyData := rows.map tN
theorem flat_rows (rows : List (List Nat)) : (rowsD rows).all flatD = true := by
  rw [List.all_eq_true]
  intro x hx
  obtain ⟨r, _, rfl⟩ := List.mem_map.mp hx
  show (r.map nD).all scalD = true
  rw [List.all_map]
  exact List.all_eq_true.mpr fun _ _ => rfl
section
variable {P : Program} {w : World} {K : PySem.W.Frag} {mg : Str → Option Value} {base : Heap} [W : Wd K mg] [WE : WdE w K mg]
theorem ok_all_texts : Cle P w K mg base "_all_texts" 141 ["letters", "many", "ascending"] 1 (spPL K (fun x : List Nat × Nat => [tN x.1, nD x.2, .bool true]) (fun x => x.1.length ≤ 4 ∧ x.2 ≤ 4) (fun x => rowsD (allTx x.1 x.2))) := by
  refine mkPL df141 (fun _ => rfl) (fun f cdv A outer s H E' ci a hp => ?_)
  obtain ⟨ls, n⟩ := a
  obtain ⟨h1, h2⟩ := hp
  have h1 : ls.length ≤ 4 := h1
  have h2 : n ≤ 4 := h2
  refine ss_cons (s_setL 3 (el_list (a_cons (e_tup a_nil) a_nil)) nd_ ?_)
  refine ss_cons (s_forM (xs := List.range n) (g := nD) (fun k ρ' => ∃ u v x, ρ' = [.im (tN ls), .im (nD n), .im (.bool true), .ow (rowsD (allTx ls k)), u, v, x]) (q_rng (e_name 1) (by omega)) ⟨_, _, _, rfl⟩ (fun k hk ρ' ⟨u, v, x, hu⟩ => ?_) (fun ρ' ⟨u, v, x, hu⟩ => ?_))
  · subst hu
    rw [List.length_range] at hk
    have hb : (allTx ls k).length ≤ 4 ^ 4 := Nat.le_trans (allTx_len ls k) (Nat.le_trans (Nat.pow_le_pow_left h1 k) (Nat.pow_le_pow_right (by decide) (by omega)))
    have hb2 : ((allTx ls k).flatMap fun r => ls.map fun l => r ++ [l]).length ≤ 1024 := by
      rw [List.length_flatMap]
      have e : (allTx ls k).map (fun r => (ls.map fun l => r ++ [l]).length) = List.replicate (allTx ls k).length ls.length := by
        rw [List.eq_replicate_iff]
        exact ⟨by simp, fun b hb => by
          obtain ⟨r, _, rfl⟩ := List.mem_map.mp hb
          simp⟩
      rw [e, sum_rep]
      exact Nat.mul_le_mul hb h1
    have ef : (allTx ls k).flatMap (fun r => ls.map fun l => tN (r ++ [l])) = rowsD ((allTx ls k).flatMap fun r => ls.map fun l => r ++ [l]) := by
      unfold rowsD
      rw [List.map_flatMap]
      congr 1
      funext r
      rw [List.map_map]
      rfl
    refine ⟨[4], _, tg_name 4 nd_, ?_⟩
    refine ss_cons (ls_own (j := 3) (ws := rowsD ((allTx ls k).flatMap fun r => ls.map fun l => r ++ [l])) (ls_un (m := 3) ?_ rfl (flat_rows _)) ?_)
    · rw [← ef]
      refine ls_lc2 (xs := allTx ls k) (g := tN) (ys := fun _ => ls) (g1 := fun _ => nD) (h := fun r l => tN (r ++ [l])) [("row", 5), ("letter", 6)] [6] (src_list cK (e_name 3)) (fun r hr => ?_) (by rw [ef, List.length_map]; omega) (by simp)
      have hrl := allTx_row ls k r hr
      refine ⟨[5], _, by simp, tg_name 5 nd_, src_tup cK (e_name 0), fun l hl => ⟨[6], _, by simp, tg_name 6 nd_, ?_⟩⟩
      refine e_to (e_bin (e_name 5) (e_tup (a_cons (e_name 6) a_nil)) (q_cat (by simp; omega))) ?_
      show PyData.tuple (r.map nD ++ [nD l]) = PyData.tuple ((r ++ [l]).map nD)
      rw [List.map_append]
      rfl
    · refine ss_cons (s_if (t_val (e_name 2)) (fun _ => ?_) fun h => by cases h)
      refine ss_cons (ls_own (j := 3) (ws := rowsD (allTx ls (k + 1))) (ls_un (m := 3) ?_ rfl (flat_rows _)) (ss_nil (ss_nil ⟨_, _, _, rfl⟩)))
      refine ls_lcF (xs := (allTx ls k).flatMap fun r => ls.map fun l => r ++ [l]) (g := tN) (h := tN) (t := okRow) [("row", 5)] (src_list cK (e_name 3)) (by omega) (fun r hr => ?_)
      obtain ⟨q, hq, h3⟩ := List.mem_flatMap.mp hr
      obtain ⟨l, _, rfl⟩ := List.mem_map.mp h3
      have hql := allTx_row ls k q hq
      have hlen : (q ++ [l]).length = k + 1 := by rw [List.length_append, hql]; rfl
      refine lc_if 5 ?_ fun _ => e_name 5
      refine t_of (t_or (t_cmp (q_len (e_name 5) (hm := List.length_map ..)) (e_nat 1) n_eq) fun h0 => t_or1 (t_cmp (e_ix (e_name 5) (e_sub (e_int (n := 2))) (i_tup cK (at_neg (j := 2) (by decide) ?_ ?_))) (e_ix (e_name 5) (e_sub (e_int (n := 1))) (i_tup cK (at_neg (j := 1) (by decide) ?_ ?_))) n_le))
      all_goals have h0' : (q ++ [l]).length ≠ 1 := of_decide_eq_false h0
      · rw [List.length_map]; omega
      · rw [List.length_map, List.getElem?_map, List.getElem?_eq_getElem (show (q ++ [l]).length - 2 < (q ++ [l]).length by omega), List.getD_eq_getElem?_getD, List.getElem?_eq_getElem (show (q ++ [l]).length - 2 < (q ++ [l]).length by omega)]
        rfl
      · rw [List.length_map]; omega
      · rw [List.length_map, List.getElem?_map, List.getElem?_eq_getElem (show (q ++ [l]).length - 1 < (q ++ [l]).length by omega), List.getD_eq_getElem?_getD, List.getElem?_eq_getElem (show (q ++ [l]).length - 1 < (q ++ [l]).length by omega)]
        rfl
  · subst hu
    rw [List.length_range]
    exact ss_cons (s_retO 3 rfl rfl)
theorem able_len (st : List Nat) : (ableL st).length ≤ st.length := by
  unfold ableL
  exact Nat.le_trans (List.length_filter_le _ _) (by simp)
theorem ok_e_all : Cle P w K mg base "e_all" 143 ["scheme"] 6 (spPL K (fun x : Nat × List Nat × Nat => [sch x.1 x.2.1 x.2.2]) (fun x => Lr x.1 x.2.1 ∧ x.2.2 ≤ 4) (fun x => rowsD (allTx (ableL x.2.1) x.2.2))) := by
  refine mkPL df143 (fun _ => rfl) (fun f cdv A outer s H E' ci a hp => ?_)
  obtain ⟨g, st, n⟩ := a
  have h1 : Lr g st := hp.1
  refine ss_cons (s_set 1 (e_ix (e_name 0) (e_nat 0) (i_tD rfl)) nd_ ?_)
  refine ss_cons (s_if (t_cmp (e_name 1) q_parted (o_inS (t := false))) (fun h => by cases h) fun _ => ss_nil ?_)
  refine ss_cons (s_if (t_cmp (e_name 1) q_learnt (o_inS (t := true))) (fun _ => ?_) fun h => by cases h)
  refine ss_cons (s_retL (ql_call ok_all_texts (ableL st, n) (a_cons (q_call ok_letters_of st (a_cons (q_call ok_starts (g, st, n) (a_cons (e_name 0) a_nil) trivial) a_nil) ⟨h1.pos, h1.len⟩) (a_cons (e_ix (e_name 0) (e_sub (e_int (n := 1))) (ix_last rfl)) (a_cons (e_to (e_cmp (e_name 1) e_str o_eqS) ?_) a_nil))) ⟨Nat.le_trans (able_len st) h1.len, hp.2⟩) rfl)
  rw [show decide (("bag" : Str) = ("bag" : Str)) = true by decide +kernel]
theorem ok_things_of : Cle P w K mg base "things_of" 144 ["scheme"] 8 (spPL K (fun x : Nat × List Nat × Nat => [sch x.1 x.2.1 x.2.2]) (fun x => Lr x.1 x.2.1 ∧ x.2.2 ≤ 4) (fun x => rowsD (allTx (ableL x.2.1) x.2.2))) := by
  refine mkPL df144 (fun _ => rfl) (fun f cdv A outer s H E' ci a hp => ?_)
  have h1 : Lr a.1 a.2.1 := hp.1
  refine ss_cons (s_want (q_call ok_is_scheme a (a_cons (e_name 0) a_nil) h1.pos) ?_)
  exact ss_cons (s_retL (ql_call ok_e_all a (a_cons (e_name 0) a_nil) hp) rfl)
theorem ok_e_many : Cle P w K mg base "e_many" 146 ["scheme"] 6 (spP K (fun x : Nat × List Nat × Nat => [sch x.1 x.2.1 x.2.2]) (fun x => Lr x.1 x.2.1 ∧ x.2.2 ≤ 4 ∧ 0 < (ableL x.2.1).length) (fun x => nD (cmb ((ableL x.2.1).length + x.2.2 - 1) x.2.2))) := by
  refine mkP df146 (fun _ => rfl) (fun f cdv A outer s H E' ci a hp => ?_)
  obtain ⟨g, st, n⟩ := a
  obtain ⟨h1, h2, h3⟩ := hp
  have h1 : Lr g st := h1
  have h2 : n ≤ 4 := h2
  have h3 : 0 < (ableL st).length := h3
  have h4 := able_len st
  have h5 := h1.len
  refine ss_cons (s_set 1 (e_ix (e_name 0) (e_nat 0) (i_tD rfl)) nd_ ?_)
  refine ss_cons (s_if (t_cmp (e_name 1) q_parted (o_inS (t := false))) (fun h => by cases h) fun _ => ss_nil ?_)
  refine ss_cons (s_if (t_cmp (e_name 1) q_learnt (o_inS (t := true))) (fun _ => ?_) fun h => by cases h)
  refine ss_cons (s_set 2 (q_len (q_call ok_letters_of st (a_cons (q_call ok_starts (g, st, n) (a_cons (e_name 0) a_nil) trivial) a_nil) ⟨h1.pos, h1.len⟩) (hm := List.length_map ..)) nd_ ?_)
  refine ss_cons (s_if (t_cmp (e_name 1) e_str o_eqS) (fun _ => ?_) fun h => absurd h (by decide +kernel))
  exact ss_cons (s_ret (q_call ok_choose ((ableL st).length + n - 1, n) (a_cons (e_bin (e_bin (e_name 2) (e_ix (e_name 0) (e_sub (e_int (n := 1))) (ix_last rfl)) n_add) (e_nat 1) (n_sub (by omega))) (a_cons (e_ix (e_name 0) (e_sub (e_int (n := 1))) (ix_last rfl)) a_nil)) (show (ableL st).length + n - 1 < 10000 by omega)) rfl)
theorem ok_how_many : Cle P w K mg base "how_many" 147 ["scheme"] 8 (spP K (fun x : Nat × List Nat × Nat => [sch x.1 x.2.1 x.2.2]) (fun x => Lr x.1 x.2.1 ∧ x.2.2 ≤ 4 ∧ 0 < (ableL x.2.1).length) (fun x => nD (cmb ((ableL x.2.1).length + x.2.2 - 1) x.2.2))) := by
  refine mkP df147 (fun _ => rfl) (fun f cdv A outer s H E' ci a hp => ?_)
  have h1 : Lr a.1 a.2.1 := hp.1
  refine ss_cons (s_want (q_call ok_is_scheme a (a_cons (e_name 0) a_nil) h1.pos) ?_)
  exact ss_cons (s_ret (q_call ok_e_many a (a_cons (e_name 0) a_nil) hp) rfl)
end
end K67
namespace K67
open PySem PySem.Spec PyProof.Rows L2
section
variable {P : Program} {w : World} {K : PySem.W.Frag} {mg : Str → Option Value} {base : Heap} [W : Wd K mg] [WE : WdE w K mg]
section
variable {k : Nat} {ι : Type} {F : ι → Cx} {e a b c : Expr} {ρ : DE} {pos p : Pos} {ds : List PyData} {Δ : De} {d2 d3 : PyData}
/-- range(n - 1, -1, -1) -/
theorem q_down [C : Cal P w K mg base k F] {tg : Expr} {m : Nat} (h : E K F a ρ (.int ((m : Int) - 1))) (h2 : E K F b ρ (.int (-1))) (h3 : E K F c ρ (.int (-1))) (hm : m < 100000) (hg : ∀ i, Gl (F i) "range" := by intro _; rfl)
    (hs : ∀ i, starEach [a, b, c] (F i).env = (false, eval a (F i).env) :: starEach [b, c] (F i).env := by intro _; rfl) (hs2 : ∀ i, starEach [b, c] (F i).env = (false, eval b (F i).env) :: starEach [c] (F i).env := by intro _; rfl) (hs3 : ∀ i, starEach [c] (F i).env = (false, eval c (F i).env) :: starEach [] (F i).env := by intro _; rfl)
    (hp : ∀ i, (backTo pos (starEach [b, c] (F i).env)).any (·.1) = false := by intro _; rfl) : Src K F tg (.Call (.Name "range" p) [a, b, c] [] pos) ρ ((List.range m).map fun i => nD (m - 1 - i)) := by
  rw [← ramp_down]
  refine src_rng3 h h2 h3 ?_ (fr_ (by decide +kernel)) hg hs hs2 hs3 hp
  have q := RgC.neg (i := (m : Int) - 1) (j := -1) (by omega) (by omega) (by omega) (by omega)
  rwa [show ((m : Int) - 1 - -1).toNat = m by omega] at q
/-- the first of two is a new list, one's own -/
theorem s_parL [C : Cal P w K mg base k F] {x y : Str} {px py pt : Pos} {kt k2 : Nat} {pt2 : Pos} (i j : Nat) (h1 : EL K F a ρ ds) (h2 : E K F b ρ d2) (h : Δ.nx ((ρ.set i (.ow ds)).set j (.im d2))) (hi : ∀ k, (F k).N[i]? = some x := by intro _; rfl) (hj : ∀ k, (F k).N[j]? = some y := by intro _; rfl) (hij : i ≠ j := by decide)
    (hx : ∀ k, (F k).env.scope.names.lookup x = some .local := by intro _; rfl) (hy : ∀ k, (F k).env.scope.names.lookup y = some .local := by intro _; rfl)
    (hw : ∀ k, swappedStores [.Tuple [.Name x px, .Name y py] kt pt] (.Tuple [a, b] k2 pt2) (F k).env = pure (some [x, y]) := by intro _; rfl)
    (hs : ∀ k, swapsWithSole [.Tuple [.Name x px, .Name y py] kt pt] (.Tuple [a, b] k2 pt2) pos.line (F k).env = pure false := by intro _; rfl)
    (g1 : ∀ i, starEach [a, b] (F i).env = (false, eval a (F i).env) :: starEach [b] (F i).env := by intro _; rfl) (g2 : ∀ i, starEach [b] (F i).env = (false, eval b (F i).env) :: starEach [] (F i).env := by intro _; rfl) :
    S K F (.Assign [.Tuple [.Name x px, .Name y py] kt pt] (.Tuple [a, b] k2 pt2) pos) ρ Δ := fun B I0 I H σ D r re => by
  refine ⟨_, fun k => L2.ps_par (C.calm k) (C.nd k) (hi k) (hj k) hij (hx k) (hy k) (pa_cons (pe_tE (F := F) (e := a) k) (pa_cons (pe_tE (F := F) (e := b) k) pa_nil (g2 k)) (g1 k)) (hw k) (hs k), ?_⟩
  refine h1 B I0 I H σ r _ fun l vs I1 H1 f1 k1 k2 k3 k4 => ?_
  refine h2 B I0 I1 H1 σ (r.ext f1) _ fun v I2 H2 f2 d2 => ?_
  have q2 : I2 l = none := f2.sep l k2 (by rw [k3]; exact nofun)
  refine ⟨_, _, rfl, re.nx I2 H2 _ _ ((((r.ext f1).ext f2).setOw (Ex.none r.fr.h k1) q2 (f2.h _ _ k3) (dpa_mono f2.i k4) fun m us hm hu hO hσ => ?_).set d2) h⟩
  obtain ⟨l2, vs2, g1, g2, g3, g4⟩ := r.lo hu hO
  rw [hσ] at g1
  cases g1
  rw [k1] at g4
  cases g4
theorem s_par3L [C : Cal P w K mg base k F] {x y v : Str} {px py pz pt : Pos} {kt k2 : Nat} {pt2 : Pos} (i j l : Nat) (h1 : EL K F a ρ ds) (h2 : E K F b ρ d2) (h3 : E K F c ρ d3) (h : Δ.nx (((ρ.set i (.ow ds)).set j (.im d2)).set l (.im d3)))
    (hi : ∀ k, (F k).N[i]? = some x := by intro _; rfl) (hj : ∀ k, (F k).N[j]? = some y := by intro _; rfl) (hl : ∀ k, (F k).N[l]? = some v := by intro _; rfl) (hij : i ≠ j := by decide) (hil : i ≠ l := by decide) (hjl : j ≠ l := by decide)
    (hx : ∀ k, (F k).env.scope.names.lookup x = some .local := by intro _; rfl) (hy : ∀ k, (F k).env.scope.names.lookup y = some .local := by intro _; rfl) (hv : ∀ k, (F k).env.scope.names.lookup v = some .local := by intro _; rfl)
    (hw : ∀ k, swappedStores [.Tuple [.Name x px, .Name y py, .Name v pz] kt pt] (.Tuple [a, b, c] k2 pt2) (F k).env = pure (some [x, y, v]) := by intro _; rfl)
    (hs : ∀ k, swapsWithSole [.Tuple [.Name x px, .Name y py, .Name v pz] kt pt] (.Tuple [a, b, c] k2 pt2) pos.line (F k).env = pure false := by intro _; rfl)
    (g1 : ∀ i, starEach [a, b, c] (F i).env = (false, eval a (F i).env) :: starEach [b, c] (F i).env := by intro _; rfl) (g2 : ∀ i, starEach [b, c] (F i).env = (false, eval b (F i).env) :: starEach [c] (F i).env := by intro _; rfl) (g3 : ∀ i, starEach [c] (F i).env = (false, eval c (F i).env) :: starEach [] (F i).env := by intro _; rfl) :
    S K F (.Assign [.Tuple [.Name x px, .Name y py, .Name v pz] kt pt] (.Tuple [a, b, c] k2 pt2) pos) ρ Δ := fun B I0 I H σ D r re => by
  refine ⟨_, fun k => L2.ps_par3 (C.calm k) (C.nd k) (hi k) (hj k) (hl k) hij hil hjl (hx k) (hy k) (hv k) (pa_cons (pe_tE (F := F) (e := a) k) (pa_cons (pe_tE (F := F) (e := b) k) (pa_cons (pe_tE (F := F) (e := c) k) pa_nil (g3 k)) (g2 k)) (g1 k)) (hw k) (hs k), ?_⟩
  refine h1 B I0 I H σ r _ fun l vs I1 H1 f1 k1 k2 k3 k4 => ?_
  refine h2 B I0 I1 H1 σ (r.ext f1) _ fun u I2 H2 f2 e2 => ?_
  refine h3 B I0 I2 H2 σ ((r.ext f1).ext f2) _ fun u' I3 H3 f3 e3 => ?_
  have f23 := f2.trans f3
  have q2 : I3 l = none := f23.sep l k2 (by rw [k3]; exact nofun)
  refine ⟨_, _, _, rfl, re.nx I3 H3 _ _ (((((r.ext f1).ext f23).setOw (Ex.none r.fr.h k1) q2 (f23.h _ _ k3) (dpa_mono f23.i k4) fun m us hm hu hO hσ => ?_).set (dp_mono f3.i e2)).set e3) h⟩
  obtain ⟨l2, vs2, g1, g2, g3, g4⟩ := r.lo hu hO
  rw [hσ] at g1
  cases g1
  rw [k1] at g4
  cases g4
end
theorem ok_law_low : Cle P w K mg base "_law_low" 170 ["_law_top", "_law_bottom"] 1 (spP K (fun x : Nat × Nat => [nD x.1, nD x.2]) (fun x => 0 < x.2 ∧ x.1 < BIG ∧ x.2 < BIG) (fun x => qD (lowQ x.1 x.2))) := by
  refine mkP df170 (fun _ => rfl) (fun f cdv A outer s H E' ci a hp => ?_)
  obtain ⟨t, b⟩ := a
  obtain ⟨h0, h1, h2⟩ := hp
  refine ss_cons (s_par 2 3 (q_abs (e_name 0)) (e_name 1) nd_ ?_)
  refine ss_cons (s_while (fun m ρ' => ∃ x, Nat.gcd x m = Nat.gcd t b ∧ x < BIG ∧ m < BIG ∧ ρ' = [.im (nD t), .im (nD b), .im (nD x), .im (nD m)]) b ⟨t, rfl, h1, h2, rfl⟩ ?_)
  rintro m ρ' ⟨x, hx, hx1, hm1, rfl⟩
  refine ⟨_, t_cmp (e_name 3) (e_nat 0) n_ne, fun h => ?_, fun h => ?_⟩
  · have hm : 0 < m := by
      have : m ≠ 0 := by simpa using h
      omega
    refine ss_cons (s_par 2 3 (e_name 3) (e_bin (q_int (e_name 2)) (e_name 3) (n_mod hm)) nd_ (ss_nil ⟨x % m, Nat.mod_lt _ hm, m, ?_, hm1, Nat.lt_of_le_of_lt (Nat.mod_le _ _) hx1, rfl⟩))
    rw [← hx, Nat.gcd_comm x m, Nat.gcd_rec m x, Nat.gcd_comm]
  · have hm : m = 0 := by simpa using h
    subst hm
    rw [Nat.gcd_zero_right] at hx
    subst hx
    have hg : 0 < Nat.gcd t b := Nat.gcd_pos_of_pos_right _ h0
    exact ss_cons (s_ret (e_tup (a_cons (e_bin (e_name 0) (e_name 2) (n_div hg hx1)) (a_cons (e_bin (e_name 1) (e_name 2) (n_div hg hx1)) a_nil))) rfl)
theorem ok_law_on : Cle P w K mg base "_law_on" 171 ["_law_pile", "_law_marks", "_law_letter"] 1 (spP K (fun x : Nat × List Nat × Nat => [nD x.1, lN x.2.1, nD x.2.2]) (fun x => x.1 < BIG ∧ Tb x.2.1 ∧ x.2.2 < x.2.1.length ∧ 0 < x.2.1.getD x.2.2 0) (fun x => nD (pushB x.1 x.2.1 x.2.2))) := by
  refine mkP df171 (fun _ => rfl) (fun f cdv A outer s H E' ci a hp => ?_)
  obtain ⟨st, tb, l⟩ := a
  obtain ⟨h1, h2, h3, h4⟩ := hp
  have hc : tb.getD l 0 < BIG := Nat.lt_of_le_of_lt (getD_le_sum tb l) h2.big
  refine ss_cons (s_set 3 (e_ix (e_name 1) (e_name 2) (i_lN h3)) nd_ ?_)
  exact ss_cons (s_ret (e_bin (e_bin (e_bin (q_sumL (e_name 1)) (e_bin (e_name 0) (e_name 3) (n_div h4 hc)) (n_mul h2.big (Nat.lt_of_le_of_lt (Nat.div_le_self _ _) h1))) (q_sumL (e_slice (e_name 1) o_none (o_nat (e_name 2)) (q_toLN l))) n_add) (e_bin (q_int (e_name 0)) (e_name 3) (n_mod h4)) n_add) rfl)
theorem ok_law_off : Cle P w K mg base "_law_off" 172 ["_law_pile", "_law_marks"] 1 (spP K (fun x : Nat × List Nat => [nD x.1, lN x.2]) (fun x => x.1 < BIG ∧ Tb x.2) (fun x => .tuple [nD (popB x.1 x.2).1, nD (popB x.1 x.2).2])) := by
  refine mkP df172 (fun _ => rfl) (fun f cdv A outer s H E' ci a hp => ?_)
  obtain ⟨st, tb⟩ := a
  obtain ⟨h1, h2⟩ := hp
  have hm : st % tb.sum < tb.sum := Nat.mod_lt _ h2.pos
  have hlp : st / tb.sum < BIG := Nat.lt_of_le_of_lt (Nat.div_le_self _ _) h1
  refine ss_cons (s_par 2 3 (e_nat 0) (e_bin (q_int (e_name 0)) (q_sumL (e_name 1)) (n_mod h2.pos)) nd_ ?_)
  refine ss_cons (s_while (fun m ρ' => ∃ j p, m = tb.length - j ∧ p < (tb.drop j).sum ∧ j ≤ tb.length ∧ seek tb (st % tb.sum) = (j + (seek (tb.drop j) p).1, (seek (tb.drop j) p).2) ∧ ρ' = [.im (nD st), .im (lN tb), .im (nD j), .im (nD p)]) tb.length ⟨0, st % tb.sum, by simp, by simpa using hm, by simp, by simp, rfl⟩ ?_)
  rintro m ρ' ⟨j, p, rfl, hp, hj, hs, rfl⟩
  have hjl : j < tb.length := by
    rcases Nat.lt_or_eq_of_le hj with q | q
    · exact q
    · subst q; simp at hp
  have hc : tb.getD j 0 < BIG := Nat.lt_of_le_of_lt (getD_le_sum tb j) h2.big
  refine ⟨_, t_cmp (e_name 3) (e_ix (e_name 1) (e_name 2) (i_lN hjl)) n_ge, fun h => ?_, fun h => ?_⟩
  · have hge : tb.getD j 0 ≤ p := of_decide_eq_true h
    have hno : ¬ p < tb.getD j 0 := by omega
    refine ss_cons (s_par 2 3 (e_bin (e_name 2) (e_nat 1) n_add) (e_bin (e_name 3) (e_ix (e_name 1) (e_name 2) (i_lN hjl)) (n_sub hge)) nd_ (ss_nil ⟨tb.length - (j + 1), by omega, j + 1, p - tb.getD j 0, rfl, ?_, hjl, ?_, rfl⟩))
    · rw [sum_drop hjl] at hp
      omega
    · rw [hs, seek_drop hjl hno]
      simp only [Prod.mk.injEq, and_true]
      omega
  · have hlt : p < tb.getD j 0 := by
      have := of_decide_eq_false h
      omega
    rw [seek_stop hjl hlt] at hs
    refine ss_cons (s_ret (e_tup (a_cons (e_name 2) (a_cons (e_bin (e_bin (e_ix (e_name 1) (e_name 2) (i_lN hjl)) (e_bin (e_name 0) (q_sumL (e_name 1)) (n_div h2.pos h2.big)) (n_mul hc hlp)) (e_name 3) n_add) a_nil))) ?_)
    show PyData.tuple _ = _
    unfold popB
    rw [hs]
    rfl
theorem ok_law_tally : Cle P w K mg base "_law_tally" 183 ["_law_kinds", "_law_row"] 1 (spP K (fun x : Nat × List Nat => [nD x.1, tN x.2]) (fun x => x.1 < 1000) (fun x => tN (tally x.1 x.2))) := by
  refine mkP df183 (fun _ => rfl) (fun f cdv A outer s H E' ci a hp => ?_)
  obtain ⟨n, row⟩ := a
  have hp : n < 1000 := hp
  refine ss_cons (s_ret (q_tuple (q_lcM (xs := List.range n) (g := nD) (h := fun x => nD (row.count x)) [("_law_x", 2)] (q_rng (e_name 0) (by omega)) (by rw [List.length_range]; omega) fun x hx => lc_map 2 (q_count (e_name 1) (e_name 2))).im) ?_)
  show PyData.tuple _ = PyData.tuple _
  unfold tally
  rw [List.map_map]
  rfl
theorem ok_law_pushed : Cle P w K mg base "_law_pushed" 175 ["_law_pile", "_law_teacher_here", "_law_row"] 2 (spP K (fun x : Nat × Nat × List Nat × List Nat => [nD x.1, lrn x.2.1 x.2.2.1, tN x.2.2.2]) (fun x => x.1 + 2 ≤ 2 ^ 1000 ∧ Lr x.2.1 x.2.2.1 ∧ Tx x.2.2.1 x.2.2.2) (fun x => nD (pushLn x.1 x.2.1 x.2.2.1 x.2.2.2))) := by
  refine mkP df175 (fun _ => rfl) (fun f cdv A outer s H E' ci a hp => ?_)
  obtain ⟨stk, g, st, row⟩ := a
  obtain ⟨h1, h2, h3⟩ := hp
  have h1 : stk + 2 ≤ 2 ^ 1000 := h1
  have h2 : Lr g st := h2
  have h3 : Tx st row := h3
  have hl := h3.len
  have h4 := h2.len
  have hfit := tabs_fit (g := g) h3
  have hzl : ((tabsOf g st row).zip row).length = row.length := by rw [List.length_zip, tabs_len, Nat.min_self]
  refine ss_cons (s_asg (e_name 1) (tg_tup cK ci.calm (tgs_cons (js := [3]) (tg_name 3 nd_) (tgs_cons (js := [4]) (tg_name 4 nd_) tgs_nil))) ?_)
  refine ss_cons (s_forM (xs := List.range row.length) (g := fun i => nD (row.length - 1 - i)) (fun k ρ' => ∃ u, ρ' = [.im (nD (pushL stk (((tabsOf g st row).zip row).drop (row.length - k)))), .im (lrn g st), .im (tN row), .im (nD g), .im (tN st), u, .no]) (q_down (m := row.length) (e_bin (q_len (e_name 2) (hm := List.length_map ..)) e_int o_sub) (e_sub (e_int (n := 1))) (e_sub (e_int (n := 1))) (by omega)) ⟨.no, ?_⟩ (fun k hk ρ' ⟨u, hu⟩ => ?_) (fun ρ' ⟨u, hu⟩ => ?_))
  · rw [Nat.sub_zero, List.drop_eq_nil_of_le (by rw [hzl]; exact Nat.le_refl _)]
    rfl
  · subst hu
    rw [List.length_range] at hk
    have e1 : (List.range row.length)[k]'(by simpa using hk) = k := by simp
    rw [e1]
    have hj : row.length - 1 - k < row.length := by omega
    have hjz : row.length - 1 - k < ((tabsOf g st row).zip row).length := by rw [hzl]; exact hj
    have et : ((tabsOf g st row).zip row)[row.length - 1 - k] = (afterT g st (row.take (row.length - 1 - k)), row.getD (row.length - 1 - k) 0) := by
      rw [List.getElem_zip]
      congr 1
      · unfold tabsOf; rw [List.getElem_map, List.getElem_range]
      · rw [List.getD_eq_getElem?_getD, List.getElem?_eq_getElem hj]; rfl
    have hq := hfit.2 _ (List.getElem_mem hjz)
    rw [et] at hq
    have htk : ∀ l ∈ row.take (row.length - 1 - k), l < st.length := fun l q => h3.lt l (List.mem_of_mem_take q)
    have htb := h2.tb htk (by rw [List.length_take]; omega)
    have hbig := pushL_le (st := stk) (B := 1000) (ps := ((tabsOf g st row).zip row).drop (row.length - k)) (fun p hp => by
      have hm := List.mem_of_mem_drop hp
      refine ⟨(hfit.2 p hm).2, ?_⟩
      obtain ⟨i, hi, he⟩ := List.mem_map.mp (List.of_mem_zip hm).1
      rw [← he]
      exact (h2.tb (fun l hl => h3.lt l (List.mem_of_mem_take hl)) (by rw [List.length_take]; omega)).2) h1
    have hB : pushL stk (((tabsOf g st row).zip row).drop (row.length - k)) < BIG := lt_BIG hbig (by rw [List.length_drop, hzl]; omega)
    have hgB : g < BIG := lt_big (k := 10) (by have := h2.gain; omega) (by decide)
    have hcnt : ∀ x, (row.take (row.length - 1 - k)).count x < BIG := fun x => lt_big (k := 10) (by have := List.count_le_length (a := x) (l := row.take (row.length - 1 - k)); rw [List.length_take] at this; omega) (by decide)
    refine ⟨[5], _, tg_name 5 nd_, ss_cons (s_set 0 (q_call ok_law_on (_, afterT g st (row.take (row.length - 1 - k)), row.getD (row.length - 1 - k) 0) (a_cons (e_name 0) (a_cons (e_to (q_lcM (xs := List.range st.length) (g := nD) (h := fun x => nD (st.getD x 0 + g * (row.take (row.length - 1 - k)).count x)) [("_law_x", 6)] (q_rng (q_len (e_name 4) (hm := List.length_map ..)) (by omega)) (by rw [List.length_range]; omega) fun x hx => lc_map 6 (e_bin (e_ix (e_name 4) (e_name 6) (i_tN (List.mem_range.mp hx))) (e_bin (e_name 3) (q_count (e_slice (e_name 2) o_none (o_nat (e_name 5)) (q_toTN _)) (e_name 6)) (n_mul hgB (hcnt x))) n_add)).im ?_) (a_cons (e_ix (e_name 2) (e_name 5) (i_tN hj)) a_nil))) ⟨hB, htb.1, hq⟩) nd_ (ss_nil ?_))⟩
    · show PyData.list _ = PyData.list _
      rw [afterT_eq g st _ htk, List.map_map]
      rfl
    · have e3 : row.length - (k + 1) = row.length - 1 - k := by omega
      have e4 : row.length - 1 - k + 1 = row.length - k := by omega
      exact ⟨_, by rw [e3, pushL_drop (j := row.length - 1 - k) hjz, et, e4]; rfl⟩
  · subst hu
    refine ss_cons (s_ret (e_name 0) ?_)
    show nD _ = nD _
    rw [List.length_range, Nat.sub_self, List.drop_zero]
    rfl
end
end K67
namespace K67
open PySem PySem.Spec PyProof.Rows L2
theorem tN_app (a b : List Nat) : tN (a ++ b) = .tuple (a.map nD ++ b.map nD) := by rw [← List.map_append]
/-- the rank of a text of letters below 8, by all eight counts -/
def rank8 (row : List Nat) : Nat := rankF (tally 8 row) row
def ways8 (row : List Nat) : Nat := multi (tally 8 row)
theorem tally_less {n x : Nat} {r : List Nat} (h : x < n) : less (tally n (x :: r)) x = tally n r := by
  refine ext_getD (by rw [less_len, tally_len, tally_len]) fun i hi => ?_
  rw [less_len, tally_len] at hi
  unfold less
  rw [getD_set _ _ _ _ (by rw [tally_len]; exact h), tally_get n _ h, tally_get n _ hi, tally_get n _ hi, List.count_cons_self]
  by_cases q : x = i
  · subst q
    rw [if_pos rfl]
    omega
  · rw [if_neg q, List.count_cons_of_ne q]
section
variable {P : Program} {w : World} {K : PySem.W.Frag} {mg : Str → Option Value} {base : Heap} [W : Wd K mg] [WE : WdE w K mg]
theorem ok_law_popped : Cle P w K mg base "_law_popped" 176 ["_law_pile", "_law_teacher_here", "_law_long"] 2 (spP K (fun x : Nat × Nat × List Nat × Nat => [nD x.1, lrn x.2.1 x.2.2.1, nD x.2.2.2]) (fun x => x.1 < BIG ∧ Lr x.2.1 x.2.2.1 ∧ x.2.2.2 ≤ 8) (fun x => .tuple [tN (popLn x.2.1 x.2.2.1 x.1 x.2.2.2).1, nD (popLn x.2.1 x.2.2.1 x.1 x.2.2.2).2])) := by
  refine mkP df176 (fun _ => rfl) (fun f cdv A outer s H E' ci a hp => ?_)
  obtain ⟨stk, g, st, n⟩ := a
  obtain ⟨h1, h2, h3⟩ := hp
  have h1 : stk < BIG := h1
  have h2 : Lr g st := h2
  have h3 : n ≤ 8 := h3
  have h4 := h2.len
  refine ss_cons (s_asg (e_name 1) (tg_tup cK ci.calm (tgs_cons (js := [3]) (tg_name 3 nd_) (tgs_cons (js := [4]) (tg_name 4 nd_) tgs_nil))) ?_)
  refine ss_cons (s_set 5 (e_tup a_nil) nd_ ?_)
  refine ss_cons (s_forM (xs := List.range n) (g := nD) (fun k ρ' => ∃ u v, ρ' = [.im (nD (popLn g st stk k).2), .im (lrn g st), .im (nD n), .im (nD g), .im (tN st), .im (tN (popLn g st stk k).1), u, v, .no]) (q_rng (e_name 2) (by omega)) ⟨_, _, rfl⟩ (fun k hk ρ' ⟨u, v, hu⟩ => ?_) (fun ρ' ⟨u, v, hu⟩ => ?_))
  · subst hu
    rw [List.length_range] at hk
    obtain ⟨t, l, b⟩ := popLn_ok h2 stk k (by omega)
    have tb := (h2.tb t.lt t.len).1
    have hgB : g < BIG := lt_big (k := 10) (by have := h2.gain; omega) (by decide)
    have hcnt : ∀ x, (popLn g st stk k).1.count x < BIG := fun x => lt_big (k := 10) (by have := List.count_le_length (a := x) (l := (popLn g st stk k).1); omega) (by decide)
    refine ⟨[6], _, tg_name 6 nd_, ?_⟩
    refine ss_cons (s_asg (q_call ok_law_off ((popLn g st stk k).2, afterT g st (popLn g st stk k).1) (a_cons (e_name 0) (a_cons (e_to (q_lcM (xs := List.range st.length) (g := nD) (h := fun x => nD (st.getD x 0 + g * (popLn g st stk k).1.count x)) [("_law_x", 8)] (q_rng (q_len (e_name 4) (hm := List.length_map ..)) (by omega)) (by rw [List.length_range]; omega) fun x hx => lc_map 8 (e_bin (e_ix (e_name 4) (e_name 8) (i_tN (List.mem_range.mp hx))) (e_bin (e_name 3) (q_count (e_name 5) (e_name 8)) (n_mul hgB (hcnt x))) n_add)).im ?_) a_nil)) ⟨Nat.lt_of_le_of_lt b h1, tb⟩) (tg_tup cK ci.calm (tgs_cons (js := [7]) (tg_name 7 nd_) (tgs_cons (js := [0]) (tg_name 0 nd_) tgs_nil))) ?_)
    · show PyData.list _ = PyData.list _
      rw [afterT_eq g st _ t.lt, List.map_map]
      rfl
    · refine ss_cons (s_set 5 (e_bin (e_name 5) (e_tup (a_cons (e_name 7) a_nil)) (q_cat (by rw [List.length_map, l]; show k + 1 ≤ 100000; omega))) nd_ (ss_nil ?_))
      exact ⟨_, _, by show _ = [SD.im (nD (popLn g st stk (k + 1)).2), _, _, _, _, SD.im (tN (popLn g st stk (k + 1)).1), _, _, _]; rw [show (popLn g st stk (k + 1)).1 = (popLn g st stk k).1 ++ [(popB (popLn g st stk k).2 (afterT g st (popLn g st stk k).1)).1] from rfl, tN_app]; rfl⟩
  · subst hu
    rw [List.length_range]
    exact ss_cons (s_ret (e_tup (a_cons (e_name 5) (a_cons (e_name 0) a_nil))) rfl)
theorem ok_law_bag_on : Cle P w K mg base "_law_bag_on" 181 ["_law_pile", "_law_teacher_here", "_law_lot"] 3 (spP K (fun x : Nat × Nat × List Nat × List Nat => [nD x.1, lrn x.2.1 x.2.2.1, tN x.2.2.2]) (fun x => x.1 + 2 ≤ 2 ^ 1000 ∧ Lr x.2.1 x.2.2.1 ∧ Tx x.2.2.1 x.2.2.2) (fun x => nD (pushBag x.1 x.2.1 x.2.2.1 x.2.2.2))) := by
  refine mkP df181 (fun _ => rfl) (fun f cdv A outer s H E' ci a hp => ?_)
  obtain ⟨stk, g, st, bag⟩ := a
  obtain ⟨h1, h2, h3⟩ := hp
  have h1 : stk + 2 ≤ 2 ^ 1000 := h1
  have h2 : Lr g st := h2
  have h3 : Tx st bag := h3
  have hl := h3.len
  have h4 := h2.len
  have hB : stk < BIG := lt_BIG h1 (by decide)
  refine ss_cons (s_parL 3 4 (q_lcM (xs := List.range st.length) (g := nD) (h := fun x => nD (bag.count x)) [("_law_x", 5)] (q_rng (q_len (e_ix (e_name 1) (e_nat 1) (i_tD rfl)) (hm := List.length_map ..)) (by omega)) (by rw [List.length_range]; omega) fun x hx => lc_map 5 (q_count (e_name 2) (e_name 5))) (e_tup a_nil) ?_)
  rw [show (List.range st.length).map (fun x => nD (bag.count x)) = (tally st.length bag).map nD from by unfold tally; rw [List.map_map]; rfl]
  refine ss_cons (s_forM (xs := List.range bag.length) (g := nD) (fun k ρ' => ∃ u v, ρ' = [.im (nD (drawB (tally st.length bag) stk k).2.2), .im (lrn g st), .im (tN bag), .ow ((drawB (tally st.length bag) stk k).1.map nD), .im (tN (drawB (tally st.length bag) stk k).2.1), .no, u, v]) (q_rng (q_len (e_name 2) (hm := List.length_map ..)) (by omega)) ⟨_, _, rfl⟩ (fun k hk ρ' ⟨u, v, hu⟩ => ?_) (fun ρ' ⟨u, v, hu⟩ => ?_))
  · subst hu
    rw [List.length_range] at hk
    have d := drawB_ok h3.lt stk k (by omega)
    have hs : 0 < (drawB (tally st.length bag) stk k).1.sum := by have := d.sum; omega
    have tb : Tb (drawB (tally st.length bag) stk k).1 := ⟨by rw [d.len]; omega, hs, lt_big (k := 10) (by have := d.sum; omega) (by decide)⟩
    obtain ⟨q1, q2, q3⟩ := popB_lt (st := (drawB (tally st.length bag) stk k).2.2) hs
    refine ⟨[6], _, tg_name 6 nd_, ?_⟩
    refine ss_cons (s_asg (e_un (j := 3) (q_call ok_law_off ((drawB (tally st.length bag) stk k).2.2, (drawB (tally st.length bag) stk k).1) (a_cons (e_name 0) (a_cons (e_name 3) a_nil)) ⟨Nat.lt_of_le_of_lt d.le hB, tb⟩) rfl rfl) (tg_tup cK ci.calm (tgs_cons (js := [7]) (tg_name 7 nd_) (tgs_cons (js := [0]) (tg_name 0 nd_) tgs_nil))) ?_)
    refine ss_cons (s_seti 3 (k := (popB (drawB (tally st.length bag) stk k).2.2 (drawB (tally st.length bag) stk k).1).1) rfl (e_un (j := 3) (e_bin (e_ix (e_name 3) (e_name 7) (i_lN q1)) (e_nat 1) (n_sub q2)) rfl rfl) (e_name 7) rfl (by rw [List.length_map]; exact q1) ?_)
    refine ss_cons (s_set 4 (e_bin (e_name 4) (e_tup (a_cons (e_name 7) a_nil)) (q_cat (by rw [List.length_map, d.tl]; show k + 1 ≤ 100000; omega))) nd_ (ss_nil ?_))
    exact ⟨_, _, by show _ = [SD.im (nD (popB _ _).2), _, _, SD.ow ((List.set _ _ _).map nD), SD.im (tN (_ ++ [_])), _, _, _]; rw [List.map_set, tN_app]; rfl⟩
  · subst hu
    rw [List.length_range]
    have d := drawB_ok h3.lt stk bag.length (Nat.le_refl _)
    exact ss_cons (s_ret (q_call ok_law_pushed ((drawB (tally st.length bag) stk bag.length).2.2, g, st, (drawB (tally st.length bag) stk bag.length).2.1) (a_cons (e_name 0) (a_cons (e_name 1) (a_cons (e_name 4) a_nil))) ⟨by have := d.le; show _ + 2 ≤ _; omega, h2, d.tx h3 (Nat.le_refl _)⟩) rfl)
theorem ok_law_bag_off : Cle P w K mg base "_law_bag_off" 182 ["_law_pile", "_law_teacher_here", "_law_long"] 3 (spP K (fun x : Nat × Nat × List Nat × Nat => [nD x.1, lrn x.2.1 x.2.2.1, nD x.2.2.2]) (fun x => x.1 + 2 ≤ 2 ^ 1000 ∧ Lr x.2.1 x.2.2.1 ∧ x.2.2.2 ≤ 8) (fun x => .tuple [tN (popBag x.1 x.2.1 x.2.2.1 x.2.2.2).1, nD (popBag x.1 x.2.1 x.2.2.1 x.2.2.2).2])) := by
  refine mkP df182 (fun _ => rfl) (fun f cdv A outer s H E' ci a hp => ?_)
  obtain ⟨stk, g, st, n⟩ := a
  obtain ⟨h1, h2, h3⟩ := hp
  have h1 : stk + 2 ≤ 2 ^ 1000 := h1
  have h2 : Lr g st := h2
  have h3 : n ≤ 8 := h3
  have h4 := h2.len
  have hB : stk < BIG := lt_BIG h1 (by decide)
  obtain ⟨t, tl, le⟩ := popLn_ok h2 stk n h3
  have hb1 : (popLn g st stk n).2 + 2 ≤ 2 ^ 1000 := by omega
  refine ss_cons (s_asg (q_call ok_law_popped (stk, g, st, n) (a_cons (e_name 0) (a_cons (e_name 1) (a_cons (e_name 2) a_nil))) ⟨hB, h2, h3⟩) (tg_tup cK ci.calm (tgs_cons (js := [3]) (tg_name 3 nd_) (tgs_cons (js := [0]) (tg_name 0 nd_) tgs_nil))) ?_)
  show Ss K _ _ [.im (nD (popLn g st stk n).2), .im (lrn g st), .im (nD n), .im (tN (popLn g st stk n).1), .no, .no] _
  obtain ⟨pq, hpq⟩ : ∃ pq, popLn g st stk n = pq := ⟨_, rfl⟩
  have hval : popBag stk g st n = (srt pq.1, pushL pq.2 (backOf st.length pq.1)) := by unfold popBag; rw [hpq]
  rw [hpq] at t tl le hb1 ⊢
  have hback := back_ok (n := st.length) t.lt (by rw [tl]; exact h3)
  refine ss_cons (s_forM (xs := List.range n) (g := fun i => nD (n - 1 - i)) (fun k ρ' => ∃ u, ρ' = [.im (nD (pushL pq.2 ((backOf st.length pq.1).drop (n - k)))), .im (lrn g st), .im (nD n), .im (tN pq.1), u, .no]) (q_down (m := n) (e_bin (e_name 2) e_int o_sub) (e_sub (e_int (n := 1))) (e_sub (e_int (n := 1))) (by omega)) ⟨.no, ?_⟩ (fun k hk ρ' ⟨u, hu⟩ => ?_) (fun ρ' ⟨u, hu⟩ => ?_))
  · rw [Nat.sub_zero, List.drop_eq_nil_of_le (by rw [back_len, tl]; exact Nat.le_refl _)]
    rfl
  · subst hu
    rw [List.length_range] at hk
    have e1 : (List.range n)[k]'(by simpa using hk) = k := by simp
    rw [e1]
    have hj : n - 1 - k < pq.1.length := by omega
    have hq := back_fit (n := st.length) t.lt hj
    have hts : (tally st.length (pq.1.drop (n - 1 - k))).sum ≤ 8 := by
      rw [tally_sum _ _ fun l q => t.lt l (List.mem_of_mem_drop q), List.length_drop]; omega
    have hbig := pushL_le (st := pq.2) (B := 1000) (ps := (backOf st.length pq.1).drop (n - k)) (fun p hp => hback p (List.mem_of_mem_drop hp)) hb1
    have hB2 : pushL pq.2 ((backOf st.length pq.1).drop (n - k)) < BIG := lt_BIG hbig (by rw [List.length_drop, back_len]; omega)
    have tb : Tb (tally st.length (pq.1.drop (n - 1 - k))) := ⟨by rw [tally_len]; omega, Nat.lt_of_lt_of_le hq.2 (getD_le_sum _ _), lt_big (k := 10) (by omega) (by decide)⟩
    refine ⟨[4], _, tg_name 4 nd_, ss_cons (s_set 0 (q_call ok_law_on (_, tally st.length (pq.1.drop (n - 1 - k)), pq.1.getD (n - 1 - k) 0) (a_cons (e_name 0) (a_cons (e_to (q_lcM (xs := List.range st.length) (g := nD) (h := fun x => nD ((pq.1.drop (n - 1 - k)).count x)) [("_law_x", 5)] (q_rng (q_len (e_ix (e_name 1) (e_nat 1) (i_tD rfl)) (hm := List.length_map ..)) (by omega)) (by rw [List.length_range]; omega) fun x hx => lc_map 5 (q_count (e_slice (e_name 3) (o_nat (e_name 4)) o_none (q_fromTN _)) (e_name 5))).im ?_) (a_cons (e_ix (e_name 3) (e_name 4) (i_tN hj)) a_nil))) ⟨hB2, tb, hq⟩) nd_ (ss_nil ?_))⟩
    · show PyData.list _ = PyData.list ((tally _ _).map nD)
      unfold tally
      rw [List.map_map]
      rfl
    · have e3 : n - (k + 1) = n - 1 - k := by omega
      have e4 : n - 1 - k + 1 = n - k := by omega
      exact ⟨_, by rw [e3, pushL_drop (j := n - 1 - k) (by rw [back_len]; exact hj), back_get hj, e4]; rfl⟩
  · subst hu
    refine ss_cons (s_ret (e_tup (a_cons (q_tuple (q_sorted (e_name 3)).im) (a_cons (e_name 0) a_nil))) ?_)
    show PyData.tuple [tN (srt pq.1), nD (pushL pq.2 ((backOf st.length pq.1).drop (n - (List.range n).length)))] = PyData.tuple [tN (popBag stk g st n).1, nD (popBag stk g st n).2]
    rw [List.length_range, Nat.sub_self, List.drop_zero, hval]
theorem ok_law_placed : Cle P w K mg base "_law_placed" 178 ["_law_row"] 1 (spP K (fun x : List Nat => [tN x]) (fun x => x.length ≤ 41 ∧ ∀ l ∈ x, l < 8) (fun x => .tuple [nD (rank8 x), nD (ways8 x)])) := by
  refine mkP df178 (fun _ => rfl) (fun f cdv A outer s H E' ci row hp => ?_)
  obtain ⟨hl, h8⟩ := hp
  refine ss_cons (s_par3L 1 2 3 (el_rep (el_list (a_cons (e_nat 0) a_nil)) (e_nat 8) (by decide) (by decide)) (e_nat 1) (e_nat 0) ?_)
  refine ss_cons (s_forM (xs := List.range row.length) (g := fun i => nD (row.length - 1 - i)) (fun k ρ' => ∃ u v, ρ' = [.im (tN row), .ow ((tally 8 (row.drop (row.length - k))).map nD), .im (nD (ways8 (row.drop (row.length - k)))), .im (nD (rank8 (row.drop (row.length - k)))), u, v]) (q_down (m := row.length) (e_bin (q_len (e_name 0) (hm := List.length_map ..)) e_int o_sub) (e_sub (e_int (n := 1))) (e_sub (e_int (n := 1))) (by omega)) ⟨.no, .no, ?_⟩ (fun k hk ρ' ⟨u, v, hu⟩ => ?_) (fun ρ' ⟨u, v, hu⟩ => ?_))
  · rw [Nat.sub_zero, List.drop_length]
    rfl
  · subst hu
    rw [List.length_range] at hk
    have e1 : (List.range row.length)[k]'(by simpa using hk) = k := by simp
    rw [e1]
    have hj : row.length - 1 - k < row.length := by omega
    obtain ⟨x, hx⟩ : ∃ x, row.getD (row.length - 1 - k) 0 = x := ⟨_, rfl⟩
    have hxm : row[row.length - 1 - k] = x := by rw [← hx, List.getD_eq_getElem?_getD, List.getElem?_eq_getElem hj]; rfl
    have hx8 : x < 8 := by rw [← hxm]; exact h8 _ (List.getElem_mem hj)
    have e4 : row.length - (row.length - 1 - k) = k + 1 := by omega
    have ed : row.drop (row.length - (k + 1)) = x :: row.drop (row.length - k) := by
      rw [show row.length - (k + 1) = row.length - 1 - k by omega, List.drop_eq_getElem_cons hj, hxm, show row.length - 1 - k + 1 = row.length - k by omega]
    rw [ed]
    obtain ⟨r, hr⟩ : ∃ r, row.drop (row.length - k) = r := ⟨_, rfl⟩
    rw [hr]
    have hrl : r.length = k := by rw [← hr, List.length_drop]; omega
    have hr8 : ∀ l ∈ r, l < 8 := fun l q => h8 l (by rw [← hr] at q; exact List.mem_of_mem_drop q)
    have hxr8 : ∀ l ∈ x :: r, l < 8 := fun l q => by
      rcases List.mem_cons.mp q with rfl | q
      · exact hx8
      · exact hr8 l q
    have hxl : x < (tally 8 r).length := by rw [tally_len]; exact hx8
    have hts : (tally 8 (x :: r)).sum = k + 1 := by rw [tally_sum 8 _ hxr8]; show r.length + 1 = _; omega
    have hcx : (tally 8 (x :: r)).getD x 0 = (tally 8 r).getD x 0 + 1 := by rw [tally_get 8 _ hx8, tally_get 8 _ hx8, List.count_cons_self]
    have hset : (tally 8 r).set x ((tally 8 r).getD x 0 + 1) = tally 8 (x :: r) := by
      refine ext_getD (by rw [List.length_set, tally_len, tally_len]) fun i hi => ?_
      rw [List.length_set, tally_len] at hi
      rw [getD_set _ _ _ _ hxl]
      by_cases q : x = i
      · subst q
        rw [if_pos rfl, hcx]
      · rw [if_neg q, tally_get 8 _ hi, tally_get 8 _ hi, List.count_cons_of_ne q]
    have hpos : 0 < (tally 8 (x :: r)).getD x 0 := by rw [hcx]; omega
    have hml := multi_less hpos
    rw [tally_less hx8, hts] at hml
    have hw : ways8 r * (k + 1) / (tally 8 (x :: r)).getD x 0 = ways8 (x :: r) := by
      show multi (tally 8 r) * (k + 1) / _ = multi (tally 8 (x :: r))
      rw [Nat.mul_comm, ← hml, Nat.mul_div_cancel _ hpos]
    have hwB : ∀ t : List Nat, t.length ≤ 41 → (∀ l ∈ t, l < 8) → ways8 t < BIG := fun t h1 h2 => Nat.lt_of_le_of_lt (multi_le _) (fact_BIG (by rw [tally_sum 8 _ h2]; exact h1))
    have hcB : (tally 8 (x :: r)).getD x 0 < BIG := lt_big (k := 10) (by have := getD_le_sum (tally 8 (x :: r)) x; omega) (by decide)
    have hkB : k + 1 < BIG := lt_big (k := 10) (by omega) (by decide)
    have htB : ((tally 8 (x :: r)).take x).sum < BIG := lt_big (k := 10) (by have := take_le_sum (tally 8 (x :: r)) x; omega) (by decide)
    have hrank : rank8 r + ways8 (x :: r) * ((tally 8 (x :: r)).take x).sum / (k + 1) = rank8 (x :: r) := by
      show _ + multi (tally 8 (x :: r)) * _ / _ = ((marks (tally 8 (x :: r))).take x).sum + rankF (less (tally 8 (x :: r)) x) r
      rw [tally_less hx8, ← hts, marks_div x (by omega)]
      exact Nat.add_comm _ _
    have hsub : row.length - (row.length - 1 - k) = k + 1 := by omega
    refine ⟨[4], _, tg_name 4 nd_, ?_⟩
    refine ss_cons (s_set 5 (e_to (e_ix (e_name 0) (e_name 4) (i_tN hj)) (by rw [hx])) nd_ ?_)
    refine ss_cons (s_seti 1 (k := x) rfl (e_un (j := 1) (e_bin (e_ix (e_name 1) (e_name 5) (i_lN hxl)) (e_nat 1) n_add) rfl rfl) (e_name 5) rfl (by rw [List.length_map]; exact hxl) ?_)
    rw [show ((tally 8 r).map nD).set x (nD ((tally 8 r).getD x 0 + 1)) = (tally 8 (x :: r)).map nD by rw [← hset, List.map_set]]
    refine ss_cons (s_set 2 (e_un (j := 1) (e_to (e_bin (e_bin (e_name 2) (e_bin (q_len (e_name 0) (hm := List.length_map ..)) (e_name 4) (n_sub (by omega))) (n_mul (hwB r (by omega) hr8) (by rw [hsub]; exact hkB))) (e_ix (e_name 1) (e_name 5) (i_lN (by rw [tally_len]; exact hx8))) (n_div hpos hcB)) (y := nD (ways8 (x :: r))) (by rw [hsub, hw])) rfl rfl) nd_ ?_)
    refine ss_cons (s_set 3 (e_un (j := 1) (e_to (e_bin (e_name 3) (e_bin (e_bin (e_name 2) (q_sumL (e_slice (e_name 1) o_none (o_nat (e_name 5)) (q_toLN x))) (n_mul (hwB (x :: r) (by show r.length + 1 ≤ 41; omega) hxr8) htB)) (e_bin (q_len (e_name 0) (hm := List.length_map ..)) (e_name 4) (n_sub (by omega))) (n_div (by omega) (by rw [hsub]; exact hkB))) n_add) (y := nD (rank8 (x :: r))) (by rw [hsub, hrank])) rfl rfl) nd_ (ss_nil ⟨_, _, rfl⟩))
  · subst hu
    rw [List.length_range, Nat.sub_self, List.drop_zero]
    exact ss_cons (s_ret (e_tup (a_cons (e_name 3) (a_cons (e_name 2) a_nil))) rfl)
end
end K67
namespace K67
open PySem PySem.Spec PyProof.Rows L2
theorem eqv_nats : ∀ (a b : List Nat), PyData.eqvAll (a.map nD) (b.map nD) = decide (a = b)
  | [], [] => by simp [PyData.eqvAll]
  | [], b :: r => by simp [PyData.eqvAll]
  | a :: r, [] => by simp [PyData.eqvAll]
  | a :: r, b :: t => by
    simp only [List.map_cons, PyData.eqvAll, PyData.eqv]
    rw [eqv_nats r t]
    by_cases h : a = b
    · subst h; simp
    · have : ¬ ((a : Int) = (b : Int)) := by omega
      simp [h, this]
theorem lay_nats : ∀ (a : List Nat), PyData.canLayAll0 (a.map nD) = true ∧ PyData.depthAll (a.map nD) = 0
  | [] => ⟨by simp [PyData.canLayAll0], by simp [PyData.depthAll]⟩
  | a :: r => by
    obtain ⟨h1, h2⟩ := lay_nats r
    exact ⟨by simp [PyData.canLayAll0, PyData.canLay0, h1], by simp [PyData.depthAll, PyData.depth, h2]⟩
theorem shaped_t (a : List Nat) : SeqAt.shaped (tN a) = true := by
  obtain ⟨h1, h2⟩ := lay_nats a
  unfold SeqAt.shaped
  simp [PyData.canLay0, PyData.depth, h1, h2]
theorem shaped_l (a : List Nat) : SeqAt.shaped (lN a) = true := by
  obtain ⟨h1, h2⟩ := lay_nats a
  unfold SeqAt.shaped
  simp [PyData.canLay0, PyData.depth, h1, h2]
def risesL (row : List Nat) : List Nat := (List.range (row.length - 1)).filter fun k => decide (row.getD k 0 < row.getD (k + 1) 0)
def othersL (row : List Nat) (a : Nat) : List Nat := ((List.range (row.length - (a + 1))).map fun i => a + 1 + i).filter fun k => decide (row.getD a 0 < row.getD k 0)
def lastN (xs : List Nat) : Nat := xs.getD (xs.length - 1) 0
def nextT (row : List Nat) (a o : Nat) : List Nat := row.take a ++ [row.getD o 0] ++ (((row.drop (a + 1)).take (o - (a + 1)) ++ [row.getD a 0]) ++ row.drop (o + 1)).reverse
def bagsF (able : List Nat) : Nat → List (List Nat)
  | 0 => [[]]
  | n + 1 => (bagsF able n).flatMap fun r => (able.filter fun x => decide (r = []) || decide (r.getD (r.length - 1) 0 ≤ x)).map fun x => r ++ [x]
theorem bagsF_row (able : List Nat) : ∀ n r, r ∈ bagsF able n → r.length = n
  | 0, r, h => by rw [List.mem_singleton.mp h]; rfl
  | n + 1, r, h => by
    obtain ⟨q, hq, h2⟩ := List.mem_flatMap.mp h
    obtain ⟨l, _, rfl⟩ := List.mem_map.mp h2
    rw [List.length_append, bagsF_row able n q hq]
    rfl
theorem flatMap_le {α β : Type} (xs : List α) (f : α → List β) (c : Nat) (h : ∀ x ∈ xs, (f x).length ≤ c) : (xs.flatMap f).length ≤ xs.length * c := by
  induction xs with
  | nil => simp
  | cons a r ih =>
    rw [List.flatMap_cons, List.length_append, List.length_cons, Nat.succ_mul]
    have h1 := h a List.mem_cons_self
    have h2 := ih fun x hx => h x (List.mem_cons_of_mem _ hx)
    omega
theorem bagsF_len {able : List Nat} : ∀ n, (bagsF able n).length ≤ able.length ^ n
  | 0 => Nat.le_refl _
  | n + 1 => by
    refine Nat.le_trans (flatMap_le _ _ able.length fun r _ => by rw [List.length_map]; exact List.length_filter_le _ _) ?_
    rw [Nat.pow_succ]
    exact Nat.mul_le_mul_right _ (bagsF_len n)
section
variable {P : Program} {w : World} {K : PySem.W.Frag} {mg : Str → Option Value} {base : Heap} [W : Wd K mg] [WE : WdE w K mg]
section
variable {k : Nat} {ι : Type} {F : ι → Cx} {e a b c : Expr} {ρ : DE} {pos p : Pos} {ds : List PyData} {Δ : De} {xs ys : List Nat} {m v : Nat}
theorem o_eqT [C : Cal P w K mg base k F] : OpD K F (compareOp .Eq) (tN xs) (tN ys) (.bool (decide (xs = ys))) := by
  have q := o_eqD (K := K) (F := F) cK (fun i => (C.room i).r.units) (shaped_t xs) (shaped_t ys)
  rwa [show PyData.eqv (tN xs) (tN ys) = decide (xs = ys) by rw [← eqv_nats]; simp [PyData.eqv]] at q
theorem o_eqL [C : Cal P w K mg base k F] : OpD K F (compareOp .Eq) (lN xs) (lN ys) (.bool (decide (xs = ys))) := by
  have q := o_eqD (K := K) (F := F) cK (fun i => (C.room i).r.units) (shaped_l xs) (shaped_l ys)
  rwa [show PyData.eqv (lN xs) (lN ys) = decide (xs = ys) by rw [← eqv_nats]; simp [PyData.eqv]] at q
/-- range(n - 1) -/
theorem q_rngI [C : Cal P w K mg base k F] {tg : Expr} (h : E K F e ρ (.int ((m : Int) - 1))) (hm : m < 100000) (hg : ∀ i, Gl (F i) "range" := by intro _; rfl) (hs : ∀ i, starEach [e] (F i).env = [(false, eval e (F i).env)] := by intro _; rfl) :
    Src K F tg (.Call (.Name "range" p) [e] [] pos) ρ ((List.range (m - 1)).map nD) := by
  have q := src_rng1 (K := K) (F := F) (ρ := ρ) (tg := tg) (p := p) (pos := pos) h (by omega) (fr_ (by decide +kernel)) hg hs
  rwa [show ((m : Int) - 1).toNat = m - 1 by omega, ramp_nat] at q
/-- range(m, n) -/
theorem q_rng2 [C : Cal P w K mg base k F] {tg : Expr} (h1 : E K F a ρ (nD m)) (h2 : E K F b ρ (nD v)) (hm : m < 100000) (hv : v < 100000) (hg : ∀ i, Gl (F i) "range" := by intro _; rfl)
    (hs : ∀ i, starEach [a, b] (F i).env = [(false, eval a (F i).env), (false, eval b (F i).env)] := by intro _; rfl) (hs2 : ∀ i, starEach [b] (F i).env = [(false, eval b (F i).env)] := by intro _; rfl) :
    Src K F tg (.Call (.Name "range" p) [a, b] [] pos) ρ (((List.range (v - m)).map fun i => m + i).map nD) := by
  have q := src_rng2 (K := K) (F := F) (ρ := ρ) (tg := tg) (p := p) (pos := pos) h1 h2 (by omega) (fr_ (by decide +kernel)) hg hs hs2
  have e : ramp (m : Int) 1 ((v : Int) - m).toNat = ((List.range (v - m)).map fun i => m + i).map nD := by
    unfold ramp
    rw [show ((v : Int) - m).toNat = v - m by omega, List.map_map]
    apply List.map_congr_left
    intro i _
    show PyData.int _ = PyData.int ((m + i : Nat) : Int)
    congr 1
    omega
  rwa [e] at q
/-- xs[-1] of a list of nats -/
theorem i_lastL [C : Cal P w K mg base k F] (h : xs ≠ []) : IxD K F (lN xs) (.int (-1)) (nD (lastN xs)) := by
  have hl : 0 < xs.length := List.length_pos_iff.mpr h
  refine i_lst cK (at_neg (j := 1) (by decide) (by rw [List.length_map]; omega) ?_)
  rw [List.length_map, List.getElem?_map, List.getElem?_eq_getElem (show xs.length - 1 < xs.length by omega)]
  unfold lastN
  rw [List.getD_eq_getElem?_getD, List.getElem?_eq_getElem (show xs.length - 1 < xs.length by omega)]
  rfl
theorem i_lastT [C : Cal P w K mg base k F] (h : xs ≠ []) : IxD K F (tN xs) (.int (-1)) (nD (xs.getD (xs.length - 1) 0)) := by
  have hl : 0 < xs.length := List.length_pos_iff.mpr h
  refine i_tup cK (at_neg (j := 1) (by decide) (by rw [List.length_map]; omega) ?_)
  rw [List.length_map, List.getElem?_map, List.getElem?_eq_getElem (show xs.length - 1 < xs.length by omega)]
  rw [List.getD_eq_getElem?_getD, List.getElem?_eq_getElem (show xs.length - 1 < xs.length by omega)]
  rfl
end
theorem last_mem {xs : List Nat} (h : xs ≠ []) : lastN xs ∈ xs := by
  have hl : 0 < xs.length := List.length_pos_iff.mpr h
  unfold lastN
  rw [List.getD_eq_getElem?_getD, List.getElem?_eq_getElem (show xs.length - 1 < xs.length by omega)]
  exact List.getElem_mem _
theorem ok_law_bags : Cle P w K mg base "_law_bags" 180 ["_law_able", "_law_long"] 1 (spP K (fun x : List Nat × Nat => [lN x.1, nD x.2]) (fun x => x.1.length ≤ 4 ∧ x.2 ≤ 4) (fun x => .list (rowsD (bagsF x.1 x.2)))) := by
  refine mkP df180 (fun _ => rfl) (fun f cdv A outer s H E' ci a hp => ?_)
  obtain ⟨ls, n⟩ := a
  obtain ⟨h1, h2⟩ := hp
  have h1 : ls.length ≤ 4 := h1
  have h2 : n ≤ 4 := h2
  have hb : ∀ k, k ≤ 4 → (bagsF ls k).length ≤ 256 := fun k hk => Nat.le_trans (bagsF_len k) (Nat.le_trans (Nat.pow_le_pow_left h1 k) (Nat.pow_le_pow_right (by decide) hk))
  let st := fun r : List Nat => (ls.filter fun x => decide (r = []) || decide (r.getD (r.length - 1) 0 ≤ x)).map fun x => r ++ [x]
  refine ss_cons (s_set 2 (el_list (a_cons (e_tup a_nil) a_nil)).im nd_ ?_)
  refine ss_cons (s_forM (xs := List.range n) (g := nD) (fun k ρ' => ∃ u v x, ρ' = [.im (lN ls), .im (nD n), .im (.list (rowsD (bagsF ls k))), u, v, x, .no]) (q_rng (e_name 1) (by omega)) ⟨_, _, _, rfl⟩ (fun k hk ρ' ⟨u, v, x, hu⟩ => ?_) (fun ρ' ⟨u, v, x, hu⟩ => ?_))
  · subst hu
    rw [List.length_range] at hk
    refine ⟨[3], _, tg_name 3 nd_, ?_⟩
    refine ss_cons (s_setL 4 (el_list a_nil) nd_ ?_)
    refine ss_cons (s_forM (xs := bagsF ls k) (g := tN) (fun i ρ' => ∃ u x, ρ' = [.im (lN ls), .im (nD n), .im (.list (rowsD (bagsF ls k))), u, .ow (rowsD (((bagsF ls k).take i).flatMap st)), x, .no]) (src_list cK (e_name 2)) ⟨_, _, rfl⟩ (fun i hi ρ' ⟨u, x, hu⟩ => ?_) (fun ρ' ⟨u, x, hu⟩ => ?_))
    · subst hu
      obtain ⟨r, hr⟩ : ∃ r, (bagsF ls k)[i] = r := ⟨_, rfl⟩
      have hrl : r.length = k := by rw [← hr]; exact bagsF_row ls k _ (List.getElem_mem hi)
      have hbk := hb k (by omega)
      have hsz : (((bagsF ls k).take i).flatMap st).length ≤ 1024 := by
        refine Nat.le_trans (flatMap_le _ st 4 fun r _ => by rw [List.length_map]; exact Nat.le_trans (List.length_filter_le _ _) h1) ?_
        rw [List.length_take]
        omega
      have est : ((bagsF ls k).take (i + 1)).flatMap st = ((bagsF ls k).take i).flatMap st ++ st r := by
        rw [List.take_succ_eq_append_getElem hi, List.flatMap_append, hr]
        simp
      rw [hr, est]
      refine ⟨[5], _, tg_name 5 nd_, ?_⟩
      refine ss_cons (s_setL 4 (el_cat 4 rfl (q_lcF (xs := ls) (g := nD) (h := fun x => tN (r ++ [x])) (t := fun x => decide (r = []) || decide (r.getD (r.length - 1) 0 ≤ x)) [("_law_x", 6)] (src_list cK (e_name 0)) (by omega) (fun x hx => lc_if 6 (t_of (t_or (t_cmp (e_name 5) (e_tup a_nil) (o_eqT (ys := []))) fun h0 => t_or1 (t_cmp (e_name 6) (e_ix (e_name 5) (e_sub (e_int (n := 1))) (i_lastT (by simpa using h0))) n_ge))) fun _ => e_to (e_bin (e_name 5) (e_tup (a_cons (e_name 6) a_nil)) (q_cat (by rw [List.length_map, hrl]; show k + 1 ≤ 100000; omega))) (by rw [tN_app]; rfl))) ?_) nd_ (ss_nil ?_))
      · rw [List.length_map, List.length_map]
        have := List.length_filter_le (fun x => decide (r = []) || decide (r.getD (r.length - 1) 0 ≤ x)) ls
        omega
      · have e5 : rowsD (((bagsF ls k).take i).flatMap st ++ st r) = rowsD (((bagsF ls k).take i).flatMap st) ++ (ls.filter fun x => decide (r = []) || decide (r.getD (r.length - 1) 0 ≤ x)).map fun x => tN (r ++ [x]) := by
          unfold rowsD
          rw [List.map_append, show (st r).map tN = (ls.filter fun x => decide (r = []) || decide (r.getD (r.length - 1) 0 ≤ x)).map fun x => tN (r ++ [x]) from by show (List.map _ _).map tN = _; rw [List.map_map]; rfl]
        exact ⟨_, _, by rw [e5]; rfl⟩
    · subst hu
      rw [List.take_length]
      refine ss_freeze 4 rfl (ss_cons (s_set 2 (e_name 4) nd_ (ss_nil ⟨_, _, _, rfl⟩)))
  · subst hu
    rw [List.length_range]
    exact ss_cons (s_ret (e_name 2) rfl)
theorem ok_law_next : Cle P w K mg base "_law_next" 179 ["_law_row"] 1 (spP K (fun x : List Nat => [tN x]) (fun x => x.length ≤ 100) (fun x => if risesL x = [] then .none else tN (nextT x (lastN (risesL x)) (lastN (othersL x (lastN (risesL x))))))) := by
  refine mkP df179 (fun _ => rfl) (fun f cdv A outer s H E' ci row hp => ?_)
  have hp : row.length ≤ 100 := hp
  refine ss_cons (s_lcIF 1 [("_law_k", 2)] (xs := List.range (row.length - 1)) (g := nD) (h := nD) (t := fun k => decide (row.getD k 0 < row.getD (k + 1) 0)) (q_rngI (m := row.length) (e_bin (q_len (e_name 0) (hm := List.length_map ..)) e_int o_sub) (by omega)) (by rw [List.length_range]; omega) (fun i hi => ?_) ?_)
  · have hi' := List.mem_range.mp hi
    exact lc_if 2 (t_cmp (e_ix (e_name 0) (e_name 2) (i_tN (by omega))) (e_ix (e_name 0) (e_bin (e_name 2) (e_nat 1) n_add) (i_tN (by omega))) n_lt) fun _ => e_name 2
  show Ss K _ _ [.im (tN row), .im (lN (risesL row)), .no, .no, .no, .no] _
  refine ss_cons (s_if (t_cmp (e_name 1) (el_list a_nil).im (o_eqL (ys := []))) (fun h => ?_) fun h => ss_nil ?_)
  · have h0 : risesL row = [] := of_decide_eq_true h
    refine ss_cons (s_ret e_none ?_)
    show PyData.none = _
    rw [if_pos h0]
  · have h0 : risesL row ≠ [] := of_decide_eq_false h
    have hm := last_mem h0
    obtain ⟨a, ha⟩ : ∃ a, lastN (risesL row) = a := ⟨_, rfl⟩
    rw [ha] at hm
    obtain ⟨hm1, hm2⟩ := List.mem_filter.mp hm
    have hm1 := List.mem_range.mp hm1
    have hm2 : row.getD a 0 < row.getD (a + 1) 0 := of_decide_eq_true hm2
    refine ss_cons (s_set 3 (e_to (e_ix (e_name 1) (e_sub (e_int (n := 1))) (i_lastL h0)) (by rw [ha])) nd_ ?_)
    have ho : othersL row a ≠ [] := fun z => by
      have : a + 1 ∈ othersL row a := List.mem_filter.mpr ⟨List.mem_map.mpr ⟨0, List.mem_range.mpr (by omega), by omega⟩, decide_eq_true hm2⟩
      rw [z] at this
      cases this
    have hom := last_mem ho
    obtain ⟨o, hoe⟩ : ∃ o, lastN (othersL row a) = o := ⟨_, rfl⟩
    rw [hoe] at hom
    obtain ⟨ho1, ho2⟩ := List.mem_filter.mp hom
    obtain ⟨i, hi, hio⟩ := List.mem_map.mp ho1
    have hi := List.mem_range.mp hi
    refine ss_cons (s_set 4 (e_to (e_ix (q_lcF (xs := (List.range (row.length - (a + 1))).map fun i => a + 1 + i) (g := nD) (h := nD) (t := fun k => decide (row.getD a 0 < row.getD k 0)) [("_law_k", 2)] (q_rng2 (m := a + 1) (v := row.length) (e_bin (e_name 3) (e_nat 1) n_add) (q_len (e_name 0) (hm := List.length_map ..)) (by omega) (by omega)) (by rw [List.length_map, List.length_range]; omega) (fun k hk => ?_)).im (e_sub (e_int (n := 1))) (i_lastL ho)) (y := nD o) (by rw [← hoe]; rfl)) nd_ ?_)
    · obtain ⟨i2, hi2, rfl⟩ := List.mem_map.mp hk
      have hi2 := List.mem_range.mp hi2
      exact lc_if 2 (t_cmp (e_ix (e_name 0) (e_name 2) (i_tN (by omega))) (e_ix (e_name 0) (e_name 3) (i_tN (by omega))) n_gt) fun _ => e_name 2
    · have hlen : ∀ (m : Nat), (row.drop m).length ≤ 100 := fun m => by rw [List.length_drop]; omega
      refine ss_cons (s_set 5 (e_to (e_bin (e_bin (e_slice (e_name 0) (o_nat (e_bin (e_name 3) (e_nat 1) n_add)) (o_nat (e_name 4)) (sl_midT (by omega))) (e_tup (a_cons (e_ix (e_name 0) (e_name 3) (i_tN (by omega))) a_nil)) (q_cat (by rw [List.length_take, List.length_drop, List.length_map]; show _ + 1 ≤ 100000; omega))) (e_slice (e_name 0) (o_nat (e_bin (e_name 4) (e_nat 1) n_add)) o_none (sl_fromT _)) (q_cat (by rw [List.length_append, List.length_take, List.length_drop, List.length_drop, List.length_map]; show _ + 1 + _ ≤ 100000; omega))) (y := tN (((row.drop (a + 1)).take (o - (a + 1)) ++ [row.getD a 0]) ++ row.drop (o + 1))) (by rw [tN_app, List.map_append, List.map_take, List.map_drop, List.map_drop]; rfl)) nd_ ?_)
      refine ss_cons (s_ret (e_to (e_bin (e_bin (e_slice (e_name 0) o_none (o_nat (e_name 3)) (sl_toT _)) (e_tup (a_cons (e_ix (e_name 0) (e_name 4) (i_tN (by omega))) a_nil)) (q_cat (by rw [List.length_take, List.length_map]; show _ + 1 ≤ 100000; omega))) (e_rev (e_name 5)) (q_cat ?_)) rfl) ?_)
      · rw [List.length_append, List.length_take, List.length_reverse, List.length_map, List.length_map, List.length_append, List.length_append, List.length_take, List.length_drop, List.length_drop]
        show _ + 1 + (_ + 1 + _) ≤ 100000
        omega
      · show PyData.tuple _ = _
        rw [if_neg h0, ha, hoe]
        unfold nextT
        simp only [tN, List.map_append, List.map_take, List.map_reverse, List.map_cons, List.map_nil, List.map_drop]
end
end K67
namespace K67
open PySem PySem.Spec PyProof.Rows L2
def spotsL (left : List Nat) : List Nat := (List.range left.length).filter fun k => decide (k = 0) || !decide (left.getD k 0 = left.getD (k - 1) 0)
def stepO (p : List Nat × List Nat) : List (List Nat × List Nat) := (spotsL p.2).map fun k => (p.1 ++ [p.2.getD k 0], p.2.take k ++ p.2.drop (k + 1))
def ordO (lot : List Nat) : Nat → List (List Nat × List Nat)
  | 0 => [([], lot)]
  | n + 1 => (ordO lot n).flatMap stepO
theorem ordO_len (lot : List Nat) : ∀ n p, n ≤ lot.length → p ∈ ordO lot n → p.1.length = n ∧ p.2.length + n = lot.length
  | 0, p, _, h => by rw [List.mem_singleton.mp h]; exact ⟨rfl, rfl⟩
  | n + 1, p, hn, h => by
    obtain ⟨q, hq, h2⟩ := List.mem_flatMap.mp h
    obtain ⟨k, hk, rfl⟩ := List.mem_map.mp h2
    obtain ⟨a, b⟩ := ordO_len lot n q (by omega) hq
    have hk2 := List.mem_range.mp (List.mem_filter.mp hk).1
    refine ⟨by show (q.1 ++ [_]).length = _; rw [List.length_append, a]; rfl, ?_⟩
    show (q.2.take k ++ q.2.drop (k + 1)).length + (n + 1) = _
    rw [List.length_append, List.length_take, List.length_drop]
    omega
abbrev pairD (p : List Nat × List Nat) : PyData := .tuple [tN p.1, tN p.2]
theorem chT_pos {g : Nat} : ∀ (ps : List (Nat × Nat)) (t : Nat), 0 < t → (∀ p ∈ ps, 0 < rise p.1 g p.2) → 0 < ps.foldl (fun t p => t * rise p.1 g p.2) t
  | [], t, h, _ => h
  | p :: r, t, h, hp => chT_pos r _ (Nat.mul_pos h (hp p List.mem_cons_self)) fun q hq => hp q (List.mem_cons_of_mem _ hq)
theorem chT_can {g : Nat} {st row : List Nat} (h : Tx st row) : 0 < chT g st (tally st.length row) := by
  refine chT_pos _ _ Nat.one_pos fun p hp => ?_
  obtain ⟨i, hi, rfl⟩ := List.mem_iff_getElem.mp hp
  have hi2 : i < st.length := by rw [List.length_zip, tally_len, Nat.min_self] at hi; exact hi
  rw [List.getElem_zip]
  have e1 : (tally st.length row)[i]'(by rw [tally_len]; exact hi2) = row.count i := by
    unfold tally
    rw [List.getElem_map, List.getElem_range]
  show 0 < rise st[i] g ((tally st.length row)[i]'_)
  rw [e1]
  rcases Nat.eq_zero_or_pos (row.count i) with z | z
  · rw [z]; exact Nat.one_pos
  · have hm := List.count_pos_iff.mp z
    have := h.can i hm
    rw [List.getD_eq_getElem?_getD, List.getElem?_eq_getElem hi2] at this
    exact rise_pos this _
section
variable {P : Program} {w : World} {K : PySem.W.Frag} {mg : Str → Option Value} {base : Heap} [W : Wd K mg] [WE : WdE w K mg]
theorem ok_law_orders : Cle P w K mg base "_law_orders" 177 ["_law_lot"] 1 (spP K (fun x : List Nat => [tN x]) (fun x => x.length ≤ 8 ∧ ∀ n, n ≤ x.length → (ordO x n).length ≤ 1000) (fun x => .list (rowsD ((ordO x x.length).map (·.1))))) := by
  refine mkP df177 (fun _ => rfl) (fun f cdv A outer s H E' ci lot hp => ?_)
  obtain ⟨hl, hb⟩ := hp
  refine ss_cons (s_set 1 (el_list (a_cons (e_tup (a_cons (e_tup a_nil) (a_cons (e_name 0) a_nil))) a_nil)).im nd_ ?_)
  refine ss_cons (s_forM (xs := List.range lot.length) (g := nD) (fun k ρ' => ∃ u v x y z, ρ' = [.im (tN lot), .im (.list ((ordO lot k).map pairD)), u, v, x, y, z, .no, .no]) (q_rng (q_len (e_name 0) (hm := List.length_map ..)) (by omega)) ⟨_, _, _, _, _, rfl⟩ (fun k hk ρ' ⟨u, v, x, y, z, hu⟩ => ?_) (fun ρ' ⟨u, v, x, y, z, hu⟩ => ?_))
  · subst hu
    rw [List.length_range] at hk
    have hbk := hb (k + 1) (by omega)
    refine ⟨[2], _, tg_name 2 nd_, ?_⟩
    refine ss_cons (s_setL 3 (el_list a_nil) nd_ ?_)
    refine ss_cons (s_forM (xs := ordO lot k) (g := pairD) (fun i ρ' => ∃ u x y z, ρ' = [.im (tN lot), .im (.list ((ordO lot k).map pairD)), u, .ow ((((ordO lot k).take i).flatMap stepO).map pairD), x, y, z, .no, .no]) (src_list cK (e_name 1)) ⟨_, _, _, _, rfl⟩ (fun i hi ρ' ⟨u, x, y, z, hu⟩ => ?_) (fun ρ' ⟨u, x, y, z, hu⟩ => ?_))
    · subst hu
      have hp2 := ordO_len lot k _ (by omega) (List.getElem_mem hi)
      obtain ⟨r, hr⟩ : ∃ r, (ordO lot k)[i] = r := ⟨_, rfl⟩
      rw [hr] at hp2
      obtain ⟨row, left⟩ := r
      obtain ⟨p1, p2⟩ := hp2
      have p1 : row.length = k := p1
      have p2 : left.length + k = lot.length := p2
      have est : ((ordO lot k).take (i + 1)).flatMap stepO = ((ordO lot k).take i).flatMap stepO ++ stepO (row, left) := by
        rw [List.take_succ_eq_append_getElem hi, List.flatMap_append, hr]
        simp
      have hsz : (((ordO lot k).take i).flatMap stepO).length ≤ 1000 := by
        refine Nat.le_trans ?_ hbk
        show _ ≤ ((ordO lot k).flatMap stepO).length
        rw [show (ordO lot k).flatMap stepO = ((ordO lot k).take i).flatMap stepO ++ ((ordO lot k).drop i).flatMap stepO from by rw [← List.flatMap_append, List.take_append_drop], List.length_append]
        omega
      have hsp : (spotsL left).length ≤ 8 := by
        unfold spotsL
        refine Nat.le_trans (List.length_filter_le _ _) ?_
        rw [List.length_range]
        omega
      rw [hr, est]
      refine ⟨[4, 5], _, tg_tup cK ci.calm (tgs_cons (js := [4]) (tg_name 4 nd_) (tgs_cons (js := [5]) (tg_name 5 nd_) tgs_nil)), ?_⟩
      refine ss_cons (s_lcIF 6 [("_law_k", 7)] (xs := List.range left.length) (g := nD) (h := nD) (t := fun k => decide (k = 0) || !decide (left.getD k 0 = left.getD (k - 1) 0)) (q_rng (q_len (e_name 5) (hm := List.length_map ..)) (by omega)) (by rw [List.length_range]; omega) (fun j hj => ?_) ?_)
      · have hj := List.mem_range.mp hj
        exact lc_if 7 (t_of (t_or (t_cmp (e_name 7) (e_nat 0) n_eq) fun h0 => t_or1 (t_cmp (e_ix (e_name 5) (e_name 7) (i_tN hj)) (e_ix (e_name 5) (e_bin (e_name 7) (e_nat 1) (n_sub (by have := of_decide_eq_false h0; omega))) (i_tN (by omega))) n_ne))) fun _ => e_name 7
      · refine ss_cons (s_setL 3 (el_cat 3 rfl (q_lcM (xs := spotsL left) (g := nD) (h := fun j => pairD (row ++ [left.getD j 0], left.take j ++ left.drop (j + 1))) [("_law_k", 7)] (src_list cK (e_name 6)) (by omega) fun j hj => lc_map 7 ?_) (by rw [List.length_map, List.length_map]; omega)) nd_ (ss_nil ?_))
        · have hj := List.mem_range.mp (List.mem_filter.mp hj).1
          refine e_to (e_tup (a_cons (e_bin (e_name 4) (e_tup (a_cons (e_ix (e_name 5) (e_name 7) (i_tN hj)) a_nil)) (q_cat (by rw [List.length_map, p1]; show k + 1 ≤ 100000; omega))) (a_cons (e_bin (e_slice (e_name 5) o_none (o_nat (e_name 7)) (sl_toT _)) (e_slice (e_name 5) (o_nat (e_bin (e_name 7) (e_nat 1) n_add)) o_none (sl_fromT _)) (q_cat (by rw [List.length_take, List.length_drop, List.length_map]; omega))) a_nil))) ?_
          show PyData.tuple [_, _] = PyData.tuple [tN (row ++ [left.getD j 0]), tN (left.take j ++ left.drop (j + 1))]
          rw [tN_app, tN_app, List.map_take, List.map_drop]
          rfl
        · exact ⟨_, _, _, _, by rw [List.map_append, show (stepO (row, left)).map pairD = (spotsL left).map fun j => pairD (row ++ [left.getD j 0], left.take j ++ left.drop (j + 1)) from by show (List.map _ _).map pairD = _; rw [List.map_map]; rfl]; rfl⟩
    · subst hu
      rw [List.take_length]
      exact ss_freeze 3 rfl (ss_cons (s_set 1 (e_name 3) nd_ (ss_nil ⟨_, _, _, _, _, rfl⟩)))
  · subst hu
    rw [List.length_range]
    have hb0 := hb lot.length (Nat.le_refl _)
    refine ss_cons (s_ret (q_lcM (xs := ordO lot lot.length) (g := pairD) (h := fun p => tN p.1) [("_law_one", 8)] (src_list cK (e_name 1)) (by omega) fun p hp => lc_map 8 (e_ix (e_name 8) (e_nat 0) (i_tD rfl))).im ?_)
    show PyData.list _ = PyData.list _
    unfold rowsD
    rw [List.map_map]
    rfl
theorem ok_law_chance : Cle P w K mg base "_law_chance" 174 ["_law_teacher_here", "_law_row"] 2 (spP K (fun x : Nat × List Nat × List Nat => [lrn x.1 x.2.1, tN x.2.2]) (fun x => Lr x.1 x.2.1 ∧ Tx x.2.1 x.2.2) (fun x => qD (chanceC x.1 x.2.1 (tally x.2.1.length x.2.2)))) := by
  refine mkP df174 (fun _ => rfl) (fun f cdv A outer s H E' ci a hp => ?_)
  obtain ⟨g, st, row⟩ := a
  obtain ⟨h2, h3⟩ := hp
  have h2 : Lr g st := h2
  have h3 : Tx st row := h3
  have h4 := h2.len
  have hl := h3.len
  have hc : Cn st (tally st.length row) := ⟨tally_len _ _, by rw [tally_sum _ _ h3.lt]; exact hl⟩
  let zs := st.zip (tally st.length row)
  have hzl : zs.length = st.length := by show (st.zip _).length = _; rw [List.length_zip, tally_len, Nat.min_self]
  have hg9 := h2.gain
  have hs36 := h2.small
  have small : ∀ {n : Nat}, n < 2 ^ 20 → n < BIG := fun h => lt_big h (by decide)
  refine ss_cons (s_asg (e_name 0) (tg_tup cK ci.calm (tgs_cons (js := [2]) (tg_name 2 nd_) (tgs_cons (js := [3]) (tg_name 3 nd_) tgs_nil))) ?_)
  refine ss_cons (s_asg (e_tup (a_cons (e_nat 1) (a_cons (e_nat 1) a_nil))) (tg_tup cK ci.calm (tgs_cons (js := [4]) (tg_name 4 nd_) (tgs_cons (js := [5]) (tg_name 5 nd_) tgs_nil))) ?_)
  refine ss_cons (s_forM (xs := List.range st.length) (g := nD) (fun k ρ' => ∃ u v, ρ' = [.im (lrn g st), .im (tN row), .im (nD g), .im (tN st), .im (nD ((zs.take k).foldl (fun t p => t * rise p.1 g p.2) 1)), .im (nD 1), u, v]) (q_rng (q_len (e_name 3) (hm := List.length_map ..)) (by omega)) ⟨_, _, rfl⟩ (fun k hk ρ' ⟨u, v, hu⟩ => ?_) (fun ρ' ⟨u, v, hu⟩ => ?_))
  · subst hu
    rw [List.length_range] at hk
    have e1 : (List.range st.length)[k]'(by simpa using hk) = k := by simp
    rw [e1]
    have hkz : k < zs.length := by rw [hzl]; exact hk
    have ez : zs[k] = (st.getD k 0, row.count k) := by
      show (st.zip (tally st.length row))[k] = _
      rw [List.getElem_zip]
      congr 1
      · rw [List.getD_eq_getElem?_getD, List.getElem?_eq_getElem hk]; rfl
      · unfold tally; rw [List.getElem_map, List.getElem_range]
    have hm := hc.each h2.small _ (List.getElem_mem hkz)
    have hm1 : st.getD k 0 ≤ 36 := by have q := hm.1; change zs[k].1 ≤ 36 at q; rw [ez] at q; exact q
    have hm2 : row.count k ≤ 8 := by have q := hm.2; change zs[k].2 ≤ 8 at q; rw [ez] at q; exact q
    refine ⟨[6], _, tg_name 6 nd_, ?_⟩
    refine ss_cons (s_forM (xs := List.range (row.count k)) (g := nD) (fun i ρ' => ∃ v, ρ' = [.im (lrn g st), .im (tN row), .im (nD g), .im (tN st), .im (nD ((zs.take k).foldl (fun t p => t * rise p.1 g p.2) 1 * rise (st.getD k 0) g i)), .im (nD 1), .im (nD k), v]) (q_rng (q_count (e_name 1) (e_name 6)) (by omega)) ⟨v, ?_⟩ (fun i hi ρ' ⟨v, hu⟩ => ?_) (fun ρ' ⟨v, hu⟩ => ?_))
    · show _ = [_, _, _, _, SD.im (nD (_ * 1)), _, _, _]
      rw [Nat.mul_one]
      rfl
    · subst hu
      rw [List.length_range] at hi
      have e2 : (List.range (row.count k))[i]'(by simpa using hi) = i := by simp
      rw [e2]
      have hT := chT_lt h2 hc k
      have hR := rise_le (s := st.getD k 0) (g := g) (n := i) hm1 hg9 (by omega)
      have hgi : g * i ≤ 9 * 8 := Nat.mul_le_mul hg9 (by omega)
      have hTR : (zs.take k).foldl (fun t p => t * rise p.1 g p.2) 1 * rise (st.getD k 0) g i < BIG := by
        refine lt_big (k := 286) ?_ (by decide)
        rw [show (286 : Nat) = 229 + 57 from rfl, Nat.pow_add]
        exact Nat.mul_lt_mul'' hT hR
      exact ⟨[7], _, tg_name 7 nd_, ss_cons (s_set 4 (e_bin (e_name 4) (e_bin (e_ix (e_name 3) (e_name 6) (i_tN hk)) (e_bin (e_name 2) (e_name 7) (n_mul (small (by omega)) (small (by omega)))) n_add) (n_mul hTR (small (by omega)))) nd_ (ss_nil ⟨_, by show [_, _, _, _, SD.im (nD (_ * _ * (_ + _))), _, _, _] = [_, _, _, _, SD.im (nD (_ * (rise (st.getD k 0) g i * (st.getD k 0 + g * i)))), _, _, _]; rw [← Nat.mul_assoc]⟩))⟩
    · subst hu
      rw [List.length_range]
      exact ss_nil ⟨_, _, by rw [List.take_succ_eq_append_getElem hkz, List.foldl_append, ez]; rfl⟩
  · subst hu
    rw [List.length_range, show zs.take st.length = zs from List.take_of_length_le (Nat.le_of_eq hzl)]
    show Ss K _ _ [_, _, _, _, .im (nD (chT g st (tally st.length row))), _, _, _] _
    refine ss_cons (s_forM (xs := List.range row.length) (g := nD) (fun i ρ' => ∃ v, ρ' = [.im (lrn g st), .im (tN row), .im (nD g), .im (tN st), .im (nD (chT g st (tally st.length row))), .im (nD (rise st.sum g i)), u, v]) (q_rng (q_len (e_name 1) (hm := List.length_map ..)) (by omega)) ⟨v, rfl⟩ (fun i hi ρ' ⟨v, hu⟩ => ?_) (fun ρ' ⟨v, hu⟩ => ?_))
    · subst hu
      rw [List.length_range] at hi
      have e2 : (List.range row.length)[i]'(by simpa using hi) = i := by simp
      rw [e2]
      have hR := rise_le (s := st.sum) (g := g) (n := i) hs36 hg9 (by omega)
      have hgi : g * i ≤ 9 * 8 := Nat.mul_le_mul hg9 (by omega)
      exact ⟨[7], _, tg_name 7 nd_, ss_cons (s_set 5 (e_bin (e_name 5) (e_bin (q_sum (e_name 3)) (e_bin (e_name 2) (e_name 7) (n_mul (small (by omega)) (small (by omega)))) n_add) (n_mul (lt_big hR (by decide)) (small (by omega)))) nd_ (ss_nil ⟨_, rfl⟩))⟩
    · subst hu
      rw [List.length_range]
      have hT := chT_lt h2 hc zs.length
      rw [List.take_length] at hT
      have hR := rise_le (s := st.sum) (g := g) (n := row.length) hs36 hg9 hl
      have hpos := chT_can (g := g) h3
      refine ss_cons (s_ret (e_if (t := true) (t_to (t_cmp (e_name 4) (e_nat 0) n_gt) (by simpa using hpos)) (fun _ => q_call ok_law_low (chT g st (tally st.length row), rise st.sum g row.length) (a_cons (e_name 4) (a_cons (e_name 5) a_nil)) ⟨rise_pos h2.pos _, lt_big hT (by decide), lt_big hR (by decide)⟩) fun h => by cases h) ?_)
      show qD _ = qD (chanceC g st (tally st.length row))
      unfold chanceC
      rw [Nat.mul_one, Nat.one_mul, tally_sum _ _ h3.lt]
end
end K67
namespace K67
/-! ranks: there and back -/
theorem seek_at : ∀ {tb : List Nat} {j p : Nat}, p < tb.getD j 0 → seek tb ((tb.take j).sum + p) = (j, p)
  | [], j, p, h => by simp at h
  | a :: r, 0, p, h => by
    have h' : p < a := h
    simp [seek, h']
  | a :: r, j + 1, p, h => by
    have ih := seek_at (tb := r) (j := j) (p := p) h
    have e : ((a :: r).take (j + 1)).sum + p = a + ((r.take j).sum + p) := by simp; omega
    rw [e]
    unfold seek
    rw [if_neg (by omega), show a + ((r.take j).sum + p) - a = (r.take j).sum + p by omega, ih]
theorem take_succ_sum (tb : List Nat) (j : Nat) : (tb.take (j + 1)).sum = (tb.take j).sum + tb.getD j 0 := by
  induction tb generalizing j with
  | nil => simp
  | cons a r ih =>
    cases j with
    | zero => simp
    | succ j => simp [ih j]; omega
theorem rankF_lt : ∀ {ps cs : List Nat}, Can cs ps → ps.length = cs.sum → rankF cs ps < multi cs
  | [], cs, _, _ => multi_pos cs
  | p :: r, cs, h, hl => by
    have ih := rankF_lt h.2 (by have := less_sum h.1; simp at hl; omega)
    rw [← begins_pos h.1, ← marks_get] at ih
    show ((marks cs).take p).sum + rankF (less cs p) r < _
    have h0 : 0 < cs.sum := by simp at hl; omega
    have := take_le_sum (marks cs) (p + 1)
    rw [take_succ_sum, marks_sum h0] at this
    omega
theorem text_rank : ∀ {ps cs : List Nat}, Can cs ps → ps.length = cs.sum → textF ps.length cs (rankF cs ps) = ps
  | [], cs, _, _ => rfl
  | p :: r, cs, h, hl => by
    have hl2 : r.length = (less cs p).sum := by have := less_sum h.1; simp at hl; omega
    have hr := rankF_lt h.2 hl2
    rw [← begins_pos h.1, ← marks_get] at hr
    show (seek (marks cs) (((marks cs).take p).sum + rankF (less cs p) r)).1 :: textF r.length (less cs (seek (marks cs) (((marks cs).take p).sum + rankF (less cs p) r)).1) (seek (marks cs) (((marks cs).take p).sum + rankF (less cs p) r)).2 = p :: r
    rw [seek_at hr, text_rank h.2 hl2]
theorem rank_text : ∀ {n r : Nat} {cs : List Nat}, cs.sum = n → r < multi cs → Can cs (textF n cs r) ∧ (textF n cs r).length = n ∧ rankF cs (textF n cs r) = r
  | 0, r, cs, hs, hr => by
    refine ⟨trivial, rfl, ?_⟩
    have := multi_le cs
    rw [hs] at this
    have : multi cs ≤ 1 := this
    show 0 = r
    omega
  | n + 1, r, cs, hs, hr => by
    obtain ⟨a, b, c⟩ := seek_marks (cs := cs) (r := r) (by omega) hr
    have e := less_sum a
    obtain ⟨h1, h2, h3⟩ := rank_text (n := n) (r := (seek (marks cs) r).2) (cs := less cs (seek (marks cs) r).1) (by omega) b
    refine ⟨⟨a, h1⟩, by show (textF n _ _).length + 1 = _; rw [h2], ?_⟩
    show ((marks cs).take (seek (marks cs) r).1).sum + rankF (less cs (seek (marks cs) r).1) (textF n _ _) = r
    rw [h3, c]
theorem can_count : ∀ {ps cs : List Nat}, Can cs ps → ps.length = cs.sum → ∀ x, ps.count x = cs.getD x 0
  | [], cs, _, hl, x => by
    have := getD_le_sum cs x
    have hl : 0 = cs.sum := hl
    show 0 = cs.getD x 0
    omega
  | p :: r, cs, h, hl, x => by
    have hl2 : r.length = (less cs p).sum := by have := less_sum h.1; simp at hl; omega
    have ih := can_count h.2 hl2 x
    unfold less at ih
    rw [getD_set _ _ _ _ (getD_lt h.1)] at ih
    by_cases q : p = x
    · subst q
      have h0 := h.1
      rw [if_pos rfl] at ih
      rw [List.count_cons_self]
      omega
    · rw [if_neg q] at ih
      rw [List.count_cons_of_ne q, ih]
theorem can_lt : ∀ {ps cs : List Nat}, Can cs ps → ∀ p ∈ ps, p < cs.length
  | p :: r, cs, h, x, hx => by
    rcases List.mem_cons.mp hx with rfl | hx
    · exact getD_lt h.1
    · have := can_lt h.2 x hx
      rwa [less_len] at this
/-! ### by any ascending list of letters -/
def Q : List Nat → Nat
  | [] => 1
  | x :: r => (r.count x + 1) * Q r
/-- how many orders a text has -/
def Wy (t : List Nat) : Nat := fact t.length / Q t
def rankC : List Nat → Nat
  | [] => 0
  | x :: r => Wy (x :: r) * (x :: r).countP (fun y => decide (y < x)) / (r.length + 1) + rankC r
theorem prodf_zero : ∀ kn : List Nat, prodf (kn.map fun y => ([] : List Nat).count y) = 1
  | [] => rfl
  | a :: r => by
    show fact 0 * prodf (r.map fun y => ([] : List Nat).count y) = 1
    rw [prodf_zero r]
    rfl
theorem map_get {kn : List Nat} {x : Nat} {t : List Nat} (h : x ∈ kn) : (kn.map fun y => t.count y).getD (idx kn x) 0 = t.count x := by
  rw [List.getD_eq_getElem?_getD, List.getElem?_map, idx_get h]
  rfl
theorem prodf_Q {kn : List Nat} (hp : kn.Pairwise (· < ·)) : ∀ (t : List Nat), (∀ x ∈ t, x ∈ kn) → prodf (kn.map fun y => t.count y) = Q t
  | [], _ => prodf_zero kn
  | x :: r, h => by
    have hx := h x List.mem_cons_self
    have e : (kn.map fun y => (x :: r).count y).getD (idx kn x) 0 = r.count x + 1 := by rw [map_get hx, List.count_cons_self]
    rw [prodf_less (p := idx kn x) (by rw [e]; omega), e, less_map hp hx, prodf_Q hp r fun y hy => h y (List.mem_cons_of_mem _ hy)]
    rfl
theorem multi_W {kn : List Nat} (hp : kn.Pairwise (· < ·)) (t : List Nat) (h : ∀ x ∈ t, x ∈ kn) : multi (kn.map fun y => t.count y) = Wy t := by
  unfold multi Wy
  rw [fold_div, prodf_Q hp t h, sum_counts hp t h]
/-- the letters below x, by the first places -/
theorem take_sum {kn : List Nat} (hp : kn.Pairwise (· < ·)) {x : Nat} (hx : x ∈ kn) : ∀ (t : List Nat), (∀ y ∈ t, y ∈ kn) → ((kn.map fun y => t.count y).take (idx kn x)).sum = t.countP (fun y => decide (y < x))
  | [], _ => by
    rw [← List.map_take]
    have : ∀ l : List Nat, (l.map fun y => ([] : List Nat).count y).sum = 0 := fun l => by
      induction l with
      | nil => rfl
      | cons a r ih => simpa using ih
    rw [this]
    rfl
  | a :: t, h => by
    have ha := h a List.mem_cons_self
    have ih := take_sum hp hx t fun y hy => h y (List.mem_cons_of_mem _ hy)
    have hgx := idx_get hx
    have hga := idx_get ha
    obtain ⟨hxl, hxe⟩ := List.getElem?_eq_some_iff.mp hgx
    obtain ⟨hal, hae⟩ := List.getElem?_eq_some_iff.mp hga
    have lt_iff : idx kn a < idx kn x ↔ a < x := by
      constructor
      · intro q
        have := List.pairwise_iff_getElem.mp hp _ _ hal hxl q
        omega
      · intro q
        rcases Nat.lt_trichotomy (idx kn a) (idx kn x) with z | z | z
        · exact z
        · have : kn[idx kn a] = kn[idx kn x] := by congr 1
          omega
        · have := List.pairwise_iff_getElem.mp hp _ _ hxl hal z
          omega
    rw [← less_map hp (r := t) ha] at ih
    rw [List.countP_cons]
    have hg : (kn.map fun y => (a :: t).count y).getD (idx kn a) 0 = (a :: t).count a := map_get ha
    have hpos : 0 < (kn.map fun y => (a :: t).count y).getD (idx kn a) 0 := by rw [hg, List.count_cons_self]; omega
    unfold less at ih
    by_cases q : idx kn a < idx kn x
    · rw [List.take_set] at ih
      have hlt : idx kn a < ((kn.map fun y => (a :: t).count y).take (idx kn x)).length := by rw [List.length_take, List.length_map]; omega
      have e := sum_set (cs := (kn.map fun y => (a :: t).count y).take (idx kn x)) (x := (kn.map fun y => (a :: t).count y).getD (idx kn a) 0 - 1) hlt
      have e2 : ((kn.map fun y => (a :: t).count y).take (idx kn x)).getD (idx kn a) 0 = (kn.map fun y => (a :: t).count y).getD (idx kn a) 0 := by
        rw [List.getD_eq_getElem?_getD, List.getElem?_take_of_lt q, List.getD_eq_getElem?_getD]
      rw [e2] at e
      have : decide (a < x) = true := decide_eq_true (lt_iff.mp q)
      rw [this]
      simp
      omega
    · rw [List.take_set, List.set_eq_of_length_le (by rw [List.length_take]; omega)] at ih
      have : decide (a < x) = false := decide_eq_false (fun z => q (lt_iff.mpr z))
      rw [this, ih]
      simp
theorem rankF_C {kn : List Nat} (hp : kn.Pairwise (· < ·)) : ∀ (t : List Nat), (∀ x ∈ t, x ∈ kn) → rankF (kn.map fun y => t.count y) (t.map (idx kn)) = rankC t
  | [], _ => rfl
  | x :: r, h => by
    have hx := h x List.mem_cons_self
    show ((marks (kn.map fun y => (x :: r).count y)).take (idx kn x)).sum + rankF (less (kn.map fun y => (x :: r).count y) (idx kn x)) (r.map (idx kn)) = _
    have hs := sum_counts hp (x :: r) h
    rw [less_map hp hx, rankF_C hp r fun y hy => h y (List.mem_cons_of_mem _ hy), ← marks_div _ (by rw [hs]; show 0 < r.length + 1; omega), hs, multi_W hp _ h, take_sum hp hx _ h]
    rfl
theorem range_idx {n x : Nat} (h : x < n) : idx (List.range n) x = x := by
  have h1 := idx_get (kn := List.range n) (List.mem_range.mpr h)
  have h2 := (List.getElem?_eq_some_iff.mp h1).2
  rwa [List.getElem_range] at h2
theorem range_pw (n : Nat) : (List.range n).Pairwise (· < ·) := List.pairwise_lt_range
theorem rankF_tally {n : Nat} {t : List Nat} (h : ∀ x ∈ t, x < n) : rankF (tally n t) t = rankC t := by
  have e := rankF_C (range_pw n) t fun x hx => List.mem_range.mpr (h x hx)
  have e2 : t.map (idx (List.range n)) = t := by
    conv => rhs; rw [← List.map_id t]
    exact List.map_congr_left fun x hx => range_idx (h x hx)
  rw [e2] at e
  exact e
theorem multi_tally {n : Nat} {t : List Nat} (h : ∀ x ∈ t, x < n) : multi (tally n t) = Wy t := multi_W (range_pw n) t fun x hx => List.mem_range.mpr (h x hx)
theorem rank8_C {t : List Nat} (h : ∀ x ∈ t, x < 8) : rank8 t = rankC t := rankF_tally h
theorem ways8_W {t : List Nat} (h : ∀ x ∈ t, x < 8) : ways8 t = Wy t := multi_tally h
theorem rankT_C {t : List Nat} (h : ∀ x ∈ t, x < 8) : rankT t = rankC t := rankF_C (known_nodup t) t fun x hx => known_mem.mpr ⟨h x hx, hx⟩
theorem can_tally {n : Nat} : ∀ {t : List Nat}, (∀ x ∈ t, x < n) → Can (tally n t) t
  | [], _ => trivial
  | x :: r, h => by
    have hx := h x List.mem_cons_self
    refine ⟨by rw [tally_get n _ hx, List.count_cons_self]; omega, ?_⟩
    rw [tally_less hx]
    exact can_tally fun y hy => h y (List.mem_cons_of_mem _ hy)
theorem rankC_lt {n : Nat} {t : List Nat} (h : ∀ x ∈ t, x < n) : rankC t < Wy t := by
  rw [← rankF_tally h, ← multi_tally h]
  exact rankF_lt (can_tally h) (tally_sum n t h).symm
/-- text_by of a text's counts and rank is the text -/
theorem textT_rank {n : Nat} {t : List Nat} (h : ∀ x ∈ t, x < n) : textT (tally n t) (rankC t) = t := by
  unfold textT
  rw [← rankF_tally h, tally_sum n t h]
  exact text_rank (can_tally h) (tally_sum n t h).symm
/-- .. and back -/
theorem rank_textT {n r : Nat} {t : List Nat} (h : ∀ x ∈ t, x < n) (hr : r < Wy t) : (∀ x ∈ textT (tally n t) r, x < n) ∧ (∀ x, (textT (tally n t) r).count x = t.count x) ∧ rankC (textT (tally n t) r) = r ∧ (textT (tally n t) r).length = t.length := by
  rw [← multi_tally h] at hr
  obtain ⟨a, b, c⟩ := rank_text rfl hr
  have hlt : ∀ x ∈ textT (tally n t) r, x < n := fun x hx => by
    have := can_lt a x hx
    rwa [tally_len] at this
  have hc : ∀ x, (textT (tally n t) r).count x = t.count x := fun x => by
    rw [show (textT (tally n t) r).count x = (tally n t).getD x 0 from can_count a b x]
    by_cases q : x < n
    · exact tally_get n t q
    · rw [List.getD_eq_getElem?_getD, List.getElem?_eq_none (by rw [tally_len]; omega)]
      exact (List.count_eq_zero.mpr fun z => q (h x z)).symm
  have ht : tally n (textT (tally n t) r) = tally n t := List.map_congr_left fun x _ => hc x
  refine ⟨hlt, hc, ?_, by rw [show (textT (tally n t) r).length = (tally n t).sum from b, tally_sum n t h]⟩
  rw [← rankF_tally hlt, ht]
  exact c
end K67
namespace K67
/-! the letters the other way round; the next text -/
theorem W_same {s t : List Nat} (h : ∀ x, s.count x = t.count x) (hl : s.length = t.length) : Wy s = Wy t := by
  have hb : ∃ n, (∀ x ∈ s, x < n) ∧ ∀ x ∈ t, x < n := ⟨s.sum + t.sum + 1, fun x hx => by have := mem_le_sum hx; omega, fun x hx => by have := mem_le_sum hx; omega⟩
  obtain ⟨n, h1, h2⟩ := hb
  rw [← multi_tally h1, ← multi_tally h2, show tally n s = tally n t from List.map_congr_left fun x _ => h x]
theorem W_perm {s t : List Nat} (h : s.Perm t) : Wy s = Wy t := W_same (fun x => h.count_eq x) h.length_eq
theorem bound (s : List Nat) : ∀ x ∈ s, x < s.sum + 1 := fun x hx => by have := mem_le_sum hx; omega
/-- exact: the letters below x -/
theorem lt_exact (x : Nat) (r : List Nat) : (r.length + 1) * (Wy (x :: r) * (x :: r).countP (fun y => decide (y < x)) / (r.length + 1)) = Wy (x :: r) * (x :: r).countP (fun y => decide (y < x)) := by
  have hb := bound (x :: r)
  have hx := hb x List.mem_cons_self
  have hkn : ∀ y ∈ x :: r, y ∈ List.range ((x :: r).sum + 1) := fun y hy => List.mem_range.mpr (hb y hy)
  have hs : (tally ((x :: r).sum + 1) (x :: r)).sum = r.length + 1 := tally_sum _ _ hb
  have e1 := marks_take (cs := tally ((x :: r).sum + 1) (x :: r)) x (by omega)
  have e2 := marks_div (cs := tally ((x :: r).sum + 1) (x :: r)) x (by omega)
  have e3 := take_sum (range_pw ((x :: r).sum + 1)) (x := x) (List.mem_range.mpr hx) (x :: r) hkn
  rw [range_idx hx] at e3
  have e3 : ((tally ((x :: r).sum + 1) (x :: r)).take x).sum = (x :: r).countP (fun y => decide (y < x)) := e3
  rw [hs, multi_tally hb, e3] at e1 e2
  rw [e2, e1]
theorem eq_exact (x : Nat) (r : List Nat) : Wy (x :: r) * (x :: r).count x = (r.length + 1) * Wy r := by
  have hb := bound (x :: r)
  have hx := hb x List.mem_cons_self
  have hc : (tally ((x :: r).sum + 1) (x :: r)).getD x 0 = (x :: r).count x := tally_get _ _ hx
  have := multi_less (cs := tally ((x :: r).sum + 1) (x :: r)) (p := x) (by rw [hc, List.count_cons_self]; omega)
  rw [hc, tally_less hx, tally_sum _ _ hb, multi_tally hb, multi_tally fun y hy => hb y (List.mem_cons_of_mem _ hy)] at this
  exact this
theorem three_ways (x : Nat) : ∀ t : List Nat, t.countP (fun y => decide (y < x)) + t.countP (fun y => decide (x < y)) + t.count x = t.length
  | [] => rfl
  | a :: r => by
    have := three_ways x r
    rw [List.countP_cons, List.countP_cons, List.length_cons]
    rcases Nat.lt_trichotomy a x with q | q | q
    · rw [decide_eq_true q, decide_eq_false (show ¬ x < a by omega), List.count_cons_of_ne (show a ≠ x by omega)]
      simp
      omega
    · subst q
      rw [decide_eq_false (show ¬ a < a by omega), List.count_cons_self]
      simp
      omega
    · rw [decide_eq_false (show ¬ a < x by omega), decide_eq_true q, List.count_cons_of_ne (show a ≠ x by omega)]
      simp
      omega
def comp (k : Nat) (t : List Nat) : List Nat := t.map fun x => k - 1 - x
theorem comp_count {k : Nat} : ∀ {t : List Nat} {x : Nat}, (∀ y ∈ t, y < k) → x < k → (comp k t).count (k - 1 - x) = t.count x
  | [], _, _, _ => rfl
  | a :: r, x, h, hx => by
    have ih := comp_count (t := r) (fun y hy => h y (List.mem_cons_of_mem _ hy)) hx
    have ha := h a List.mem_cons_self
    show ((k - 1 - a) :: comp k r).count (k - 1 - x) = _
    by_cases q : a = x
    · subst q
      rw [List.count_cons_self, List.count_cons_self, ih]
    · rw [List.count_cons_of_ne q, List.count_cons_of_ne (show k - 1 - a ≠ k - 1 - x by omega), ih]
theorem comp_Q {k : Nat} : ∀ {t : List Nat}, (∀ y ∈ t, y < k) → Q (comp k t) = Q t
  | [], _ => rfl
  | x :: r, h => by
    have hr : ∀ y ∈ r, y < k := fun y hy => h y (List.mem_cons_of_mem _ hy)
    show ((comp k r).count (k - 1 - x) + 1) * Q (comp k r) = (r.count x + 1) * Q r
    rw [comp_count hr (h x List.mem_cons_self), comp_Q hr]
theorem comp_W {k : Nat} {t : List Nat} (h : ∀ y ∈ t, y < k) : Wy (comp k t) = Wy t := by
  unfold Wy
  rw [comp_Q h]
  congr 1
  simp [comp]
theorem comp_lt {k x : Nat} (hx : x < k) : ∀ {t : List Nat}, (∀ y ∈ t, y < k) → (comp k t).countP (fun y => decide (y < k - 1 - x)) = t.countP (fun y => decide (x < y))
  | [], _ => rfl
  | a :: r, h => by
    have ih := comp_lt hx (t := r) fun y hy => h y (List.mem_cons_of_mem _ hy)
    have ha := h a List.mem_cons_self
    show ((k - 1 - a) :: comp k r).countP _ = _
    rw [List.countP_cons, List.countP_cons, ih]
    congr 1
    rw [show decide (k - 1 - a < k - 1 - x) = decide (x < a) from decide_eq_decide.mpr (by omega)]
theorem comp_rank {k : Nat} : ∀ {t : List Nat}, (∀ y ∈ t, y < k) → rankC t + rankC (comp k t) + 1 = Wy t
  | [], _ => by simp [rankC, comp, Wy, Q, fact]
  | x :: r, h => by
    have hr : ∀ y ∈ r, y < k := fun y hy => h y (List.mem_cons_of_mem _ hy)
    have hx := h x List.mem_cons_self
    have ih := comp_rank hr
    have e1 := lt_exact x r
    have e2 := lt_exact (k - 1 - x) (comp k r)
    have e3 := eq_exact x r
    have e4 := three_ways x (x :: r)
    have ec : (k - 1 - x) :: comp k r = comp k (x :: r) := rfl
    have el : (comp k r).length = r.length := by simp [comp]
    rw [ec, comp_W h, comp_lt hx h, el] at e2
    show Wy (x :: r) * (x :: r).countP (fun y => decide (y < x)) / (r.length + 1) + rankC r + (Wy ((k - 1 - x) :: comp k r) * ((k - 1 - x) :: comp k r).countP (fun y => decide (y < k - 1 - x)) / ((comp k r).length + 1) + rankC (comp k r)) + 1 = _
    rw [ec, comp_W h, comp_lt hx h, el]
    obtain ⟨A, hA⟩ : ∃ A, Wy (x :: r) * (x :: r).countP (fun y => decide (y < x)) / (r.length + 1) = A := ⟨_, rfl⟩
    obtain ⟨B, hB⟩ : ∃ B, Wy (x :: r) * (x :: r).countP (fun y => decide (x < y)) / (r.length + 1) = B := ⟨_, rfl⟩
    rw [hA] at e1 ⊢
    rw [hB] at e2 ⊢
    have e5 : (r.length + 1) * Wy (x :: r) = (r.length + 1) * (A + B + Wy r) := by
      rw [Nat.mul_add, Nat.mul_add, e1, e2, ← e3, ← Nat.mul_add, ← Nat.mul_add, e4, Nat.mul_comm]
      rfl
    have e6 := Nat.eq_of_mul_eq_mul_left (show 0 < r.length + 1 by omega) e5
    omega
theorem rank_asc : ∀ {t : List Nat}, t.Pairwise (· ≤ ·) → rankC t = 0
  | [], _ => rfl
  | x :: r, h => by
    rw [List.pairwise_cons] at h
    have e : (x :: r).countP (fun y => decide (y < x)) = 0 := by
      rw [List.countP_eq_zero]
      intro y hy
      rcases List.mem_cons.mp hy with rfl | hy
      · simp
      · have := h.1 y hy
        simp
        omega
    show Wy (x :: r) * (x :: r).countP (fun y => decide (y < x)) / (r.length + 1) + rankC r = 0
    rw [e, rank_asc h.2]
    simp
theorem rank_desc {t : List Nat} (h : t.Pairwise (· ≥ ·)) : rankC t + 1 = Wy t := by
  have hb := bound t
  have e := comp_rank hb
  have hz : rankC (comp (t.sum + 1) t) = 0 := by
    refine rank_asc ?_
    unfold comp
    rw [List.pairwise_map]
    exact h.imp fun q => by omega
  omega
theorem rank_pre : ∀ (pre : List Nat) {s t : List Nat}, s.Perm t → rankC (pre ++ s) + rankC t = rankC (pre ++ t) + rankC s
  | [], s, t, _ => by show rankC s + rankC t = rankC t + rankC s; omega
  | x :: pre, s, t, h => by
    have ih := rank_pre pre h
    have hp : (x :: (pre ++ s)).Perm (x :: (pre ++ t)) := (h.append_left pre).cons x
    show Wy (x :: (pre ++ s)) * (x :: (pre ++ s)).countP (fun y => decide (y < x)) / ((pre ++ s).length + 1) + rankC (pre ++ s) + rankC t = Wy (x :: (pre ++ t)) * (x :: (pre ++ t)).countP (fun y => decide (y < x)) / ((pre ++ t).length + 1) + rankC (pre ++ t) + rankC s
    rw [W_perm hp, hp.countP_eq, (h.append_left pre).length_eq]
    omega
theorem next_rank {pre A C : List Nat} {a b : Nat} (hd : (A ++ b :: C).Pairwise (· ≥ ·)) (hab : a < b) (hC : ∀ c ∈ C, c ≤ a) : rankC (pre ++ a :: (A ++ b :: C)) + 1 = rankC (pre ++ b :: (A ++ a :: C).reverse) := by
  have hA : ∀ y ∈ A, b ≤ y := fun y hy => (List.pairwise_append.mp hd).2.2 y hy b List.mem_cons_self
  have hAp := (List.pairwise_append.mp hd).1
  have hCp := (List.pairwise_cons.mp (List.pairwise_append.mp hd).2.1).2
  have hd2 : (A ++ a :: C).Pairwise (· ≥ ·) := by
    refine List.pairwise_append.mpr ⟨hAp, List.pairwise_cons.mpr ⟨hC, hCp⟩, fun x hx y hy => ?_⟩
    have := hA x hx
    rcases List.mem_cons.mp hy with rfl | hy
    · show _ ≤ _; omega
    · have := hC y hy
      show _ ≤ _; omega
  have hr : ((A ++ a :: C).reverse).Pairwise (· ≤ ·) := by
    rw [List.pairwise_reverse]
    exact hd2
  have hp : (a :: (A ++ b :: C)).Perm (b :: (A ++ a :: C).reverse) := by
    have p1 : (a :: (A ++ b :: C)).Perm (a :: b :: (A ++ C)) := (List.perm_middle).cons a
    have p2 : (b :: (A ++ a :: C).reverse).Perm (b :: a :: (A ++ C)) := ((List.reverse_perm _).trans List.perm_middle).cons b
    exact p1.trans ((List.Perm.swap b a _).trans p2.symm)
  have e0 := rank_pre pre hp
  have e1 := rank_desc hd
  have e2 := rank_asc hr
  have e3 := lt_exact a (A ++ b :: C)
  have e4 := eq_exact a (A ++ b :: C)
  have e5 := lt_exact b (A ++ a :: C).reverse
  have el : (A ++ a :: C).reverse.length = (A ++ b :: C).length := by simp; omega
  have ec : (a :: (A ++ b :: C)).countP (fun y => decide (y < b)) = (a :: (A ++ b :: C)).countP (fun y => decide (y < a)) + (a :: (A ++ b :: C)).count a := by
    have := three_ways a (a :: (A ++ b :: C))
    have h2 := three_ways b (a :: (A ++ b :: C))
    have h3 : (a :: (A ++ b :: C)).countP (fun y => decide (a < y)) = (a :: (A ++ b :: C)).countP (fun y => decide (b < y)) + (a :: (A ++ b :: C)).count b := by
      have h4 : ∀ t : List Nat, (∀ y ∈ t, y ≤ a ∨ b ≤ y) → t.countP (fun y => decide (a < y)) = t.countP (fun y => decide (b < y)) + t.count b := fun t => by
        induction t with
        | nil => intro _; rfl
        | cons z r ih =>
          intro ht
          have ih := ih fun y hy => ht y (List.mem_cons_of_mem _ hy)
          rw [List.countP_cons, List.countP_cons]
          rcases ht z List.mem_cons_self with q | q
          · rw [decide_eq_false (show ¬ a < z by omega), decide_eq_false (show ¬ b < z by omega), List.count_cons_of_ne (show z ≠ b by omega)]
            simp
            omega
          · rcases Nat.lt_or_eq_of_le q with q | q
            · rw [decide_eq_true (show a < z by omega), decide_eq_true q, List.count_cons_of_ne (show z ≠ b by omega)]
              simp
              omega
            · subst q
              rw [decide_eq_true hab, decide_eq_false (show ¬ b < b by omega), List.count_cons_self]
              simp
              omega
      refine h4 _ fun y hy => ?_
      rcases List.mem_cons.mp hy with rfl | hy
      · exact .inl (Nat.le_refl _)
      · rcases List.mem_append.mp hy with hy | hy
        · exact .inr (hA y hy)
        · rcases List.mem_cons.mp hy with rfl | hy
          · exact .inr (Nat.le_refl _)
          · exact .inl (hC y hy)
    omega
  rw [el, ← W_perm hp, ← hp.countP_eq] at e5
  have e7 : rankC (b :: (A ++ a :: C).reverse) = Wy (a :: (A ++ b :: C)) * (a :: (A ++ b :: C)).countP (fun y => decide (y < b)) / ((A ++ b :: C).length + 1) := by
    show Wy (b :: (A ++ a :: C).reverse) * (b :: (A ++ a :: C).reverse).countP (fun y => decide (y < b)) / ((A ++ a :: C).reverse.length + 1) + rankC (A ++ a :: C).reverse = _
    rw [el, ← W_perm hp, ← hp.countP_eq, e2]
    rfl
  have e8 : rankC (a :: (A ++ b :: C)) = Wy (a :: (A ++ b :: C)) * (a :: (A ++ b :: C)).countP (fun y => decide (y < a)) / ((A ++ b :: C).length + 1) + rankC (A ++ b :: C) := rfl
  obtain ⟨X, hX⟩ : ∃ X, Wy (a :: (A ++ b :: C)) * (a :: (A ++ b :: C)).countP (fun y => decide (y < a)) / ((A ++ b :: C).length + 1) = X := ⟨_, rfl⟩
  obtain ⟨Y, hY⟩ : ∃ Y, Wy (a :: (A ++ b :: C)) * (a :: (A ++ b :: C)).countP (fun y => decide (y < b)) / ((A ++ b :: C).length + 1) = Y := ⟨_, rfl⟩
  rw [hX] at e3 e8
  rw [hY] at e5 e7
  rw [ec, Nat.mul_add, e4, ← e3, ← Nat.mul_add] at e5
  have e6 := Nat.eq_of_mul_eq_mul_left (show 0 < (A ++ b :: C).length + 1 by omega) e5
  omega
end K67
namespace K67
theorem last_max {xs : List Nat} (hp : xs.Pairwise (· < ·)) (y : Nat) (hy : y ∈ xs) : y ≤ lastN xs := by
  obtain ⟨i, hi, rfl⟩ := List.mem_iff_getElem.mp hy
  unfold lastN
  rw [List.getD_eq_getElem?_getD, List.getElem?_eq_getElem (show xs.length - 1 < xs.length by omega)]
  show xs[i] ≤ xs[xs.length - 1]
  rcases Nat.lt_or_ge i (xs.length - 1) with q | q
  · exact Nat.le_of_lt (List.pairwise_iff_getElem.mp hp i (xs.length - 1) hi (by omega) q)
  · have : i = xs.length - 1 := by omega
    subst this
    exact Nat.le_refl _
theorem desc_of : ∀ {t : List Nat}, (∀ k, k + 1 < t.length → t.getD (k + 1) 0 ≤ t.getD k 0) → t.Pairwise (· ≥ ·)
  | [], _ => .nil
  | [a], _ => List.pairwise_singleton _ _
  | a :: b :: r, h => by
    have ih := desc_of (t := b :: r) fun k hk => h (k + 1) (by simpa using hk)
    refine List.pairwise_cons.mpr ⟨fun y hy => ?_, ih⟩
    have h0 : b ≤ a := h 0 (by simp)
    rcases List.mem_cons.mp hy with rfl | hy
    · exact h0
    · have := (List.pairwise_cons.mp ih).1 y hy
      show y ≤ a
      have : y ≤ b := this
      omega
/-- the next text has the next rank -/
theorem next_ok {row : List Nat} (h : risesL row ≠ []) : rankC (nextT row (lastN (risesL row)) (lastN (othersL row (lastN (risesL row))))) = rankC row + 1 ∧ (nextT row (lastN (risesL row)) (lastN (othersL row (lastN (risesL row))))).Perm row := by
  have hm := last_mem h
  have hmax := last_max (xs := risesL row) ((range_pw _).filter _)
  obtain ⟨i, hi⟩ : ∃ i, lastN (risesL row) = i := ⟨_, rfl⟩
  rw [hi] at hm hmax ⊢
  obtain ⟨m1, m2⟩ := List.mem_filter.mp hm
  have m1 := List.mem_range.mp m1
  have m2 : row.getD i 0 < row.getD (i + 1) 0 := of_decide_eq_true m2
  have ho : othersL row i ≠ [] := fun z => by
    have : i + 1 ∈ othersL row i := List.mem_filter.mpr ⟨List.mem_map.mpr ⟨0, List.mem_range.mpr (by omega), by omega⟩, decide_eq_true m2⟩
    rw [z] at this
    cases this
  have hom := last_mem ho
  have opw : (othersL row i).Pairwise (· < ·) := by
    unfold othersL
    refine List.Pairwise.filter _ ?_
    rw [List.pairwise_map]
    exact (range_pw _).imp fun q => by omega
  have omax := last_max opw
  obtain ⟨o, hoe⟩ : ∃ o, lastN (othersL row i) = o := ⟨_, rfl⟩
  rw [hoe] at hom omax ⊢
  obtain ⟨o1, o2⟩ := List.mem_filter.mp hom
  obtain ⟨j, hj, rfl⟩ := List.mem_map.mp o1
  have hj := List.mem_range.mp hj
  have o2 : row.getD i 0 < row.getD (i + 1 + j) 0 := of_decide_eq_true o2
  have hil : i < row.length := by omega
  have hol : i + 1 + j < row.length := by omega
  have tg : ∀ k, (row.drop (i + 1)).getD k 0 = row.getD (i + 1 + k) 0 := fun k => by
    rw [List.getD_eq_getElem?_getD, List.getElem?_drop, List.getD_eq_getElem?_getD]
  have hd : (row.drop (i + 1)).Pairwise (· ≥ ·) := desc_of fun k hk => by
    rw [List.length_drop] at hk
    rw [tg, tg]
    rcases Nat.lt_or_ge (row.getD (i + 1 + k) 0) (row.getD (i + 1 + (k + 1)) 0) with q | q
    · have := hmax (i + 1 + k) (List.mem_filter.mpr ⟨List.mem_range.mpr (by omega), decide_eq_true (by rw [show i + 1 + k + 1 = i + 1 + (k + 1) by omega]; exact q)⟩)
      omega
    · exact q
  have hjl : j < (row.drop (i + 1)).length := by rw [List.length_drop]; omega
  have eb : (row.drop (i + 1))[j] = row.getD (i + 1 + j) 0 := by
    rw [← tg, List.getD_eq_getElem?_getD, List.getElem?_eq_getElem hjl]
    rfl
  have et : row.drop (i + 1) = (row.drop (i + 1)).take j ++ row.getD (i + 1 + j) 0 :: row.drop (i + 1 + j + 1) := by
    have e1 := (List.take_append_drop j (row.drop (i + 1))).symm
    rw [List.drop_eq_getElem_cons hjl, eb, List.drop_drop] at e1
    exact e1
  have er : row = row.take i ++ row.getD i 0 :: ((row.drop (i + 1)).take j ++ row.getD (i + 1 + j) 0 :: row.drop (i + 1 + j + 1)) := by
    rw [← et]
    have e1 := (List.take_append_drop i row).symm
    rw [List.drop_eq_getElem_cons hil] at e1
    rw [List.getD_eq_getElem?_getD, List.getElem?_eq_getElem hil]
    exact e1
  have en : nextT row i (i + 1 + j) = row.take i ++ row.getD (i + 1 + j) 0 :: ((row.drop (i + 1)).take j ++ row.getD i 0 :: row.drop (i + 1 + j + 1)).reverse := by
    unfold nextT
    rw [show i + 1 + j - (i + 1) = j by omega, List.append_assoc, List.append_assoc]
    rfl
  have hC : ∀ c ∈ row.drop (i + 1 + j + 1), c ≤ row.getD i 0 := fun c hc => by
    obtain ⟨m, hm, rfl⟩ := List.mem_iff_getElem.mp hc
    rw [List.length_drop] at hm
    rw [List.getElem_drop]
    rcases Nat.lt_or_ge (row.getD i 0) (row.getD (i + 1 + (j + 1 + m)) 0) with q | q
    · have := omax (i + 1 + (j + 1 + m)) (List.mem_filter.mpr ⟨List.mem_map.mpr ⟨j + 1 + m, List.mem_range.mpr (by omega), rfl⟩, decide_eq_true q⟩)
      omega
    · have eg : row.getD (i + 1 + (j + 1 + m)) 0 = row[i + 1 + (j + 1 + m)]'(by omega) := by rw [List.getD_eq_getElem?_getD, List.getElem?_eq_getElem (show i + 1 + (j + 1 + m) < row.length by omega)]; rfl
      rw [eg] at q
      have e : row[i + 1 + j + 1 + m]'(by omega) = row[i + 1 + (j + 1 + m)]'(by omega) := by congr 1; omega
      rw [e]
      exact q
  rw [et] at hd
  have key := next_rank (pre := row.take i) hd o2 hC
  rw [← er, ← en] at key
  refine ⟨key.symm, ?_⟩
  rw [en]
  conv => rhs; rw [er]
  refine List.Perm.append_left _ ?_
  have p1 : (row.getD i 0 :: ((row.drop (i + 1)).take j ++ row.getD (i + 1 + j) 0 :: row.drop (i + 1 + j + 1))).Perm (row.getD i 0 :: row.getD (i + 1 + j) 0 :: ((row.drop (i + 1)).take j ++ row.drop (i + 1 + j + 1))) := (List.perm_middle).cons _
  have p2 : (row.getD (i + 1 + j) 0 :: ((row.drop (i + 1)).take j ++ row.getD i 0 :: row.drop (i + 1 + j + 1)).reverse).Perm (row.getD (i + 1 + j) 0 :: row.getD i 0 :: ((row.drop (i + 1)).take j ++ row.drop (i + 1 + j + 1))) := ((List.reverse_perm _).trans List.perm_middle).cons _
  exact p2.trans ((List.Perm.swap _ _ _).trans p1.symm)
/-- ascending, by the walk and by pairs -/
theorem ascF_iff : ∀ {xs : List Nat} {b : Nat}, ascF xs b = true ↔ (∀ x ∈ xs, b ≤ x) ∧ xs.Pairwise (· ≤ ·)
  | [], b => by simp [ascF]
  | a :: r, b => by
    unfold ascF
    rw [Bool.and_eq_true, decide_eq_true_iff, ascF_iff, List.pairwise_cons]
    constructor
    · rintro ⟨h1, h2, h3⟩
      exact ⟨fun x hx => by
        rcases List.mem_cons.mp hx with rfl | hx
        · exact h1
        · have := h2 x hx; omega, h2, h3⟩
    · rintro ⟨h1, h2, h3⟩
      exact ⟨h1 a List.mem_cons_self, h2, h3⟩
theorem asc_iff {xs : List Nat} : asc xs = true ↔ xs.Pairwise (· ≤ ·) := by
  unfold asc
  rw [ascF_iff]
  exact ⟨fun h => h.2, fun h => ⟨fun _ _ => Nat.zero_le _, h⟩⟩
theorem asc_srt (xs : List Nat) : asc (srt xs) = true := asc_iff.mpr (srt_asc xs)
theorem asc_eq {xs : List Nat} : asc xs = decide (xs = srt xs) := by
  by_cases h : xs = srt xs
  · rw [decide_eq_true h, h]; exact asc_srt _
  · rw [decide_eq_false h]
    cases e : asc xs with
    | false => rfl
    | true => exact absurd (srt_of (asc_iff.mp e) (.refl _)) h
theorem srt_same {s t : List Nat} (h : ∀ x, s.count x = t.count x) : srt s = srt t := by
  have hp : s.Perm t := List.perm_iff_count.mpr h
  exact asc_uniq (srt_asc s) (srt_asc t) ((srt_perm s).trans (hp.trans (srt_perm t).symm))
/-! ### orders_of_bag is the multinomial -/
def startB (bag : List Nat) (i : Nat) : Bool := decide (i = 0 ∨ bag.getD (i - 1) 0 ≠ bag.getD i 0)
def runs (bag : List Nat) (n : Nat) : List Nat := ((List.range n).filter (startB bag)).map fun i => bag.getD i 0
theorem prodf_snoc : ∀ (xs : List Nat) (c : Nat), prodf (xs ++ [c]) = prodf xs * fact c
  | [], c => by show fact c * 1 = 1 * fact c; omega
  | a :: r, c => by
    show fact a * prodf (r ++ [c]) = fact a * prodf r * fact c
    rw [prodf_snoc r c, Nat.mul_assoc]
theorem orders_fold (bag : List Nat) (o : Nat) : ∀ n, (List.range n).foldl (ordB bag) o = o / prodf ((runs bag n).map fun x => bag.count x)
  | 0 => (Nat.div_one o).symm
  | n + 1 => by
    rw [List.range_succ, List.foldl_append, orders_fold bag o n]
    show ordB bag _ n = _
    unfold runs ordB
    rw [List.range_succ, List.filter_append, List.map_append, List.map_append]
    by_cases h : n = 0 ∨ bag.getD (n - 1) 0 ≠ bag.getD n 0
    · rw [if_pos h, List.filter_cons_of_pos (by unfold startB; exact decide_eq_true h)]
      show _ = o / prodf (_ ++ [bag.count (bag.getD n 0)])
      rw [prodf_snoc, Nat.div_div_eq_div_mul]
    · rw [if_neg h, List.filter_cons_of_neg (by unfold startB; rw [decide_eq_false h]; simp)]
      simp
theorem asc_get {bag : List Nat} (hp : bag.Pairwise (· ≤ ·)) {i j : Nat} (h : i ≤ j) (hj : j < bag.length) : bag.getD i 0 ≤ bag.getD j 0 := by
  rcases Nat.lt_or_eq_of_le h with q | q
  · have := List.pairwise_iff_getElem.mp hp i j (by omega) hj q
    rwa [List.getD_eq_getElem?_getD, List.getD_eq_getElem?_getD, List.getElem?_eq_getElem hj, List.getElem?_eq_getElem (show i < bag.length by omega)]
  · rw [q]; exact Nat.le_refl _
theorem runs_pw {bag : List Nat} (hp : bag.Pairwise (· ≤ ·)) {n : Nat} (hn : n ≤ bag.length) : (runs bag n).Pairwise (· < ·) := by
  unfold runs
  rw [List.pairwise_map]
  refine ((range_pw n).filter (startB bag)).imp_of_mem fun {i j} hi hj hij => ?_
  obtain ⟨j1, j2⟩ := List.mem_filter.mp hj
  have j1 := List.mem_range.mp j1
  have j2 := of_decide_eq_true j2
  have a := asc_get hp (i := i) (j := j - 1) (by omega) (by omega)
  have b := asc_get hp (i := j - 1) (j := j) (by omega) (by omega)
  rcases j2 with z | z
  · omega
  · omega
theorem runs_mem {bag : List Nat} : ∀ n, n ≤ bag.length → ∀ i, i < n → bag.getD i 0 ∈ runs bag n
  | 0, _, i, hi => by omega
  | n + 1, hn, i, hi => by
    have ih := runs_mem (bag := bag) n (by omega)
    have sub : ∀ x ∈ runs bag n, x ∈ runs bag (n + 1) := fun x hx => by
      unfold runs at hx ⊢
      rw [List.range_succ, List.filter_append, List.map_append]
      exact List.mem_append_left _ hx
    rcases Nat.lt_or_eq_of_le (Nat.le_of_lt_succ hi) with q | q
    · exact sub _ (ih i q)
    · subst q
      by_cases h : i = 0 ∨ bag.getD (i - 1) 0 ≠ bag.getD i 0
      · unfold runs
        exact List.mem_map.mpr ⟨i, List.mem_filter.mpr ⟨List.mem_range.mpr (by omega), decide_eq_true h⟩, rfl⟩
      · rw [not_or] at h
        have e : bag.getD (i - 1) 0 = bag.getD i 0 := Classical.not_not.mp h.2
        rw [← e]
        exact sub _ (ih (i - 1) (by omega))
theorem orders_W {bag : List Nat} (hp : bag.Pairwise (· ≤ ·)) : ordersB bag = Wy bag := by
  unfold ordersB Wy
  rw [orders_fold, prodf_Q (runs_pw hp (Nat.le_refl _)) bag fun x hx => by
    obtain ⟨i, hi, rfl⟩ := List.mem_iff_getElem.mp hx
    have := runs_mem bag.length (Nat.le_refl _) i hi
    rwa [List.getD_eq_getElem?_getD, List.getElem?_eq_getElem hi] at this]
end K67
namespace K67
/-! pushed and popped -/
theorem pop_push {st l : Nat} {tb : List Nat} (h : 0 < tb.getD l 0) : popB (pushB st tb l) tb = (l, st) := by
  have hm : st % tb.getD l 0 < tb.getD l 0 := Nat.mod_lt _ h
  have ht := take_le_sum tb (l + 1)
  rw [take_succ_sum] at ht
  have hs : 0 < tb.sum := by omega
  have e1 : pushB st tb l = ((tb.take l).sum + st % tb.getD l 0) + tb.sum * (st / tb.getD l 0) := by unfold pushB; omega
  have e2 : pushB st tb l % tb.sum = (tb.take l).sum + st % tb.getD l 0 := by
    rw [e1, Nat.add_mul_mod_self_left, Nat.mod_eq_of_lt (by omega)]
  have e3 : pushB st tb l / tb.sum = st / tb.getD l 0 := by
    rw [e1, Nat.add_mul_div_left _ _ hs, Nat.div_eq_of_lt (by omega), Nat.zero_add]
  unfold popB
  rw [e2, e3, seek_at hm]
  show (l, tb.getD l 0 * (st / tb.getD l 0) + st % tb.getD l 0) = (l, st)
  rw [Nat.div_add_mod]
theorem push_pop {st : Nat} {tb : List Nat} (h : 0 < tb.sum) : pushB (popB st tb).2 tb (popB st tb).1 = st := by
  obtain ⟨a, b, c⟩ := seek_lt (tb := tb) (p := st % tb.sum) (Nat.mod_lt _ h)
  obtain ⟨q, hq⟩ : ∃ q, seek tb (st % tb.sum) = q := ⟨_, rfl⟩
  rw [hq] at a b c
  unfold popB
  rw [hq]
  show tb.sum * ((tb.getD q.1 0 * (st / tb.sum) + q.2) / tb.getD q.1 0) + (tb.take q.1).sum + (tb.getD q.1 0 * (st / tb.sum) + q.2) % tb.getD q.1 0 = st
  have hc : 0 < tb.getD q.1 0 := by omega
  rw [Nat.add_comm (tb.getD q.1 0 * (st / tb.sum)) q.2, Nat.add_mul_div_left _ _ hc, Nat.add_mul_mod_self_left, Nat.div_eq_of_lt b, Nat.mod_eq_of_lt b, Nat.zero_add]
  have := Nat.div_add_mod st tb.sum
  omega
theorem zip_get {g : Nat} {st text : List Nat} {k : Nat} (hk : k < text.length) : ((tabsOf g st text).zip text)[k]'(by rw [List.length_zip, tabs_len, Nat.min_self]; exact hk) = (afterT g st (text.take k), text[k]) := by
  rw [List.getElem_zip]
  congr 1
  unfold tabsOf
  rw [List.getElem_map, List.getElem_range]
theorem zip_len (g : Nat) (st text : List Nat) : ((tabsOf g st text).zip text).length = text.length := by rw [List.length_zip, tabs_len, Nat.min_self]
theorem popLn_push {g stack : Nat} {st text : List Nat} (h : Tx st text) : ∀ k, k ≤ text.length → popLn g st (pushLn stack g st text) k = (text.take k, pushL stack (((tabsOf g st text).zip text).drop k))
  | 0, _ => rfl
  | k + 1, hk => by
    have hk' : k < text.length := by omega
    have ih := popLn_push (g := g) (stack := stack) h k (by omega)
    have hz : k < ((tabsOf g st text).zip text).length := by rw [zip_len]; exact hk'
    have hf := (tabs_fit (g := g) h).2 _ (List.getElem_mem hz)
    rw [zip_get hk'] at hf
    show ((popLn g st (pushLn stack g st text) k).1 ++ [_], _) = _
    rw [ih]
    have e := pushL_drop (st := stack) hz
    rw [zip_get hk'] at e
    show (text.take k ++ [(popB (pushL stack (((tabsOf g st text).zip text).drop k)) (afterT g st (text.take k))).1], (popB (pushL stack (((tabsOf g st text).zip text).drop k)) (afterT g st (text.take k))).2) = _
    rw [e, pop_push hf.2, List.take_succ_eq_append_getElem hk']
theorem popLn_all {g stack : Nat} {st text : List Nat} (h : Tx st text) : popLn g st (pushLn stack g st text) text.length = (text, stack) := by
  rw [popLn_push h _ (Nat.le_refl _), List.take_length, List.drop_eq_nil_of_le (by rw [zip_len]; exact Nat.le_refl _)]
  rfl
theorem popLn_take {g : Nat} {st : List Nat} (h : Lr g st) (stack : Nat) {n : Nat} (hn : n ≤ 8) : ∀ d, d ≤ n → (popLn g st stack n).1.take (n - d) = (popLn g st stack (n - d)).1
  | 0, _ => by
    rw [Nat.sub_zero, List.take_of_length_le]
    exact Nat.le_of_eq (popLn_ok h stack n hn).2.1
  | d + 1, hd => by
    have ih := popLn_take h stack hn d (by omega)
    have e : n - d = (n - (d + 1)) + 1 := by omega
    have l := (popLn_ok h stack (n - (d + 1)) (by omega)).2.1
    have : (popLn g st stack n).1.take (n - (d + 1)) = ((popLn g st stack n).1.take (n - d)).take (n - (d + 1)) := by
      rw [List.take_take]
      congr 1
      omega
    rw [this, ih, e]
    show ((popLn g st stack (n - (d + 1))).1 ++ [_]).take (n - (d + 1)) = _
    rw [List.take_append_of_le_length (by omega), List.take_of_length_le (by omega)]
theorem push_popLn {g : Nat} {st : List Nat} (h : Lr g st) (stack : Nat) {n : Nat} (hn : n ≤ 8) : ∀ d, d ≤ n → pushL (popLn g st stack n).2 (((tabsOf g st (popLn g st stack n).1).zip (popLn g st stack n).1).drop (n - d)) = (popLn g st stack (n - d)).2
  | 0, _ => by
    rw [Nat.sub_zero, List.drop_eq_nil_of_le (by rw [zip_len, (popLn_ok h stack n hn).2.1]; exact Nat.le_refl _)]
    rfl
  | d + 1, hd => by
    have ih := push_popLn h stack hn d (by omega)
    have e : n - d = (n - (d + 1)) + 1 := by omega
    have hl := (popLn_ok h stack n hn).2.1
    have hk : n - (d + 1) < (popLn g st stack n).1.length := by omega
    have hz : n - (d + 1) < ((tabsOf g st (popLn g st stack n).1).zip (popLn g st stack n).1).length := by rw [zip_len]; exact hk
    rw [pushL_drop hz, ← e, ih, zip_get hk, popLn_take h stack hn (d + 1) hd]
    have et := popLn_take h stack hn d (by omega)
    have ok := popLn_ok h stack (n - (d + 1)) (by omega)
    have tb := (h.tb ok.1.lt ok.1.len).1
    have ex : (popLn g st stack n).1[n - (d + 1)] = (popB (popLn g st stack (n - (d + 1))).2 (afterT g st (popLn g st stack (n - (d + 1))).1)).1 := by
      have e1 : ((popLn g st stack n).1.take (n - d))[n - (d + 1)]? = (popLn g st stack n).1[n - (d + 1)]? := List.getElem?_take_of_lt (by omega)
      rw [et, e, List.getElem?_eq_getElem hk] at e1
      have e2 : (popLn g st stack (n - (d + 1) + 1)).1 = (popLn g st stack (n - (d + 1))).1 ++ [(popB (popLn g st stack (n - (d + 1))).2 (afterT g st (popLn g st stack (n - (d + 1))).1)).1] := rfl
      rw [e2, List.getElem?_append_right (by omega), ok.2.1, Nat.sub_self] at e1
      exact (Option.some.inj e1).symm
    show pushB (popLn g st stack (n - d)).2 (afterT g st (popLn g st stack (n - (d + 1))).1) (popLn g st stack n).1[n - (d + 1)] = _
    rw [ex, e]
    exact push_pop tb.pos
theorem push_popL {g : Nat} {st : List Nat} (h : Lr g st) (stack : Nat) {n : Nat} (hn : n ≤ 8) : pushLn (popLn g st stack n).2 g st (popLn g st stack n).1 = stack := by
  have := push_popLn h stack hn n (Nat.le_refl _)
  rw [Nat.sub_self, List.drop_zero] at this
  exact this
/-! ### bags -/
theorem back_drop {n stack : Nat} {text : List Nat} {k : Nat} (hk : k < text.length) : pushL stack ((backOf n text).drop k) = pushB (pushL stack ((backOf n text).drop (k + 1))) (tally n (text.drop k)) (text.getD k 0) := by
  rw [pushL_drop (by rw [back_len]; exact hk), back_get hk]
theorem draw_back {n stack : Nat} {text : List Nat} (h : ∀ l ∈ text, l < n) : ∀ k, k ≤ text.length → drawB (tally n text) (pushL stack (backOf n text)) k = (tally n (text.drop k), text.take k, pushL stack ((backOf n text).drop k))
  | 0, _ => rfl
  | k + 1, hk => by
    have hk' : k < text.length := by omega
    have ih := draw_back (stack := stack) h k (by omega)
    have hf := back_fit h hk'
    have eg : text.getD k 0 = text[k] := by rw [List.getD_eq_getElem?_getD, List.getElem?_eq_getElem hk']; rfl
    show ((drawB (tally n text) (pushL stack (backOf n text)) k).1.set _ _, _ ++ [_], _) = _
    rw [ih]
    show ((tally n (text.drop k)).set (popB (pushL stack ((backOf n text).drop k)) (tally n (text.drop k))).1 ((tally n (text.drop k)).getD (popB (pushL stack ((backOf n text).drop k)) (tally n (text.drop k))).1 0 - 1), text.take k ++ [(popB (pushL stack ((backOf n text).drop k)) (tally n (text.drop k))).1], (popB (pushL stack ((backOf n text).drop k)) (tally n (text.drop k))).2) = _
    rw [back_drop hk', pop_push hf.2]
    show (less (tally n (text.drop k)) (text.getD k 0), text.take k ++ [text.getD k 0], pushL stack ((backOf n text).drop (k + 1))) = _
    rw [eg, List.drop_eq_getElem_cons hk', tally_less (h _ (List.getElem_mem hk')), List.take_succ_eq_append_getElem hk']
theorem tally_same {n : Nat} {s t : List Nat} (h : ∀ x, s.count x = t.count x) : tally n s = tally n t := List.map_congr_left fun x _ => h x
/-- a bag popped is pushed back -/
theorem push_popBag {g : Nat} {st : List Nat} (h : Lr g st) (stack : Nat) {n : Nat} (hn : n ≤ 8) : pushBag (popBag stack g st n).2 g st (popBag stack g st n).1 = stack := by
  have ok := popLn_ok h stack n hn
  have hl : (srt (popLn g st stack n).1).length = n := by rw [(srt_perm _).length_eq]; exact ok.2.1
  have e := draw_back (n := st.length) (stack := (popLn g st stack n).2) ok.1.lt _ (Nat.le_refl _)
  unfold pushBag popBag
  show pushLn (drawB (tally st.length (srt (popLn g st stack n).1)) (pushL (popLn g st stack n).2 (backOf st.length (popLn g st stack n).1)) (srt (popLn g st stack n).1).length).2.2 g st (drawB (tally st.length (srt (popLn g st stack n).1)) (pushL (popLn g st stack n).2 (backOf st.length (popLn g st stack n).1)) (srt (popLn g st stack n).1).length).2.1 = stack
  rw [ok.2.1] at e
  rw [tally_same (fun x => (srt_perm (popLn g st stack n).1).count_eq x), hl, e, List.take_of_length_le (Nat.le_of_eq ok.2.1), List.drop_eq_nil_of_le (as := backOf st.length (popLn g st stack n).1) (by rw [back_len]; exact Nat.le_of_eq ok.2.1)]
  exact push_popL h stack hn
theorem draw_take {n : Nat} {bag : List Nat} (h : ∀ l ∈ bag, l < n) (stack : Nat) : ∀ d, d ≤ bag.length → (drawB (tally n bag) stack bag.length).2.1.take (bag.length - d) = (drawB (tally n bag) stack (bag.length - d)).2.1
  | 0, _ => by
    rw [Nat.sub_zero, List.take_of_length_le]
    exact Nat.le_of_eq (drawB_ok h stack _ (Nat.le_refl _)).tl
  | d + 1, hd => by
    have ih := draw_take h stack d (by omega)
    have e : bag.length - d = (bag.length - (d + 1)) + 1 := by omega
    have l := (drawB_ok h stack (bag.length - (d + 1)) (by omega)).tl
    have : (drawB (tally n bag) stack bag.length).2.1.take (bag.length - (d + 1)) = ((drawB (tally n bag) stack bag.length).2.1.take (bag.length - d)).take (bag.length - (d + 1)) := by
      rw [List.take_take]
      congr 1
      omega
    rw [this, ih, e]
    show ((drawB (tally n bag) stack (bag.length - (d + 1))).2.1 ++ [_]).take (bag.length - (d + 1)) = _
    rw [List.take_append_of_le_length (by omega), List.take_of_length_le (by omega)]
/-- the drawn text has the bag's letters -/
theorem draw_count {n : Nat} {bag : List Nat} (h : ∀ l ∈ bag, l < n) (stack : Nat) (x : Nat) : (drawB (tally n bag) stack bag.length).2.1.count x = bag.count x := by
  have d := drawB_ok h stack _ (Nat.le_refl _)
  have hz : (drawB (tally n bag) stack bag.length).1.sum = 0 := by have := d.sum; omega
  by_cases hx : x < n
  · have := d.cnt x hx
    have := getD_le_sum (drawB (tally n bag) stack bag.length).1 x
    omega
  · rw [List.count_eq_zero.mpr fun z => hx (d.lt x z), List.count_eq_zero.mpr fun z => hx (h x z)]
theorem back_draw {n : Nat} {bag : List Nat} (h : ∀ l ∈ bag, l < n) (stack : Nat) : ∀ d, d ≤ bag.length → pushL (drawB (tally n bag) stack bag.length).2.2 ((backOf n (drawB (tally n bag) stack bag.length).2.1).drop (bag.length - d)) = (drawB (tally n bag) stack (bag.length - d)).2.2
  | 0, _ => by
    rw [Nat.sub_zero, List.drop_eq_nil_of_le (by rw [back_len, (drawB_ok h stack _ (Nat.le_refl _)).tl]; exact Nat.le_refl _)]
    rfl
  | d + 1, hd => by
    have ih := back_draw h stack d (by omega)
    have e : bag.length - d = (bag.length - (d + 1)) + 1 := by omega
    have dn := drawB_ok h stack _ (Nat.le_refl _)
    have hk : bag.length - (d + 1) < (drawB (tally n bag) stack bag.length).2.1.length := by rw [dn.tl]; omega
    have dk := drawB_ok h stack (bag.length - (d + 1)) (by omega)
    have et := draw_take h stack d (by omega)
    have et1 := draw_take h stack (d + 1) hd
    have hs : 0 < (drawB (tally n bag) stack (bag.length - (d + 1))).1.sum := by have := dk.sum; omega
    rw [back_drop hk, ← e, ih]
    have ex : (drawB (tally n bag) stack bag.length).2.1.getD (bag.length - (d + 1)) 0 = (popB (drawB (tally n bag) stack (bag.length - (d + 1))).2.2 (drawB (tally n bag) stack (bag.length - (d + 1))).1).1 := by
      have e1 : ((drawB (tally n bag) stack bag.length).2.1.take (bag.length - d))[bag.length - (d + 1)]? = (drawB (tally n bag) stack bag.length).2.1[bag.length - (d + 1)]? := List.getElem?_take_of_lt (by omega)
      have e2 : (drawB (tally n bag) stack (bag.length - (d + 1) + 1)).2.1 = (drawB (tally n bag) stack (bag.length - (d + 1))).2.1 ++ [(popB (drawB (tally n bag) stack (bag.length - (d + 1))).2.2 (drawB (tally n bag) stack (bag.length - (d + 1))).1).1] := rfl
      rw [et, e, e2, List.getElem?_append_right (by rw [dk.tl]; exact Nat.le_refl _), dk.tl, Nat.sub_self] at e1
      rw [List.getD_eq_getElem?_getD, ← e1]
      rfl
    have ec : tally n ((drawB (tally n bag) stack bag.length).2.1.drop (bag.length - (d + 1))) = (drawB (tally n bag) stack (bag.length - (d + 1))).1 := by
      refine ext_getD (by rw [tally_len, dk.len]) fun x hx => ?_
      rw [tally_len] at hx
      rw [tally_get n _ hx]
      have a := dk.cnt x hx
      have b := draw_count h stack x
      have c : (drawB (tally n bag) stack bag.length).2.1.count x = ((drawB (tally n bag) stack bag.length).2.1.take (bag.length - (d + 1))).count x + ((drawB (tally n bag) stack bag.length).2.1.drop (bag.length - (d + 1))).count x := by
        rw [← List.count_append, List.take_append_drop]
      rw [et1] at c
      omega
    rw [ex, ec, e]
    exact push_pop hs
/-- a bag pushed is popped -/
theorem popBag_push {g : Nat} {st bag : List Nat} (h : Lr g st) (stack : Nat) (b : Bg st bag) : popBag (pushBag stack g st bag) g st bag.length = (bag, stack) := by
  have d := drawB_ok b.tx.lt stack _ (Nat.le_refl _)
  have t := d.tx b.tx (Nat.le_refl _)
  have e := popLn_all (g := g) (stack := (drawB (tally st.length bag) stack bag.length).2.2) t
  rw [d.tl] at e
  unfold popBag pushBag
  rw [e]
  have e1 := back_draw b.tx.lt stack bag.length (Nat.le_refl _)
  rw [Nat.sub_self, List.drop_zero] at e1
  show (srt (drawB (tally st.length bag) stack bag.length).2.1, pushL (drawB (tally st.length bag) stack bag.length).2.2 (backOf st.length (drawB (tally st.length bag) stack bag.length).2.1)) = (bag, stack)
  rw [e1, srt_same (draw_count b.tx.lt stack), ← srt_of (asc_iff.mp b.asc) (.refl _)]
  rfl
end K67
namespace K67
open PySem PySem.Spec PyProof.Rows L2
theorem perm1_rel {zs : List L2.V} {ws : List Value} (h : Vals zs ws) : Vals zs ws := h
/-- one keyword -/
def pm1 (k p : Str) : Perm_ [k] [p] := ⟨id, id, id, fun h _ => h, fun h _ => h⟩
def sw2 {α : Type} : List α → List α
  | [a, b] => [b, a]
  | _ => []
/-- two keywords, the other way round -/
def pm2 (k1 k2 p1 p2 : Str) : Perm_ [k1, k2] [p1, p2] := ⟨sw2, sw2, sw2, fun {zs ws} h hl => by
  match zs, ws, h, hl with
  | [_, _], _, .cons a (.cons b .nil), _ => exact .cons b (.cons a .nil), fun {K I zs ds} h hl => by
  match zs, ds, h, hl with
  | [_, _], _, .cons a (.cons b .nil), _ => exact .cons b (.cons a .nil)⟩
def rv3 {α : Type} : List α → List α
  | [a, b, c] => [c, b, a]
  | _ => []
/-- three keywords, from the last to the first -/
def pm3 (k1 k2 k3 p1 p2 p3 : Str) : Perm_ [k1, k2, k3] [p1, p2, p3] := ⟨rv3, rv3, rv3, fun {zs ws} h hl => by
  match zs, ws, h, hl with
  | [_, _, _], _, .cons a (.cons b (.cons c .nil)), _ => exact .cons c (.cons b (.cons a .nil)), fun {K I zs ds} h hl => by
  match zs, ds, h, hl with
  | [_, _, _], _, .cons a (.cons b (.cons c .nil)), _ => exact .cons c (.cons b (.cons a .nil))⟩
/-! ### what may be shown -/
theorem plain_n {n : Nat} (h : n < 2 ^ 1900) : plainD (nD n) = true := by
  show decide ((n : Int).natAbs.log2 < 1920) = true
  rw [Int.natAbs_natCast]
  have := PySem.Flt.log2_lt_of (k := 1900) (by decide) h
  exact decide_eq_true (by omega)
theorem plain_ns : ∀ {xs : List Nat}, (∀ x ∈ xs, x < 2 ^ 1900) → plainAll (xs.map nD) = true ∧ nodesAll (xs.map nD) = xs.length ∧ PyData.depthAll (xs.map nD) = 0
  | [], _ => ⟨rfl, rfl, by simp [PyData.depthAll]⟩
  | a :: r, h => by
    obtain ⟨h1, h2, h3⟩ := plain_ns (xs := r) fun x hx => h x (List.mem_cons_of_mem _ hx)
    refine ⟨?_, ?_, ?_⟩
    · show (plainD (nD a) && plainAll (r.map nD)) = true
      rw [plain_n (h a List.mem_cons_self), h1]
      rfl
    · show nodes (nD a) + nodesAll (r.map nD) = r.length + 1
      rw [h2]
      show 1 + r.length = _
      omega
    · simp [PyData.depthAll, PyData.depth, h3]
theorem plain_t {xs : List Nat} (h : ∀ x ∈ xs, x < 2 ^ 1900) : plainD (tN xs) = true ∧ nodes (tN xs) = xs.length + 1 ∧ (tN xs).depth = 1 := by
  obtain ⟨h1, h2, h3⟩ := plain_ns h
  exact ⟨h1, by show nodesAll (xs.map nD) + 1 = _; rw [h2], by simp [PyData.depth, h3]⟩
theorem rp_n {n : Nat} (h : n < 2 ^ 1900) : Rp (nD n) := ⟨plain_n h, by simp [PyData.depth], by show 1 ≤ 8000; decide⟩
theorem rp_t {xs : List Nat} (h : ∀ x ∈ xs, x < 2 ^ 1900) (hl : xs.length ≤ 1000) : Rp (tN xs) := by
  obtain ⟨h1, h2, h3⟩ := plain_t h
  exact ⟨h1, by omega, by omega⟩
theorem lt1900 {n : Nat} (h : n < 2 ^ 200) : n < 2 ^ 1900 := Nat.lt_of_lt_of_le h (Nat.pow_le_pow_right (by decide) (by decide))
theorem W_lt {t : List Nat} (h : t.length ≤ 41) : Wy t < 2 ^ 200 := by
  have hb := bound t
  rw [← multi_tally hb]
  have := multi_le (tally (t.sum + 1) t)
  rw [tally_sum _ _ hb] at this
  exact Nat.lt_of_le_of_lt this (Nat.lt_of_le_of_lt (fact_mono h) fact41)
section
variable {P : Program} {w : World} {K : PySem.W.Frag} {mg : Str → Option Value} {base : Heap} [W : Wd K mg] [WE : WdE w K mg]
theorem ok_law_ranks_right : Cle P w K mg base "_law_ranks_right" 186 ["_law_row", "_law_kinds"] 8 (spP K (fun x : List Nat × Nat => [tN x.1, nD x.2]) (fun x => x.1.length ≤ 41 ∧ x.2 ≤ 8 ∧ ∀ l ∈ x.1, l < x.2) (fun _ => .bool true)) := by
  refine mkP df186 (fun _ => rfl) (fun f cdv A outer s H E' ci a hp => ?_)
  obtain ⟨row, n⟩ := a
  obtain ⟨h1, h2, h3⟩ := hp
  have h1 : row.length ≤ 41 := h1
  have h2 : n ≤ 8 := h2
  have h3 : ∀ l ∈ row, l < n := h3
  have h8 : ∀ l ∈ row, l < 8 := fun l hl => by have := h3 l hl; omega
  have hrk := rankC_lt h3
  have hW := W_lt h1
  have small : ∀ (t : List Nat), (∀ l ∈ t, l < 8) → ∀ x ∈ t, x < 2 ^ 1900 := fun t ht x hx => lt1900 (Nat.lt_of_lt_of_le (ht x hx) (by decide))
  have hts : (tally n row).sum ≤ 41 := by rw [tally_sum n row h3]; exact h1
  have hlt := multi_tally h3
  refine ss_cons (s_asg (q_call ok_law_placed row (a_cons (e_name 0) a_nil) ⟨h1, h8⟩) (tg_tup cK ci.calm (tgs_cons (js := [2]) (tg_name 2 nd_) (tgs_cons (js := [3]) (tg_name 3 nd_) tgs_nil))) ?_)
  refine ss_cons (s_set 4 (q_call ok_law_next row (a_cons (e_name 0) a_nil) (show row.length ≤ 100 by omega)) nd_ ?_)
  show Ss K _ _ [.im (tN row), .im (nD n), .im (nD (rank8 row)), .im (nD (ways8 row)), .im (if risesL row = [] then .none else tN (nextT row (lastN (risesL row)) (lastN (othersL row (lastN (risesL row)))))), .no, .no] _
  rw [rank8_C h8, ways8_W h8]
  have rp1 : Rp (.list [nD (rankC row), tN row]) := by
    obtain ⟨p1, p2, p3⟩ := plain_t (small row h8)
    refine ⟨?_, ?_, ?_⟩
    · show (plainD (nD (rankC row)) && (plainD (tN row) && true)) = true
      rw [plain_n (lt1900 (by omega)), p1]
      rfl
    · simp [PyData.depth, PyData.depthAll] at p3 ⊢
      omega
    · show nodes (nD (rankC row)) + (nodes (tN row) + 0) + 1 ≤ 8000
      rw [p2]
      show 1 + _ + 1 ≤ 8000
      omega
  refine ss_cons (s_if (t_not (t_val (q_call ok_law_same (.list [nD (rankC row), tN row]) (a_cons (el_list (a_cons (e_to (q_call ok_rank_of_text row (a_cons (e_name 0) a_nil) ⟨h1, h8⟩) (by rw [rankT_C h8])) (a_cons (e_to (q_call ok_text_by (tally n row, rankC row) (a_cons (q_call ok_law_tally (n, row) (a_cons (e_name 1) (a_cons (e_name 0) a_nil)) (show n < 1000 by omega)) (a_cons (e_name 2) a_nil)) ⟨by show (tally n row).length ≤ 8; rw [tally_len]; exact h2, hts, by show rankC row < multi (tally n row); rw [hlt]; exact hrk⟩) (by show tN (textT (tally n row) (rankC row)) = _; rw [textT_rank h3])) a_nil))).im (a_cons (el_list (a_cons (e_name 2) (a_cons (e_name 0) a_nil))).im a_nil)) ⟨rp1, .inr (.inl ⟨_, rfl⟩)⟩))) (fun h => by cases h) fun _ => ss_nil ?_)
  have tail : ∀ ρ' : DE, (∃ l, ρ' = [.im (tN row), .im (nD n), .im (nD (rankC row)), .im (nD (Wy row)), l, .no, .no]) → Ss K (bodyX P w K mg base ["_law_row", "_law_kinds", "_law_spot", "_law_ways", "_law_late", "_law_round_row", "_law_x"] "_law_ranks_right" (topS 186) f cdv A outer s H E') ((defBody (topS 186)).drop 4) ρ' { nx := fun _ => PyData.none = PyData.bool true, rt := fun _ d => d = PyData.bool true } := by
    rintro ρ' ⟨l, rfl⟩
    have hcl : ∀ x ∈ comp n row, x < 8 := fun x hx => by
      obtain ⟨y, hy, rfl⟩ := List.mem_map.mp hx
      have := h3 y hy
      omega
    have hcW := comp_W h3
    have hcr := comp_rank h3
    have hclen : (comp n row).length = row.length := by simp [comp]
    refine ss_cons (s_set 5 (e_to (q_tuple (q_lcM (xs := row) (g := nD) (h := fun x => nD (n - 1 - x)) [("_law_x", 6)] (src_tup cK (e_name 0)) (by omega) fun x hx => lc_map 6 (e_bin (e_bin (e_name 1) (e_nat 1) (n_sub (by have := h3 x hx; omega))) (e_name 6) (n_sub (by have := h3 x hx; omega)))).im) (y := tN (comp n row)) (by unfold comp; rw [tN, List.map_map]; rfl)) nd_ ?_)
    refine ss_cons (s_if (t := false) (t_to (t_of (t_and (t_cmp (q_len (e_name 0) (hm := List.length_map ..)) (e_nat 9) n_lt) fun h9 => t_and1 (t_not (t_val (q_call ok_law_same (nD (Wy row)) (a_cons (e_to (q_callK ok_orders_of_bag (pm1 "bag" "bag") (srt (comp n row)) (ak_cons (q_call ok_bag_of (comp n row) (a_cons (e_name 5) a_nil) (show (comp n row).length < 5000 by omega)) ak_nil) rfl rfl (by decide) (fun _ _ _ _ _ _ us hl => match us, hl with | [_], _ => rfl) ⟨by rw [(srt_perm _).length_eq, hclen]; have := of_decide_eq_true h9; omega, asc_srt _⟩) (by show nD (ordersB (srt (comp n row))) = _; rw [orders_W (srt_asc _), W_perm (srt_perm _), hcW])) (a_cons (e_name 3) a_nil)) ⟨rp_n (lt1900 hW), .inl ⟨_, rfl⟩⟩))))) (by simp)) (fun h => by cases h) fun _ => ss_nil ?_)
    refine ss_cons (s_ret (q_call ok_law_same (nD (rankC (comp n row))) (a_cons (e_to (q_callK ok_rank_of_text (pm1 "text" "text") (comp n row) (ak_cons (e_name 5) ak_nil) rfl rfl (by decide) (fun _ _ _ _ _ _ us hl => match us, hl with | [_], _ => rfl) ⟨by rw [hclen]; exact h1, hcl⟩) (by show nD (rankT (comp n row)) = _; rw [rankT_C hcl])) (a_cons (e_to (e_bin (e_bin (e_name 3) (e_nat 1) (n_sub (by omega))) (e_name 2) (n_sub (by omega))) (by show nD _ = nD _; congr 1; omega)) a_nil)) ⟨rp_n (lt1900 (by omega)), .inl ⟨_, rfl⟩⟩) rfl)
  by_cases hr : risesL row = []
  · rw [if_pos hr]
    exact ss_cons (s_if (t := false) (t_to (t_of (t_and (u := true) (t_cmp (e_name 4) e_none o_notN0) fun h => by cases h)) rfl) (fun h => by cases h) fun _ => ss_nil (tail _ ⟨_, rfl⟩))
  · rw [if_neg hr]
    obtain ⟨k1, k2⟩ := next_ok hr
    obtain ⟨nx, hnx⟩ : ∃ nx, nextT row (lastN (risesL row)) (lastN (othersL row (lastN (risesL row)))) = nx := ⟨_, rfl⟩
    rw [hnx] at k1 k2 ⊢
    have n3 : ∀ l ∈ nx, l < n := fun l hl => h3 l (k2.mem_iff.mp hl)
    have n8 : ∀ l ∈ nx, l < 8 := fun l hl => h8 l (k2.mem_iff.mp hl)
    have nlt := rankC_lt n3
    rw [k1, W_perm k2] at nlt
    have ntx := textT_rank n3
    rw [k1, tally_same (fun x => k2.count_eq x)] at ntx
    have rp2 : Rp (tN nx) := rp_t (small nx n8) (by rw [k2.length_eq]; omega)
    refine ss_cons (s_if (t := false) (t_to (t_of (t_and (t_cmp (e_name 4) e_none (o_notN (by intro z; cases z))) fun _ => t_and1 (t_not (t_val (q_call ok_law_same (tN nx) (a_cons (e_to (q_callK ok_text_by (pm2 "rank" "counts" "counts" "rank") (tally n row, rankC row + 1) (ak_cons (e_bin (e_name 2) (e_nat 1) n_add) (ak_cons (q_call ok_law_tally (n, row) (a_cons (e_name 1) (a_cons (e_name 0) a_nil)) (show n < 1000 by omega)) ak_nil)) rfl rfl (by decide) (fun _ _ _ _ _ _ us hl => match us, hl with | [_, _], _ => rfl) ⟨by show (tally n row).length ≤ 8; rw [tally_len]; exact h2, hts, by show rankC row + 1 < multi (tally n row); rw [hlt]; exact nlt⟩) (by show tN (textT (tally n row) (rankC row + 1)) = _; rw [ntx])) (a_cons (e_name 4) a_nil)) ⟨rp2, .inr (.inr ⟨_, rfl⟩)⟩))))) (by simp)) (fun h => by cases h) fun _ => ss_nil (tail _ ⟨_, rfl⟩))
end
end K67
namespace K67
/-! the orders of a bag, in the order of their ranks -/
theorem seek_range : ∀ tb : List Nat, (List.range tb.sum).map (seek tb) = (List.range tb.length).flatMap fun j => (List.range (tb.getD j 0)).map fun p => (j, p)
  | [] => rfl
  | a :: r => by
    have ih := seek_range r
    rw [List.sum_cons, List.range_add, List.map_append, List.map_map, List.length_cons, List.range_succ_eq_map, List.flatMap_cons, List.flatMap_map]
    congr 1
    · show _ = (List.range a).map fun p => (0, p)
      refine List.map_congr_left fun p hp => ?_
      have hp := List.mem_range.mp hp
      simp [seek, hp]
    · have e : (List.range r.length).flatMap (fun j => (List.range ((a :: r).getD (Nat.succ j) 0)).map fun p => (Nat.succ j, p)) = ((List.range r.length).flatMap fun j => (List.range (r.getD j 0)).map fun p => (j, p)).map fun q => (q.1 + 1, q.2) := by
        rw [List.map_flatMap]
        refine congrArg (fun f => (List.range r.length).flatMap f) (funext fun j => ?_)
        rw [List.map_map]
        rfl
      refine Eq.trans ?_ e.symm
      rw [← ih, List.map_map]
      refine List.map_congr_left fun p _ => ?_
      show seek (a :: r) (a + p) = _
      unfold seek
      rw [if_neg (by omega), Nat.add_sub_cancel_left]
      cases r <;> rfl
theorem text_list {n : Nat} {cs : List Nat} (h : cs.sum = n + 1) : (List.range (multi cs)).map (textF (n + 1) cs) = (List.range cs.length).flatMap fun j => if cs.getD j 0 = 0 then [] else (List.range (multi (less cs j))).map fun p => j :: textF n (less cs j) p := by
  have e : textF (n + 1) cs = (fun s : Nat × Nat => s.1 :: textF n (less cs s.1) s.2) ∘ seek (marks cs) := rfl
  rw [← marks_sum (cs := cs) (by omega), e, ← List.map_map, seek_range, List.map_flatMap, marks_len]
  refine congrArg (fun f => (List.range cs.length).flatMap f) (funext fun j => ?_)
  rw [List.map_map, marks_get]
  split
  · rename_i z
    rw [begins_zero z]
    rfl
  · rename_i z
    rw [begins_pos (Nat.pos_of_ne_zero z)]
    rfl
def ordR : Nat → List Nat → List (List Nat)
  | 0, _ => [[]]
  | n + 1, left => (spotsL left).flatMap fun k => (ordR n (left.take k ++ left.drop (k + 1))).map (left.getD k 0 :: ·)
def itO : Nat → List (List Nat × List Nat) → List (List Nat × List Nat)
  | 0, xs => xs
  | n + 1, xs => (itO n xs).flatMap stepO
theorem ordO_it (lot : List Nat) : ∀ n, ordO lot n = itO n [([], lot)]
  | 0 => rfl
  | n + 1 => by show (ordO lot n).flatMap stepO = _; rw [ordO_it lot n]; rfl
theorem itO_flat : ∀ n xs, itO n xs = xs.flatMap fun x => itO n [x]
  | 0, xs => by show xs = xs.flatMap fun x => [x]; simp
  | n + 1, xs => by show (itO n xs).flatMap stepO = xs.flatMap fun x => (itO n [x]).flatMap stepO; rw [itO_flat n xs, List.flatMap_assoc]
theorem itO_succ : ∀ n xs, itO (n + 1) xs = itO n (xs.flatMap stepO)
  | 0, xs => rfl
  | n + 1, xs => by show (itO (n + 1) xs).flatMap stepO = (itO n (xs.flatMap stepO)).flatMap stepO; rw [itO_succ n xs]
theorem front : ∀ n row left, (itO n [(row, left)]).map (·.1) = (ordR n left).map (row ++ ·)
  | 0, row, left => by show [row] = [row ++ []]; rw [List.append_nil]
  | n + 1, row, left => by
    rw [itO_succ, show [(row, left)].flatMap stepO = stepO (row, left) from by simp, itO_flat, List.map_flatMap]
    unfold stepO ordR
    rw [List.flatMap_map, List.map_flatMap]
    refine congrArg (fun f => (spotsL left).flatMap f) (funext fun k => ?_)
    rw [front n, List.map_map]
    refine List.map_congr_left fun t _ => ?_
    show row ++ [_] ++ t = row ++ (_ :: t)
    rw [List.append_assoc]
    rfl
theorem spots_runs (left : List Nat) : (spotsL left).map (fun k => left.getD k 0) = runs left left.length := by
  unfold spotsL runs
  congr 1
  refine List.filter_congr fun k _ => ?_
  unfold startB
  show (decide (k = 0) || !decide (left.getD k 0 = left.getD (k - 1) 0)) = decide (k = 0 ∨ left.getD (k - 1) 0 ≠ left.getD k 0)
  by_cases h : k = 0
  · rw [decide_eq_true h, decide_eq_true (Or.inl h)]; rfl
  · by_cases q : left.getD k 0 = left.getD (k - 1) 0
    · rw [decide_eq_false h, decide_eq_true q, decide_eq_false (by rintro (z | z); exact h z; exact z q.symm)]; rfl
    · rw [decide_eq_false h, decide_eq_false q, decide_eq_true (Or.inr (Ne.symm q))]; rfl
theorem runs_filter {n : Nat} {left : List Nat} (hp : left.Pairwise (· ≤ ·)) (h : ∀ x ∈ left, x < n) : runs left left.length = (List.range n).filter fun j => !decide ((tally n left).getD j 0 = 0) := by
  have a := runs_pw hp (Nat.le_refl left.length)
  have b : ((List.range n).filter fun j => !decide ((tally n left).getD j 0 = 0)).Pairwise (· < ·) := (range_pw n).filter _
  have nd : ∀ {l : List Nat}, l.Pairwise (· < ·) → l.Nodup := fun h => h.imp fun h => Nat.ne_of_lt h
  refine asc_uniq (a.imp Nat.le_of_lt) (b.imp Nat.le_of_lt) ((List.perm_ext_iff_of_nodup (nd a) (nd b)).mpr fun x => ?_)
  have hc : ∀ {x}, x < n → (tally n left).getD x 0 = left.count x := fun {x} hx => by
    unfold tally
    rw [List.getD_eq_getElem?_getD, List.getElem?_map, List.getElem?_range hx]
    rfl
  rw [List.mem_filter, List.mem_range]
  constructor
  · intro hx
    have hm : x ∈ left := by
      obtain ⟨i, hi, rfl⟩ := List.mem_map.mp hx
      have hi := List.mem_range.mp (List.mem_filter.mp hi).1
      rw [List.getD_eq_getElem?_getD, List.getElem?_eq_getElem hi]
      exact List.getElem_mem hi
    have := h x hm
    have h0 := List.count_pos_iff.mpr hm
    refine ⟨this, ?_⟩
    rw [hc this, decide_eq_false (by omega)]
    rfl
  · rintro ⟨hx, h1⟩
    rw [hc hx] at h1
    have h0 : left.count x ≠ 0 := by simpa using h1
    obtain ⟨i, hi, rfl⟩ := List.mem_iff_getElem.mp (List.count_pos_iff.mp (Nat.pos_of_ne_zero h0))
    have := runs_mem left.length (Nat.le_refl _) i hi
    rwa [List.getD_eq_getElem?_getD, List.getElem?_eq_getElem hi] at this
theorem cut_erase {left : List Nat} (hp : left.Pairwise (· ≤ ·)) {k : Nat} (hk : k < left.length) : left.take k ++ left.drop (k + 1) = left.erase (left.getD k 0) := by
  have e : left.getD k 0 = left[k] := by rw [List.getD_eq_getElem?_getD, List.getElem?_eq_getElem hk]; rfl
  rw [← List.eraseIdx_eq_take_drop_succ, e]
  refine asc_uniq (hp.sublist (List.eraseIdx_sublist ..)) (hp.sublist List.erase_sublist) ?_
  have a : (left[k] :: left.eraseIdx k).Perm left := by
    rw [List.eraseIdx_eq_take_drop_succ]
    refine List.perm_middle.symm.trans ?_
    rw [← List.drop_eq_getElem_cons hk, List.take_append_drop]
  have b := List.perm_cons_erase (List.getElem_mem hk)
  exact (List.perm_cons _).mp (a.trans b)
theorem tally_erase {n j : Nat} {left : List Nat} (hj : j < n) : tally n (left.erase j) = less (tally n left) j := by
  refine List.ext_getElem (by rw [less_len, tally_len, tally_len]) fun x h1 h2 => ?_
  rw [tally_len] at h1
  have hc : (tally n left).getD j 0 = left.count j := by
    unfold tally
    rw [List.getD_eq_getElem?_getD, List.getElem?_map, List.getElem?_range hj]
    rfl
  show _ = ((tally n left).set j ((tally n left).getD j 0 - 1))[x]'(by rw [List.length_set, tally_len]; exact h1)
  have tg : ∀ (l : List Nat) (hx : x < (tally n l).length), (tally n l)[x] = l.count x := fun l hx => by simp [tally]
  rw [List.getElem_set, hc, tg, tg, List.count_erase]
  by_cases q : j = x
  · subst q; simp
  · simp [q]
theorem flat_congr {α β : Type} {f g : α → List β} : ∀ {l : List α}, (∀ x ∈ l, f x = g x) → l.flatMap f = l.flatMap g
  | [], _ => rfl
  | a :: r, h => by rw [List.flatMap_cons, List.flatMap_cons, h a List.mem_cons_self, flat_congr fun x hx => h x (List.mem_cons_of_mem _ hx)]
theorem filter_flat {α β : Type} (p : α → Bool) (f : α → List β) : ∀ l : List α, (l.filter p).flatMap f = l.flatMap fun x => if p x = true then f x else []
  | [] => rfl
  | a :: r => by
    rw [List.flatMap_cons, ← filter_flat p f r, List.filter_cons]
    cases p a <;> simp
theorem ordR_text {kn : Nat} : ∀ (n : Nat) (left : List Nat), left.Pairwise (· ≤ ·) → (∀ x ∈ left, x < kn) → left.length = n → ordR n left = (List.range (multi (tally kn left))).map (textF n (tally kn left))
  | 0, left, _, _, hl => by
    cases left with
    | cons a r => cases hl
    | nil =>
      rw [multi_tally (by simp)]
      rfl
  | n + 1, left, hp, h, hl => by
    rw [text_list (by rw [tally_sum _ _ h, hl]), tally_len]
    have e : ordR (n + 1) left = ((spotsL left).map fun k => left.getD k 0).flatMap fun j => (ordR n (left.erase j)).map (j :: ·) := by
      rw [List.flatMap_map]
      show (spotsL left).flatMap _ = _
      refine flat_congr fun k hk => ?_
      rw [cut_erase hp (List.mem_range.mp (List.mem_filter.mp hk).1)]
    rw [e, spots_runs, runs_filter hp h, filter_flat]
    refine flat_congr fun j hj => ?_
    have hj := List.mem_range.mp hj
    have hc : (tally kn left).getD j 0 = left.count j := by
      unfold tally
      rw [List.getD_eq_getElem?_getD, List.getElem?_map, List.getElem?_range hj]
      rfl
    by_cases z : (tally kn left).getD j 0 = 0
    · rw [if_pos z, if_neg (by rw [decide_eq_true z]; simp)]
    · rw [if_neg z, if_pos (by rw [decide_eq_false z]; rfl)]
      have hm : j ∈ left := List.count_pos_iff.mp (by omega)
      rw [ordR_text n (left.erase j) (hp.sublist List.erase_sublist) (fun x hx => h x (List.mem_of_mem_erase hx)) (by rw [List.length_erase_of_mem hm]; omega), tally_erase hj, List.map_map]
      rfl
theorem ordO_text {kn : Nat} {lot : List Nat} (hp : lot.Pairwise (· ≤ ·)) (h : ∀ x ∈ lot, x < kn) : (ordO lot lot.length).map (·.1) = (List.range (Wy lot)).map (textT (tally kn lot)) := by
  rw [ordO_it, front, ordR_text lot.length lot hp h rfl, multi_tally h]
  unfold textT
  rw [tally_sum _ _ h, List.map_map]
  refine List.map_congr_left fun r _ => rfl
theorem flat_len {α β : Type} (f : α → List β) : ∀ l : List α, (∀ x ∈ l, f x ≠ []) → l.length ≤ (l.flatMap f).length
  | [], _ => Nat.le_refl 0
  | a :: r, h => by
    have ih := flat_len f r fun x hx => h x (List.mem_cons_of_mem _ hx)
    have := List.length_pos_iff.mpr (h a List.mem_cons_self)
    rw [List.flatMap_cons, List.length_append, List.length_cons]
    omega
theorem ordO_up (lot : List Nat) {n : Nat} (hn : n < lot.length) : (ordO lot n).length ≤ (ordO lot (n + 1)).length := by
  refine flat_len _ _ fun p hp => ?_
  have := (ordO_len lot n p (by omega) hp).2
  unfold stepO spotsL
  intro z
  have z := List.map_eq_nil_iff.mp z
  have : 0 ∈ (List.range p.2.length).filter fun k => decide (k = 0) || !decide (p.2.getD k 0 = p.2.getD (k - 1) 0) := List.mem_filter.mpr ⟨List.mem_range.mpr (by omega), rfl⟩
  rw [z] at this
  cases this
theorem ordO_le (lot : List Nat) : ∀ d n, n + d = lot.length → (ordO lot n).length ≤ (ordO lot lot.length).length
  | 0, n, h => by rw [← h]; exact Nat.le_refl _
  | d + 1, n, h => Nat.le_trans (ordO_up lot (by omega)) (ordO_le lot d (n + 1) (by omega))
end K67
namespace K67
open PySem PySem.Spec PyProof.Rows L2
/-! ### what may be shown: counted -/
structure Pn (n d : Nat) (x : PyData) : Prop where
  plain : plainD x = true
  few : nodes x ≤ n
  deep : x.depth ≤ d
structure Pl (n d : Nat) (xs : List PyData) : Prop where
  plain : plainAll xs = true
  few : nodesAll xs ≤ n
  deep : PyData.depthAll xs ≤ d
theorem Pn.rp {n d : Nat} {x : PyData} (h : Pn n d x) (hn : n ≤ 8000 := by first | decide | omega) (hd : d ≤ 50 := by first | decide | omega) : Rp x := ⟨h.plain, Nat.le_trans h.deep hd, Nat.le_trans h.few hn⟩
theorem pn_n {m : Nat} (h : m < 2 ^ 1900) : Pn 1 0 (nD m) := ⟨plain_n h, Nat.le_refl _, by simp [PyData.depth]⟩
theorem pn_b {t : Bool} : Pn 1 0 (.bool t) := ⟨rfl, Nat.le_refl _, by simp [PyData.depth]⟩
theorem pn_none : Pn 1 0 .none := ⟨rfl, Nat.le_refl _, by simp [PyData.depth]⟩
theorem pl_nil : Pl 0 0 [] := ⟨rfl, Nat.le_refl _, by simp [PyData.depthAll]⟩
theorem pl_cons {n d m e : Nat} {x : PyData} {xs : List PyData} (h : Pn n d x) (g : Pl m e xs) : Pl (n + m) (max d e) (x :: xs) := by
  refine ⟨?_, ?_, ?_⟩
  · show (plainD x && plainAll xs) = true
    rw [h.plain, g.plain]
    rfl
  · exact Nat.add_le_add h.few g.few
  · have := h.deep
    have := g.deep
    simp only [PyData.depthAll]
    omega
theorem pn_list {n d : Nat} {xs : List PyData} (h : Pl n d xs) : Pn (n + 1) (d + 1) (.list xs) := ⟨h.plain, Nat.add_le_add_right h.few 1, by have := h.deep; simp only [PyData.depth]; omega⟩
theorem pn_tup {n d : Nat} {xs : List PyData} (h : Pl n d xs) : Pn (n + 1) (d + 1) (.tuple xs) := ⟨h.plain, Nat.add_le_add_right h.few 1, by have := h.deep; simp only [PyData.depth]; omega⟩
theorem pl_map {α : Type} {n d : Nat} {f : α → PyData} : ∀ {xs : List α}, (∀ a ∈ xs, Pn n d (f a)) → Pl (xs.length * n) d (xs.map f)
  | [], _ => ⟨rfl, by show 0 ≤ _; omega, by simp [PyData.depthAll]⟩
  | a :: r, h => by
    have q := pl_cons (h a List.mem_cons_self) (pl_map (f := f) (xs := r) fun b hb => h b (List.mem_cons_of_mem _ hb))
    refine ⟨q.plain, ?_, ?_⟩
    · rw [List.length_cons, Nat.succ_mul, Nat.add_comm]
      exact q.few
    · have := q.deep
      rw [Nat.max_self] at this
      exact this
theorem Pn.up {n d m e : Nat} {x : PyData} (h : Pn n d x) (hn : n ≤ m) (hd : d ≤ e) : Pn m e x := ⟨h.plain, Nat.le_trans h.few hn, Nat.le_trans h.deep hd⟩
theorem Pl.up {n d m e : Nat} {x : List PyData} (h : Pl n d x) (hn : n ≤ m) (hd : d ≤ e) : Pl m e x := ⟨h.plain, Nat.le_trans h.few hn, Nat.le_trans h.deep hd⟩
theorem pn_t {xs : List Nat} {m : Nat} (h : ∀ x ∈ xs, x < 2 ^ 1900) (hl : xs.length ≤ m) : Pn (m + 1) 1 (tN xs) := (pn_tup (pl_map (f := nD) fun a ha => pn_n (h a ha))).up (by omega) (by omega)
theorem rgV_nat (m : Nat) : rgV 0 (m : Int) = ((List.range m).map fun i : Nat => (i : Int)).map V.int := by
  unfold rgV
  rw [List.map_map, Int.sub_zero, Int.toNat_natCast]
  refine List.map_congr_left fun i _ => ?_
  show V.int (0 + (i : Int)) = V.int i
  rw [Int.zero_add]
section
variable {P : Program} {w : World} {K : PySem.W.Frag} {mg : Str → Option Value} {base : Heap} {k : Nat} {ι : Type} {F : ι → Cx} {e : Expr} {ρ : DE} {p p2 pos pos2 : Pos}
/-- list(range(n)) -/
theorem q_listRng [C : Cal P w K mg base k F] [W : Wd K mg] {m : Nat} (h : E K F e ρ (nD m)) (hm : m < 100000) (hg : ∀ i, Gl (F i) "list" := by intro _; rfl) (hg2 : ∀ i, Gl (F i) "range" := by intro _; rfl)
    (he : ∀ i, starEach [e] (F i).env = (false, eval e (F i).env) :: starEach [] (F i).env := by intro _; rfl)
    (he2 : ∀ i, starEach [Expr.Call (.Name "range" p2) [e] [] pos2] (F i).env = (false, eval (Expr.Call (.Name "range" p2) [e] [] pos2) (F i).env) :: starEach [] (F i).env := by intro _; rfl) :
    EL K F (.Call (.Name "list" p) [.Call (.Name "range" p2) [e] [] pos2] [] pos) ρ ((List.range m).map nD) := fun B I0 I H σ r Q q => by
  refine ⟨_, fun i => pe_listRg (C.calm i) (hg i) (fr_ (by decide +kernel) i) (prg_1 (hg2 i) (fr_ (by decide +kernel) i) (pe_tE i) (he i)) (he2 i), ?_⟩
  refine h B I0 I H σ r _ fun v I1 H1 f1 d1 => ?_
  cases d1
  refine ⟨_, rfl, RgOk.of_le (by omega) (by omega) (by omega) (by omega), fun l hl => ?_⟩
  have f2 := Fr.own (o := .lst (rgV 0 (m : Int))) f1.ih hl
  refine q l (rgV 0 (m : Int)) I1 _ (f1.trans f2) ?_ (Ex.none f1.ih hl) upd_same ?_
  · cases e : H l with
    | none => rfl
    | some o => rw [f1.h l o e] at hl; cases hl
  · rw [rgV_nat]
    have := dpa_of_ints (K := K) (H := I1) ((List.range m).map fun i : Nat => (i : Int))
    rwa [List.map_map (g := PyData.int)] at this
variable [W : Wd K mg] [WE : WdE w K mg]
theorem ok_law_orders_right : Cle P w K mg base "_law_orders_right" 187 ["_law_lot", "_law_kinds"] 8 (spP K (fun x : List Nat × Nat => [tN x.1, nD x.2]) (fun x => x.1.length ≤ 8 ∧ x.2 ≤ 8 ∧ x.1.Pairwise (· ≤ ·) ∧ (∀ l ∈ x.1, l < x.2) ∧ Wy x.1 ≤ 120) (fun _ => .bool true)) := by
  refine mkP df187 (fun _ => rfl) (fun f cdv A outer s H E' ci a hp => ?_)
  obtain ⟨lot, n⟩ := a
  obtain ⟨h1, h2, h3, h4, h5⟩ := hp
  have h1 : lot.length ≤ 8 := h1
  have h2 : n ≤ 8 := h2
  have h3 : lot.Pairwise (· ≤ ·) := h3
  have h4 : ∀ l ∈ lot, l < n := h4
  have h5 : Wy lot ≤ 120 := h5
  have hO := ordO_text h3 h4
  have hsum := tally_sum n lot h4
  have hmt := multi_tally h4
  have hlen : (ordO lot lot.length).length = Wy lot := by
    have := congrArg List.length hO
    rwa [List.length_map, List.length_map, List.length_range] at this
  have hrk : ∀ r, r < Wy lot → (∀ x ∈ textT (tally n lot) r, x < n) ∧ rankC (textT (tally n lot) r) = r ∧ (textT (tally n lot) r).length = lot.length := fun r hr => by
    obtain ⟨a, _, b, c⟩ := rank_textT h4 hr
    exact ⟨a, b, c⟩
  refine ss_cons (s_asg (e_tup (a_cons (q_call ok_law_orders lot (a_cons (e_name 0) a_nil) ⟨h1, fun m hm => Nat.le_trans (ordO_le lot (lot.length - m) m (by omega)) (by omega)⟩) (a_cons (q_call ok_law_tally (n, lot) (a_cons (e_name 1) (a_cons (e_name 0) a_nil)) (show n < 1000 by omega)) a_nil))) (tg_tup cK ci.calm (tgs_cons (js := [2]) (tg_name 2 nd_) (tgs_cons (js := [3]) (tg_name 3 nd_) tgs_nil))) ?_)
  show Ss K _ _ [_, _, .im (.list (rowsD ((ordO lot lot.length).map (·.1)))), _, _, _, _] _
  rw [hO]
  let rows := (List.range (Wy lot)).map (textT (tally n lot))
  have hrl : rows.length = Wy lot := by show ((List.range (Wy lot)).map _).length = _; rw [List.length_map, List.length_range]
  refine ss_cons (s_lcIM 4 [("_law_k", 5)] (xs := List.range (Wy lot)) (g := nD) (h := fun k => tN (textT (tally n lot) k)) (q_rng (q_len (e_name 2) (hm := by rw [List.length_map]; exact hrl)) (by omega)) (by rw [List.length_range]; omega) (fun k hk => lc_map 5 (q_call ok_text_by (tally n lot, k) (a_cons (e_name 3) (a_cons (e_name 5) a_nil)) ⟨by show (tally n lot).length ≤ 8; rw [tally_len]; exact h2, by show (tally n lot).sum ≤ 41; omega, by show k < multi (tally n lot); rw [hmt]; exact List.mem_range.mp hk⟩)) ?_)
  have er : (rowsD rows) = (List.range (Wy lot)).map fun k => tN (textT (tally n lot) k) := by
    show ((List.range (Wy lot)).map _).map tN = _
    rw [List.map_map]
    rfl
  show Ss K _ _ [_, _, .im (.list (rowsD rows)), _, .im (.list ((List.range (Wy lot)).map fun k => tN (textT (tally n lot) k))), _, _] _
  rw [← er]
  have rp : Rp (.list [.list (rowsD rows), .list ((List.range (Wy lot)).map nD)]) := by
    refine (pn_list (pl_cons (pn_list (n := 120 * 9) (d := 1) ((pl_map (f := tN) (n := 9) (d := 1) fun t ht => ?_).up ?_ (Nat.le_refl _))) (pl_cons (pn_list (n := 120) (d := 0) ((pl_map (f := nD) (n := 1) (d := 0) fun x hx => pn_n ?_).up ?_ (Nat.le_refl _))) pl_nil))).rp
    · obtain ⟨r, hr, rfl⟩ := List.mem_map.mp ht
      obtain ⟨a, _, c⟩ := hrk r (List.mem_range.mp hr)
      exact pn_t (fun x hx => lt1900 (Nat.lt_of_lt_of_le (Nat.lt_of_lt_of_le (a x hx) h2) (by decide))) (by omega)
    · rw [hrl]; omega
    · exact lt1900 (Nat.lt_of_lt_of_le (List.mem_range.mp hx) (Nat.le_trans h5 (by decide)))
    · rw [List.length_range]; omega
  refine ss_cons (s_ret (q_call ok_law_same (.list [.list (rowsD rows), .list ((List.range (Wy lot)).map nD)]) (a_cons (el_list (a_cons (e_name 4) (a_cons (e_to (q_lcM (xs := rows) (g := tN) (h := fun t => nD (rankT t)) [("_law_row", 6)] (src_list cK (e_name 2)) (by omega) fun t ht => lc_map 6 (q_call ok_rank_of_text t (a_cons (e_name 6) a_nil) ?_)).im ?_) a_nil))).im (a_cons (el_list (a_cons (e_name 2) (a_cons (q_listRng (q_len (e_name 2) (hm := by rw [List.length_map]; exact hrl)) (by omega)).im a_nil))).im a_nil)) ⟨rp, .inr (.inl ⟨_, rfl⟩)⟩) rfl)
  · obtain ⟨r, hr, rfl⟩ := List.mem_map.mp ht
    obtain ⟨a, _, c⟩ := hrk r (List.mem_range.mp hr)
    exact ⟨by omega, fun l hl => Nat.lt_of_lt_of_le (a l hl) h2⟩
  · show PyData.list (((List.range (Wy lot)).map _).map _) = PyData.list ((List.range (Wy lot)).map nD)
    rw [List.map_map]
    refine congrArg PyData.list (List.map_congr_left fun r hr => ?_)
    obtain ⟨a, b, _⟩ := hrk r (List.mem_range.mp hr)
    show nD (rankT (textT (tally n lot) r)) = nD r
    rw [rankT_C fun l hl => Nat.lt_of_lt_of_le (a l hl) h2, b]
end
end K67
namespace K67
open PySem PySem.Spec PyProof.Rows L2
theorem tabs_ok {g : Nat} {st text : List Nat} (h : Lr g st) (t : Tx st text) : ∀ p ∈ (tabsOf g st text).zip text, 0 < p.1.getD p.2 0 ∧ p.1.sum ≤ 1024 := fun p hp => by
  refine ⟨((tabs_fit (g := g) t).2 p hp).2, ?_⟩
  have q := (List.of_mem_zip hp).1
  obtain ⟨i, hi, e⟩ := List.mem_map.mp q
  rw [← e]
  exact (h.tb (fun l hl => t.lt l (List.mem_of_mem_take hl)) (by rw [List.length_take]; have := t.len; omega)).2
theorem pushLn_le {g B stack : Nat} {st text : List Nat} (h : Lr g st) (t : Tx st text) (hs : stack + 2 ≤ 2 ^ B) : pushLn stack g st text + 2 ≤ 2 ^ (B + 88) := by
  have q := pushL_le (tabs_ok h t) hs
  refine Nat.le_trans q (Nat.pow_le_pow_right (by decide) ?_)
  rw [zip_len]
  have := t.len
  omega
theorem pushBag_le {g B stack : Nat} {st bag : List Nat} (h : Lr g st) (t : Tx st bag) (hs : stack + 2 ≤ 2 ^ B) : pushBag stack g st bag + 2 ≤ 2 ^ (B + 88) := by
  have d := drawB_ok t.lt stack _ (Nat.le_refl _)
  have := d.le
  exact pushLn_le h (d.tx t (Nat.le_refl _)) (by omega)
theorem popBag_le {g B stack n : Nat} {st : List Nat} (h : Lr g st) (hn : n ≤ 8) (hs : stack + 2 ≤ 2 ^ B) : (popBag stack g st n).2 + 2 ≤ 2 ^ (B + 88) := by
  obtain ⟨t, tl, le⟩ := popLn_ok h stack n hn
  have q := pushL_le (st := (popLn g st stack n).2) (B := B) (back_ok (n := st.length) t.lt (by omega)) (by omega)
  refine Nat.le_trans q (Nat.pow_le_pow_right (by decide) ?_)
  rw [back_len]
  omega
theorem tx_perm {st s t : List Nat} (h : Tx st s) (p : t.Perm s) : Tx st t := ⟨by rw [p.length_eq]; exact h.len, fun l hl => h.lt l (p.mem_iff.mp hl), fun l hl => h.can l (p.mem_iff.mp hl)⟩
theorem popBag_ok {g stack n : Nat} {st : List Nat} (h : Lr g st) (hn : n ≤ 8) : Bg st (popBag stack g st n).1 ∧ (popBag stack g st n).1.length = n := by
  obtain ⟨t, tl, le⟩ := popLn_ok h stack n hn
  exact ⟨⟨tx_perm t (srt_perm _), asc_srt _⟩, (srt_perm _).length_eq.trans tl⟩
theorem mul_small {a b m n : Nat} (ha : a < 2 ^ m) (hb : b < 2 ^ n) : a * b < 2 ^ (m + n) := by
  rw [Nat.pow_add]
  exact Nat.mul_lt_mul'' ha hb
theorem lt_1900 {x k : Nat} (h : x + 2 ≤ 2 ^ k) (hk : k ≤ 1900) : x < 2 ^ 1900 := Nat.lt_of_lt_of_le (by omega) (Nat.pow_le_pow_right (by decide) hk)
theorem le_1000 {x k : Nat} (h : x + 2 ≤ 2 ^ k) (hk : k ≤ 1000) : x + 2 ≤ 2 ^ 1000 := Nat.le_trans h (Nat.pow_le_pow_right (by decide) hk)
section
variable {P : Program} {w : World} {K : PySem.W.Frag} {mg : Str → Option Value} {base : Heap} [W : Wd K mg] [WE : WdE w K mg]
theorem ok_law_ways_right : Cle P w K mg base "_law_ways_right" 184 ["_law_pile", "_law_teacher_here", "_law_row"] 14 (spP K (fun x : Nat × Nat × List Nat × List Nat => [nD x.1, lrn x.2.1 x.2.2.1, tN x.2.2.2]) (fun x => x.1 + 2 ≤ 2 ^ 200 ∧ Lr x.2.1 x.2.2.1 ∧ Tx x.2.2.1 x.2.2.2) (fun _ => .bool true)) := by
  refine mkP df184 (fun _ => rfl) (fun f cdv A outer s H E' ci a hp => ?_)
  obtain ⟨pile, g, st, row⟩ := a
  obtain ⟨h1, h2, h3⟩ := hp
  have h1 : pile + 2 ≤ 2 ^ 200 := h1
  have h2 : Lr g st := h2
  have h3 : Tx st row := h3
  have h4 := h2.len
  have hl := h3.len
  have r8 : ∀ l ∈ row, l < 8 := fun l h => by have := h3.lt l h; omega
  have bl : Bg st (srt row) := ⟨tx_perm h3 (srt_perm _), asc_srt _⟩
  have ll : (srt row).length = row.length := (srt_perm row).length_eq
  have hW := W_lt (t := row) (by omega)
  have hrk := rankC_lt h3.lt
  have hoW : ordersB (srt row) = Wy row := by rw [orders_W (srt_asc _), W_perm (srt_perm _)]
  obtain ⟨mid, hmid⟩ : ∃ mid, Wy row * pile + rankC row = mid := ⟨_, rfl⟩
  have mB : mid + 2 ≤ 2 ^ 402 := by
    have := mul_small (a := Wy row) (b := pile) (m := 200) (n := 200) hW (by omega)
    omega
  obtain ⟨aft, haft⟩ : ∃ aft, pushBag mid g st (srt row) = aft := ⟨_, rfl⟩
  have aB : aft + 2 ≤ 2 ^ 490 := by rw [← haft]; exact pushBag_le h2 bl.tx mB
  have ePop : popBag aft g st row.length = (srt row, mid) := by rw [← haft, ← ll]; exact popBag_push h2 mid bl
  have lot8 : ∀ t : List Nat, Tx st t → Pn 9 1 (tN t) := fun t ht => pn_t (fun x hx => lt1900 (Nat.lt_of_lt_of_le (ht.lt x hx) (Nat.le_trans h4 (by decide)))) ht.len
  have m19 : mid < 2 ^ 1900 := lt_1900 mB (by decide)
  have a19 : aft < 2 ^ 1900 := lt_1900 aB (by decide)
  have p19 : pile < 2 ^ 1900 := lt_1900 h1 (by decide)
  have b402 : (2 : Nat) ^ 402 ≤ 2 ^ 1000 := Nat.pow_le_pow_right (by decide) (by decide)
  refine ss_cons (s_par3 3 4 5 (q_len (e_ix (e_name 1) (e_nat 1) (i_tD rfl)) (hm := List.length_map ..)) (q_tuple (q_sorted (e_name 2)).im) (e_tup (a_cons e_str (a_cons (e_name 1) (a_cons (q_len (e_name 2) (hm := List.length_map ..)) a_nil)))) nd_ ?_)
  refine ss_cons (s_asg (q_call ok_law_placed row (a_cons (e_name 2) a_nil) ⟨by omega, r8⟩) (tg_tup cK ci.calm (tgs_cons (js := [6]) (tg_name 6 nd_) (tgs_cons (js := [7]) (tg_name 7 nd_) tgs_nil))) ?_)
  show Ss K _ _ [.im (nD pile), .im (lrn g st), .im (tN row), .im (nD st.length), .im (tN (srt row)), .im (sch g st row.length), .im (nD (rank8 row)), .im (nD (ways8 row)), .no, .no, .no, .no, .no, .no, .no] _
  rw [rank8_C r8, ways8_W r8]
  refine ss_cons (s_set 8 (e_to (e_bin (e_bin (e_name 7) (e_name 0) (n_mul (lt_big hW (by decide)) (lt_BIG h1 (by decide)))) (e_name 6) n_add) (y := nD mid) (by rw [hmid])) nd_ ?_)
  refine ss_cons (s_set 9 (e_to (q_call ok_law_bag_on (mid, g, st, srt row) (a_cons (e_name 8) (a_cons (e_name 1) (a_cons (e_name 4) a_nil))) ⟨le_1000 mB (by decide), h2, bl.tx⟩) (y := nD aft) (by rw [← haft])) nd_ ?_)
  refine ss_cons (s_setL 10 (el_to (el_list (a_cons (q_call ok_push_even (pile, Wy row, rankC row) (a_cons (e_name 0) (a_cons (e_to (q_call ok_orders_of_bag (srt row) (a_cons (e_name 4) a_nil) ⟨by omega, asc_srt _⟩) (by rw [hoW])) (a_cons (e_to (q_call ok_rank_of_text row (a_cons (e_name 2) a_nil) ⟨by omega, r8⟩) (by rw [rankT_C r8])) a_nil))) ⟨lt_BIG h1 (by decide), lt_big hW (by decide), hrk⟩) (a_cons (q_call ok_push_thing (mid, g, st, srt row) (a_cons (e_name 8) (a_cons (e_to (e_name 5) (by show sch g st row.length = sch g st (srt row).length; rw [ll])) (a_cons (e_name 4) a_nil))) ⟨le_1000 mB (by decide), h2, bl⟩) a_nil))) (y := [nD mid, nD aft]) (by show [nD (Wy row * pile + rankC row), nD (pushBag mid g st (srt row))] = _; rw [hmid, haft])) nd_ ?_)
  refine ss_cons (s_if (t := false) (t_to (t_not (t_val (q_call ok_law_same (.list [nD mid, nD aft, nD aft]) (a_cons (EL.im (el_to (el_cat 10 rfl (el_to (el_list (a_cons (q_callK ok_push_bag (pm3 "bag" "learner" "stack" "stack" "learner" "bag") (mid, g, st, srt row) (ak_cons (e_name 4) (ak_cons (e_name 1) (ak_cons (e_name 8) ak_nil))) rfl rfl (by decide) (fun _ _ _ _ _ _ us hl => match us, hl with | [_, _, _], _ => rfl) ⟨le_1000 mB (by decide), h2, bl⟩) a_nil)) (y := [nD aft]) (by show [nD (pushBag mid g st (srt row))] = _; rw [haft])) (by simp)) (y := [nD mid, nD aft, nD aft]) rfl)) (a_cons (el_list (a_cons (e_name 8) (a_cons (e_name 9) (a_cons (e_name 9) a_nil)))).im a_nil)) ⟨(pn_list (pl_cons (pn_n m19) (pl_cons (pn_n a19) (pl_cons (pn_n a19) pl_nil)))).rp, .inr (.inl ⟨_, rfl⟩)⟩))) rfl) (fun h => by cases h) fun _ => ss_nil ?_)
  refine ss_cons (s_if (t := false) (t_to (t_not (t_val (q_call ok_law_same (.list [.tuple [tN (srt row), nD mid], .tuple [tN (srt row), nD mid]]) (a_cons (el_list (a_cons (e_to (q_call ok_pop_thing (aft, g, st, row.length) (a_cons (e_name 9) (a_cons (e_name 5) a_nil)) ⟨le_1000 aB (by decide), h2, hl⟩) (by show PyData.tuple [tN (popBag aft g st row.length).1, nD (popBag aft g st row.length).2] = _; rw [ePop])) (a_cons (e_to (q_call ok_pop_bag (aft, g, st, row.length) (a_cons (e_name 9) (a_cons (e_name 1) (a_cons (q_len (e_name 2) (hm := List.length_map ..)) a_nil))) ⟨le_1000 aB (by decide), h2, hl⟩) (by show PyData.tuple [tN (popBag aft g st row.length).1, nD (popBag aft g st row.length).2] = _; rw [ePop])) a_nil))).im (a_cons (el_list (a_cons (e_tup (a_cons (e_name 4) (a_cons (e_name 8) a_nil))) (a_cons (e_tup (a_cons (e_name 4) (a_cons (e_name 8) a_nil))) a_nil))).im a_nil)) ⟨(pn_list (pl_cons (pn_tup (pl_cons (lot8 _ bl.tx) (pl_cons (pn_n m19) pl_nil))) (pl_cons (pn_tup (pl_cons (lot8 _ bl.tx) (pl_cons (pn_n m19) pl_nil))) pl_nil))).rp, .inr (.inl ⟨_, rfl⟩)⟩))) rfl) (fun h => by cases h) fun _ => ss_nil ?_)
  have pB := popBag_le (n := row.length) h2 hl h1
  obtain ⟨bf, lf⟩ := popBag_ok (stack := pile) (n := row.length) h2 hl
  have eBack := push_popBag h2 pile hl
  refine ss_cons (s_asg (q_call ok_law_bag_off (pile, g, st, row.length) (a_cons (e_name 0) (a_cons (e_name 1) (a_cons (q_len (e_name 2) (hm := List.length_map ..)) a_nil))) ⟨le_1000 h1 (by decide), h2, hl⟩) (tg_tup cK ci.calm (tgs_cons (js := [11]) (tg_name 11 nd_) (tgs_cons (js := [12]) (tg_name 12 nd_) tgs_nil))) ?_)
  show Ss K _ _ [.im (nD pile), .im (lrn g st), .im (tN row), .im (nD st.length), .im (tN (srt row)), .im (sch g st row.length), .im (nD (rankC row)), .im (nD (Wy row)), .im (nD mid), .im (nD aft), .ow [nD mid, nD aft], .im (tN (popBag pile g st row.length).1), .im (nD (popBag pile g st row.length).2), .no, .no] _
  obtain ⟨fr, hfr⟩ : ∃ fr, popBag pile g st row.length = fr := ⟨_, rfl⟩
  rw [hfr] at pB bf lf eBack ⊢
  obtain ⟨found, rest⟩ := fr
  have pB : rest + 2 ≤ 2 ^ 288 := pB
  have bf : Bg st found := bf
  have lf : found.length = row.length := lf
  have eBack : pushBag rest g st found = pile := eBack
  show Ss K _ _ [.im (nD pile), .im (lrn g st), .im (tN row), .im (nD st.length), .im (tN (srt row)), .im (sch g st row.length), .im (nD (rankC row)), .im (nD (Wy row)), .im (nD mid), .im (nD aft), .ow [nD mid, nD aft], .im (tN found), .im (nD rest), .no, .no] _
  have f8 : ∀ l ∈ found, l < 8 := fun l h => by have := bf.tx.lt l h; omega
  have hWf := W_lt (t := found) (by omega)
  have hWp : 0 < Wy found := Nat.lt_of_le_of_lt (Nat.zero_le _) (rankC_lt bf.tx.lt)
  have fasc := asc_iff.mp bf.asc
  have hoF : ordersB found = Wy found := orders_W fasc
  have rest19 : rest < 2 ^ 1900 := lt_1900 pB (by decide)
  refine ss_cons (s_if (t := false) (t_to (t_not (t_val (q_call ok_law_same (.tuple [tN found, nD rest]) (a_cons (e_to (q_callK ok_pop_thing (pm2 "scheme" "stack" "stack" "scheme") (pile, g, st, row.length) (ak_cons (e_name 5) (ak_cons (e_name 0) ak_nil)) rfl rfl (by decide) (fun _ _ _ _ _ _ us hl => match us, hl with | [_, _], _ => rfl) ⟨le_1000 h1 (by decide), h2, hl⟩) (by show PyData.tuple [tN (popBag pile g st row.length).1, nD (popBag pile g st row.length).2] = _; rw [hfr])) (a_cons (e_tup (a_cons (e_name 11) (a_cons (e_name 12) a_nil))) a_nil)) ⟨(pn_tup (pl_cons (lot8 _ bf.tx) (pl_cons (pn_n rest19) pl_nil))).rp, .inr (.inr ⟨_, rfl⟩)⟩))) rfl) (fun h => by cases h) fun _ => ss_nil ?_)
  refine ss_cons (s_set 7 (e_to (e_ix (q_call ok_law_placed found (a_cons (e_name 11) a_nil) ⟨by omega, f8⟩) (e_nat 1) (i_tD rfl)) (y := nD (Wy found)) (by rw [ways8_W f8])) nd_ ?_)
  obtain ⟨spot, hspot⟩ : ∃ spot, rest % Wy found = spot := ⟨_, rfl⟩
  obtain ⟨left, hleft⟩ : ∃ left, rest / Wy found = left := ⟨_, rfl⟩
  have hsp : spot < Wy found := by rw [← hspot]; exact Nat.mod_lt _ hWp
  have eR : Wy found * left + spot = rest := by rw [← hspot, ← hleft]; exact Nat.div_add_mod _ _
  have lB : left + 2 ≤ 2 ^ 288 := by have := Nat.div_le_self rest (Wy found); omega
  refine ss_cons (s_par 6 13 (e_to (e_bin (q_int (e_name 12)) (e_name 7) (n_mod hWp)) (y := nD spot) (by rw [hspot])) (e_to (e_bin (e_name 12) (e_name 7) (n_div hWp (lt_big hWf (by decide)))) (y := nD left) (by rw [hleft])) nd_ ?_)
  obtain ⟨word, hword⟩ : ∃ word, textT (tally st.length found) spot = word := ⟨_, rfl⟩
  obtain ⟨w1, w2, w3, w4⟩ := rank_textT bf.tx.lt hsp
  rw [hword] at w1 w2 w3 w4
  have wp : word.Perm found := List.perm_iff_count.mpr w2
  have wt : Tx st word := tx_perm bf.tx wp
  have ws : srt word = found := (srt_of fasc wp.symm).symm
  have w8 : ∀ l ∈ word, l < 8 := fun l h => by have := wt.lt l h; omega
  refine ss_cons (s_set 14 (e_to (q_call ok_text_by (tally st.length found, spot) (a_cons (q_call ok_law_tally (st.length, found) (a_cons (e_name 3) (a_cons (e_name 11) a_nil)) (show st.length < 1000 by omega)) (a_cons (e_name 6) a_nil)) ⟨by show (tally st.length found).length ≤ 8; rw [tally_len]; omega, by show (tally st.length found).sum ≤ 41; rw [tally_sum _ _ bf.tx.lt]; omega, by show spot < multi (tally st.length found); rw [multi_tally bf.tx.lt]; exact hsp⟩) (y := tN word) (by show tN (textT (tally st.length found) spot) = _; rw [hword])) nd_ ?_)
  have s19 : spot < 2 ^ 1900 := lt1900 (Nat.lt_trans hsp hWf)
  have l19 : left < 2 ^ 1900 := lt_1900 lB (by decide)
  refine ss_cons (s_if (t := false) (t_to (t_not (t_val (q_call ok_law_same (.list [.tuple [nD spot, nD left], nD spot]) (a_cons (el_list (a_cons (e_to (q_call ok_pop_even (rest, Wy found) (a_cons (e_name 12) (a_cons (e_to (q_call ok_orders_of_bag found (a_cons (e_name 11) a_nil) ⟨by omega, bf.asc⟩) (by rw [hoF])) a_nil)) ⟨hWp, lt_big hWf (by decide)⟩) (by show PyData.tuple [nD (rest % Wy found), nD (rest / Wy found)] = _; rw [hspot, hleft])) (a_cons (e_to (q_call ok_rank_of_text word (a_cons (e_name 14) a_nil) ⟨by omega, w8⟩) (by rw [rankT_C w8, w3])) a_nil))).im (a_cons (el_list (a_cons (e_tup (a_cons (e_name 6) (a_cons (e_name 13) a_nil))) (a_cons (e_name 6) a_nil))).im a_nil)) ⟨(pn_list (pl_cons (pn_tup (pl_cons (pn_n s19) (pl_cons (pn_n l19) pl_nil))) (pl_cons (pn_n s19) pl_nil))).rp, .inr (.inl ⟨_, rfl⟩)⟩))) rfl) (fun h => by cases h) fun _ => ss_nil ?_)
  refine ss_cons (s_if (t := false) (t_to (t_not (t_val (q_call ok_law_same (.list [tN found, .bool (decide (word = found))]) (a_cons (el_list (a_cons (e_to (q_call ok_bag_of word (a_cons (e_name 14) a_nil) (show word.length < 5000 by omega)) (by rw [ws])) (a_cons (e_to (q_call ok_is_thing (g, st, word) (a_cons (e_to (e_name 5) (by show sch g st row.length = sch g st word.length; rw [w4, lf])) (a_cons (e_name 14) a_nil)) ⟨h2.pos, wt⟩) (by show PyData.bool (asc word) = _; rw [asc_eq, ws])) a_nil))).im (a_cons (el_list (a_cons (e_name 11) (a_cons (e_cmp (e_name 14) (e_name 11) o_eqT) a_nil))).im a_nil)) ⟨(pn_list (pl_cons (lot8 _ bf.tx) (pl_cons pn_b pl_nil))).rp, .inr (.inl ⟨_, rfl⟩)⟩))) rfl) (fun h => by cases h) fun _ => ss_nil ?_)
  refine ss_cons (s_ret (q_call ok_law_same (nD pile) (a_cons (e_to (q_call ok_push_thing (rest, g, st, found) (a_cons (e_to (q_call ok_push_even (left, Wy found, spot) (a_cons (e_name 13) (a_cons (e_name 7) (a_cons (e_name 6) a_nil))) ⟨lt_BIG lB (by decide), lt_big hWf (by decide), hsp⟩) (by show nD (Wy found * left + spot) = _; rw [eR])) (a_cons (e_to (e_name 5) (by show sch g st row.length = sch g st found.length; rw [lf])) (a_cons (e_to (q_call ok_bag_of word (a_cons (e_name 14) a_nil) (show word.length < 5000 by omega)) (by rw [ws])) a_nil))) ⟨le_1000 pB (by decide), h2, bf⟩) (by show nD (pushBag rest g st found) = _; rw [eBack])) (a_cons (e_name 0) a_nil)) ⟨rp_n p19, .inl ⟨_, rfl⟩⟩) rfl)
end
end K67
namespace K67
open PySem PySem.Spec PyProof.Rows L2
theorem W_Q0 (t : List Nat) : Wy t * Q t = fact t.length := by
  have hb := bound t
  have h := multi_eq (tally (t.sum + 1) t)
  have e : prodf (tally (t.sum + 1) t) = Q t := prodf_Q (range_pw _) t fun x hx => List.mem_range.mpr (hb x hx)
  rw [multi_tally hb, e, tally_sum _ _ hb] at h
  exact h
/-! ### sums, binomials -/
def sm : Nat → (Nat → Nat) → Nat
  | 0, _ => 0
  | n + 1, f => sm n f + f n
theorem sm_congr {f h : Nat → Nat} : ∀ n, (∀ c, c < n → f c = h c) → sm n f = sm n h
  | 0, _ => rfl
  | n + 1, e => by
    show sm n f + f n = sm n h + h n
    rw [sm_congr n fun c hc => e c (by omega), e n (by omega)]
theorem sm_add (f h : Nat → Nat) : ∀ n, sm n (fun c => f c + h c) = sm n f + sm n h
  | 0 => rfl
  | n + 1 => by
    show sm n (fun c => f c + h c) + (f n + h n) = (sm n f + f n) + (sm n h + h n)
    rw [sm_add f h n]
    omega
theorem sm_mul (k : Nat) (f : Nat → Nat) : ∀ n, sm n (fun c => k * f c) = k * sm n f
  | 0 => rfl
  | n + 1 => by
    show sm n (fun c => k * f c) + k * f n = k * (sm n f + f n)
    rw [sm_mul k f n, Nat.mul_add]
theorem sm_front (f : Nat → Nat) : ∀ n, sm (n + 1) f = f 0 + sm n (fun c => f (c + 1))
  | 0 => by show 0 + f 0 = f 0 + 0; omega
  | n + 1 => by
    show sm (n + 1) f + f (n + 1) = f 0 + (sm n (fun c => f (c + 1)) + f (n + 1))
    rw [sm_front f n]
    omega
def bin : Nat → Nat → Nat
  | _, 0 => 1
  | 0, _ + 1 => 0
  | n + 1, k + 1 => bin n k + bin n (k + 1)
theorem bin_zero : ∀ n, bin n 0 = 1
  | 0 => rfl
  | _ + 1 => rfl
theorem bin_over : ∀ {n k : Nat}, n < k → bin n k = 0
  | 0, k + 1, _ => rfl
  | n + 1, k + 1, h => by
    show bin n k + bin n (k + 1) = 0
    rw [bin_over (n := n) (k := k) (by omega), bin_over (n := n) (k := k + 1) (by omega)]
theorem bin_fact : ∀ (k d : Nat), bin (k + d) k * (fact k * fact d) = fact (k + d)
  | 0, d => by rw [bin_zero, Nat.zero_add]; show 1 * (1 * fact d) = fact d; omega
  | k + 1, 0 => by
    have h := bin_fact k 0
    show bin (k + 1) (k + 1) * (fact (k + 1) * fact 0) = fact (k + 1)
    show (bin k k + bin k (k + 1)) * (fact k * (k + 1) * 1) = fact k * (k + 1)
    rw [bin_over (n := k) (k := k + 1) (by omega), Nat.add_zero, Nat.mul_one]
    change bin k k * (fact k * 1) = fact k at h
    rw [Nat.mul_one] at h
    rw [← Nat.mul_assoc, h]
  | k + 1, d + 1 => by
    have h1 := bin_fact k (d + 1)
    have h2 := bin_fact (k + 1) d
    rw [show k + 1 + (d + 1) = (k + d + 1) + 1 by omega]
    show (bin (k + d + 1) k + bin (k + d + 1) (k + 1)) * (fact k * (k + 1) * (fact d * (d + 1))) = fact (k + d + 1) * (k + d + 1 + 1)
    rw [show k + (d + 1) = k + d + 1 by omega] at h1
    rw [show k + 1 + d = k + d + 1 by omega] at h2
    change bin (k + d + 1) k * (fact k * (fact d * (d + 1))) = _ at h1
    change bin (k + d + 1) (k + 1) * (fact k * (k + 1) * fact d) = _ at h2
    rw [Nat.add_mul, show k + d + 1 + 1 = (k + 1) + (d + 1) by omega, Nat.mul_add (fact (k + d + 1))]
    congr 1
    · rw [← h1, Nat.mul_right_comm (fact k), ← Nat.mul_assoc (bin _ _)]
    · rw [← h2, ← Nat.mul_assoc (fact k * (k + 1)), ← Nat.mul_assoc]
/-- rising products of a sum -/
theorem vand (g a b : Nat) : ∀ n, sm (n + 1) (fun c => bin n c * (rise a g c * rise b g (n - c))) = rise (a + b) g n
  | 0 => rfl
  | n + 1 => by
    have ih := vand g a b n
    have e1 : sm (n + 2) (fun c => bin (n + 1) c * (rise a g c * rise b g (n + 1 - c))) = sm (n + 1) (fun c => bin n c * (rise a g (c + 1) * rise b g (n - c))) + sm (n + 2) (fun c => bin n c * (rise a g c * rise b g (n + 1 - c))) := by
      rw [sm_front, sm_front (fun c => bin n c * (rise a g c * rise b g (n + 1 - c))), bin_zero, bin_zero]
      rw [show (fun c => bin (n + 1) (c + 1) * (rise a g (c + 1) * rise b g (n + 1 - (c + 1)))) = fun c => bin n c * (rise a g (c + 1) * rise b g (n - c)) + bin n (c + 1) * (rise a g (c + 1) * rise b g (n + 1 - (c + 1))) from funext fun c => by
        show (bin n c + bin n (c + 1)) * _ = _
        rw [Nat.add_mul, show n + 1 - (c + 1) = n - c by omega]]
      rw [sm_add]
      omega
    rw [e1]
    show _ + (sm (n + 1) _ + bin n (n + 1) * _) = _
    rw [bin_over (n := n) (k := n + 1) (by omega), Nat.zero_mul, Nat.add_zero (sm _ _), ← sm_add]
    show _ = rise (a + b) g n * (a + b + g * n)
    rw [← ih, Nat.mul_comm, ← sm_mul]
    refine sm_congr _ fun c hc => ?_
    obtain ⟨d, rfl⟩ : ∃ d, n = c + d := ⟨n - c, by omega⟩
    rw [show c + d + 1 - c = d + 1 by omega, show c + d - c = d by omega]
    show bin (c + d) c * (rise a g c * (a + g * c) * rise b g d) + bin (c + d) c * (rise a g c * (rise b g d * (b + g * d))) = _
    generalize bin (c + d) c = X
    generalize rise a g c = A
    generalize rise b g d = B
    rw [show a + b + g * (c + d) = (a + g * c) + (b + g * d) by rw [Nat.mul_add]; omega, Nat.add_mul]
    generalize a + g * c = u
    generalize b + g * d = v
    congr 1
    · rw [Nat.mul_right_comm A u B, ← Nat.mul_assoc X, Nat.mul_comm u, Nat.mul_assoc]
    · rw [← Nat.mul_assoc A, ← Nat.mul_assoc X, Nat.mul_comm v]
/-! ### all bags, by their first letter -/
def pr : List Nat → Nat
  | [] => 1
  | a :: r => a * pr r
def bagsB : List Nat → Nat → List (List Nat)
  | [], 0 => [[]]
  | [], _ + 1 => []
  | x :: L, n => (List.range (n + 1)).flatMap fun m => (bagsB L m).map (List.replicate (n - m) x ++ ·)
/-- the weight of a bag: how many orders, times the rising products -/
def wgt (s : Nat → Nat) (g : Nat) (L t : List Nat) : Nat := Wy t * pr (L.map fun y => rise (s y) g (t.count y))
theorem bagsB_ok : ∀ (L : List Nat) (n : Nat) (t : List Nat), t ∈ bagsB L n → t.length = n ∧ ∀ x ∈ t, x ∈ L
  | [], 0, t, h => by
    rw [List.mem_singleton.mp h]
    exact ⟨rfl, nofun⟩
  | [], n + 1, t, h => by cases h
  | x :: L, n, t, h => by
    obtain ⟨m, hm, h2⟩ := List.mem_flatMap.mp h
    obtain ⟨u, hu, rfl⟩ := List.mem_map.mp h2
    obtain ⟨a, b⟩ := bagsB_ok L m u hu
    have hm := List.mem_range.mp hm
    refine ⟨by rw [List.length_append, List.length_replicate, a]; omega, fun y hy => ?_⟩
    rcases List.mem_append.mp hy with q | q
    · rw [(List.mem_replicate.mp q).2]
      exact List.mem_cons_self
    · exact List.mem_cons_of_mem _ (b y q)
theorem Q_pos : ∀ t, 0 < Q t
  | [] => Nat.one_pos
  | x :: r => Nat.mul_pos (Nat.succ_pos _) (Q_pos r)
theorem Q_rep {x : Nat} {u : List Nat} (h : x ∉ u) : ∀ k, Q (List.replicate k x ++ u) = fact k * Q u
  | 0 => (Nat.one_mul _).symm
  | k + 1 => by
    show ((List.replicate k x ++ u).count x + 1) * Q (List.replicate k x ++ u) = fact k * (k + 1) * Q u
    rw [Q_rep h k, List.count_append, List.count_replicate_self, List.count_eq_zero.mpr h, Nat.add_zero, ← Nat.mul_assoc, Nat.mul_comm (k + 1)]
theorem W_rep {x : Nat} {u : List Nat} (h : x ∉ u) (k : Nat) : Wy (List.replicate k x ++ u) = bin (u.length + k) u.length * Wy u := by
  have h1 := W_Q0 (List.replicate k x ++ u)
  have h2 := W_Q0 u
  have h3 := bin_fact u.length k
  rw [Q_rep h, List.length_append, List.length_replicate, Nat.add_comm k, ← h3, ← h2] at h1
  refine Nat.eq_of_mul_eq_mul_right (Nat.mul_pos (fact_pos k) (Q_pos u)) (h1.trans ?_)
  generalize bin (u.length + k) u.length = B
  generalize Wy u = V
  generalize fact k = f
  generalize Q u = q
  rw [Nat.mul_assoc B, Nat.mul_comm f, Nat.mul_assoc V]
theorem sum_flat {α : Type} (f : α → Nat) (G : Nat → List α) : ∀ n, (((List.range n).flatMap G).map f).sum = sm n fun m => ((G m).map f).sum
  | 0 => rfl
  | n + 1 => by
    rw [List.range_succ, List.flatMap_append, List.map_append, List.sum_append, sum_flat f G n]
    show _ + ((G n ++ []).map f).sum = _
    rw [List.append_nil]
    rfl
theorem sum_scale {α : Type} (c : Nat) (f h : α → Nat) : ∀ l : List α, (∀ a ∈ l, f a = c * h a) → (l.map f).sum = c * (l.map h).sum
  | [], _ => rfl
  | a :: r, e => by
    rw [List.map_cons, List.map_cons, List.sum_cons, List.sum_cons, Nat.mul_add, sum_scale c f h r fun b hb => e b (List.mem_cons_of_mem _ hb), e a List.mem_cons_self]
theorem rise_null (g : Nat) : ∀ n, rise 0 g (n + 1) = 0
  | 0 => by show 1 * (0 + g * 0) = 0; omega
  | n + 1 => by show rise 0 g (n + 1) * _ = 0; rw [rise_null g n, Nat.zero_mul]
theorem total (s : Nat → Nat) (g : Nat) : ∀ (L : List Nat), L.Nodup → ∀ n, ((bagsB L n).map (wgt s g L)).sum = rise (L.map s).sum g n
  | [], _, 0 => rfl
  | [], _, n + 1 => (rise_null g n).symm
  | x :: L, hL, n => by
    rw [List.nodup_cons] at hL
    show (((List.range (n + 1)).flatMap fun m => (bagsB L m).map (List.replicate (n - m) x ++ ·)).map (wgt s g (x :: L))).sum = rise (s x + (L.map s).sum) g n
    rw [sum_flat, Nat.add_comm (s x), ← vand]
    refine sm_congr _ fun m hm => ?_
    rw [← total s g L hL.2 m, List.map_map, ← Nat.mul_assoc, Nat.mul_right_comm]
    refine sum_scale _ _ _ _ fun u hu => ?_
    obtain ⟨a, b⟩ := bagsB_ok L m u hu
    have hx : x ∉ u := fun z => hL.1 (b x z)
    show Wy (List.replicate (n - m) x ++ u) * pr ((x :: L).map fun y => rise (s y) g ((List.replicate (n - m) x ++ u).count y)) = bin n m * rise (s x) g (n - m) * (Wy u * pr (L.map fun y => rise (s y) g (u.count y)))
    have e1 : L.map (fun y => rise (s y) g ((List.replicate (n - m) x ++ u).count y)) = L.map fun y => rise (s y) g (u.count y) := List.map_congr_left fun y hy => by
      have : x ≠ y := fun z => hL.1 (z ▸ hy)
      rw [List.count_append, List.count_replicate, if_neg (by simpa using this), Nat.zero_add]
    rw [W_rep hx, a, show m + (n - m) = n by omega, List.map_cons, e1, List.count_append, List.count_replicate_self, List.count_eq_zero.mpr hx, Nat.add_zero]
    show bin n m * Wy u * (rise (s x) g (n - m) * pr _) = _
    generalize pr (L.map fun y => rise (s y) g (u.count y)) = p
    generalize rise (s x) g (n - m) = r
    rw [Nat.mul_assoc, Nat.mul_assoc, Nat.mul_left_comm (Wy u)]
/-! ### the letters that may come: sixteen cases -/
def ab (b0 b1 b2 b3 : Bool) : List Nat := ([0, 1, 2, 3] : List Nat).filter fun i => [b0, b1, b2, b3].getD i false
theorem able_ab : ∀ (st : List Nat), st.length ≤ 4 → ∃ b0 b1 b2 b3, ableL st = ab b0 b1 b2 b3
  | [], _ => ⟨false, false, false, false, rfl⟩
  | [a], _ => ⟨decide (0 < a), false, false, false, rfl⟩
  | [a, b], _ => ⟨decide (0 < a), decide (0 < b), false, false, rfl⟩
  | [a, b, c], _ => ⟨decide (0 < a), decide (0 < b), decide (0 < c), false, rfl⟩
  | [a, b, c, d], _ => ⟨decide (0 < a), decide (0 < b), decide (0 < c), decide (0 < d), rfl⟩
  | a :: b :: c :: d :: e :: r, h => by simp only [List.length_cons] at h; omega
def codeR (r : List Nat) : Int := TS.code 4 (r.map fun x : Nat => (x : Int))
/-- what is asked of the bags, at a case -/
structure Chk (L : List Nat) (n : Nat) : Prop where
  all : allTx L n = bagsF L n
  bags : bagsF L n = bagsB L n
  many : cmb (L.length + n - 1) n = (bagsF L n).length
  asc : ∀ r ∈ bagsF L n, asc r = true
  code : (bagsF L n).Pairwise fun r s => codeR r < codeR s
  few : (bagsF L n).length ≤ 35
def chkB (L : List Nat) (n : Nat) : Bool := decide (allTx L n = bagsF L n) && (decide (bagsF L n = bagsB L n) && (decide (cmb (L.length + n - 1) n = (bagsF L n).length) && ((bagsF L n).all asc && (decide ((bagsF L n).Pairwise fun r s => codeR r < codeR s) && decide ((bagsF L n).length ≤ 35)))))
theorem chk_of {L : List Nat} {n : Nat} (h : chkB L n = true) : Chk L n := by
  unfold chkB at h
  rw [Bool.and_eq_true, Bool.and_eq_true, Bool.and_eq_true, Bool.and_eq_true, Bool.and_eq_true] at h
  obtain ⟨h1, h2, h3, h4, h5, h6⟩ := h
  exact ⟨of_decide_eq_true h1, of_decide_eq_true h2, of_decide_eq_true h3, List.all_eq_true.mp h4, of_decide_eq_true h5, of_decide_eq_true h6⟩
theorem chk_ab : ∀ b0 b1 b2 b3 : Bool, (b0 || (b1 || (b2 || b3))) = true → ∀ n : Fin 5, chkB (ab b0 b1 b2 b3) n.val = true := by decide +kernel
theorem chk_able {st : List Nat} (h : st.length ≤ 4) (h0 : ableL st ≠ []) {n : Nat} (hn : n ≤ 4) : Chk (ableL st) n := by
  obtain ⟨b0, b1, b2, b3, e⟩ := able_ab st h
  rw [e] at h0 ⊢
  refine chk_of (chk_ab b0 b1 b2 b3 ?_ ⟨n, by omega⟩)
  cases b0 <;> cases b1 <;> cases b2 <;> cases b3 <;> first | rfl | exact absurd rfl h0
/-! ### what the chances come to -/
theorem pr_filter (f : Nat → Nat) (p : Nat → Bool) : ∀ L : List Nat, (∀ y ∈ L, p y = false → f y = 1) → pr ((L.filter p).map f) = pr (L.map f)
  | [], _ => rfl
  | a :: r, h => by
    have ih := pr_filter f p r fun y hy => h y (List.mem_cons_of_mem _ hy)
    cases e : p a with
    | true =>
      rw [List.filter_cons_of_pos e]
      show f a * pr _ = f a * pr _
      rw [ih]
    | false =>
      rw [List.filter_cons_of_neg (by simp [e]), ih]
      show _ = f a * pr _
      rw [h a List.mem_cons_self e, Nat.one_mul]
theorem sum_filter (f : Nat → Nat) (p : Nat → Bool) : ∀ L : List Nat, (∀ y ∈ L, p y = false → f y = 0) → ((L.filter p).map f).sum = (L.map f).sum
  | [], _ => rfl
  | a :: r, h => by
    have ih := sum_filter f p r fun y hy => h y (List.mem_cons_of_mem _ hy)
    cases e : p a with
    | true =>
      rw [List.filter_cons_of_pos e, List.map_cons, List.map_cons, List.sum_cons, List.sum_cons, ih]
    | false =>
      rw [List.filter_cons_of_neg (by simp [e]), ih, List.map_cons, List.sum_cons, h a List.mem_cons_self e, Nat.zero_add]
theorem range_get (st : List Nat) : (List.range st.length).map (fun y => st.getD y 0) = st := by
  apply List.ext_getElem
  · simp
  · intro i h1 h2
    rw [List.getElem_map, List.getElem_range, List.getD_eq_getElem?_getD, List.getElem?_eq_getElem h2]
    rfl
theorem fold_pr {α : Type} (f : α → Nat) : ∀ (l : List α) (t : Nat), l.foldl (fun t p => t * f p) t = t * pr (l.map f)
  | [], t => (Nat.mul_one t).symm
  | a :: r, t => by
    show r.foldl _ (t * f a) = t * (f a * pr (r.map f))
    rw [fold_pr f r, Nat.mul_assoc]
theorem chT_pr (g : Nat) (st t : List Nat) : chT g st (tally st.length t) = pr ((List.range st.length).map fun y => rise (st.getD y 0) g (t.count y)) := by
  unfold chT
  rw [fold_pr (fun p : Nat × Nat => rise p.1 g p.2), Nat.one_mul]
  congr 1
  apply List.ext_getElem
  · simp [tally]
  · intro i h1 h2
    rw [List.length_map, List.length_range] at h2
    rw [List.getElem_map, List.getElem_map, List.getElem_zip, List.getElem_range, List.getD_eq_getElem?_getD, List.getElem?_eq_getElem h2]
    unfold tally
    rw [List.getElem_map, List.getElem_range]
    rfl
def wB (g : Nat) (st t : List Nat) : Nat := Wy t * chT g st (tally st.length t)
theorem able_mem {st : List Nat} {y : Nat} : y ∈ ableL st ↔ y < st.length ∧ 0 < st.getD y 0 := by
  unfold ableL
  rw [List.mem_filter, List.mem_range, decide_eq_true_iff]
theorem wB_wgt {g n : Nat} {st t : List Nat} (h : ∀ x ∈ t, x ∈ ableL st) : wB g st t = wgt (fun y => st.getD y 0) g (ableL st) t := by
  unfold wB wgt
  rw [chT_pr]
  congr 1
  refine (pr_filter _ _ _ fun y hy hp => ?_).symm
  have hc : t.count y = 0 := List.count_eq_zero.mpr fun z => by
    have := (able_mem.mp (h y z)).2
    exact absurd hp (by simp only [decide_eq_true this]; exact nofun)
  rw [hc]
  rfl
theorem sum_able (st : List Nat) : ((ableL st).map fun y => st.getD y 0).sum = st.sum := by
  unfold ableL
  rw [sum_filter, range_get]
  intro y _ hp
  have := of_decide_eq_false hp
  omega
theorem able_nodup (st : List Nat) : (ableL st).Nodup := (List.nodup_range).filter _
theorem able_ne {st : List Nat} (h : 0 < st.sum) : ableL st ≠ [] := fun z => by
  have := sum_able st
  rw [z] at this
  change 0 = st.sum at this
  omega
theorem total_bags {g n : Nat} {st : List Nat} (h : st.length ≤ 4) (h0 : 0 < st.sum) (hn : n ≤ 4) : ((bagsF (ableL st) n).map (wB g st)).sum = rise st.sum g n := by
  have c := chk_able h (able_ne h0) hn
  rw [c.bags, ← sum_able st, ← total (fun y => st.getD y 0) g (ableL st) (able_nodup st) n]
  refine congrArg List.sum (List.map_congr_left fun t ht => wB_wgt (n := n) (bagsB_ok _ _ t ht).2)
theorem bags_Bg {n : Nat} {st : List Nat} (h : st.length ≤ 4) (h0 : 0 < st.sum) (hn : n ≤ 4) : ∀ t ∈ bagsF (ableL st) n, Bg st t ∧ t.length = n := fun t ht => by
  have c := chk_able h (able_ne h0) hn
  have ha := c.asc t ht
  rw [c.bags] at ht
  obtain ⟨a, b⟩ := bagsB_ok _ _ t ht
  exact ⟨⟨⟨by omega, fun l hl => (able_mem.mp (b l hl)).1, fun l hl => (able_mem.mp (b l hl)).2⟩, ha⟩, a⟩
/-! ### quotients added -/
theorem lowQ_eq (a b : Nat) : (lowQ a b).1 * b = a * (lowQ a b).2 := by
  show a / Nat.gcd a b * b = a * (b / Nat.gcd a b)
  rw [Nat.div_mul_right_comm (Nat.gcd_dvd_left a b), Nat.mul_div_assoc _ (Nat.gcd_dvd_right a b)]
theorem lowQ_pos {a b : Nat} (h : 0 < b) : 0 < (lowQ a b).2 := Nat.div_pos (Nat.le_of_dvd h (Nat.gcd_dvd_right a b)) (Nat.gcd_pos_of_pos_right _ h)
theorem lowQ_le {a b : Nat} : (lowQ a b).2 ≤ b := Nat.div_le_self _ _
theorem lowQ_gcd {a b : Nat} (h : 0 < b) : Nat.gcd (lowQ a b).1 (lowQ a b).2 = 1 := by
  have hg := Nat.gcd_pos_of_pos_right a h
  show Nat.gcd (a / Nat.gcd a b) (b / Nat.gcd a b) = 1
  rw [Nat.gcd_div (Nat.gcd_dvd_left a b) (Nat.gcd_dvd_right a b), Nat.div_self hg]
theorem chB_val {g : Nat} {st bag : List Nat} (h : Lr g st) (t : Bg st bag) :
    (chB g st bag).1 * rise st.sum g bag.length = (chB g st bag).2 * wB g st bag ∧ 0 < (chB g st bag).2 ∧ (chB g st bag).2 ≤ 2 ^ 57 := by
  have hq := chanceC_ok h t.tx
  have hR : rise st.sum g (tally st.length bag).sum = rise st.sum g bag.length := by rw [tally_sum _ _ t.tx.lt]
  have e1 := lowQ_eq (chT g st (tally st.length bag) * 1) (1 * rise st.sum g (tally st.length bag).sum)
  rw [Nat.mul_one, Nat.one_mul, hR] at e1
  have l1 : (chanceC g st (tally st.length bag)).2 ≤ rise st.sum g bag.length := by
    have := lowQ_le (a := chT g st (tally st.length bag) * 1) (b := 1 * rise st.sum g (tally st.length bag).sum)
    rw [Nat.one_mul, hR] at this
    unfold chanceC
    rw [Nat.one_mul, hR]
    exact this
  have e1' : (chanceC g st (tally st.length bag)).1 * rise st.sum g bag.length = chT g st (tally st.length bag) * (chanceC g st (tally st.length bag)).2 := by
    unfold chanceC
    rw [Nat.mul_one, Nat.one_mul, hR]
    exact e1
  obtain ⟨c, hc⟩ : ∃ c, chanceC g st (tally st.length bag) = c := ⟨_, rfl⟩
  have e2 := lowQ_eq (ordersB bag * (chanceC g st (tally st.length bag)).1) (1 * (chanceC g st (tally st.length bag)).2)
  have p2 := lowQ_pos (a := ordersB bag * (chanceC g st (tally st.length bag)).1) (b := 1 * (chanceC g st (tally st.length bag)).2) (by rw [Nat.one_mul]; exact hq.pos)
  have l2 := lowQ_le (a := ordersB bag * (chanceC g st (tally st.length bag)).1) (b := 1 * (chanceC g st (tally st.length bag)).2)
  change (chB g st bag).1 * _ = _ * (chB g st bag).2 at e2
  change 0 < (chB g st bag).2 at p2
  change (chB g st bag).2 ≤ _ at l2
  rw [hc] at hq l1 e1' e2 l2
  rw [Nat.one_mul] at e2 l2
  obtain ⟨a, b⟩ : (∃ a, (chB g st bag).1 = a) ∧ ∃ b, (chB g st bag).2 = b := ⟨⟨_, rfl⟩, ⟨_, rfl⟩⟩
  obtain ⟨a, ha⟩ := a
  obtain ⟨b, hb⟩ := b
  rw [ha, hb] at e2
  rw [hb] at p2 l2
  rw [ha, hb]
  have hrl := rise_le (s := st.sum) (g := g) (n := bag.length) h.small h.gain t.tx.len
  refine ⟨?_, p2, by omega⟩
  unfold wB
  rw [orders_W (asc_iff.mp t.asc)] at e2
  generalize rise st.sum g bag.length = R at e1' ⊢
  generalize chT g st (tally st.length bag) = T at e1' ⊢
  generalize Wy bag = o at e2 ⊢
  obtain ⟨p, q⟩ := c
  change a * q = o * p * b at e2
  change p * R = T * q at e1'
  have hq0 : 0 < q := hq.pos
  refine Nat.eq_of_mul_eq_mul_right hq0 ?_
  rw [Nat.mul_right_comm a R q, e2, Nat.mul_right_comm, Nat.mul_assoc o p R, e1', Nat.mul_comm b, Nat.mul_assoc, Nat.mul_assoc, Nat.mul_assoc, Nat.mul_assoc, Nat.mul_comm q]
/-- partial sums of quotients -/
structure Ps (R S k : Nat) (q : Nat × Nat) : Prop where
  val : q.1 * R = q.2 * S
  pos : 0 < q.2
  low : Nat.gcd q.1 q.2 = 1
  few : q.2 ≤ 2 ^ (57 * k)
theorem le_of_val {R S a b : Nat} (hR : 0 < R) (h : a * R = b * S) (hS : S ≤ R) : a ≤ b := Nat.le_of_mul_le_mul_right (h ▸ Nat.mul_le_mul_left b hS) hR
theorem Ps.start (R : Nat) : Ps R 0 0 (0, 1) := ⟨by show 0 * R = 1 * 0; omega, Nat.one_pos, by decide, by decide⟩
theorem Ps.bound {R S w k : Nat} {q c : Nat × Nat} (hR : 0 < R) (h : Ps R S k q) (hc : c.1 * R = c.2 * w) (cb : c.2 ≤ 2 ^ 57) (hS : S + w ≤ R) (hk : k ≤ 35) : q.1 * c.2 < BIG ∧ c.1 * q.2 < BIG ∧ q.1 * c.2 + c.1 * q.2 < BIG ∧ q.2 * c.2 < BIG := by
  have h1 := le_of_val hR h.val (by omega)
  have h2 := le_of_val hR hc (by omega)
  have h3 : q.2 * c.2 ≤ 2 ^ (57 * k + 57) := by
    rw [Nat.pow_add]
    exact Nat.mul_le_mul h.few cb
  have h4 : q.1 * c.2 ≤ q.2 * c.2 := Nat.mul_le_mul_right _ h1
  have h5 : c.1 * q.2 ≤ q.2 * c.2 := by rw [Nat.mul_comm]; exact Nat.mul_le_mul_left _ h2
  have h6 : 2 ^ (57 * k + 57) * 2 < BIG := by
    have e : 2 ^ (57 * k + 57) * 2 = 2 ^ (57 * k + 57 + 1) := (Nat.pow_succ ..).symm
    rw [e]
    exact Nat.pow_lt_pow_right (by decide) (by omega)
  omega
theorem Ps.step {R S w k : Nat} {q c : Nat × Nat} (h : Ps R S k q) (hc : c.1 * R = c.2 * w) (c0 : 0 < c.2) (cb : c.2 ≤ 2 ^ 57) : Ps R (S + w) (k + 1) (lowQ (q.1 * c.2 + c.1 * q.2) (q.2 * c.2)) := by
  have hp : 0 < q.2 * c.2 := Nat.mul_pos h.pos c0
  refine ⟨?_, lowQ_pos hp, lowQ_gcd hp, Nat.le_trans lowQ_le ?_⟩
  · have e := lowQ_eq (q.1 * c.2 + c.1 * q.2) (q.2 * c.2)
    have v : (q.1 * c.2 + c.1 * q.2) * R = q.2 * c.2 * (S + w) := by
      rw [Nat.add_mul, Nat.mul_right_comm, h.val, Nat.mul_right_comm c.1, hc, Nat.mul_right_comm q.2 S, Nat.mul_right_comm c.2 w, Nat.mul_comm c.2 q.2, Nat.mul_add]
    refine Nat.eq_of_mul_eq_mul_right hp ?_
    rw [Nat.mul_right_comm, e, Nat.mul_right_comm, v]
    generalize (lowQ (q.1 * c.2 + c.1 * q.2) (q.2 * c.2)).2 = y
    generalize q.2 * c.2 = D
    rw [Nat.mul_comm _ y, Nat.mul_comm D, ← Nat.mul_assoc]
  · rw [show 57 * (k + 1) = 57 * k + 57 by omega, Nat.pow_add]
    exact Nat.mul_le_mul h.few cb
theorem Ps.fin {R k : Nat} {q : Nat × Nat} (hR : 0 < R) (h : Ps R R k q) : q = (1, 1) := by
  have e := Nat.eq_of_mul_eq_mul_right hR h.val
  have l := h.low
  obtain ⟨a, b⟩ := q
  change a = b at e
  subst e
  rw [show Nat.gcd (a, a).1 (a, a).2 = a from Nat.gcd_self a] at l
  rw [l]
end K67
namespace K67
open PySem PySem.Spec PyProof.Rows L2
open Evl (Ex ex_l ex_t)
/-! ### sorted of a list of texts that stands in order -/
theorem uniq_by {α : Type} (f : α → Int) : ∀ {l m : List α}, l.Pairwise (fun a b => f a ≤ f b) → m.Pairwise (fun a b => f a < f b) → l.Perm m → l = m
  | [], m, _, _, h => h.symm.eq_nil.symm
  | a :: l, [], _, _, h => absurd h.eq_nil (by simp)
  | a :: l, b :: m, h1, h2, h => by
    rw [List.pairwise_cons] at h1 h2
    have e : a = b := by
      rcases List.mem_cons.mp (h.mem_iff.mp (List.mem_cons_self (a := a) (l := l))) with q | q
      · exact q
      · rcases List.mem_cons.mp (h.mem_iff.mpr (List.mem_cons_self (a := b) (l := m))) with q2 | q2
        · exact q2.symm
        · have x := h1.1 b q2
          have y := h2.1 a q
          omega
    subst e
    rw [uniq_by f h1.2 h2.2 ((List.perm_cons a).mp h)]
theorem dpa_perm {K : PySem.W.Frag} {H : Hp} {vs ys : List V} (h : ys.Perm vs) : ∀ {ds : List PyData}, DpAll K H vs ds → ∃ es : List PyData, es.Perm ds ∧ DpAll K H ys es := by
  induction h with
  | nil => exact fun {ds} q => ⟨ds, .refl _, q⟩
  | cons x _ ih =>
    intro ds q
    cases q with
    | cons a b =>
      obtain ⟨es, p, g⟩ := ih b
      exact ⟨_ :: es, p.cons _, .cons a g⟩
  | swap x y l =>
    intro ds q
    cases q with
    | cons a b =>
      cases b with
      | cons b c => exact ⟨_ :: _ :: _, .swap _ _ _, .cons b (.cons a c)⟩
  | trans _ _ ih1 ih2 =>
    intro ds q
    obtain ⟨es, p, g⟩ := ih2 q
    obtain ⟨fs, p2, g2⟩ := ih1 g
    exact ⟨fs, p2.trans p, g2⟩
def cdD : PyData → Int
  | .tuple ds => TS.code 4 (ds.map fun d => match d with | .int i => i | _ => 0)
  | _ => 0
theorem cdD_t (r : List Nat) : cdD (tN r) = codeR r := by
  unfold codeR
  show TS.code 4 ((r.map nD).map _) = _
  rw [List.map_map]
  rfl
theorem tupI_of {K : PySem.W.Frag} {I H : Hp} {x : V} {r : List Nat} (e : Ex I H) (h : Dp K I x (tN r)) : TupI K H x (r.map fun n : Nat => (n : Int)) := by
  cases h with
  | tup hs ha =>
    rw [map_nD] at ha
    rw [dpa_ints ha] at hs
    exact ⟨_, rfl, ex_t e hs⟩
theorem pw_of {K : PySem.W.Frag} {I H : Hp} (e : Ex I H) : ∀ {ys : List V} {es : List PyData}, DpAll K I ys es → (∀ z ∈ es, ∃ r, z = tN r) → ys.Pairwise (fun x y => ∀ n m, TupI K H x n → TupI K H y m → TS.code 4 n ≤ TS.code 4 m) → es.Pairwise fun a b => cdD a ≤ cdD b
  | _, _, .nil, _, _ => .nil
  | y :: ys, d :: es, .cons a b, h, p => by
    rw [List.pairwise_cons] at p ⊢
    refine ⟨fun z hz => ?_, pw_of e b (fun z hz => h z (List.mem_cons_of_mem _ hz)) p.2⟩
    obtain ⟨r, rfl⟩ := h d List.mem_cons_self
    obtain ⟨k, hk, ek⟩ := List.mem_iff_getElem.mp hz
    obtain ⟨v, gv, dv⟩ := dpa_get b (List.getElem?_eq_getElem hk)
    rw [ek] at dv
    obtain ⟨s, rfl⟩ := h z (List.mem_cons_of_mem _ hz)
    rw [cdD_t, cdD_t]
    exact p.1 v (List.mem_of_getElem? gv) _ _ (tupI_of e a) (tupI_of e dv)
def rSort1 (K : PySem.W.Frag) : List V → Hp → VK → Prop := fun vs H Q => ∃ (a : Addr) (xs : List V), vs = [V.ref a] ∧ SqL K H a xs ∧ xs.length < 2 ∧ ∀ p, H p = none → Q (.ref p) (upd H p (.lst xs))
theorem cr_sort1 {X : Cx} : CallR X (.builtin "sorted") (rSort1 X.K) := by
  intro pins s σ H vs us Q I r h
  obtain ⟨a, xs, rfl, hs, h2, q⟩ := h
  obtain ⟨its, rv, hl, hz⟩ := I.list hs
  rw [Vals.ref1 r]
  have hlen := rv.length
  refine Srt.sorted_any hl.isList (by rw [← hlen]; exact hz) (fun h => absurd h (by omega)) fun out hp => ?_
  have e : out = its := by
    match its, out, hp with
    | [], out, hp => exact hp.eq_nil
    | [z], out, hp => exact List.perm_singleton.mp hp
    | _ :: _ :: _, out, hp => simp only [List.length_cons] at hlen; omega
  subst e
  obtain ⟨ep, he'⟩ := PyProof.Rows.sortedAll_at s.heap out out.toArray
  exact ⟨.ref _, upd H (s.heap.objs.size + 1) (.lst xs), I.laid (t' := s.toks) (fun _ _ => PyProof.Rows.sortedAll_old) (Nat.le_succ _) ⟨hz, out, ep, rv, by simpa using he'⟩, rfl, q _ (I.hok.fresh (Nat.le_succ _))⟩
section
variable {P : Program} {w : World} {K : PySem.W.Frag} {mg : Str → Option Value} {base : Heap} {k : Nat} {ι : Type} {F : ι → Cx} {e : Expr} {ρ : DE} {p p1 pos : Pos} {nm : Str}
/-- sorted(rows), rows one's own, in order -/
theorem q_sortRows [C : Cal P w K mg base k F] [W : Wd K mg] {rows : List (List Nat)} {n : Nat} {lo : Option Addr} (j : Nat) (hρ : ρ[j]? = some (.own lo (rowsD rows))) (hr : ∀ r ∈ rows, r.length = n ∧ ∀ x ∈ r, x < 4) (h64 : rows.length < 64) (h1 : n = 0 → rows.length < 2) (hc : rows.Pairwise fun r s => codeR r < codeR s)
    (hN : ∀ i, (F i).N[j]? = some nm := by intro _; rfl) (hv : ∀ i, Vis (F i).env.scope nm := by intro _; first | exact Or.inl rfl | exact Or.inr (Or.inl rfl) | exact Or.inr (Or.inr rfl)) (hd : (nm == ("__debug__" : Str)) = false := by decide) (hcd : (nm == ("__classdict__" : Str)) = false := by decide)
    (hg : ∀ i, Gl (F i) "sorted" := by intro _; rfl) (he : ∀ i, starEach [Expr.Name nm p1] (F i).env = (false, eval (Expr.Name nm p1) (F i).env) :: starEach [] (F i).env := by intro _; rfl) (hpl : ∀ i, (backTo pos (starEach [] (F i).env)).any (·.1) = false := by intro _; rfl) :
    EL K F (.Call (.Name "sorted" p) [.Name nm p1] [] pos) ρ (rowsD rows) := fun B I0 I H σ r Q q => by
  obtain ⟨l, vs, g1, g2, g3, g4, g5, g6⟩ := r.ow j lo _ hρ
  have hlen : vs.length = rows.length := by rw [dpa_len g5, List.length_map]
  have hfm := fr_ (F := F) (x := "sorted") (by decide +kernel)
  by_cases h0 : n = 0
  · have hs : ∀ i, CallR (F i) (.builtin "sorted") (rSort1 K) := fun i => by rw [← cK (F := F) i]; exact cr_sort1
    refine ⟨_, fun i => pe_callB (hs i) (hg i) (hfm i) (by decide +kernel) (pa_tA i) (by decide) (by decide) (he i) (hpl i), ?_⟩
    refine ⟨_, fun i => pa_cons (pe_var (hN i) (hv i) hd hcd) pa_nil (he i), .ref l, g1, ?_⟩
    refine ⟨l, vs, rfl, SqL.of g4, by rw [hlen]; exact h1 h0, fun p hp => ?_⟩
    have f2 := Fr.own (o := .lst vs) r.fr.ih hp
    exact q p vs I _ f2 hp (Ex.none r.fr.ih hp) upd_same g5
  · have hs : ∀ i, CallR (F i) (.builtin "sorted") (rSortU K n 4) := fun i => by rw [← cK (F := F) i]; exact cr_sortT (by omega)
    refine ⟨_, fun i => pe_callB (hs i) (hg i) (hfm i) (by decide +kernel) (pa_tA i) (by decide) (by decide) (he i) (hpl i), ?_⟩
    refine ⟨_, fun i => pa_cons (pe_var (hN i) (hv i) hd hcd) pa_nil (he i), .ref l, g1, ?_⟩
    refine ⟨l, vs, rfl, SqL.of g4, by omega, fun x hx => ?_, fun ys p hp hpw hnew => ?_⟩
    · obtain ⟨i, hi, e⟩ := List.mem_iff_getElem.mp hx
      have hi2 : i < rows.length := by omega
      obtain ⟨v, gv, dv⟩ := dpa_get g5 (k := i) (d := tN rows[i]) (by rw [List.getElem?_map, List.getElem?_eq_getElem hi2]; rfl)
      rw [List.getElem?_eq_getElem hi, e] at gv
      cases gv
      obtain ⟨q1, q2⟩ := hr _ (List.getElem_mem hi2)
      refine ⟨_, tupI_of r.fr.ih dv, by rw [List.length_map]; exact q1, fun m hm => ?_⟩
      obtain ⟨y, hy, rfl⟩ := List.mem_map.mp hm
      have := q2 y hy
      omega
    · obtain ⟨es, pe, de⟩ := dpa_perm hp g5
      have ht : ∀ z ∈ es, ∃ r, z = tN r := fun z hz => by
        obtain ⟨r, _, e⟩ := List.mem_map.mp (pe.mem_iff.mp hz)
        exact ⟨r, e.symm⟩
      have e : es = rowsD rows := uniq_by cdD (pw_of r.fr.ih de ht hpw) (by
        rw [List.pairwise_map]
        refine hc.imp fun {a b} h => ?_
        rw [cdD_t, cdD_t]
        exact h) pe
      subst e
      have f2 := Fr.own (o := .lst ys) r.fr.ih hnew
      exact q p ys I _ f2 hnew (Ex.none r.fr.ih hnew) upd_same de
end
end K67
namespace K67
open PySem PySem.Spec PyProof.Rows L2
def addQ (g : Nat) (st : List Nat) (q : Nat × Nat) (lot : List Nat) : Nat × Nat := lowQ (q.1 * (chB g st lot).2 + (chB g st lot).1 * q.2) (q.2 * (chB g st lot).2)
theorem take_sum_le (f : List Nat → Nat) (rows : List (List Nat)) (k : Nat) : ((rows.take k).map f).sum ≤ (rows.map f).sum := by
  have e : rows.map f = (rows.take k).map f ++ (rows.drop k).map f := by rw [← List.map_append, List.take_append_drop]
  rw [e, List.sum_append]
  omega
theorem take_sum_succ (f : List Nat → Nat) {rows : List (List Nat)} {k : Nat} (h : k < rows.length) : ((rows.take (k + 1)).map f).sum = ((rows.take k).map f).sum + f rows[k] := by
  rw [List.take_succ_eq_append_getElem h, List.map_append, List.sum_append]
  simp
theorem ps_fold {g R : Nat} {st : List Nat} (h : Lr g st) {rows : List (List Nat)} (hr : ∀ t ∈ rows, Bg st t ∧ rise st.sum g t.length = R) : ∀ k, k ≤ rows.length → Ps R ((rows.take k).map (wB g st)).sum k ((rows.take k).foldl (addQ g st) (0, 1))
  | 0, _ => Ps.start R
  | k + 1, hk => by
    have ih := ps_fold h hr k (by omega)
    obtain ⟨hb, e⟩ := hr rows[k] (List.getElem_mem (by omega))
    obtain ⟨v, c0, cb⟩ := chB_val h hb
    rw [e] at v
    rw [take_sum_succ _ (by omega), List.take_succ_eq_append_getElem (by omega), List.foldl_append]
    exact ih.step v c0 cb
section
variable {P : Program} {w : World} {K : PySem.W.Frag} {mg : Str → Option Value} {base : Heap} [W : Wd K mg] [WE : WdE w K mg]
theorem ok_law_all_right : Cle P w K mg base "_law_all_right" 185 ["_law_teacher_here", "_law_able", "_law_long"] 9 (spP K (fun x : Nat × List Nat × Nat => [lrn x.1 x.2.1, lN (ableL x.2.1), nD x.2.2]) (fun x => Lr x.1 x.2.1 ∧ x.2.2 ≤ 4) (fun _ => .bool true)) := by
  refine mkP df185 (fun _ => rfl) (fun f cdv A outer s H E' ci a hp => ?_)
  obtain ⟨g, st, n⟩ := a
  obtain ⟨h2, hn⟩ := hp
  have h2 : Lr g st := h2
  have hn : n ≤ 4 := hn
  have hne := able_ne h2.pos
  have hal : 0 < (ableL st).length := List.length_pos_iff.mpr hne
  have hc := chk_able h2.len hne hn
  have hbg := bags_Bg (n := n) h2.len h2.pos hn
  have htot := total_bags (g := g) (n := n) h2.len h2.pos hn
  have eall := hc.all
  have emany := hc.many
  have hcode := hc.code
  have hfew := hc.few
  have hab4 := Nat.le_trans (able_len st) h2.len
  have hz : n = 0 → (bagsF (ableL st) n).length < 2 := fun z => by subst z; show [[]].length < 2; decide
  refine ss_cons (s_par 3 4 (e_tup (a_cons e_str (a_cons (e_name 0) (a_cons (e_name 2) a_nil)))) (q_call ok_law_bags (ableL st, n) (a_cons (e_name 1) (a_cons (e_name 2) a_nil)) ⟨hab4, hn⟩) nd_ ?_)
  refine ss_cons (s_setL 5 (ql_call ok_things_of (g, st, n) (a_cons (e_name 3) a_nil) ⟨h2, hn⟩) nd_ ?_)
  show Ss K _ _ [.im (lrn g st), .im (lN (ableL st)), .im (nD n), .im (sch g st n), .im (.list (rowsD (bagsF (ableL st) n))), .ow (rowsD (allTx (ableL st) n)), .no, .no, .no, .no] _
  rw [eall]
  obtain ⟨rows, hrows⟩ : ∃ rows, bagsF (ableL st) n = rows := ⟨_, rfl⟩
  rw [hrows] at hbg htot emany hcode hfew hz ⊢
  have hlt4 : ∀ r ∈ rows, r.length = n ∧ ∀ x ∈ r, x < 4 := fun r hr => ⟨(hbg r hr).2, fun x hx => Nat.lt_of_lt_of_le ((hbg r hr).1.tx.lt x hx) h2.len⟩
  have prow : Pl (35 * 5) 1 (rowsD rows) := (pl_map (f := tN) (n := 5) (d := 1) fun t ht => pn_t (fun x hx => lt1900 (Nat.lt_of_lt_of_le ((hlt4 t ht).2 x hx) (by decide))) (by rw [(hlt4 t ht).1]; exact hn)).up (by omega) (Nat.le_refl _)
  have l19 : rows.length < 2 ^ 1900 := lt1900 (Nat.lt_of_le_of_lt hfew (by decide))
  have rp1 : Rp (.list [.list (rowsD rows), nD rows.length]) := (pn_list (pl_cons (pn_list prow) (pl_cons (pn_n l19) pl_nil))).rp
  refine ss_cons (s_if (t := false) (t_to (t_of (t_or (t_not (t_val (e_un (j := 5) (q_isi (e_name 5) kt_ll) rfl rfl))) fun _ => t_or1 (t_not (t_val (q_call ok_law_same (.list [.list (rowsD rows), nD rows.length]) (a_cons (el_list (a_cons (q_sortRows (n := n) 5 rfl hlt4 (by omega) hz hcode).im (a_cons (e_to (q_call ok_how_many (g, st, n) (a_cons (e_name 3) a_nil) ⟨h2, hn, hal⟩) (by show nD (cmb ((ableL st).length + n - 1) n) = _; rw [emany])) a_nil))).im (a_cons (el_list (a_cons (e_name 4) (a_cons (q_len (e_name 4) (hm := List.length_map ..)) a_nil))).im a_nil)) ⟨rp1, .inr (.inl ⟨_, rfl⟩)⟩))))) rfl) (fun h => by cases h) fun _ => ss_nil ?_)
  refine ss_cons (s_app 5 cK rfl (e_tup a_nil) (by rw [List.length_map, sizeLine_eq]; omega) ?_)
  refine ss_cons (s_asg (e_tup (a_cons (e_nat 0) (a_cons (e_nat 1) a_nil))) (tg_tup cK ci.calm (tgs_cons (js := [6]) (tg_name 6 nd_) (tgs_cons (js := [7]) (tg_name 7 nd_) tgs_nil))) ?_)
  have hR : 0 < rise st.sum g n := rise_pos h2.pos _
  have hps := ps_fold (R := rise st.sum g n) h2 (rows := rows) fun t ht => ⟨(hbg t ht).1, by rw [(hbg t ht).2]⟩
  refine ss_cons (s_forM (xs := rows) (g := tN) (fun k ρ' => ∃ u v, ρ' = [.im (lrn g st), .im (lN (ableL st)), .im (nD n), .im (sch g st n), .im (.list (rowsD rows)), .ow (rowsD rows ++ [.tuple []]), .im (nD ((rows.take k).foldl (addQ g st) (0, 1)).1), .im (nD ((rows.take k).foldl (addQ g st) (0, 1)).2), u, v]) (src_list cK (e_name 4)) ⟨_, _, rfl⟩ (fun k hk ρ' ⟨u, v, hu⟩ => ?_) (fun ρ' ⟨u, v, hu⟩ => ?_))
  · subst hu
    obtain ⟨hb, hbl⟩ := hbg rows[k] (List.getElem_mem hk)
    obtain ⟨cv, c0, cb⟩ := chB_val h2 hb
    rw [hbl] at cv
    have pk := hps k (by omega)
    have hS : ((rows.take k).map (wB g st)).sum + wB g st rows[k] ≤ rise st.sum g n := by
      rw [← take_sum_succ _ hk, ← htot]
      exact take_sum_le _ _ _
    obtain ⟨b1, b2, b3, b4⟩ := pk.bound hR cv cb hS (by omega)
    have q12 := le_of_val hR pk.val (by omega)
    have a12 := le_of_val hR cv (by omega)
    have q2B : ((rows.take k).foldl (addQ g st) (0, 1)).2 < BIG := Nat.lt_of_le_of_lt pk.few (Nat.pow_lt_pow_right (by decide) (by omega))
    have q1B := Nat.lt_of_le_of_lt q12 q2B
    have c2B : (chB g st rows[k]).2 < BIG := Nat.lt_of_le_of_lt cb (Nat.pow_lt_pow_right (by decide) (by omega))
    have c1B := Nat.lt_of_le_of_lt a12 c2B
    have est : (rows.take (k + 1)).foldl (addQ g st) (0, 1) = addQ g st ((rows.take k).foldl (addQ g st) (0, 1)) rows[k] := by
      rw [List.take_succ_eq_append_getElem hk, List.foldl_append]
      rfl
    rw [est]
    obtain ⟨q, hq⟩ : ∃ q, (rows.take k).foldl (addQ g st) (0, 1) = q := ⟨_, rfl⟩
    have pos := Nat.mul_pos pk.pos c0
    rw [hq] at b1 b2 b3 b4 q1B q2B pos ⊢
    refine ⟨[8], _, tg_name 8 nd_, ?_⟩
    refine ss_cons (s_set 9 (q_call ok_chance_of_bag (g, st, rows[k]) (a_cons (e_name 0) (a_cons (e_name 8) a_nil)) ⟨h2, hb⟩) nd_ ?_)
    refine ss_cons (s_par 6 7 (e_bin (e_bin (e_name 6) (e_ix (e_name 9) (e_nat 1) (i_tD rfl)) (n_mul q1B c2B)) (e_bin (e_ix (e_name 9) (e_nat 0) (i_tD rfl)) (e_name 7) (n_mul c1B q2B)) n_add) (e_bin (e_name 7) (e_ix (e_name 9) (e_nat 1) (i_tD rfl)) (n_mul q2B c2B)) nd_ ?_)
    exact ss_cons (s_asg (q_call ok_law_low (q.1 * (chB g st rows[k]).2 + (chB g st rows[k]).1 * q.2, q.2 * (chB g st rows[k]).2) (a_cons (e_name 6) (a_cons (e_name 7) a_nil)) ⟨pos, b3, b4⟩) (tg_tup cK ci.calm (tgs_cons (js := [6]) (tg_name 6 nd_) (tgs_cons (js := [7]) (tg_name 7 nd_) tgs_nil))) (ss_nil ⟨_, _, rfl⟩))
  · subst hu
    have pk := hps rows.length (Nat.le_refl _)
    rw [List.take_length] at pk ⊢
    rw [htot] at pk
    rw [pk.fin hR]
    have one : (1 : Nat) < 2 ^ 1900 := lt1900 (by decide)
    have rp2 : Rp (.list [.tuple [nD 1, nD 1], nD rows.length, nD rows.length]) := (pn_list (pl_cons (pn_tup (pl_cons (pn_n one) (pl_cons (pn_n one) pl_nil))) (pl_cons (pn_n l19) (pl_cons (pn_n l19) pl_nil)))).rp
    exact ss_cons (s_ret (q_call ok_law_same (.list [.tuple [nD 1, nD 1], nD rows.length, nD rows.length]) (a_cons (el_list (a_cons (e_tup (a_cons (e_name 6) (a_cons (e_name 7) a_nil))) (a_cons (e_to (q_call ok_how_many (g, st, n) (a_cons (e_name 3) a_nil) ⟨h2, hn, hal⟩) (by show nD (cmb ((ableL st).length + n - 1) n) = _; rw [emany])) (a_cons (q_len (ql_call ok_things_of (g, st, n) (a_cons (e_name 3) a_nil) ⟨h2, hn⟩).im (hm := by show (rowsD (allTx (ableL st) n)).length = _; rw [eall, hrows, List.length_map])) a_nil)))).im (a_cons (el_list (a_cons (e_tup (a_cons (e_nat 1) (a_cons (e_nat 1) a_nil))) (a_cons (q_len (e_name 4) (hm := List.length_map ..)) (a_cons (q_len (e_name 4) (hm := List.length_map ..)) a_nil)))).im a_nil)) ⟨rp2, .inr (.inl ⟨_, rfl⟩)⟩) rfl)
end
end K67
namespace K67
open PySem PySem.Spec PyProof.Rows L2
open Evl (Ex ex_l ex_t)

/-! ### what a draw leaves -/
structure Dr (K : PySem.W.Frag) (l : Addr) (n : Nat) (I H I' H' : Hp) : Prop where
  f : Fr I (del H l) I' H'
  hn : I' l = none
  ex : ∃ ws fs, H' l = some (HO.lst ws) ∧ DpAll K I' ws fs ∧ FeedD n fs
section
variable {K : PySem.W.Frag} {B I0 I H I1 H1 I' H' : Hp} {σ : L2.St} {ρ : DE} {i n m : Nat} {l D : Addr}
theorem Dr.toR (d : Dr K l m I H I' H') (r : R K B I0 I H σ ρ) (hi : ρ[i]? = some (.fd l n)) : R K B I0 I' H' σ (ρ.set i (.fd l m)) := by
  obtain ⟨ws, fs, h1, h2, h3⟩ := d.ex
  exact r.feed hi d.f d.hn h1 h2 h3
theorem Dr.of (r : R K B I0 I H σ ρ) (hi : ρ[i]? = some (.fd l n)) (f : Fr I H I' H') : Dr K l n I H I' H' := by
  obtain ⟨vs, ds, h1, h2, h3, h4, h5, h6⟩ := r.fd i l n hi
  refine ⟨⟨f.i, fun a o q => ?_, f.ih, fun a q1 q2 => ?_, f.nd⟩, f.sep l h3 (by rw [h4]; exact nofun), vs, ds, f.h l _ h4, dpa_mono f.i h5, h6⟩
  · have ha : a ≠ l := fun z => by subst z; rw [del_same] at q; cases q
    rw [del_ne ha] at q
    exact f.h a o q
  · have ha : a ≠ l := fun z => q2 (by rw [z]; exact del_same)
    rw [del_ne ha] at q2
    exact f.sep a q1 q2
theorem Dr.trans (d1 : Dr K l n I H I1 H1) (d2 : Dr K l m I1 H1 I' H') : Dr K l m I H I' H' := by
  refine ⟨⟨d1.f.i.trans d2.f.i, fun a o q => ?_, d2.f.ih, fun a q1 q2 => ?_, fun h => d2.f.nd (d1.f.nd h)⟩, d2.hn, d2.ex⟩
  · have ha : a ≠ l := fun z => by subst z; rw [del_same] at q; cases q
    have q' := d1.f.h a o q
    exact d2.f.h a o (by rw [del_ne ha]; exact q')
  · have ha : a ≠ l := fun z => q2 (by rw [z]; exact del_same)
    refine d2.f.sep a (d1.f.sep a q1 q2) ?_
    cases e : del H l a with
    | none => exact absurd e q2
    | some o =>
      rw [del_ne ha, d1.f.h a o e]
      exact nofun
theorem Dr.mono (d : Dr K l n I H I' H') (h : n ≤ m) : Dr K l m I H I' H' := by
  obtain ⟨ws, fs, h1, h2, h3⟩ := d.ex
  exact ⟨d.f, d.hn, ws, fs, h1, h2, h3.mono h⟩
/-- frames behind a draw -/
theorem Dr.fr (d : Dr K l n I H I1 H1) (f : Fr I1 H1 I' H') : Dr K l n I H I' H' := by
  obtain ⟨ws, fs, h1, h2, h3⟩ := d.ex
  refine ⟨d.f.trans f, f.sep l d.hn (by rw [h1]; exact nofun), ws, fs, f.h l _ h1, dpa_mono f.i h2, h3⟩
/-- a list under way is laid -/
theorem Dr.put (d : Dr K l n I H I' H') {o : HO} (hD : H D = none) (iD : I' D = none) (hl : D ≠ l) : Dr K l n I H I' (upd H' D o) := by
  obtain ⟨ws, fs, h1, h2, h3⟩ := d.ex
  refine ⟨⟨d.f.i, fun a u q => ?_, fun a u q => ?_, d.f.sep, d.f.nd⟩, d.hn, ws, fs, by rw [upd_ne (Ne.symm hl)]; exact h1, h2, h3⟩
  · have ha : a ≠ l := fun z => by subst z; rw [del_same] at q; cases q
    have hq : H a = some u := by rwa [del_ne ha] at q
    rw [upd_ne (ne_of_none hq hD)]
    exact d.f.h a u q
  · rw [upd_ne (ne_of_none q iD)]
    exact d.f.ih a u q
/-- it stands -/
theorem Dr.lay (d : Dr K l n I H I' H') {o : HO} (hD : H D = none) (iD : I' D = none) (hl : D ≠ l) (ho : H' D = some o) (ok : okO o := by trivial) : Dr K l n I H (upd I' D o) H' := by
  obtain ⟨ws, fs, h1, h2, h3⟩ := d.ex
  have ei : Ex I' (upd I' D o) := Evl.Ex.new iD
  refine ⟨⟨d.f.i.trans ei, d.f.h, fun a u q => ?_, fun a q1 q2 => ?_, fun h => (d.f.nd h).upd ok⟩, by rw [upd_ne (Ne.symm hl)]; exact d.hn, ws, fs, h1, dpa_mono ei h2, h3⟩
  · by_cases ha : a = D
    · subst ha
      rw [upd_same] at q
      rw [ho, q]
    · rw [upd_ne ha] at q
      exact d.f.ih a u q
  · have ha : a ≠ l := fun z => q2 (by rw [z]; exact del_same)
    have hb : a ≠ D := fun z => by subst z; rw [del_ne ha] at q2; exact q2 hD
    rw [upd_ne hb]
    exact d.f.sep a q1 q2
end
/-! ### judgements that draw -/
section
variable (K : PySem.W.Frag) {ι : Type} (F : ι → Cx) (l : Addr) (n c : Nat)
def EF (e : Expr) (ρ : DE) (p : PyData → Prop) : Prop := ∀ B I0 I H σ, R K B I0 I H σ ρ → ∀ Q : VK, (∀ v d I' H', Dr K l (n + c) I H I' H' → Dp K I' v d → p d → Q v H') → tE F e σ H Q
def TF (e : Expr) (ρ : DE) (p : Bool → Prop) : Prop := ∀ B I0 I H σ, R K B I0 I H σ ρ → ∀ Q : Bool → Hp → Prop, (∀ t I' H', Dr K l (n + c) I H I' H' → p t → Q t H') → tT F e σ H Q
def TWF (e : Expr) (ρ : DE) (p : Bool → Prop) : Prop := ∀ B I0 I H σ, R K B I0 I H σ ρ → ∀ Q : Bool → Hp → Prop, (∀ t I' H', Dr K l (n + c) I H I' H' → p t → Q t H') → tW F e σ H Q
def AF (es : List Expr) (ρ : DE) (p : List PyData → Prop) : Prop := ∀ B I0 I H σ, R K B I0 I H σ ρ → ∀ Q : List V → Hp → Prop, (∀ vs ds I' H', Dr K l (n + c) I H I' H' → DpAll K I' vs ds → p ds → Q vs H') → tA F es σ H Q
/-- a new list -/
def LF (e : Expr) (ρ : DE) (p : List PyData → Prop) : Prop := ∀ B I0 I H σ, R K B I0 I H σ ρ → ∀ Q : VK, (∀ D ws ds I' H', Dr K l (n + c) I H I' H' → D ≠ l → H D = none → I' D = none → H' D = some (.lst ws) → DpAll K I' ws ds → p ds → Q (.ref D) H') → tE F e σ H Q
def SrcF (tg it : Expr) (ρ : DE) (p : List PyData → Prop) : Prop := ∀ B I0 I H σ, R K B I0 I H σ ρ → ∀ RR : It → Hp → Prop, (∀ J ds I' H', Dr K l (n + c) I H I' H' → Yl K J I' ds → p ds → RR J H') → tI F tg it σ H RR
end
section
variable {K : PySem.W.Frag} {ι : Type} {F : ι → Cx} {l : Addr} {n c c1 c2 : Nat} {e a b : Expr} {es : List Expr} {ρ : DE} {d : PyData} {ds : List PyData} {t : Bool} {pos : Pos} {Δ : De} {sts sts2 : List Stmt}
theorem ef_of (h : E K F e ρ d) (hi : ρ[0]? = some (.fd l n) := by rfl) : EF K F l n 0 e ρ (· = d) := fun B I0 I H σ r Q q => h B I0 I H σ r Q fun v I' H' f g => q v d I' H' (.of r hi f) g rfl
theorem ef_mono {p p' : PyData → Prop} (h : EF K F l n c1 e ρ p) (hc : c1 ≤ c2) (hp : ∀ d, p d → p' d) : EF K F l n c2 e ρ p' := fun B I0 I H σ r Q q => h B I0 I H σ r Q fun v d I' H' f g k => q v d I' H' (f.mono (by omega)) g (hp d k)
theorem tf_of (h : T K F e ρ t) (hi : ρ[0]? = some (.fd l n) := by rfl) : TF K F l n 0 e ρ (· = t) := fun B I0 I H σ r Q q => h B I0 I H σ r Q fun I' H' f => q t I' H' (.of r hi f) rfl
theorem tf_mono {p p' : Bool → Prop} (h : TF K F l n c1 e ρ p) (hc : c1 ≤ c2) (hp : ∀ d, p d → p' d) : TF K F l n c2 e ρ p' := fun B I0 I H σ r Q q => h B I0 I H σ r Q fun t I' H' f k => q t I' H' (f.mono (by omega)) (hp t k)
theorem af_of (h : A K F es ρ ds) (hi : ρ[0]? = some (.fd l n) := by rfl) : AF K F l n 0 es ρ (· = ds) := fun B I0 I H σ r Q q => h B I0 I H σ r Q fun v I' H' f g => q v ds I' H' (.of r hi f) g rfl
theorem af_cons {p1 : PyData → Prop} {p2 : List PyData → Prop} (h : EF K F l n c1 e ρ p1) (g : AF K F l (n + c1) c2 es (ρ.set 0 (.fd l (n + c1))) p2) (hi : ρ[0]? = some (.fd l n) := by rfl) (hs : ∀ i, starEach (e :: es) (F i).env = (false, eval e (F i).env) :: starEach es (F i).env := by intro _; rfl) :
    AF K F l n (c1 + c2) (e :: es) ρ (fun ds => ∃ x xs, ds = x :: xs ∧ p1 x ∧ p2 xs) := fun B I0 I H σ r Q q => by
  refine ⟨_, fun i => pa_cons (pe_tE i) (pa_tA i) (hs i), ?_⟩
  refine h B I0 I H σ r _ fun v d I1 H1 f1 d1 k1 => ?_
  refine g B I0 I1 H1 σ (f1.toR r hi) _ fun vs ds I2 H2 f2 d2 k2 => ?_
  exact q _ _ I2 H2 ((f1.trans f2).mono (by omega)) (.cons (dp_mono f2.f.i d1) d2) ⟨d, ds, rfl, k1, k2⟩
theorem LF.im {p : List PyData → Prop} (h : LF K F l n c e ρ p) : EF K F l n c e ρ (fun d => ∃ ds, d = .list ds ∧ p ds) := fun B I0 I H σ r Q q => h B I0 I H σ r Q fun D ws ds I' H' f h1 h2 h3 h4 h5 h6 =>
  q (.ref D) (.list ds) (upd I' D (.lst ws)) H' (f.lay h2 h3 h1 h4) (.lst (SqL.of upd_same) (dpa_mono (Evl.Ex.new h3) h5)) ⟨ds, rfl, h6⟩
/-! ### operators -/
theorem opU {f : Value → Value → Sem Value} (k : ι) : OpR (F k) f (fun x y H Q => ∃ r : R2, (∀ k, OpR (F k) f r) ∧ r x y H Q) := fun pins s σ H x y v u Q I rx ry ⟨r, hr, h⟩ => hr k pins s σ H x y v u Q I rx ry h
theorem ixU (k : ι) : IxR (F k) (fun x y H Q => ∃ r : R2, (∀ k, IxR (F k) r) ∧ r x y H Q) := fun va sl pins s σ H x y v u Q I rx ry ⟨r, hr, h⟩ hs => hr k va sl pins s σ H x y v u Q I rx ry h hs
theorem callU {f : Value} (k : ι) : CallR (F k) f (fun xs H Q => ∃ r : List V → Hp → VK → Prop, (∀ k, CallR (F k) f r) ∧ r xs H Q) := fun pins s σ H x v Q I rx ⟨r, hr, h⟩ => hr k pins s σ H x v Q I rx h
theorem ef_bin {op : Operator} {p1 p2 p : PyData → Prop} (ha : EF K F l n c1 a ρ p1) (hb : EF K F l (n + c1) c2 b (ρ.set 0 (.fd l (n + c1))) p2) (ho : ∀ x y, p1 x → p2 y → ∃ z, OpD K F (binaryOp op) x y z ∧ p z) (hi : ρ[0]? = some (.fd l n) := by rfl) :
    EF K F l n (c1 + c2) (.BinOp a op b pos) ρ p := fun B I0 I H σ r Q q => by
  refine ⟨_, fun i => pe_op (opU i) (pe_tE i) (pe_tE i), ?_⟩
  refine ha B I0 I H σ r _ fun v x I1 H1 f1 d1 k1 => ?_
  refine hb B I0 I1 H1 σ (f1.toR r hi) _ fun w y I2 H2 f2 d2 k2 => ?_
  obtain ⟨z, ⟨rr, hr, hv⟩, hz⟩ := ho x y k1 k2
  exact ⟨rr, hr, hv I2 H2 v w Q f2.f.ih (dp_mono f2.f.i d1) d2 fun u I3 H3 f3 d3 => q u z I3 H3 (((f1.trans f2).mono (by omega)).fr f3) d3 hz⟩
theorem tf_cmp {op : CmpOp} {p1 p2 : PyData → Prop} {p : Bool → Prop} (ha : EF K F l n c1 a ρ p1) (hb : EF K F l (n + c1) c2 b (ρ.set 0 (.fd l (n + c1))) p2) (ho : ∀ x y, p1 x → p2 y → ∃ t, OpD K F (compareOp op) x y (.bool t) ∧ p t) (hi : ρ[0]? = some (.fd l n) := by rfl)
    (hm : behindInMarks op b = false := by first | exact nomark _ | rfl) : TF K F l n (c1 + c2) (.Compare a [op] [b] pos) ρ p := fun B I0 I H σ r Q q => by
  refine ⟨_, fun i => pt_cmpR (opU i) (pe_tE i) (pe_tE i) hm, ?_⟩
  refine ha B I0 I H σ r _ fun v x I1 H1 f1 d1 k1 => ?_
  refine hb B I0 I1 H1 σ (f1.toR r hi) _ fun w y I2 H2 f2 d2 k2 => ?_
  obtain ⟨t, ⟨rr, hr, hv⟩, hz⟩ := ho x y k1 k2
  refine ⟨rr, hr, hv I2 H2 v w _ f2.f.ih (dp_mono f2.f.i d1) d2 fun u I3 H3 f3 d3 => ?_⟩
  cases d3
  exact ⟨t, rfl, q t I3 H3 (((f1.trans f2).mono (by omega)).fr f3) hz⟩
theorem ef_ix {p1 p2 p : PyData → Prop} (ha : EF K F l n c1 a ρ p1) (hb : EF K F l (n + c1) c2 b (ρ.set 0 (.fd l (n + c1))) p2) (ho : ∀ x y, p1 x → p2 y → ∃ z, IxD K F x y z ∧ p z) (hi : ρ[0]? = some (.fd l n) := by rfl) (hp : PlainIx b := by exact fun _ _ => rfl) :
    EF K F l n (c1 + c2) (.Subscript a b pos) ρ p := fun B I0 I H σ r Q q => by
  refine ⟨_, fun i => pe_ix (ixU i) (pe_tE i) (pe_tE i) hp, ?_⟩
  refine ha B I0 I H σ r _ fun v x I1 H1 f1 d1 k1 => ?_
  refine hb B I0 I1 H1 σ (f1.toR r hi) _ fun w y I2 H2 f2 d2 k2 => ?_
  obtain ⟨z, ⟨rr, hr, hv⟩, hz⟩ := ho x y k1 k2
  exact ⟨rr, hr, hv I2 H2 v w Q f2.f.ih (dp_mono f2.f.i d1) d2 fun u I3 H3 f3 d3 => q u z I3 H3 (((f1.trans f2).mono (by omega)).fr f3) d3 hz⟩
/-! ### tests -/
theorem tf_w {p : Bool → Prop} (h : TWF K F l n c e ρ p) : TF K F l n c e ρ p := fun B I0 I H σ r Q q => ⟨_, fun i => (pw_tW i).pt, h B I0 I H σ r Q q⟩
theorem tf_not {p : Bool → Prop} (h : TF K F l n c e ρ p) : TF K F l n c (.UnaryOp .Not e pos) ρ (fun t => p (!t)) := fun B I0 I H σ r Q q =>
  ⟨_, fun i => pt_not (pt_tT i), h B I0 I H σ r _ fun t I1 H1 f1 k => q (!t) I1 H1 f1 (by show p (!!t); rw [Bool.not_not]; exact k)⟩
theorem tf_val {p : PyData → Prop} {p' : Bool → Prop} (h : EF K F l n c a ρ p) (hb : ∀ d, p d → ∃ t, d = .bool t ∧ p' t) (he : ∀ i whole, isTrue a (F i).env whole = (do let v ← whole; standAt a.pos; holding [v] (truthy v)) := by intro _ _; rfl) : TF K F l n c a ρ p' := fun B I0 I H σ r Q q => by
  refine ⟨_, fun i => pt_val (pe_tE i) (he i), ?_⟩
  refine h B I0 I H σ r _ fun v d I1 H1 f1 d1 k => ?_
  obtain ⟨t, rfl, k2⟩ := hb d k
  cases d1
  exact ⟨t, rfl, q t I1 H1 f1 k2⟩
theorem tf_and1 {p : Bool → Prop} (h : TF K F l n c a ρ p) : TWF K F l n c (.BoolOp .And [a] pos) ρ p := fun B I0 I H σ r Q q => ⟨_, fun i => pw_and1 (pt_tT i), h B I0 I H σ r Q q⟩
theorem tf_or1 {p : Bool → Prop} (h : TF K F l n c a ρ p) : TWF K F l n c (.BoolOp .Or [a] pos) ρ p := fun B I0 I H σ r Q q => ⟨_, fun i => pw_or1 (pt_tT i), h B I0 I H σ r Q q⟩
theorem tf_and {p1 p2 p : Bool → Prop} (h : TF K F l n c1 a ρ p1) (g : p1 true → TWF K F l (n + c1) c2 (.BoolOp .And (b :: es) pos) (ρ.set 0 (.fd l (n + c1))) p2) (hf : p1 false → p false) (ht : ∀ t, p2 t → p t) (hi : ρ[0]? = some (.fd l n) := by rfl) :
    TWF K F l n (c1 + c2) (.BoolOp .And (a :: b :: es) pos) ρ p := fun B I0 I H σ r Q q => by
  refine ⟨_, fun i => pw_and (pt_tT i) (pw_tW i), ?_⟩
  refine h B I0 I H σ r _ fun t I1 H1 f1 k => ?_
  cases t with
  | true => exact g k B I0 I1 H1 σ (f1.toR r hi) Q fun t I2 H2 f2 k2 => q t I2 H2 ((f1.trans f2).mono (by omega)) (ht t k2)
  | false => exact q false I1 H1 (f1.mono (by omega)) (hf k)
theorem tf_or {p1 p2 p : Bool → Prop} (h : TF K F l n c1 a ρ p1) (g : p1 false → TWF K F l (n + c1) c2 (.BoolOp .Or (b :: es) pos) (ρ.set 0 (.fd l (n + c1))) p2) (hf : p1 true → p true) (ht : ∀ t, p2 t → p t) (hi : ρ[0]? = some (.fd l n) := by rfl) :
    TWF K F l n (c1 + c2) (.BoolOp .Or (a :: b :: es) pos) ρ p := fun B I0 I H σ r Q q => by
  refine ⟨_, fun i => pw_or (pt_tT i) (pw_tW i), ?_⟩
  refine h B I0 I H σ r _ fun t I1 H1 f1 k => ?_
  cases t with
  | false => exact g k B I0 I1 H1 σ (f1.toR r hi) Q fun t I2 H2 f2 k2 => q t I2 H2 ((f1.trans f2).mono (by omega)) (ht t k2)
  | true => exact q true I1 H1 (f1.mono (by omega)) (hf k)
/-! ### displays, built-ins -/
theorem ef_tup {kk : Nat} {p : List PyData → Prop} (h : AF K F l n c es ρ p) (hl : ∀ ds, p ds → ds.length ≤ 1000) : EF K F l n c (.Tuple es kk pos) ρ (fun d => ∃ ds, d = .tuple ds ∧ p ds) := fun B I0 I H σ r Q q => by
  refine ⟨_, fun i => pe_tupF (pa_tA i), ?_⟩
  refine h B I0 I H σ r _ fun vs ds I1 H1 f1 d1 k => ?_
  refine ⟨by rw [dpa_len d1]; exact Nat.le_trans (hl ds k) (by rw [sizeLine_eq]; decide), fun p o po hp => ?_⟩
  have f2 := Fr.new (o := .frz o (.tup vs)) f1.f.ih hp po.2
  exact q _ (.tuple ds) _ _ (f1.fr f2) (.tup (sqt_frz upd_same) (dpa_mono f2.i d1)) ⟨ds, rfl, k⟩
theorem lf_list {p : List PyData → Prop} (h : AF K F l n c es ρ p) (hl : ∀ ds, p ds → ds.length ≤ 1000) (hi : ρ[0]? = some (.fd l n) := by rfl) : LF K F l n c (.List es pos) ρ p := fun B I0 I H σ r Q q => by
  refine ⟨_, fun i => pe_lst (pa_tA i), ?_⟩
  refine h B I0 I H σ r _ fun vs ds I1 H1 f1 d1 k => ?_
  refine ⟨by rw [dpa_len d1]; exact Nat.le_trans (hl ds k) (by rw [sizeLine_eq]; decide), fun D hp => ?_⟩
  obtain ⟨_, _, g1, _⟩ := f1.ex
  have hl : D ≠ l := fun z => by subst z; rw [g1] at hp; cases hp
  have hD : H D = none := by
    cases e : H D with
    | none => rfl
    | some o => rw [f1.f.h D o (by rw [del_ne hl]; exact e)] at hp; cases hp
  have iD := Ex.none f1.f.ih hp
  exact q D vs ds I1 _ (f1.put hD iD hl) hl hD iD upd_same d1 k
/-- tuple(..) of a list that draws -/
theorem ef_ty {T : String} {nm : Str} {px : Pos} {p p' : PyData → Prop} (ha : EF K F l n c e ρ p) (ho : ∀ x, p x → ∃ z, CallD K F (.type T) [x] z ∧ p' z) (hm : ∀ i, (F i).mg nm = none) (hv : bootBuiltins nm = some (.type T) := by decide +kernel) (hg : ∀ i, Gl (F i) nm := by intro _; rfl)
    (hn : nm ≠ "__name__" := by decide) (hdb : (nm == ("__debug__" : Str)) = false := by decide) (he : ∀ i, starEach [e] (F i).env = (false, eval e (F i).env) :: starEach [] (F i).env := by intro _; rfl) (hpl : ∀ i, (backTo pos (starEach [] (F i).env)).any (·.1) = false := by intro _; rfl) :
    EF K F l n c (.Call (.Name nm px) [e] [] pos) ρ p' := fun B I0 I H σ r Q q => by
  refine ⟨_, fun i => pe_callTy (callU i) (hg i) (hm i) hv (pa_tA i) hn hdb (he i) (hpl i), ?_⟩
  refine ⟨_, fun i => pa_cons (pe_tE i) pa_nil (he i), ?_⟩
  refine ha B I0 I H σ r _ fun v x I1 H1 f1 d1 k => ?_
  obtain ⟨z, ⟨rr, hr, hv'⟩, hz⟩ := ho x k
  exact ⟨rr, hr, hv' I1 H1 [v] Q f1.f.ih (dpa_one d1) fun u I3 H3 f3 d3 => q u z I3 H3 (f1.fr f3) d3 hz⟩
/-! ### statements -/
theorem s_setF {nm : Str} {p' : Pos} {p : PyData → Prop} (j : Nat) (he : EF K F l n c e ρ p) (hN : ∀ i, (F i).N.Nodup) (h : ∀ d, p d → Δ.nx ((ρ.set 0 (.fd l (n + c))).set j (.im d))) (hi : ρ[0]? = some (.fd l n) := by rfl) (hy : ∀ i, (F i).N[j]? = some nm := by intro _; rfl) (hx : ∀ i, Loc (F i).env.scope nm := by intro _; first | exact Or.inl rfl | exact Or.inr rfl)
    (hs : ∀ i, swapsWith e (some (.Name nm p')) pos.line (F i).env = pure false := by intro _; rfl) (hf : ∀ i, (F i).fn nm = true ∨ (F i).env.scope.names.lookup nm = some .local := by intro _; first | exact Or.inl rfl | exact Or.inr rfl) : S K F (.Assign [.Name nm p'] e pos) ρ Δ := fun B I0 I H σ D r re => by
  refine ⟨_, fun i => ps_set (hN i) (hy i) (hx i) (pe_tE i) (hs i) (hf i), ?_⟩
  refine he B I0 I H σ r _ fun v d I1 H1 f1 d1 k => ?_
  exact re.nx I1 H1 _ _ ((f1.toR r hi).set d1) (h d k)
theorem s_retF {p : PyData → Prop} (he : EF K F l n c e ρ p) (h : ∀ d, p d → Δ.rt (ρ.set 0 (.fd l (n + c))) d) (hi : ρ[0]? = some (.fd l n) := by rfl) : S K F (.Return (some e) pos) ρ Δ := fun B I0 I H σ D r re => by
  refine ⟨_, fun i => ps_ret (pe_tE i), ?_⟩
  exact he B I0 I H σ r _ fun v d I1 H1 f1 d1 k => re.rt v d I1 H1 σ _ (f1.toR r hi) d1 (h d k)
theorem s_ifF {p : Bool → Prop} (hc : TF K F l n c e ρ p) (h1 : p true → Ss K F sts (ρ.set 0 (.fd l (n + c))) Δ) (h2 : p false → Ss K F sts2 (ρ.set 0 (.fd l (n + c))) Δ) (hi : ρ[0]? = some (.fd l n) := by rfl) : S K F (.If e sts sts2 pos) ρ Δ := fun B I0 I H σ D r re => by
  refine ⟨_, fun i => ps_if (pt_tT i) (pss_tSs i) (pss_tSs i), ?_⟩
  refine hc B I0 I H σ r _ fun t I1 H1 f1 k => ?_
  cases t with
  | true => exact h1 k B I0 I1 H1 σ D (f1.toR r hi) re
  | false => exact h2 k B I0 I1 H1 σ D (f1.toR r hi) re
theorem s_par3F {a1 a2 a3 : Expr} {x y v : Str} {px py pz pt : Pos} {kt k2 : Nat} {pt2 : Pos} {p : List PyData → Prop} (j1 j2 j3 : Nat) (ha : AF K F l n c [a1, a2, a3] ρ p) (hN : ∀ k, (F k).N.Nodup) (h : ∀ ds, p ds → ∃ d1 d2 d3, ds = [d1, d2, d3] ∧ Δ.nx ((((ρ.set 0 (.fd l (n + c))).set j1 (.im d1)).set j2 (.im d2)).set j3 (.im d3))) (hi : ρ[0]? = some (.fd l n) := by rfl)
    (h1 : ∀ k, (F k).N[j1]? = some x := by intro _; rfl) (h2 : ∀ k, (F k).N[j2]? = some y := by intro _; rfl) (h3 : ∀ k, (F k).N[j3]? = some v := by intro _; rfl) (h12 : j1 ≠ j2 := by decide) (h13 : j1 ≠ j3 := by decide) (h23 : j2 ≠ j3 := by decide)
    (hx : ∀ k, (F k).env.scope.names.lookup x = some .local := by intro _; rfl) (hy : ∀ k, (F k).env.scope.names.lookup y = some .local := by intro _; rfl) (hv : ∀ k, (F k).env.scope.names.lookup v = some .local := by intro _; rfl) (hc : ∀ k, (F k).calm = true := by intro _; rfl)
    (hw : ∀ k, swappedStores [.Tuple [.Name x px, .Name y py, .Name v pz] kt pt] (.Tuple [a1, a2, a3] k2 pt2) (F k).env = pure (some [x, y, v]) := by intro _; rfl)
    (hs : ∀ k, swapsWithSole [.Tuple [.Name x px, .Name y py, .Name v pz] kt pt] (.Tuple [a1, a2, a3] k2 pt2) pos.line (F k).env = pure false := by intro _; rfl) :
    S K F (.Assign [.Tuple [.Name x px, .Name y py, .Name v pz] kt pt] (.Tuple [a1, a2, a3] k2 pt2) pos) ρ Δ := fun B I0 I H σ D r re => by
  refine ⟨_, fun k => L2.ps_par3 (hc k) (hN k) (h1 k) (h2 k) (h3 k) h12 h13 h23 (hx k) (hy k) (hv k) (pa_tA k) (hw k) (hs k), ?_⟩
  refine ha B I0 I H σ r _ fun vs ds I1 H1 f1 d1 k => ?_
  obtain ⟨e1, e2, e3, rfl, hn⟩ := h ds k
  cases d1 with
  | cons g1 g2 =>
    cases g2 with
    | cons g2 g3 =>
      cases g3 with
      | cons g3 g4 =>
        cases g4
        exact ⟨_, _, _, rfl, re.nx I1 H1 _ _ ((((f1.toR r hi).set g1).set g2).set g3) hn⟩
/-! ### list comprehensions -/
theorem srcF_of {tg it : Expr} (h : Src K F tg it ρ ds) (hi : ρ[0]? = some (.fd l n) := by rfl) : SrcF K F l n 0 tg it ρ (· = ds) := fun B I0 I H σ r RR q => h B I0 I H σ r RR fun J I' H' f y => q J ds I' H' (.of r hi f) y rfl
theorem tlcF {tg elt it : Expr} {scope : Scope} {vs : List Nat} {B I0 I H : Hp} {σ : L2.St} {Q : VK} {M : Nat} {p : List PyData → Prop} {post : PyData → Prop} (hl : M < sizeLine) (hs : SrcF K F l n c1 tg it ρ p) (hp : ∀ ds, p ds → ds.length ≤ M) (hv : 0 ∉ vs) (hi : ρ[0]? = some (.fd l n))
    (ht : ∀ m d, m + c2 ≤ n + (c1 + c2 * M) → ∃ js ρ2, (∀ j ∈ js, j ∈ vs) ∧ Tg K (blkF F scope) tg js d (wipeD (ρ.set 0 (.fd l m)) vs) ρ2 ∧ ρ2[0]? = some (.fd l m) ∧ ((∃ ds, p ds ∧ d ∈ ds) → EF K (blkF F scope) l m c2 elt ρ2 post)) (r : R K B I0 I H σ ρ)
    (q : ∀ D ws ds I' H', Dr K l (n + (c1 + c2 * M)) I H I' H' → D ≠ l → H D = none → I' D = none → H' D = some (.lst ws) → DpAll K I' ws ds → ((∃ es, p es ∧ ds.length = es.length) ∧ ∀ d ∈ ds, post d) → Q (.ref D) H') :
    tLc (tI F tg it) (tG (blkF F scope) tg) (tTs (blkF F scope) []) (tE (blkF F scope) elt) vs σ H Q := by
  refine hs B I0 I H σ r _ fun J es I1 H1 f1 yl pe => ?_
  intro D hD
  have r1 := f1.toR r hi
  have hM := hp es pe
  obtain ⟨w0, _, g0, _⟩ := f1.ex
  have hl0 : D ≠ l := fun z => by subst z; rw [g0] at hD; cases hD
  have hD0 : H D = none := by
    cases e : H D with
    | none => rfl
    | some o => rw [f1.f.h D o (by rw [del_ne hl0]; exact e)] at hD; cases hD
  have iD : I1 D = none := Ex.none f1.f.ih hD
  have hi1 : (ρ.set 0 (SD.fd l (n + c1)))[0]? = some (.fd l (n + c1)) := List.getElem?_set_self (List.getElem?_eq_some_iff.mp hi).1
  have d0 : Dr K l (n + c1) I1 H1 I1 H1 := .of r1 hi1 (Fr.refl f1.f.ih)
  refine ⟨fun k m H' => m = es.length - k ∧ k ≤ es.length ∧ ∃ I' acc ds, Dr K l (n + (c1 + c2 * k)) I1 H1 I' H' ∧ I' D = none ∧ H' D = some (.lst acc) ∧ DpAll K I' acc ds ∧ ds.length = k ∧ ∀ d ∈ ds, post d, ⟨es.length, by simp, Nat.zero_le _, I1, [], [], (d0.put hD iD hl0).mono (by omega), iD, upd_same, .nil, rfl, nofun⟩, ?_⟩
  rintro k m H' ⟨rfl, hk, I', acc, ds, f', nD, eD, dA, dl, dp⟩
  by_cases hlt : k < es.length
  · refine .inr ⟨yl.go k I' H' f'.f.i f'.f.ih hlt, fun H2 => ∃ I' acc ds, Dr K l (n + (c1 + c2 * (k + 1))) I1 H1 I' H2 ∧ I' D = none ∧ H2 D = some (.lst acc) ∧ DpAll K I' acc ds ∧ ds.length = k + 1 ∧ ∀ d ∈ ds, post d, fun H2 p2 => ⟨es.length - (k + 1), by omega, rfl, hlt, p2⟩, fun x H3 y => ?_⟩
    obtain ⟨I3, f3, d3⟩ := yl.yld k es[k] I' H' x H3 (List.getElem?_eq_getElem hlt) f'.f.i f'.f.ih y
    obtain ⟨js, ρ2, hjs, hT, hi2, hE⟩ := ht (n + (c1 + c2 * k)) es[k] (by have := Nat.mul_le_mul_left c2 (show k + 1 ≤ M by omega); rw [Nat.mul_succ] at this; omega)
    have g3 := f'.fr f3
    have r3 : R K B I0 I3 H3 σ (ρ.set 0 (.fd l (n + (c1 + c2 * k)))) := by
      have := g3.toR r1 hi1
      rwa [List.set_set] at this
    have r4 := r3.wiped vs
    refine hT B I0 I3 H3 (wipe σ vs) x r4 d3 _ fun σ2 r2 ⟨l2, k2⟩ => ?_
    refine ⟨wipe_same l2 fun j hj => k2 j fun z => hj (hjs j z), ?_⟩
    refine ts_nil B I0 I3 H3 σ2 r2 _ fun I4 H4 f4 => ?_
    have e4 : H4 D = some (.lst acc) := f4.h _ _ (f3.h _ _ eD)
    have n3 : I3 D = none := f3.sep D nD (by rw [eD]; exact nofun)
    have n4 : I4 D = none := f4.sep D n3 (by rw [f3.h _ _ eD]; exact nofun)
    refine hE ⟨es, pe, List.getElem_mem hlt⟩ B I0 I4 H4 σ2 (r2.ext f4) _ fun v d I5 H5 f5 d5 k5 => ?_
    have e5 : H5 D = some (.lst acc) := f5.f.h _ _ (by rw [del_ne hl0]; exact e4)
    have n5 : I5 D = none := f5.f.sep D n4 (by rw [del_ne hl0, e4]; exact nofun)
    have da5 : DpAll K I5 acc ds := dpa_mono ((f3.i.trans f4.i).trans f5.f.i) dA
    have g5 : Dr K l (n + (c1 + c2 * (k + 1))) I1 H1 I5 H5 := ((g3.fr f4).trans f5).mono (by rw [Nat.mul_succ]; omega)
    refine ⟨acc, e5, ?_, I5, acc ++ [v], ds ++ [d], g5.put hD n5 hl0, n5, upd_same, dpa_app da5 (dpa_one d5), by rw [List.length_append, dl]; rfl, fun z hz => ?_⟩
    · rw [dpa_len da5]
      omega
    · rcases List.mem_append.mp hz with h | h
      · exact dp z h
      · rw [List.mem_singleton.mp h]
        exact k5
  · have e : k = es.length := by omega
    subst e
    refine .inl ⟨yl.stop I' H' f'.f.i f'.f.ih, q D acc ds I' H' ((f1.trans f').mono ?_) hl0 hD0 nD eD dA ⟨⟨es, pe, dl⟩, dp⟩⟩
    have := Nat.mul_le_mul_left c2 hM
    omega
end
end K67
namespace K67
open PySem PySem.Spec PyProof.Rows L2
open Evl (Ex ex_l ex_t)
section
variable {K : PySem.W.Frag} {ι : Type} {F : ι → Cx} {i : Nat} {l : Addr} {n c c1 c2 : Nat} {e a b : Expr} {es : List Expr} {ρ : DE} {d : PyData} {ds : List PyData} {t : Bool} {pos : Pos} {Δ : De} {sts sts2 : List Stmt}
/-! ### reading one's own list, in a test -/
theorem t_un {j : Nat} {lo : Option Addr} (h : T K F e (ρ.set j (.im (.list ds))) t) (hρ : ρ[j]? = some (.own lo ds)) : T K F e ρ t := fun B I0 I H σ r Q q => by
  obtain ⟨l, vs, g1, g2, g3, g4, g5, g6⟩ := r.ow j lo ds hρ
  have hj : j < ρ.length := (List.getElem?_eq_some_iff.mp hρ).1
  have ei : Ex I (upd I l (.lst vs)) := Evl.Ex.new g3
  have f1 : Fr I0 B (upd I l (.lst vs)) H := r.fr.freeze g2 g3 g4
  have r1 : R K B I0 (upd I l (.lst vs)) H σ (ρ.set j (.im (.list ds))) := by
    refine ⟨f1, r.nd.upd trivial, by simp [r.len], fun k x hk => ?_, fun k lo2 us hk => ?_, fun k l2 n hk => ?_, fun k m s t l' hk hm hs ht sk sm => ?_⟩
    · rcases set_cases hk with ⟨rfl, q, z⟩ | ⟨hn, q⟩
      · cases z
        exact ⟨.ref l, g1, .lst (SqL.of upd_same) (dpa_mono ei g5)⟩
      · obtain ⟨v, k1, k2⟩ := r.im k x q
        exact ⟨v, k1, dp_mono ei k2⟩
    · rcases set_cases hk with ⟨rfl, q, z⟩ | ⟨hn, q⟩
      · cases z
      · obtain ⟨l2, vs2, k1, k2, k3, k4, k5, k6⟩ := r.ow k lo2 us q
        refine ⟨l2, vs2, k1, k2, ?_, k4, dpa_mono ei k5, k6⟩
        rw [upd_ne (fun z => by subst z; exact hn (r.dis j k _ _ l2 hρ q rfl rfl g1 k1))]
        exact k3
    · rcases set_cases hk with ⟨rfl, q, z⟩ | ⟨hn, q⟩
      · cases z
      · obtain ⟨vs2, ds2, k1, k2, k3, k4, k5, k6⟩ := r.fd k l2 n q
        refine ⟨vs2, ds2, k1, k2, ?_, k4, dpa_mono ei k5, k6⟩
        rw [upd_ne (fun z => by subst z; exact hn (r.dis j k _ _ l2 hρ q rfl rfl g1 k1))]
        exact k3
    · rcases set_cases hk with ⟨rfl, q, z⟩ | ⟨n1, q⟩
      · subst z; cases hs
      · rcases set_cases hm with ⟨rfl, q2, z⟩ | ⟨n2, q2⟩
        · subst z; cases ht
        · exact r.dis k m s t l' q q2 hs ht sk sm
  refine h B I0 _ H σ r1 Q fun I2 H2 f2 => ?_
  have sub : Ex (del I2 l) I2 := fun a u k => by
    by_cases ha : a = l
    · subst ha; rw [del_same] at k; cases k
    · rw [del_ne ha] at k; exact k
  refine q (del I2 l) H2 ⟨fun a u k => ?_, f2.h, sub.trans f2.ih, fun a k1 k2 => ?_, fun hn a u k => f2.nd (hn.upd trivial) a u (sub a u k)⟩
  · have ha : a ≠ l := ne_of_none k g3
    rw [del_ne ha]
    exact f2.i a u (ei a u k)
  · by_cases ha : a = l
    · subst ha; exact del_same
    · rw [del_ne ha]
      exact f2.sep a (by rw [upd_ne ha]; exact k1) k2
/-- the feed as one's own list -/
theorem ss_fdOwn (hi : ρ[i]? = some (.fd l n)) (h : ∀ fs, FeedD n fs → Ss K F sts (ρ.set i (.own (some l) fs)) Δ) : Ss K F sts ρ Δ := fun B I0 I H σ D r re => by
  obtain ⟨vs, fs, g1, g2, g3, g4, g5, g6⟩ := r.fd i l n hi
  have hj : i < ρ.length := (List.getElem?_eq_some_iff.mp hi).1
  have nn : ∀ {m : Nat} {s : SD}, s.isO = true → (ρ.set i (SD.own (some l) fs))[m]? = some s → ∃ s', ρ[m]? = some s' ∧ s'.isO = true := fun {m s} hO hm => by
    rcases set_cases hm with ⟨rfl, q, z⟩ | ⟨hn, q⟩
    · exact ⟨_, hi, rfl⟩
    · exact ⟨s, q, hO⟩
  refine h fs g6 B I0 I H σ D ⟨r.fr, r.nd, by simp [r.len], fun k x hk => ?_, fun k lo2 us hk => ?_, fun k l2 m hk => ?_, fun k m s t l' hk hm hs ht sk sm => ?_⟩ re
  · rcases set_cases hk with ⟨rfl, q, z⟩ | ⟨hn, q⟩
    · cases z
    · exact r.im k x q
  · rcases set_cases hk with ⟨rfl, q, z⟩ | ⟨hn, q⟩
    · cases z
      exact ⟨l, vs, g1, g2, g3, g4, g5, fun k hk => Option.some.inj hk⟩
    · exact r.ow k lo2 us q
  · rcases set_cases hk with ⟨rfl, q, z⟩ | ⟨hn, q⟩
    · cases z
    · exact r.fd k l2 m q
  · obtain ⟨u1, q1, o1⟩ := nn hs hk
    obtain ⟨u2, q2, o2⟩ := nn ht hm
    exact r.dis k m u1 u2 l' q1 q2 o1 o2 sk sm
/-! ### comprehensions that draw -/
theorem lf_lc {tg elt it : Expr} {scope : Scope} {M : Nat} {p : List PyData → Prop} {post : PyData → Prop} (own : List (Str × Nat)) (hl : M < sizeLine) (hs : SrcF K F l n c1 tg it ρ p) (hp : ∀ ds, p ds → ds.length ≤ M) (hv : 0 ∉ own.map (·.2)) (hN : ∀ k, (F k).N.Nodup)
    (ok : ∀ k, BlkOk (F k).N (F k).env.scope scope own)
    (ht : ∀ m d, m + c2 ≤ n + (c1 + c2 * M) → ∃ js ρ2, (∀ j ∈ js, j ∈ own.map (·.2)) ∧ Tg K (blkF F scope) tg js d (wipeD (ρ.set 0 (.fd l m)) (own.map (·.2))) ρ2 ∧ ρ2[0]? = some (.fd l m) ∧ ((∃ ds, p ds ∧ d ∈ ds) → EF K (blkF F scope) l m c2 elt ρ2 post)) (hi : ρ[0]? = some (.fd l n) := by rfl)
    (hc : ∀ k, (F k).calm = true := by intro _; rfl) (hf : ∀ i x, foldedSetIterable it (F i).env x = pure x := by intro _ _; rfl) :
    LF K F l n (c1 + c2 * M) (.ListComp elt [⟨tg, it, [], 0⟩] scope pos) ρ (fun ds => (∃ es, p es ∧ ds.length = es.length) ∧ ∀ d ∈ ds, post d) := fun B I0 I H σ r Q q => by
  refine ⟨tLc (tI F tg it) (tG (blkF F scope) tg) (tTs (blkF F scope) []) (tE (blkF F scope) elt) (own.map (·.2)), fun k => ?_, tlcF hl hs hp hv hi ht r q⟩
  exact pe_lc (hc k) (hN k) (pi_tI k) (ok k) (fun s H C cl fp => pg_tG (F := blkF F scope) (k, s, H, C, cl, fp)) (fun s H C cl fp => pts_tTs (F := blkF F scope) (k, s, H, C, cl, fp)) (fun s H C cl fp => pe_tE (F := blkF F scope) (k, s, H, C, cl, fp)) (hf k)
theorem Dr.own {B I0 I H I' H' : Hp} {σ : L2.St} {m : Nat} (r : R K B I0 I H σ ρ) (hi : ρ[i]? = some (.fd l n)) (f : Dr K l m I H I' H') {D : Addr} {ws : List V} (hl : D ≠ l) (hD : H D = none) (iD : I' D = none) (hH : H' D = some (.lst ws)) (da : DpAll K I' ws ds) (j : Nat) :
    R K B I0 I' H' (σ.set j (some (.ref D))) ((ρ.set i (.fd l m)).set j (.ow ds)) := by
  refine (f.toR r hi).setOw (Ex.none r.fr.h hD) iD hH da fun k s hk hs hO hσ => ?_
  have hk2 : ∃ s', ρ[k]? = some s' ∧ s'.isO = true := by
    rcases set_cases hs with ⟨rfl, q, z⟩ | ⟨hn, q⟩
    · exact ⟨_, hi, rfl⟩
    · exact ⟨s, q, hO⟩
  obtain ⟨s', q1, q2⟩ := hk2
  obtain ⟨l2, vs2, k1, k2, k3, k4⟩ := r.lo q1 q2
  rw [hσ] at k1
  cases k1
  rw [hD] at k4
  cases k4
/-- name = [.. draws ..], one's own, on one line -/
theorem s_lcF {tg elt it : Expr} {scope : Scope} {M : Nat} {p : List PyData → Prop} {post : PyData → Prop} {nm : Str} {py spos : Pos} (j : Nat) (own : List (Str × Nat)) (hl : M < sizeLine) (hs : SrcF K F l n c1 tg it ρ p) (hp : ∀ ds, p ds → ds.length ≤ M) (hv : 0 ∉ own.map (·.2)) (hN : ∀ k, (F k).N.Nodup)
    (ok : ∀ k, BlkOk (F k).N (F k).env.scope scope own)
    (ht : ∀ m d, m + c2 ≤ n + (c1 + c2 * M) → ∃ js ρ2, (∀ j ∈ js, j ∈ own.map (·.2)) ∧ Tg K (blkF F scope) tg js d (wipeD (ρ.set 0 (.fd l m)) (own.map (·.2))) ρ2 ∧ ρ2[0]? = some (.fd l m) ∧ ((∃ ds, p ds ∧ d ∈ ds) → EF K (blkF F scope) l m c2 elt ρ2 post))
    (h : ∀ ds, (∃ es, p es ∧ ds.length = es.length) → (∀ d ∈ ds, post d) → Δ.nx ((ρ.set 0 (.fd l (n + (c1 + c2 * M)))).set j (.ow ds))) (hi : ρ[0]? = some (.fd l n) := by rfl)
    (hy : ∀ i, (F i).N[j]? = some nm := by intro _; rfl) (hyl : ∀ i, (F i).env.scope.names.lookup nm = some .local := by intro _; rfl)
    (hsw : ∀ i, swapsWith (.ListComp elt [⟨tg, it, [], 0⟩] scope pos) (some (.Name nm py)) spos.line (F i).env = pure true := by intro _; exact sw_true rfl rfl rfl (by decide +kernel))
    (hc : ∀ k, (F k).calm = true := by intro _; rfl) (hf : ∀ i x, foldedSetIterable it (F i).env x = pure x := by intro _ _; rfl) :
    S K F (.Assign [.Name nm py] (.ListComp elt [⟨tg, it, [], 0⟩] scope pos) spos) ρ Δ := fun B I0 I H σ D r re => by
  refine ⟨tAsg (tLc (tI F tg it) (tG (blkF F scope) tg) (tTs (blkF F scope) []) (tE (blkF F scope) elt) (own.map (·.2))) (gName j), fun i => ?_, ?_⟩
  · exact ps_setLc (hc i) (hN i) (hy i) (hyl i) (hsw i) (pi_tI i) (ok i) (fun s H C cl fp => pg_tG (F := blkF F scope) (i, s, H, C, cl, fp)) (fun s H C cl fp => pts_tTs (F := blkF F scope) (i, s, H, C, cl, fp)) (fun s H C cl fp => pe_tE (F := blkF F scope) (i, s, H, C, cl, fp)) (hf i)
  · refine tlcF (Q := fun x H1 => gName j x σ H1 D.nx) hl hs hp hv hi ht r fun D' ws ds I1 H1 f1 g1 g2 g3 g4 g5 g6 => ?_
    exact re.nx I1 H1 _ _ (f1.own r hi g1 g2 g3 g4 g5 j) (h ds g6.1 g6.2)
/-- x[i] = e, the place drawn -/
theorem s_setiF {nm : Str} {p1 p2 : Pos} {ix : Expr} {p : PyData → Prop} (j : Nat) {lo : Option Addr} (hρ : ρ[j]? = some (.own lo ds)) (he : E K F e ρ d) (hx : EF K F l n c ix ρ p) (hp : ∀ x, p x → ∃ m : Nat, x = nD m ∧ m < ds.length) (h : ∀ m, m < ds.length → Δ.nx ((ρ.set 0 (.fd l (n + c))).set j (.own lo (ds.set m d)))) (hij : 0 ≠ j := by decide) (hi : ρ[0]? = some (.fd l n) := by rfl) (hN : ∀ i, (F i).N[j]? = some nm := by intro _; rfl)
    (hv : ∀ i, Vis (F i).env.scope nm := by intro _; first | exact Or.inl rfl | exact Or.inr (Or.inl rfl) | exact Or.inr (Or.inr rfl))
    (hd : (nm == ("__debug__" : Str)) = false := by decide) (hcd : (nm == ("__classdict__" : Str)) = false := by decide)
    (ha : ∀ i v, assign (.Subscript (.Name nm p1) ix p2) (F i).env v = (do
      let ov ← holding [v] (eval (.Name nm p1) (F i).env)
      let iv ← holding [v, ov] (eval ix (F i).env)
      standAt p2
      holding [v, ov, iv] (setItem ov iv v)
      release [v, ov, iv] []) := by intro _ _; rfl)
    (hs : ∀ i, swapsWithSole [.Subscript (.Name nm p1) ix p2] e pos.line (F i).env = pure false := by intro _; rfl) (hw : ∀ i, swappedStores [.Subscript (.Name nm p1) ix p2] e (F i).env = pure none := by intro _; rfl)
    (h1 : ∀ i, (assignEach [.Subscript (.Name nm p1) ix p2] (F i).env).map (·.2) = [assign (.Subscript (.Name nm p1) ix p2) (F i).env] := by intro _; rfl) : S K F (.Assign [.Subscript (.Name nm p1) ix p2] e pos) ρ Δ := fun B I0 I H σ D r re => by
  refine ⟨_, fun i => ps_asg (pe_tE i) (pg_sub (pe_var (hN i) (hv i) hd hcd) (pe_tE (F := F) (e := ix) i) set_list (ha i)) (hs i) (hw i) (h1 i), ?_⟩
  refine he B I0 I H σ r _ fun v I1 H1 f1 d1 => ?_
  have r1 := r.ext f1
  obtain ⟨D1, vs, g1, g2, g3, g4, g5, g6⟩ := r1.ow j lo ds hρ
  refine ⟨.ref D1, g1, ?_⟩
  refine hx B I0 I1 H1 σ r1 _ fun w x I2 H2 f2 d2 k2 => ?_
  obtain ⟨m, rfl, hm⟩ := hp x k2
  cases d2
  have r2 := f2.toR r1 hi
  obtain ⟨D2, vs2, q1, q2, q3, q4, q5, q6⟩ := r2.ow j lo ds (by rw [List.getElem?_set_ne hij]; exact hρ)
  rw [g1] at q1
  cases q1
  refine ⟨D1, vs2, (m : Int), m, rfl, rfl, q4, ?_, ?_⟩
  · rw [dpa_len q5]
    exact Evl.ixN_nat hm
  · exact re.nx I2 _ σ _ (r2.write (by rw [List.getElem?_set_ne hij]; exact hρ) g1 (dpa_set (dp_mono f2.f.i d1) q5)) (h m hm)
end
/-! ### promises of defs that draw -/
def spF (K : PySem.W.Frag) {α : Type} (args : α → List PyData) (pre : α → Prop) (cost : Nat) (post : α → PyData → Prop) : Sp := fun vs H Q _ =>
  ∃ I a l us ws fs n, vs = V.ref l :: us ∧ Ex I H ∧ NoD I ∧ I l = none ∧ H l = some (HO.lst ws) ∧ DpAll K I ws fs ∧ FeedD n fs ∧ n + cost ≤ 2000 ∧ DpAll K I us (args a) ∧ pre a ∧ ∀ v d I' H', Dr K l (n + cost) I H I' H' → Dp K I' v d → post a d → Q v H'
def beginF (N : List Str) (l : Addr) (n : Nat) (ds : List PyData) : DE := SD.fd l n :: (ds.map SD.im ++ List.replicate (N.length - (ds.length + 1)) SD.no)
theorem start_RF {K : PySem.W.Frag} {N : List Str} {I H : Hp} {l : Addr} {n : Nat} {us ws : List V} {fs ds : List PyData} (e : Ex I H) (nd : NoD I) (hl : I l = none) (hH : H l = some (.lst ws)) (hw : DpAll K I ws fs) (hf : FeedD n fs) (da : DpAll K I us ds) : R K (del H l) I I H (L2.start N (.ref l :: us)) (beginF N l n ds) := by
  have hlen := dpa_len da
  have key : ∀ {i : Nat} {s : SD}, s ≠ .no → (beginF N l n ds)[i]? = some s → (i = 0 ∧ s = .fd l n) ∨ ∃ k d, i = k + 1 ∧ ds[k]? = some d ∧ s = .im d := fun {i s} hs hi => by
    cases i with
    | zero =>
      have : some (SD.fd l n) = some s := hi
      exact .inl ⟨rfl, (Option.some.inj this).symm⟩
    | succ k =>
      have hi : (ds.map SD.im ++ List.replicate (N.length - (ds.length + 1)) SD.no)[k]? = some s := hi
      by_cases h : k < (ds.map SD.im).length
      · rw [List.getElem?_append_left h, List.getElem?_map] at hi
        cases q : ds[k]? with
        | none => rw [q] at hi; cases hi
        | some d => rw [q] at hi; exact .inr ⟨k, d, rfl, q, (Option.some.inj hi).symm⟩
      · rw [List.getElem?_append_right (by omega)] at hi
        have := List.mem_of_getElem? hi
        rw [List.mem_replicate] at this
        exact absurd this.2 hs
  refine ⟨⟨Evl.Ex.refl _, fun a o q => ?_, e, fun _ h _ => h, id⟩, nd, by simp [L2.start, beginF, hlen], fun i d hi => ?_, fun i lo es hi => ?_, fun i l' m hi => ?_, fun i j s t l' hi hj hs ht _ _ => ?_⟩
  · have ha : a ≠ l := fun z => by subst z; rw [del_same] at q; cases q
    rwa [del_ne ha] at q
  · rcases key (s := SD.im d) nofun hi with ⟨_, z⟩ | ⟨k, d', rfl, h1, h2⟩
    · cases z
    · cases h2
      obtain ⟨v, g1, g2⟩ := dpa_get da h1
      refine ⟨v, ?_, g2⟩
      show ((us.map some) ++ _)[k]? = _
      rw [List.getElem?_append_left (by rw [List.length_map]; exact (List.getElem?_eq_some_iff.mp g1).1), List.getElem?_map, g1]
      rfl
  · rcases key (s := SD.own lo es) nofun hi with ⟨_, z⟩ | ⟨k, d', rfl, h1, h2⟩
    · cases z
    · cases h2
  · rcases key (s := SD.fd l' m) nofun hi with ⟨rfl, z⟩ | ⟨k, d', rfl, h1, h2⟩
    · cases z
      exact ⟨ws, fs, rfl, del_same, hl, hH, hw, hf⟩
    · cases h2
  · rcases key (s := s) (by intro z; subst z; cases hs) hi with ⟨rfl, z⟩ | ⟨k, d', rfl, h1, h2⟩
    · rcases key (s := t) (by intro z; subst z; cases ht) hj with ⟨rfl, z⟩ | ⟨k, d', rfl, h1, h2⟩
      · rfl
      · subst h2; cases ht
    · subst h2; cases hs
section
variable {P : Program} {w : World} {K : PySem.W.Frag} {mg : Str → Option Value} {base : Heap}
theorem mkPF {x : Str} {i : Nat} {N ps : List Str} {k : Nat} {α : Type} {args : α → List PyData} {pre : α → Prop} {cost : Nat} {post : α → PyData → Prop} [W : Wd K mg] (D : Df x i N ps) (hlen : ∀ a, (args a).length + 1 = ps.length)
    (body : ∀ (f : Addr) (cdv : Value) (A : Around) (outer : List Env) (s : Shared) (H : Hp) (E' : XK), Cal P w K mg base k (bodyX P w K mg base N x (topS i) f cdv A outer s H E') → ∀ a l n, pre a → n + cost ≤ 2000 →
      Ss K (bodyX P w K mg base N x (topS i) f cdv A outer s H E') (defBody (topS i)) (beginF N l n (args a)) { nx := fun _ => False, rt := fun ρ d => (∃ m, m ≤ n + cost ∧ (ρ[0]? = some (.fd l m) ∨ ∃ fs, ρ[0]? = some (.own (some l) fs) ∧ FeedD m fs)) ∧ post a d }) :
    Cle P w K mg base x i ps (k + 1) (spF K args pre cost post) := by
  obtain ⟨f, fd, hm, Fn⟩ := W.fn x i D.hx
  refine ⟨f, fd, fng_of Fn D.sc (fun vs H Q E' h => ?_) (fun cdv A outer s H vs Q E' hr h => ?_), hm, Fn, Fn.binds D.hb⟩
  · obtain ⟨I, a, l, us, ws, fs, n, rfl, e, nd, il, hl, dw, hf, hn, da, hp, _⟩ := h
    rw [List.length_cons, dpa_len da]
    exact hlen a
  · obtain ⟨I, a, l, us, ws, fs, n, rfl, e, nd, il, hl, dw, hf, hn, da, hp, q⟩ := h
    refine ⟨tSs (bodyX P w K mg base N x (topS i) f cdv A outer s H E') (defBody (topS i)), pss_tSs (F := bodyX P w K mg base N x (topS i) f cdv A outer s H E') (), ?_⟩
    refine body f cdv A outer s H E' (cal_body hr D.sc.nd) a l n hp hn (del H l) I I H _ _ (start_RF e nd il hl dw hf da) ⟨fun _ _ _ _ _ n => n.elim, fun v d I' H' σ ρ r dv ⟨⟨m, hm, h0⟩, hpost⟩ => ?_, fun _ _ _ _ _ n => n.elim, fun _ _ _ _ _ n => n.elim, fun _ _ _ _ _ _ _ _ _ _ _ _ n => n.elim⟩
    rcases h0 with h0 | ⟨fs', h0, hf'⟩
    · obtain ⟨ws', fs', g1, g2, g3, g4, g5, g6⟩ := r.fd 0 l m h0
      exact q v d I' H' ⟨r.fr, g3, ws', fs', g4, g5, g6.mono hm⟩ dv hpost
    · obtain ⟨l', vs', g1, g2, g3, g4, g5, g6⟩ := r.ow 0 (some l) fs' h0
      have z := g6 l rfl
      subst z
      exact q v d I' H' ⟨r.fr, g3, vs', fs', g4, g5, hf'.mono hm⟩ dv hpost
variable {ι : Type} {F : ι → Cx} {i : Nat} {l : Addr} {n c : Nat} {e : Expr} {es : List Expr} {ρ : DE} {pos p : Pos} {k k0 i0 : Nat} {ps : List Str} {nm fnm : Str}
theorem ef_call [C : Cal P w K mg base k F] {α : Type} {args : α → List PyData} {pre : α → Prop} {cost : Nat} {post : α → PyData → Prop} {pf : Pos} {Pa : List PyData → Prop} {pr : PyData → Prop} (ok : Cle P w K mg base nm i0 ps k0 (spF K args pre cost post)) (ha : AF K F l n c es ρ Pa) (hA : ∀ ds, Pa ds → ∃ a, ds = args a ∧ pre a ∧ ∀ d, post a d → pr d) (hn : n + c + cost ≤ 2000) (hi : ρ[0]? = some (.fd l n) := by rfl) (hk : k0 ≤ k := by decide)
    (hN : ∀ k, (F k).N[0]? = some fnm := by intro _; rfl) (hv : ∀ k, Vis (F k).env.scope fnm := by intro _; first | exact Or.inl rfl | exact Or.inr (Or.inl rfl) | exact Or.inr (Or.inr rfl)) (hd : (fnm == ("__debug__" : Str)) = false := by decide) (hcd : (fnm == ("__classdict__" : Str)) = false := by decide) (hg : ∀ i, Gl (F i) nm := by intro _; rfl)
    (hdb : (nm == ("__debug__" : Str)) = false := by decide) (he : ∀ i, starEach (Expr.Name fnm pf :: es) (F i).env = (false, eval (Expr.Name fnm pf) (F i).env) :: starEach es (F i).env := by intro _; rfl) (hpl : ∀ i, (backTo pos (starEach es (F i).env)).any (·.1) = false := by intro _; rfl) :
    EF K F l n (c + cost) (.Call (.Name nm p) (.Name fnm pf :: es) [] pos) ρ pr := fun B I0 I H σ r Q q => by
  obtain ⟨f, fd, G, hm, Fn, hb⟩ := ok.ex
  refine ⟨tCall (spF K args pre cost post) [] E0 (tA F (.Name fnm pf :: es)), fun i => ?_, ?_⟩
  · obtain ⟨h1, h2, h3, h4, h5⟩ := C.same i
    exact pe_callG (k := k0) (f := f) (fd := fd) (ps := ps) (by rw [h1, h2, h3, h4, h5]; exact G) ((C.room i).mono hk) (hg i) (by rw [h4]; exact hm) (by rw [h3]; exact Fn.kp) (by rw [h3]; exact hb) pass0 (pa_tA i) hdb (he i) (hpl i)
  · refine ⟨_, fun i => pa_cons (pe_var (hN i) (hv i) hd hcd) (pa_tA i) (he i), ?_⟩
    obtain ⟨vs0, ds0, h1, h2, h3, h4, h5, h6⟩ := r.fd 0 l n hi
    refine ⟨.ref l, h1, ?_⟩
    refine ha B I0 I H σ r _ fun vs ds I1 H1 f1 d1 k1 => ?_
    obtain ⟨a, rfl, hp, hpost⟩ := hA ds k1
    obtain ⟨ws, fs, g1, g2, g3⟩ := f1.ex
    show spF K args pre cost post ((V.ref l :: vs) ++ []) H1 Q E0
    exact ⟨I1, a, l, vs, ws, fs, n + c, by rw [List.append_nil], f1.f.ih, (f1.toR r hi).nd, f1.hn, g1, g2, g3, hn, d1, hp, fun v d I2 H2 f2 d2 k2 => q v d I2 H2 ((f1.trans f2).mono (by omega)) d2 (hpost d k2)⟩
end
end K67
namespace K67
open PySem PySem.Spec PyProof.Rows L2
theorem eqv_empty (cs : List Int) : PyData.eqv (.list (cs.map PyData.int)) (.list []) = decide (cs = []) := by
  cases cs <;> simp [PyData.eqv, PyData.eqvAll]
theorem lay_ints : ∀ cs : List Int, PyData.canLayAll0 (cs.map PyData.int) = true ∧ PyData.depthAll (cs.map PyData.int) = 0
  | [] => ⟨by simp [PyData.canLayAll0], by simp [PyData.depthAll]⟩
  | a :: r => by
    obtain ⟨h1, h2⟩ := lay_ints r
    exact ⟨by simp [PyData.canLayAll0, PyData.canLay0, h1], by simp [PyData.depthAll, PyData.depth, h2]⟩
theorem shaped_i (cs : List Int) : SeqAt.shaped (.list (cs.map PyData.int)) = true := by
  obtain ⟨h1, h2⟩ := lay_ints cs
  unfold SeqAt.shaped
  simp [PyData.canLay0, PyData.depth, h1, h2]
def mix1 (x c : Nat) : Nat := (x * 52631 + 60317 * c + 9901) % 2147482577
def mix2 (x c : Nat) : Nat := (x * x + 2870911 * c + 6113) % 2147482529
def mix3 (x : Nat) : Nat := (x * x + 2417 * x + 33301) % 2147482433
section
variable {P : Program} {w : World} {K : PySem.W.Frag} {mg : Str → Option Value} {base : Heap} [W : Wd K mg] [WE : WdE w K mg]
section
variable {k : Nat} {ι : Type} {F : ι → Cx} {e : Expr} {ρ : DE} {ds : List PyData} {d : PyData} {j m : Nat} {lo : Option Addr} {n : Str} {p1 : Pos} {kk : Nat} {pos pos2 : Pos}
/-- item m of one's own list -/
theorem e_own [C : Cal P w K mg base k F] (j m : Nat) {i : Int} (hρ : ρ[j]? = some (.own lo ds)) (hd : ds[m]? = some d) (hf : flatD d = true) (hi : i = (m : Int) := by rfl) (hj : (ρ.set j (SD.im (.list ds)))[j]? = some (.im (.list ds)) := by rfl) (hN : ∀ i, (F i).N[j]? = some n := by intro _; rfl) (hv : ∀ i, Vis (F i).env.scope n := by intro _; first | exact Or.inl rfl | exact Or.inr (Or.inl rfl) | exact Or.inr (Or.inr rfl))
    (hdb : (n == ("__debug__" : Str)) = false := by decide) (hcd : (n == ("__classdict__" : Str)) = false := by decide) : E K F (.Subscript (.Name n p1) (.Constant (.int i) kk pos2) pos) ρ d :=
  e_un (e_ix (e_name j hj hN hv hdb hcd) (e_nat m hi) (i_lD hd)) hρ hf
end
theorem ok_law_draw : Cle P w K mg base "_law_draw" 166 ["_law_feed_here", "_law_span"] 1 (spF K (fun x : Nat => [nD x]) (fun x => 0 < x ∧ x < 2 ^ 62) 1 (fun x d => ∃ m, m < x ∧ d = nD m)) := by
  refine mkPF df166 (fun _ => rfl) (fun f cdv A outer s H E' ci span l n hp hn => ?_)
  obtain ⟨h0, h1⟩ := hp
  refine ss_fdOwn (i := 0) (l := l) (n := n) rfl fun fs hf => ?_
  obtain ⟨cs, a0, b, c0, rfl, hcs, ha, hc, hcn, han⟩ := hf
  obtain ⟨a, rfl⟩ := Int.eq_ofNat_of_zero_le ha
  obtain ⟨c, rfl⟩ := Int.eq_ofNat_of_zero_le hc
  have hsb : ∀ {x : Nat}, x < 2 ^ 62 → x < BIG := fun h => lt_big h (by decide)
  have hc2 : c + 1 < 2 ^ 62 := by omega
  have FD : ∀ (a : Nat) (b : Int), a ≤ n + 1 → FeedD (n + 1) [.list (cs.map PyData.int), nD a, .int b, nD (c + 1)] := fun a b h => ⟨cs, a, b, ((c + 1 : Nat) : Int), rfl, hcs, by omega, by omega, by omega, by omega⟩
  have small : ∀ {x y : Nat}, x < y → x < 2 ^ 62 → x < BIG := fun _ h => lt_big h (by decide)
  show Ss K _ _ [.own (some l) [.list (cs.map PyData.int), nD a, .int b, nD c], .im (nD span), .no, .no, .no] _
  refine ss_cons (s_seti 0 rfl (e_bin (e_own 0 3 rfl rfl rfl) (e_nat 1) n_add) (e_nat 3) rfl (by simp) ?_)
  show Ss K _ _ [.own (some l) [.list (cs.map PyData.int), nD a, .int b, nD (c + 1)], .im (nD span), .no, .no, .no] _
  refine ss_cons (s_if (t := decide (cs = [])) (t_to (t_un (j := 0) (t_cmp (e_ix (e_name 0) (e_nat 0) (i_lD rfl)) (el_list a_nil).im (o_eqD cK (fun i => (ci.room i).r.units) (shaped_i cs) (shaped_i []))) rfl) (eqv_empty cs)) (fun _ => ?_) fun hne => ss_nil ?_)
  · refine ss_cons (s_ret (e_bin (q_int (e_bin (e_bin (e_nat 5) (e_own 0 3 rfl rfl rfl) (n_mul (hsb (by decide)) (hsb hc2))) (e_nat 8) n_add)) (e_name 1) (n_mod h0)) ⟨⟨n + 1, Nat.le_refl _, .inr ⟨_, rfl, FD a b (by omega)⟩⟩, _, Nat.mod_lt _ h0, rfl⟩)
  have hne := of_decide_eq_false hne
  have hlen : 0 < cs.length := List.length_pos_iff.mpr hne
  have hdivi : ∀ i : Int, CDivW i (span : Int) := fun i => wide_div (b := 4000) (by omega) (nabs_big (hsb h1)) (by decide) (by decide)
  have hmodi : ∀ i : Int, ∃ m, m < span ∧ PyData.int (i % (span : Int)) = nD m := fun i => ⟨(i % (span : Int)).toNat, by
    have := Int.emod_lt_of_pos i (show (0 : Int) < span by omega)
    have := Int.emod_nonneg i (show (span : Int) ≠ 0 by omega)
    omega, by
    have := Int.emod_nonneg i (show (span : Int) ≠ 0 by omega)
    show PyData.int _ = PyData.int _
    congr 1
    omega⟩
  refine ss_cons (s_if (t_un (j := 0) (t_of (t_and (t_cmp (e_ix (e_name 0) (e_nat 2) (i_lD rfl)) (e_nat 0) o_gt) fun _ => t_and1 (t_cmp (e_ix (e_name 0) (e_nat 2) (i_lD rfl)) (e_name 1) o_ge))) rfl) (fun _ => ?_) fun _ => ss_nil ?_)
  · refine ss_cons (s_set 2 (e_bin (q_int (e_own 0 2 rfl rfl rfl)) (e_name 1) (o_mod (by omega))) nd_ ?_)
    refine ss_cons (s_seti 0 rfl (e_bin (e_own 0 2 rfl rfl rfl) (e_name 1) (o_div (hdivi b))) (e_nat 2) rfl (by simp) ?_)
    exact ss_cons (s_ret (e_name 2) ⟨⟨n + 1, Nat.le_refl _, .inr ⟨_, rfl, FD a (b / span) (by omega)⟩⟩, hmodi b⟩)
  obtain ⟨cell, hcell⟩ : ∃ cell, cs[a % cs.length]? = some cell := ⟨_, List.getElem?_eq_getElem (Nat.mod_lt _ hlen)⟩
  refine ss_cons (s_set 3 (d := .int cell) (e_un (j := 0) (e_ix (e_ix (e_name 0) (e_nat 0) (i_lD rfl)) (e_bin (q_int (e_ix (e_name 0) (e_nat 1) (i_lD rfl))) (q_len (e_ix (e_name 0) (e_nat 0) (i_lD rfl)) (hm := List.length_map ..)) (n_mod hlen)) (i_lD (by rw [List.getElem?_map, hcell]; rfl))) rfl rfl) nd_ ?_)
  refine ss_cons (s_seti 0 rfl (e_bin (e_own 0 1 rfl rfl rfl) (e_nat 1) n_add) (e_nat 1) rfl (by simp) ?_)
  show Ss K _ _ [.own (some l) [.list (cs.map PyData.int), nD (a + 1), .int b, nD (c + 1)], .im (nD span), .no, .im (.int cell), .no] _
  refine ss_cons (s_if (t_un (j := 0) (t_of (t_and (t_cmp (e_name 3) (e_bin (e_nat 10) (e_nat 18) (o_pow ⟨by decide, by decide, by decide⟩)) o_ge) fun _ => t_and1 (t_cmp (e_ix (e_name 0) (e_nat 1) (i_lD rfl)) (q_len (e_ix (e_name 0) (e_nat 0) (i_lD rfl)) (hm := List.length_map ..)) n_le))) rfl) (fun _ => ?_) fun _ => ss_nil ?_)
  · refine ss_cons (s_seti 0 rfl (e_bin (e_name 3) (e_name 1) (o_div (hdivi cell))) (e_nat 2) rfl (by simp) ?_)
    exact ss_cons (s_ret (e_bin (q_int (e_name 3)) (e_name 1) (o_mod (by omega))) ⟨⟨n + 1, Nat.le_refl _, .inr ⟨_, rfl, FD (a + 1) (cell / span) (by omega)⟩⟩, hmodi cell⟩)
  obtain ⟨x, hx, ex⟩ : ∃ x : Nat, x < 2147482661 ∧ cell % 2147482661 = (x : Int) := ⟨(cell % 2147482661).toNat, by
    have := Int.emod_lt_of_pos cell (show (0 : Int) < 2147482661 by decide)
    have := Int.emod_nonneg cell (show (2147482661 : Int) ≠ 0 by decide)
    omega, by
    have := Int.emod_nonneg cell (show (2147482661 : Int) ≠ 0 by decide)
    omega⟩
  have b1 : mix1 x (c + 1) < 2147482577 := Nat.mod_lt _ (by decide)
  have b2 : mix2 (mix1 x (c + 1)) (c + 1) < 2147482529 := Nat.mod_lt _ (by decide)
  have b3 : mix3 (mix2 (mix1 x (c + 1)) (c + 1)) < 2147482433 := Nat.mod_lt _ (by decide)
  refine ss_cons (s_set 4 (d := nD (mix1 x (c + 1))) (e_bin (q_int (e_bin (e_bin (e_bin (e_to (e_bin (q_int (e_name 3)) (e_int (n := 2147482661)) (o_mod (by decide))) (y := nD x) (by rw [ex])) (e_nat 52631) (n_mul (hsb (by omega)) (hsb (by decide)))) (e_bin (e_nat 60317) (e_own 0 3 rfl rfl rfl) (n_mul (hsb (by decide)) (hsb hc2))) n_add) (e_nat 9901) n_add)) (e_nat 2147482577) (n_mod (by decide))) nd_ ?_)
  refine ss_cons (s_set 4 (d := nD (mix2 (mix1 x (c + 1)) (c + 1))) (e_bin (q_int (e_bin (e_bin (e_bin (e_name 4) (e_name 4) (n_mul (hsb (by omega)) (hsb (by omega)))) (e_bin (e_nat 2870911) (e_own 0 3 rfl rfl rfl) (n_mul (hsb (by decide)) (hsb hc2))) n_add) (e_nat 6113) n_add)) (e_nat 2147482529) (n_mod (by decide))) nd_ ?_)
  refine ss_cons (s_set 4 (d := nD (mix3 (mix2 (mix1 x (c + 1)) (c + 1)))) (e_bin (q_int (e_bin (e_bin (e_bin (e_name 4) (e_name 4) (n_mul (hsb (by omega)) (hsb (by omega)))) (e_bin (e_nat 2417) (e_name 4) (n_mul (hsb (by decide)) (hsb (by omega)))) n_add) (e_nat 33301) n_add)) (e_nat 2147482433) (n_mod (by decide))) nd_ ?_)
  exact ss_cons (s_ret (e_bin (q_int (e_bin (e_name 4) (e_nat 8) (n_div (by decide) (hsb (by decide))))) (e_name 1) (n_mod h0)) ⟨⟨n + 1, Nat.le_refl _, .inr ⟨_, rfl, FD (a + 1) b (by omega)⟩⟩, _, Nat.mod_lt _ h0, rfl⟩)
theorem ok_law_any : Cle P w K mg base "_law_any" 167 ["_law_feed_here", "_law_some"] 2 (spF K (fun x : List PyData => [.list x]) (fun x => x ≠ [] ∧ x.length < 1000) 1 (fun x d => d ∈ x)) := by
  refine mkPF df167 (fun _ => rfl) (fun f cdv A outer s H E' ci ds l n hp hn => ?_)
  obtain ⟨h1, h2⟩ := hp
  have h0 := List.length_pos_iff.mpr h1
  show Ss K _ _ [.fd l n, .im (.list ds)] _
  refine ss_cons (s_retF (l := l) (n := n) (ef_ix (p2 := fun d => ∃ m, m < ds.length ∧ d = nD m) (p := fun d => d ∈ ds) (ef_of (e_name 1)) (ef_call ok_law_draw (af_of (a_cons (q_len (e_name 1)) a_nil)) (fun xs hx => ⟨ds.length, hx, ⟨h0, by omega⟩, fun d hd => hd⟩) hn) fun x y hx hy => ?_) fun d hd => ⟨⟨n + 1, Nat.le_refl _, .inl rfl⟩, hd⟩)
  obtain ⟨m, hm, rfl⟩ := hy
  subst hx
  exact ⟨ds[m], i_lD (List.getElem?_eq_getElem hm), List.getElem_mem hm⟩
end
end K67
namespace K67
open PySem PySem.Spec PyProof.Rows L2
theorem great_ok : 150014 * 80021 ^ 11 + 2 ≤ 2 ^ 200 := by decide +kernel
theorem great_le {k : Nat} (h : k ≤ 11) : 150014 * 80021 ^ k + 2 ≤ 2 ^ 200 := Nat.le_trans (Nat.add_le_add_right (Nat.mul_le_mul_left _ (Nat.pow_le_pow_right (by decide) h)) 2) great_ok
theorem nats_post {p : Nat → Prop} : ∀ ds : List PyData, (∀ d ∈ ds, ∃ v, d = nD v ∧ p v) → ∃ vs : List Nat, ds = vs.map nD ∧ ∀ v ∈ vs, p v
  | [], _ => ⟨[], rfl, nofun⟩
  | d :: r, h => by
    obtain ⟨v, rfl, hv⟩ := h d List.mem_cons_self
    obtain ⟨vs, rfl, hvs⟩ := nats_post r fun x hx => h x (List.mem_cons_of_mem _ hx)
    refine ⟨v :: vs, rfl, fun x hx => ?_⟩
    rcases List.mem_cons.mp hx with rfl | hx
    · exact hv
    · exact hvs x hx
theorem sum_le9 : ∀ vs : List Nat, (∀ v ∈ vs, v ≤ 9) → vs.sum ≤ 9 * vs.length
  | [], _ => Nat.le_refl _
  | v :: r, h => by
    have := sum_le9 r fun x hx => h x (List.mem_cons_of_mem _ hx)
    have := h v List.mem_cons_self
    rw [List.sum_cons, List.length_cons]
    omega
theorem sum_pos {vs : List Nat} {i : Nat} (h : i < vs.length) (hv : 1 ≤ vs.getD i 0) : 0 < vs.sum := Nat.lt_of_lt_of_le hv (getD_le_sum vs i)
theorem scal_ns (vs : List Nat) : (vs.map nD).all scalD = true := by
  rw [List.all_map]
  exact List.all_eq_true.mpr fun _ _ => rfl
section
variable {P : Program} {w : World} {K : PySem.W.Frag} {mg : Str → Option Value} {base : Heap} [W : Wd K mg] [WE : WdE w K mg]
/-- a draw below a written number -/
theorem ef_draw {k : Nat} {ι : Type} {F : ι → Cx} {l : Addr} {n m : Nat} {e : Expr} {ρ : DE} {pos p pf : Pos} [C : Cal P w K mg base k F] (h : E K F e ρ (nD m)) (h0 : 0 < m ∧ m < 2 ^ 62) (hn : n + 1 ≤ 2000) (hi : ρ[0]? = some (.fd l n) := by rfl) (hk : 1 ≤ k := by decide)
    (hN : ∀ k, (F k).N[0]? = some ("_law_feed_here" : Str) := by intro _; rfl) (hv : ∀ k, Vis (F k).env.scope "_law_feed_here" := by intro _; first | exact Or.inl rfl | exact Or.inr (Or.inl rfl) | exact Or.inr (Or.inr rfl)) (hg : ∀ i, Gl (F i) "_law_draw" := by intro _; rfl)
    (he : ∀ i, starEach [Expr.Name "_law_feed_here" pf, e] (F i).env = (false, eval (Expr.Name "_law_feed_here" pf) (F i).env) :: starEach [e] (F i).env := by intro _; rfl) (he2 : ∀ i, starEach [e] (F i).env = (false, eval e (F i).env) :: starEach [] (F i).env := by intro _; rfl) (hpl : ∀ i, (backTo pos (starEach [e] (F i).env)).any (·.1) = false := by intro _; rfl) :
    EF K F l n 1 (.Call (.Name "_law_draw" p) [.Name "_law_feed_here" pf, e] [] pos) ρ (fun d => ∃ v, v < m ∧ d = nD v) := by
  have q := ef_call (pf := pf) (p := p) (pos := pos) (pr := fun d => ∃ v, v < m ∧ d = nD v) (ok_law_draw (P := P) (w := w) (K := K) (mg := mg) (base := base)) (af_of (a_cons h a_nil he2) hi) (fun ds hd => ⟨m, hd, h0, fun d h => h⟩) hn hi hk hN hv (by decide) (by decide) hg (by decide) he hpl
  rwa [Nat.zero_add] at q
theorem ok_law_piles : Cle P w K mg base "_law_piles" 168 ["_law_feed_here"] 2 (spF K (fun _ : Unit => []) (fun _ => True) 13 (fun _ d => ∃ x y, d = .list [nD 0, nD 1, nD x, nD y] ∧ x + 2 ≤ 2 ^ 200 ∧ y + 2 ≤ 2 ^ 200)) := by
  refine mkPF df168 (fun _ => rfl) (fun f cdv A outer s H E' ci _ l n hp hn => ?_)
  show Ss K _ _ [.fd l n, .no, .no] _
  have big : ∀ {x : Nat}, x + 2 ≤ 2 ^ 200 → x < BIG := fun h => lt_big (k := 200) (by omega) (by decide)
  refine ss_cons (s_setF (l := l) (n := n) (c := 1) 1 (p := fun d => ∃ v, v < 150014 ∧ d = nD v) (ef_mono (ef_bin (p := fun d => ∃ v, v < 150014 ∧ d = nD v) (ef_of (e_nat 60013)) (ef_draw (e_nat 90001) (by decide) (by omega)) fun x y hx hy => ?_) (by omega) fun d h => h) nd_ fun d hd => ?_)
  · obtain ⟨v, hv, rfl⟩ := hy
    subst hx
    exact ⟨_, n_add, 60013 + v, by omega, rfl⟩
  obtain ⟨v0, hv0, rfl⟩ := hd
  refine ss_cons (s_forM (xs := List.range 11) (g := nD) (fun k ρ' => ∃ v u, v + 1 ≤ 150014 * 80021 ^ k ∧ ρ' = [.fd l (n + 1 + k), .im (nD v), u]) (q_rng (e_nat 11) (by decide)) ⟨v0, .no, by omega, rfl⟩ (fun k hk ρ' ⟨v, u, hv, hu⟩ => ?_) (fun ρ' ⟨v, u, hv, hu⟩ => ?_))
  · subst hu
    rw [List.length_range] at hk
    have hg := great_le (k := k) (by omega)
    refine ⟨[2], _, tg_name 2 nd_, ?_⟩
    refine ss_cons (s_setF (l := l) (n := n + 1 + k) (c := 1) 1 (p := fun d => ∃ x, x < 80021 ∧ d = nD (v * 80021 + x)) (ef_mono (ef_bin (p := fun d => ∃ x, x < 80021 ∧ d = nD (v * 80021 + x)) (ef_of (e_bin (e_name 1) (e_nat 80021) (n_mul (big (by omega)) (lt_big (k := 20) (by decide) (by decide))))) (ef_draw (e_nat 80021) (by decide) (by omega)) fun x y hx hy => ?_) (by omega) fun d h => h) nd_ fun d hd => ?_)
    · obtain ⟨z, hz, rfl⟩ := hy
      subst hx
      exact ⟨_, n_add, z, hz, rfl⟩
    · obtain ⟨x, hx, rfl⟩ := hd
      refine ss_nil ⟨v * 80021 + x, _, ?_, rfl⟩
      rw [Nat.pow_succ, ← Nat.mul_assoc]
      have := Nat.mul_le_mul_right 80021 hv
      omega
  · subst hu
    rw [List.length_range] at hv ⊢
    refine ss_cons (s_retF (l := l) (n := n + 1 + 11) (c := 1) (ef_mono (LF.im (lf_list (af_cons (ef_of (e_nat 0)) (af_cons (ef_of (e_nat 1)) (af_cons (ef_bin (p := fun d => ∃ x, x < 91 ∧ d = nD x) (ef_of (e_nat 2)) (ef_draw (e_nat 89) (by decide) (by omega)) fun x y hx hy => ?_) (af_of (a_cons (e_name 1) a_nil))))) fun ds hd => ?_)) (by omega) fun d h => h) fun d hd => ⟨⟨n + 13, Nat.le_refl _, .inl rfl⟩, ?_⟩)
    · obtain ⟨z, hz, rfl⟩ := hy
      subst hx
      exact ⟨_, n_add, 2 + z, by omega, rfl⟩
    · obtain ⟨_, _, rfl, _, _, _, rfl, _, _, _, rfl, _, rfl⟩ := hd
      show 4 ≤ 1000
      decide
    · obtain ⟨_, rfl, _, _, rfl, h1, _, _, rfl, h2, _, _, rfl, ⟨x, hx, rfl⟩, rfl⟩ := hd
      subst h1 h2
      have hg := great_le (k := 11) (by omega)
      exact ⟨x, v, rfl, Nat.le_trans (show x + 2 ≤ 2 ^ 10 by omega) (Nat.pow_le_pow_right (by decide) (by decide)), by omega⟩
theorem ok_law_teacher : Cle P w K mg base "_law_teacher" 173 ["_law_feed_here", "_law_kinds", "_law_nought"] 3 (spF K (fun k : Nat => [nD k, .bool true]) (fun k => 2 ≤ k ∧ k ≤ 4) 11 (fun k d => ∃ g st, d = lrn g st ∧ Lr g st ∧ st.length = k)) := by
  refine mkPF df173 (fun _ => rfl) (fun f cdv A outer s H E' ci kk l n hp hn => ?_)
  obtain ⟨h2, h4⟩ := hp
  show Ss K _ _ [.fd l n, .im (nD kk), .im (.bool true), .no, .no] _
  have tail : ∀ (m : Nat) (st : List Nat), m ≤ n + 10 → st.length = kk → (∀ v ∈ st, v ≤ 9) → 0 < st.sum → Ss K (bodyX P w K mg base ["_law_feed_here", "_law_kinds", "_law_nought", "_law_starts", "_law_x"] "_law_teacher" (topS 173) f cdv A outer s H E') ((defBody (topS 173)).drop 2) [.fd l m, .im (nD kk), .im (.bool true), .ow (st.map nD), .no]
      { nx := fun _ => False, rt := fun ρ d => (∃ m, m ≤ n + 11 ∧ (ρ[0]? = some (.fd l m) ∨ ∃ fs, ρ[0]? = some (.own (some l) fs) ∧ FeedD m fs)) ∧ ∃ g st, d = lrn g st ∧ Lr g st ∧ st.length = kk } := fun m st hm hl h9 h0 => by
    refine ss_cons (s_retF (l := l) (n := m) (c := 1) (ef_mono (ef_tup (af_cons (ef_call (c := 0) (pr := fun d => ∃ g, g ≤ 9 ∧ d = nD g) ok_law_any (af_of (a_cons (el_list (a_cons (e_nat 0) (a_cons (e_nat 1) (a_cons (e_nat 1) (a_cons (e_nat 2) (a_cons (e_nat 9) a_nil)))))).im a_nil)) (fun ds hd => ⟨_, hd, ⟨by simp, by simp⟩, fun d h => ?_⟩) (by omega)) (af_of (a_cons (e_un (j := 3) (q_tuple (e_name 3)) rfl (scal_ns st)) a_nil))) fun ds hd => ?_) (by omega) fun d h => h) fun d hd => ⟨⟨m + 1, by omega, .inl rfl⟩, ?_⟩)
    · simp only [List.mem_cons, List.not_mem_nil, or_false] at h
      rcases h with rfl | rfl | rfl | rfl | rfl
      · exact ⟨0, by decide, rfl⟩
      · exact ⟨1, by decide, rfl⟩
      · exact ⟨1, by decide, rfl⟩
      · exact ⟨2, by decide, rfl⟩
      · exact ⟨9, by decide, rfl⟩
    · obtain ⟨_, _, rfl, _, rfl⟩ := hd
      show 2 ≤ 1000
      decide
    · obtain ⟨_, rfl, _, _, rfl, ⟨g, hg, rfl⟩, rfl⟩ := hd
      have := sum_le9 st h9
      exact ⟨g, st, rfl, ⟨hg, by omega, by omega, h0⟩, hl⟩
  refine ss_cons (s_lcF (l := l) (n := n) (c1 := 0) (c2 := 2) (M := 4) (p := (· = (List.range kk).map nD)) (post := fun d => ∃ v, d = nD v ∧ 1 ≤ v ∧ v ≤ 9) 3 [("_law_x", 4)] (by rw [sizeLine_eq]; decide) (srcF_of (q_rng (e_name 1) (by omega))) (fun ds hd => by rw [hd, List.length_map, List.length_range]; exact h4) (by decide) nd_ (fun k => blk_of rfl (by kernel_rfl)) (fun m d hm => ⟨[4], _, by simp, tg_name 4 nd_, rfl, fun hd => ?_⟩) (fun ds hel hpost => ?_))
  · refine ef_mono (ef_bin (p := fun d => ∃ v, d = nD v ∧ 1 ≤ v ∧ v ≤ 9) (ef_of (e_nat 1)) (ef_call (c := 1) (pr := fun d => ∃ v, v < 9 ∧ d = nD v) ok_law_draw (af_cons (p1 := fun d => ∃ v, 1 ≤ v ∧ v ≤ 9 ∧ d = nD v) (ef_call (c := 0) ok_law_any (af_of (a_cons (el_list (a_cons (e_nat 1) (a_cons (e_nat 2) (a_cons (e_nat 9) a_nil)))).im a_nil)) (fun ds hd => ⟨_, hd, ⟨by simp, by simp⟩, fun d h => ?_⟩) (by omega)) (af_of a_nil)) (fun ds hd => ?_) (by omega)) fun x y hx hy => ?_) (by omega) fun d h => h
    · simp only [List.mem_cons, List.not_mem_nil, or_false] at h
      rcases h with rfl | rfl | rfl
      · exact ⟨1, by decide, by decide, rfl⟩
      · exact ⟨2, by decide, by decide, rfl⟩
      · exact ⟨9, by decide, by decide, rfl⟩
    · obtain ⟨_, _, rfl, ⟨v, h1, h2, rfl⟩, rfl⟩ := hd
      exact ⟨v, rfl, ⟨by omega, by omega⟩, fun d ⟨x, hx, e⟩ => ⟨x, by omega, e⟩⟩
    · obtain ⟨v, hv, rfl⟩ := hy
      subst hx
      exact ⟨_, n_add, 1 + v, rfl, by omega, by omega⟩
  · obtain ⟨es, he, hl⟩ := hel
    have hl : ds.length = kk := by rw [hl, he, List.length_map, List.length_range]
    obtain ⟨st, rfl, hst⟩ := nats_post (p := fun v => 1 ≤ v ∧ v ≤ 9) ds hpost
    rw [List.length_map] at hl
    have get1 : ∀ i, i < st.length → 1 ≤ st.getD i 0 := fun i hi => by
      rw [List.getD_eq_getElem?_getD, List.getElem?_eq_getElem hi]
      exact (hst _ (List.getElem_mem hi)).1
    show Ss K _ _ [.fd l (n + 8), .im (nD kk), .im (.bool true), .ow (st.map nD), .no] _
    refine ss_cons (s_ifF (l := l) (n := n + 8) (p := fun _ => True) (tf_w (tf_and (p1 := fun t => t = true) (p2 := fun _ => True) (tf_of (t_val (e_name 2))) (fun _ => tf_and1 (tf_cmp (p := fun _ => True) (ef_draw (e_nat 4) (by decide) (by omega)) (ef_of (e_nat 0)) fun x y hx hy => ?_)) (fun _ => trivial) fun _ _ => trivial)) (fun _ => ?_) fun _ => ?_)
    · obtain ⟨z, hz, rfl⟩ := hx
      subst hy
      exact ⟨_, n_eq, trivial⟩
    · show Ss K _ _ [.fd l (n + 9), .im (nD kk), .im (.bool true), .ow (st.map nD), .no] _
      refine ss_cons (s_setiF (l := l) (n := n + 9) (p := fun d => ∃ v, v < kk ∧ d = nD v) 3 rfl (e_nat 0) (ef_draw (e_name 1) ⟨by omega, by omega⟩ (by omega)) (fun x ⟨v, hv, e⟩ => ⟨v, e, by rw [List.length_map, hl]; exact hv⟩) (fun m hm => ss_nil ?_))
      rw [List.length_map] at hm
      have es : (st.map nD).set m (nD 0) = (st.set m 0).map nD := (List.map_set ..).symm
      rw [es]
      refine tail (n + 10) (st.set m 0) (by omega) (by rw [List.length_set]; exact hl) (fun v hv => ?_) ?_
      · rcases List.mem_or_eq_of_mem_set hv with h | h
        · exact (hst v h).2
        · omega
      · by_cases hm0 : m = 0
        · refine sum_pos (i := 1) (by rw [List.length_set]; omega) ?_
          rw [List.getD_eq_getElem?_getD, List.getElem?_set_ne (by omega), ← List.getD_eq_getElem?_getD]
          exact get1 1 (by omega)
        · refine sum_pos (i := 0) (by rw [List.length_set]; omega) ?_
          rw [List.getD_eq_getElem?_getD, List.getElem?_set_ne (by omega), ← List.getD_eq_getElem?_getD]
          exact get1 0 (by omega)
    · exact ss_nil (tail (n + 9) st (by omega) hl (fun v hv => (hst v hv).2) (sum_pos (i := 0) (by omega) (get1 0 (by omega))))
end
end K67
namespace K67
open PySem PySem.Spec PyProof.Rows L2
theorem chC_le {g : Nat} {st row : List Nat} (h : Lr g st) (t : Tx st row) : (chanceC g st (tally st.length row)).1 < 2 ^ 229 := by
  have hc : Cn st (tally st.length row) := ⟨tally_len _ _, by rw [tally_sum _ _ t.lt]; exact t.len⟩
  have hT := chT_lt h hc (st.zip (tally st.length row)).length
  rw [List.take_length] at hT
  refine Nat.lt_of_le_of_lt (Nat.div_le_self _ _) ?_
  rw [Nat.mul_one]
  exact hT
theorem due_eq {g : Nat} {st row : List Nat} (t : Tx st row) : lowQ (Wy row * (chanceC g st (tally st.length row)).1) (chanceC g st (tally st.length row)).2 = chB g st (srt row) := by
  have e1 : ordersB (srt row) = Wy row := by rw [orders_W (srt_asc _), W_perm (srt_perm _)]
  have e2 : tally st.length (srt row) = tally st.length row := tally_same fun x => (srt_perm row).count_eq x
  unfold chB
  rw [e1, e2, Nat.one_mul]
theorem due_lt {g : Nat} {st row : List Nat} (h : Lr g st) (t : Tx st row) : (chB g st (srt row)).1 < 2 ^ 1900 ∧ (chB g st (srt row)).2 < 2 ^ 1900 := by
  have hb : Bg st (srt row) := ⟨tx_perm t (srt_perm _), asc_srt _⟩
  refine ⟨?_, Nat.lt_of_le_of_lt (chB_val h hb).2.2 (Nat.pow_lt_pow_right (by decide) (by decide))⟩
  rw [← due_eq t]
  refine Nat.lt_of_le_of_lt (Nat.div_le_self _ _) (Nat.lt_of_lt_of_le (mul_small (m := 200) (n := 229) (W_lt (by have := t.len; omega)) (chC_le h t)) (Nat.pow_le_pow_right (by decide) (by decide)))
section
variable {P : Program} {w : World} {K : PySem.W.Frag} {mg : Str → Option Value} {base : Heap} [W : Wd K mg] [WE : WdE w K mg]
section
variable {k k0 i0 : Nat} {ι : Type} {F : ι → Cx} {l : Addr} {n m c : Nat} {e : Expr} {es : List Expr} {ρ : DE} {pos p pf : Pos} {ps : List Str} {nm : Str}
/-- range of a drawn number -/
theorem srcF_rng [C : Cal P w K mg base k F] {tg : Expr} {pr : PyData → Prop} {M : Nat} (h : EF K F l n c e ρ pr) (hp : ∀ d, pr d → ∃ m, d = nD m ∧ m ≤ M) (hM : M < 100000) (hg : ∀ i, Gl (F i) "range" := by intro _; rfl) (hs : ∀ i, starEach [e] (F i).env = [(false, eval e (F i).env)] := by intro _; rfl) :
    SrcF K F l n c tg (.Call (.Name "range" p) [e] [] pos) ρ (fun ds => ∃ m, m ≤ M ∧ ds = (List.range m).map nD) := fun B I0 I H σ r RR q => by
  refine ⟨iRng1 (tA F [e]), fun i => pi_range1 (hg i) (fr_ (by decide +kernel) i) (pa_tA i) (hs i), ?_⟩
  refine ⟨_, fun i => pa_cons (pe_tE i) pa_nil (hs i), ?_⟩
  refine h B I0 I H σ r _ fun v d I1 H1 f1 d1 k1 => ?_
  obtain ⟨m, rfl, hm⟩ := hp d k1
  cases d1
  refine ⟨(m : Int), rfl, by omega, by omega, ?_⟩
  refine q _ _ I1 H1 f1 yl_rng ⟨m, hm, ?_⟩
  rw [Int.toNat_natCast, ramp_nat]
/-- a call of a def by drawn values -/
theorem ef_callP [C : Cal P w K mg base k F] {α : Type} {args : α → List PyData} {pre : α → Prop} {val : α → PyData} {Pa : List PyData → Prop} {pr : PyData → Prop} (ok : Cle P w K mg base nm i0 ps k0 (spP K args pre val)) (ha : AF K F l n c (e :: es) ρ Pa) (hA : ∀ ds, Pa ds → ∃ a, ds = args a ∧ pre a ∧ pr (val a)) (hi : ρ[0]? = some (.fd l n) := by rfl) (hk : k0 ≤ k := by decide) (hg : ∀ i, Gl (F i) nm := by intro _; rfl)
    (hdb : (nm == ("__debug__" : Str)) = false := by decide) (he : ∀ i, starEach (e :: es) (F i).env = (false, eval e (F i).env) :: starEach es (F i).env := by intro _; rfl) (hpl : ∀ i, (backTo pos (starEach es (F i).env)).any (·.1) = false := by intro _; rfl) :
    EF K F l n c (.Call (.Name nm p) (e :: es) [] pos) ρ pr := fun B I0 I H σ r Q q => by
  obtain ⟨f, fd, G, hm, Fn, hb⟩ := ok.ex
  refine ⟨tCall (spP K args pre val) [] E0 (tA F (e :: es)), fun i => ?_, ?_⟩
  · obtain ⟨h1, h2, h3, h4, h5⟩ := C.same i
    exact pe_callG (k := k0) (f := f) (fd := fd) (ps := ps) (by rw [h1, h2, h3, h4, h5]; exact G) ((C.room i).mono hk) (hg i) (by rw [h4]; exact hm) (by rw [h3]; exact Fn.kp) (by rw [h3]; exact hb) pass0 (pa_tA i) hdb (he i) (hpl i)
  · refine ha B I0 I H σ r _ fun vs ds I1 H1 f1 d1 k1 => ?_
    obtain ⟨a, rfl, hp, hpost⟩ := hA ds k1
    exact ⟨I1, a, f1.f.ih, (f1.toR r hi).nd, by (try rw [List.append_nil]); exact d1, hp, fun v I2 H2 f2 d2 => q v _ I2 H2 (f1.fr f2) d2 hpost⟩
end
theorem ok_law_feed : Cle P w K mg base "_law_feed" 165 ["_law_script"] 1 (spPL K (fun x : List Int => [.list (x.map PyData.int)]) (fun _ => True) (fun x => [.list ((x.take 63).map PyData.int), nD 0, nD 0, nD 0])) := by
  refine mkPL df165 (fun _ => rfl) (fun f cdv A outer s H E' ci a hp => ?_)
  refine ss_cons (s_retL (el_to (el_list (a_cons (q_list (e_slice (e_name 0) o_none (o_nat (e_nat 63)) (sl_toL _))).im (a_cons (e_nat 0) (a_cons (e_nat 0) (a_cons (e_nat 0) a_nil))))) (y := [.list ((a.take 63).map PyData.int), nD 0, nD 0, nD 0]) (by rw [List.map_take])) rfl)
theorem ok_law_holds : Cle P w K mg base "_law_holds" 188 ["_law_feed_here"] 15 (spF K (fun _ : Unit => []) (fun _ => True) 100 (fun _ d => d = .bool true)) := by
  refine mkPF df188 (fun _ => rfl) (fun f cdv A outer s H E' ci _ l n hp hn => ?_)
  show Ss K _ _ [.fd l n, .no, .no, .no, .no, .no, .no, .no, .no, .no, .no, .no, .no, .no, .no, .no, .no] _
  refine ss_cons (s_setF (l := l) (n := n) 1 (ef_bin (p := fun d => ∃ k, (2 ≤ k ∧ k ≤ 4) ∧ d = nD k) (ef_of (e_nat 2)) (ef_draw (e_nat 3) (by decide) (by omega)) fun x y hx hy => ?_) nd_ fun d hd => ?_)
  · obtain ⟨z, hz, rfl⟩ := hy
    subst hx
    exact ⟨_, n_add, 2 + z, by omega, rfl⟩
  obtain ⟨kk, ⟨hk2, hk4⟩, rfl⟩ := hd
  refine ss_cons (s_setF (l := l) (n := n + 1) 2 (ef_call (pr := fun d => ∃ g st, d = lrn g st ∧ Lr g st ∧ st.length = kk) ok_law_teacher (af_of (a_cons (e_name 1) (a_cons e_bool a_nil))) (fun ds hd => ⟨kk, hd, ⟨hk2, hk4⟩, fun d h => h⟩) (by omega)) nd_ fun d hd => ?_)
  obtain ⟨g, st, rfl, h2, hkl⟩ := hd
  refine ss_cons (s_set 3 (q_lcF [("_law_x", 4)] (xs := List.range kk) (g := nD) (h := nD) (t := fun x => decide (0 < st.getD x 0)) (q_rng (e_name 1) (by omega)) (by rw [List.length_range]; omega) (fun x hx => lc_if 4 (t_cmp (e_ix (e_ix (e_name 2) (e_nat 1) (i_tD rfl)) (e_name 4) (i_tN (by rw [hkl]; exact List.mem_range.mp hx))) (e_nat 0) n_gt) fun _ => e_name 4)).im nd_ ?_)
  have eab : (List.range kk).filter (fun x => decide (0 < st.getD x 0)) = ableL st := by unfold ableL; rw [hkl]
  rw [eab]
  show Ss K _ _ [.fd l (n + 12), .im (nD kk), .im (lrn g st), .im (lN (ableL st)), .no, .no, .no, .no, .no, .no, .no, .no, .no, .no, .no, .no, .no] _
  have hne := able_ne h2.pos
  have hal4 := Nat.le_trans (able_len st) h2.len
  refine ss_cons (s_setF (l := l) (n := n + 12) (c := 9) 5 (p := fun d => ∃ row, d = tN row ∧ Tx st row) (ef_mono (ef_ty (T := "tuple") (p' := fun d => ∃ row, d = tN row ∧ Tx st row) (LF.im (lf_lc (c1 := 1) (c2 := 1) (M := 8) (post := fun d => ∃ v, d = nD v ∧ v ∈ ableL st) [("_law_k", 6)] (by rw [sizeLine_eq]; decide) (srcF_rng (M := 8) (ef_draw (e_nat 9) (by decide) (by omega)) (fun d ⟨v, hv, e⟩ => ⟨v, e, by omega⟩) (by decide)) (fun ds ⟨m, hm, e⟩ => by rw [e, List.length_map, List.length_range]; exact hm) (by decide) nd_ (fun k => blk_of rfl (by kernel_rfl)) (fun m d hm => ⟨[6], _, by simp, tg_name 6 nd_, rfl, fun hd => ?_⟩))) (fun x hx => ?_) (fr_ (by decide +kernel))) (by decide) fun d h => h) nd_ fun d hd => ?_)
  · refine ef_mono (ef_call (c := 0) ok_law_any (af_of (a_cons (e_name 3) a_nil)) (fun ds hd => ⟨(ableL st).map nD, hd, ⟨by simpa using hne, by rw [List.length_map]; omega⟩, fun d h => h⟩) (by omega)) (by omega) fun d h => ?_
    obtain ⟨v, hv, rfl⟩ := List.mem_map.mp h
    exact ⟨v, rfl, hv⟩
  · obtain ⟨ds, rfl, ⟨es, ⟨m, hm, rfl⟩, hl⟩, hpost⟩ := hx
    obtain ⟨row, rfl, hr⟩ := nats_post (p := fun v => v ∈ ableL st) ds hpost
    rw [List.length_map, List.length_map, List.length_range] at hl
    exact ⟨tN row, c_tuple_lst cK, row, rfl, ⟨by omega, fun x hx => (able_mem.mp (hr x hx)).1, fun x hx => (able_mem.mp (hr x hx)).2⟩⟩
  obtain ⟨row, rfl, h3⟩ := hd
  have hl := h3.len
  have r8 : ∀ x ∈ row, x < 8 := fun x h => by have := h3.lt x h; have := h2.len; omega
  have bl : Bg st (srt row) := ⟨tx_perm h3 (srt_perm _), asc_srt _⟩
  have ll : (srt row).length = row.length := (srt_perm row).length_eq
  have hW := W_lt (t := row) (by omega)
  have hoW : ordersB (srt row) = Wy row := by rw [orders_W (srt_asc _), W_perm (srt_perm _)]
  have hcq := chanceC_ok h2 h3
  have hc1 := chC_le h2 h3
  have hdue := due_eq (g := g) h3
  obtain ⟨hd1, hd2⟩ := due_lt h2 h3
  show Ss K _ _ [.fd l (n + 21), .im (nD kk), .im (lrn g st), .im (lN (ableL st)), .no, .im (tN row), .no, .no, .no, .no, .no, .no, .no, .no, .no, .no, .no] _
  refine ss_cons (s_par3F (l := l) (n := n + 21) 7 8 9 (af_cons (ef_of (q_tuple (q_sorted (e_name 5)).im)) (af_cons (ef_of (e_tup (a_cons e_str (a_cons (e_name 2) (a_cons (q_len (e_name 5) (hm := List.length_map ..)) a_nil))))) (af_cons (ef_call (c := 0) (pr := fun d => ∃ x y, d = .list [nD 0, nD 1, nD x, nD y] ∧ x + 2 ≤ 2 ^ 200 ∧ y + 2 ≤ 2 ^ 200) ok_law_piles (af_of a_nil) (fun ds hd => ⟨(), hd, trivial, fun d h => h⟩) (by omega)) (af_of a_nil)))) nd_ fun ds hd => ?_)
  obtain ⟨_, _, rfl, e1, _, _, rfl, e2, _, _, rfl, ⟨x, y, rfl, hx, hy⟩, rfl⟩ := hd
  subst e1 e2
  refine ⟨_, _, _, rfl, ?_⟩
  show Ss K _ _ [.fd l (n + 34), .im (nD kk), .im (lrn g st), .im (lN (ableL st)), .no, .im (tN row), .no, .im (tN (srt row)), .im (sch g st row.length), .im (.list [nD 0, nD 1, nD x, nD y]), .no, .no, .no, .no, .no, .no, .no] _
  refine ss_cons (s_par 10 11 (e_to (e_ix (q_call ok_law_placed row (a_cons (e_name 5) a_nil) ⟨by omega, r8⟩) (e_nat 1) (i_tD rfl)) (y := nD (Wy row)) (by rw [ways8_W r8])) (q_call ok_law_chance (g, st, row) (a_cons (e_name 2) (a_cons (e_name 5) a_nil)) ⟨h2, h3⟩) nd_ ?_)
  obtain ⟨cc, hcc⟩ : ∃ cc, chanceC g st (tally st.length row) = cc := ⟨_, rfl⟩
  show Ss K _ _ [.fd l (n + 34), .im (nD kk), .im (lrn g st), .im (lN (ableL st)), .no, .im (tN row), .no, .im (tN (srt row)), .im (sch g st row.length), .im (.list [nD 0, nD 1, nD x, nD y]), .im (nD (Wy row)), .im (qD (chanceC g st (tally st.length row))), .no, .no, .no, .no, .no] _
  rw [hcc] at hcq hc1 hdue ⊢
  obtain ⟨due, hdu⟩ : ∃ due, chB g st (srt row) = due := ⟨_, rfl⟩
  rw [hdu] at hdue hd1 hd2
  refine ss_cons (s_set 12 (e_to (q_call ok_law_low (Wy row * cc.1, cc.2) (a_cons (e_bin (e_name 10) (e_ix (e_name 11) (e_nat 0) (i_tD rfl)) (n_mul (lt_big hW (by decide)) (lt_big hc1 (by decide)))) (a_cons (e_ix (e_name 11) (e_nat 1) (i_tD rfl)) a_nil)) ⟨hcq.pos, lt_big (mul_small hW hc1) (by decide), lt_big hcq.b2 (by decide)⟩) (y := qD due) (by show qD (lowQ (Wy row * cc.1) cc.2) = _; rw [hdue])) nd_ ?_)
  have small : ∀ {v : Nat}, v < 8 → v < 2 ^ 1900 := fun h => lt1900 (Nat.lt_of_lt_of_le h (by decide))
  have pl : Pn 9 1 (tN (srt row)) := pn_t (fun v hv => small (by have := bl.tx.lt v hv; have := h2.len; omega)) (by omega)
  have pd : Pn 3 1 (qD due) := pn_tup (pl_cons (pn_n hd1) (pl_cons (pn_n hd2) pl_nil))
  have pW : Pn 1 0 (nD (Wy row)) := pn_n (lt1900 hW)
  refine ss_cons (s_if (t := false) (t_to (t_not (t_val (q_call ok_law_same (.list [tN (srt row), nD (Wy row), qD due]) (a_cons (el_list (a_cons (q_call ok_bag_of row (a_cons (e_name 5) a_nil) (show row.length < 5000 by omega)) (a_cons (e_to (q_call ok_orders_of_bag (srt row) (a_cons (e_name 7) a_nil) ⟨by omega, asc_srt _⟩) (by rw [hoW])) (a_cons (e_to (q_call ok_chance_of_bag (g, st, srt row) (a_cons (e_name 2) (a_cons (e_name 7) a_nil)) ⟨h2, bl⟩) (by show qD (chB g st (srt row)) = _; rw [hdu])) a_nil)))).im (a_cons (el_list (a_cons (e_name 7) (a_cons (e_name 10) (a_cons (e_name 12) a_nil)))).im a_nil)) ⟨(pn_list (pl_cons pl (pl_cons pW (pl_cons pd pl_nil)))).rp, .inr (.inl ⟨_, rfl⟩)⟩))) rfl) (fun h => by cases h) fun _ => ss_nil ?_)
  obtain ⟨q2, hq2⟩ : ∃ q2, (if asc row then due else (0, 1)) = q2 := ⟨_, rfl⟩
  have pq2 : Pn 3 1 (qD q2) := by
    rw [← hq2]
    split
    · exact pd
    · exact pn_tup (pl_cons (pn_n (small (by decide))) (pl_cons (pn_n (small (by decide))) pl_nil))
  have eq2 : qD (if asc row then chB g st row else (0, 1)) = qD q2 := by
    rw [← hq2, ← hdu]
    cases ha : asc row with
    | false => rfl
    | true =>
      have := of_decide_eq_true (asc_eq (xs := row) ▸ ha)
      rw [← this]
  refine ss_cons (s_set 13 (el_list (a_cons (e_to (q_call ok_chance_in (g, st, srt row) (a_cons (e_to (e_name 8) (by show sch g st row.length = sch g st (srt row).length; rw [ll])) (a_cons (e_name 7) a_nil)) ⟨h2, bl.tx⟩) (y := qD due) (by show qD (if asc (srt row) then chB g st (srt row) else (0, 1)) = _; rw [asc_srt, hdu]; rfl)) (a_cons (e_to (q_call ok_chance_in (g, st, row) (a_cons (e_name 8) (a_cons (e_name 5) a_nil)) ⟨h2, h3⟩) eq2) (a_cons (e_to (q_call ok_is_thing (g, st, srt row) (a_cons (e_to (e_name 8) (by show sch g st row.length = sch g st (srt row).length; rw [ll])) (a_cons (e_name 7) a_nil)) ⟨h2.pos, bl.tx⟩) (y := .bool true) (by show PyData.bool (asc (srt row)) = _; rw [asc_srt])) (a_cons (e_to (q_call ok_is_thing (g, st, row) (a_cons (e_name 8) (a_cons (e_name 5) a_nil)) ⟨h2.pos, h3⟩) (y := .bool (asc row)) rfl) a_nil))))).im nd_ ?_)
  refine ss_cons (s_if (t := false) (t_to (t_not (t_val (q_call ok_law_same (.list [qD due, qD q2, .bool true, .bool (asc row)]) (a_cons (e_name 13) (a_cons (el_list (a_cons (e_name 12) (a_cons (e_if (t_cmp (e_name 5) (e_name 7) o_eqT) (fun h => e_to (e_name 12) (by rw [← hq2, asc_eq, h]; rfl)) (fun h => e_to (e_tup (a_cons (e_nat 0) (a_cons (e_nat 1) a_nil))) (by rw [← hq2, asc_eq, h]; rfl))) (a_cons e_bool (a_cons (e_to (e_cmp (e_name 5) (e_name 7) o_eqT) (by rw [asc_eq])) a_nil))))).im a_nil)) ⟨(pn_list (pl_cons pd (pl_cons pq2 (pl_cons pn_b (pl_cons pn_b pl_nil))))).rp, .inr (.inl ⟨_, rfl⟩)⟩))) rfl) (fun h => by cases h) fun _ => ss_nil ?_)
  refine ss_cons (s_forM (xs := [0, 1, x, y]) (g := nD) (fun i ρ' => ∃ u, ρ' = [.fd l (n + 34), .im (nD kk), .im (lrn g st), .im (lN (ableL st)), .no, .im (tN row), .no, .im (tN (srt row)), .im (sch g st row.length), .im (.list [nD 0, nD 1, nD x, nD y]), .im (nD (Wy row)), .im (qD cc), .im (qD due), .im (.list [qD due, qD q2, .bool true, .bool (asc row)]), u, .no, .no]) (src_list cK (e_name 9)) ⟨_, rfl⟩ (fun i hi ρ' ⟨u, hu⟩ => ?_) (fun ρ' ⟨u, hu⟩ => ?_))
  · subst hu
    refine ⟨[14], _, tg_name 14 nd_, ?_⟩
    have hpile : ([0, 1, x, y] : List Nat)[i] + 2 ≤ 2 ^ 200 := by
      have hm := List.getElem_mem hi
      simp only [List.mem_cons, List.not_mem_nil, or_false] at hm
      rcases hm with h | h | h | h
      · rw [h]; decide
      · rw [h]; decide
      · rw [h]; exact hx
      · rw [h]; exact hy
    exact ss_cons (s_if (t := false) (t_to (t_not (t_val (q_call ok_law_ways_right ([0, 1, x, y][i], g, st, row) (a_cons (e_name 14) (a_cons (e_name 2) (a_cons (e_name 5) a_nil))) ⟨hpile, h2, h3⟩))) rfl) (fun h => by cases h) fun _ => ss_nil (ss_nil ⟨_, rfl⟩))
  subst hu
  have tail : Ss K (bodyX P w K mg base ["_law_feed_here", "_law_kinds", "_law_teacher_here", "_law_able", "_law_x", "_law_row", "_law_k", "_law_lot", "_law_plan", "_law_piles_here", "_law_ways", "_law_chance_here", "_law_due", "_law_told", "_law_pile", "_law_more", "_law_longer"] "_law_holds" (topS 188) f cdv A outer s H E') ((defBody (topS 188)).drop 12)
      [.fd l (n + 35), .im (nD kk), .im (lrn g st), .im (lN (ableL st)), .no, .im (tN row), .no, .im (tN (srt row)), .im (sch g st row.length), .im (.list [nD 0, nD 1, nD x, nD y]), .im (nD (Wy row)), .im (qD cc), .im (qD due), .im (.list [qD due, qD q2, .bool true, .bool (asc row)]), u, .no, .no]
      { nx := fun _ => False, rt := fun ρ d => (∃ m, m ≤ n + 100 ∧ (ρ[0]? = some (.fd l m) ∨ ∃ fs, ρ[0]? = some (.own (some l) fs) ∧ FeedD m fs)) ∧ d = .bool true } := by
    refine ss_cons (s_ifF (l := l) (n := n + 35) (p := fun t => t = false) (tf_w (tf_and (p1 := fun _ => True) (p2 := fun t => (!t) = true) (tf_cmp (p := fun _ => True) (ef_draw (e_nat 2) (by decide) (by omega)) (ef_of (e_nat 0)) fun a b ha hb => ?_) (fun _ => tf_and1 (tf_not (p := fun t => t = true) (tf_val (ef_callP (pr := fun d => d = .bool true) ok_law_all_right (af_cons (ef_of (e_name 2)) (af_cons (ef_of (e_name 3)) (af_cons (ef_draw (e_nat 5) (by decide) (by omega)) (af_of a_nil)))) fun ds hd => ?_) fun d hd => ⟨true, hd, rfl⟩))) (fun _ => rfl) fun t ht => by cases t <;> first | rfl | cases ht)) (fun h => by cases h) fun _ => ss_nil ?_)
    · obtain ⟨z, hz, rfl⟩ := ha
      subst hb
      exact ⟨_, n_eq, trivial⟩
    · obtain ⟨_, _, rfl, e1, _, _, rfl, e2, _, _, rfl, ⟨v, hv, rfl⟩, rfl⟩ := hd
      subst e1 e2
      exact ⟨(g, st, v), rfl, ⟨h2, by show v ≤ 4; omega⟩, rfl⟩
    show Ss K _ _ [.fd l (n + 37), .im (nD kk), .im (lrn g st), .im (lN (ableL st)), .no, .im (tN row), .no, .im (tN (srt row)), .im (sch g st row.length), .im (.list [nD 0, nD 1, nD x, nD y]), .im (nD (Wy row)), .im (qD cc), .im (qD due), .im (.list [qD due, qD q2, .bool true, .bool (asc row)]), u, .no, .no] _
    refine ss_cons (s_setF (l := l) (n := n + 37) 15 (ef_bin (p := fun d => ∃ k, (1 ≤ k ∧ k ≤ 8) ∧ d = nD k) (ef_of (e_nat 1)) (ef_draw (e_nat 8) (by decide) (by omega)) fun x y hx hy => ?_) nd_ fun d hd => ?_)
    · obtain ⟨z, hz, rfl⟩ := hy
      subst hx
      exact ⟨_, n_add, 1 + z, by omega, rfl⟩
    obtain ⟨more, ⟨hm1, hm8⟩, rfl⟩ := hd
    show Ss K _ _ [.fd l (n + 38), .im (nD kk), .im (lrn g st), .im (lN (ableL st)), .no, .im (tN row), .no, .im (tN (srt row)), .im (sch g st row.length), .im (.list [nD 0, nD 1, nD x, nD y]), .im (nD (Wy row)), .im (qD cc), .im (qD due), .im (.list [qD due, qD q2, .bool true, .bool (asc row)]), u, .im (nD more), .no] _
    refine ss_cons (s_setF (l := l) (n := n + 38) (c := 42) 16 (p := fun d => ∃ t : List Nat, d = tN t ∧ t.length ≤ 40 ∧ ∀ v ∈ t, v < more) (ef_mono (ef_ty (T := "tuple") (p' := fun d => ∃ t : List Nat, d = tN t ∧ t.length ≤ 40 ∧ ∀ v ∈ t, v < more) (LF.im (lf_lc (c1 := 2) (c2 := 1) (M := 40) (post := fun d => ∃ v, d = nD v ∧ v < more) [("_law_k", 6)] (by rw [sizeLine_eq]; decide) (srcF_rng (M := 40) (ef_call (c := 1) (pr := fun d => ∃ v, v < 41 ∧ d = nD v) ok_law_draw (af_cons (p1 := fun d => ∃ v, 1 ≤ v ∧ v ≤ 41 ∧ d = nD v) (ef_call (c := 0) ok_law_any (af_of (a_cons (el_list (a_cons (e_nat 4) (a_cons (e_nat 9) (a_cons (e_nat 41) a_nil)))).im a_nil)) (fun ds hd => ⟨_, hd, ⟨by simp, by simp⟩, fun d h => ?_⟩) (by omega)) (af_of a_nil)) (fun ds hd => ?_) (by omega)) (fun d ⟨v, hv, e⟩ => ⟨v, e, by omega⟩) (by decide)) (fun ds ⟨m, hm, e⟩ => by rw [e, List.length_map, List.length_range]; exact hm) (by decide) nd_ (fun k => blk_of rfl (by kernel_rfl)) (fun m d hm => ⟨[6], _, by simp, tg_name 6 nd_, rfl, fun hd => ef_mono (ef_draw (e_name 15) ⟨by omega, by omega⟩ (by omega)) (by omega) fun d ⟨v, hv, e⟩ => ⟨v, e, hv⟩⟩))) (fun x hx => ?_) (fr_ (by decide +kernel))) (by decide) fun d h => h) nd_ fun d hd => ?_)
    · simp only [List.mem_cons, List.not_mem_nil, or_false] at h
      rcases h with rfl | rfl | rfl
      · exact ⟨4, by decide, by decide, rfl⟩
      · exact ⟨9, by decide, by decide, rfl⟩
      · exact ⟨41, by decide, by decide, rfl⟩
    · obtain ⟨_, _, rfl, ⟨v, h1, h2, rfl⟩, rfl⟩ := hd
      exact ⟨v, rfl, ⟨by omega, by omega⟩, fun d ⟨x, hx, e⟩ => ⟨x, by omega, e⟩⟩
    · obtain ⟨ds, rfl, ⟨es, ⟨m, hm, rfl⟩, hl⟩, hpost⟩ := hx
      obtain ⟨t, rfl, ht⟩ := nats_post (p := fun v => v < more) ds hpost
      rw [List.length_map, List.length_map, List.length_range] at hl
      exact ⟨tN t, c_tuple_lst cK, t, rfl, by omega, ht⟩
    obtain ⟨lg, rfl, hlg, hlm⟩ := hd
    have hl8 : (lg.take 8).length ≤ 8 := by rw [List.length_take]; omega
    have hg8 : ∀ v ∈ lg.take 8, v < 8 := fun v hv => by have := hlm v (List.mem_of_mem_take hv); omega
    refine ss_cons (s_if (t := false) (t_to (t_of (t_or (t_not (t_val (q_call ok_law_ranks_right (lg, more) (a_cons (e_name 16) (a_cons (e_name 15) a_nil)) ⟨by show lg.length ≤ 41; omega, hm8, hlm⟩))) fun _ => t_or1 (t_not (t_val (q_call ok_law_ranks_right (row, kk) (a_cons (e_name 5) (a_cons (e_name 1) a_nil)) ⟨by show row.length ≤ 41; omega, by show kk ≤ 8; omega, fun v hv => by have := h3.lt v hv; rw [hkl] at this; exact this⟩))))) rfl) (fun h => by cases h) fun _ => ss_nil ?_)
    have pl8 : Pn 9 1 (tN (srt (lg.take 8))) := pn_t (fun v hv => small (hg8 v ((srt_perm _).mem_iff.mp hv))) (by rw [(srt_perm _).length_eq]; exact hl8)
    exact ss_cons (s_ret (q_call ok_law_same (.list [tN (srt (lg.take 8)), tN (srt row)]) (a_cons (el_list (a_cons (q_callK ok_bag_of (pm1 "text" "text") (lg.take 8) (ak_cons (e_slice (e_name 16) o_none (o_nat (e_nat 8)) (q_toTN 8)) ak_nil) rfl rfl (by decide) (fun _ _ _ _ _ _ us hl => match us, hl with | [_], _ => rfl) (show (lg.take 8).length < 5000 by omega)) (a_cons (q_call ok_bag_of row (a_cons (e_name 5) a_nil) (show row.length < 5000 by omega)) a_nil))).im (a_cons (el_list (a_cons (q_tuple (q_sorted (e_slice (e_name 16) o_none (o_nat (e_nat 8)) (q_toTN 8))).im) (a_cons (e_name 7) a_nil))).im a_nil)) ⟨(pn_list (pl_cons pl8 (pl_cons pl pl_nil))).rp, .inr (.inl ⟨_, rfl⟩)⟩) ⟨⟨n + 80, by omega, .inl rfl⟩, rfl⟩)
  refine ss_cons (s_ifF (l := l) (n := n + 34) (p := fun t => t = true → Wy row ≤ 120) (tf_w (tf_or (p1 := fun t => t = decide (Wy row ≤ 24)) (p2 := fun t => t = true → Wy row ≤ 120) (tf_of (t_cmp (e_name 10) (e_nat 24) n_le)) (fun _ => tf_or1 (tf_w (tf_and (p1 := fun _ => True) (p2 := fun t => t = decide (Wy row ≤ 120)) (tf_cmp (p := fun _ => True) (ef_draw (e_nat 4) (by decide) (by omega)) (ef_of (e_nat 0)) fun a b ha hb => ?_) (fun _ => tf_and1 (tf_of (t_cmp (e_name 10) (e_nat 120) n_le))) (fun _ h => by cases h) fun t ht h => of_decide_eq_true (ht.symm.trans h)))) (fun h _ => Nat.le_trans (of_decide_eq_true h.symm) (by decide)) fun t ht => ht)) (fun ho => ?_) fun _ => ss_nil ?_)
  · obtain ⟨z, hz, rfl⟩ := ha
    subst hb
    exact ⟨_, n_eq, trivial⟩
  · exact ss_cons (s_if (t := false) (t_to (t_not (t_val (q_call ok_law_orders_right (srt row, kk) (a_cons (e_name 7) (a_cons (e_name 1) a_nil)) ⟨by show (srt row).length ≤ 8; omega, by show kk ≤ 8; omega, srt_asc _, fun v hv => by have := bl.tx.lt v hv; rw [hkl] at this; exact this, by show Wy (srt row) ≤ 120; rw [W_perm (srt_perm _)]; exact ho rfl⟩))) rfl) (fun h => by cases h) fun _ => ss_nil (ss_nil tail))
  · exact tail
end
end K67
namespace K67
open PySem PySem.Spec PyProof.Rows L2
open Evl (Ex ex_l ex_t)
theorem Dr.fresh {K : PySem.W.Frag} {I H I1 H1 I2 H2 : Hp} {l : Addr} {n : Nat} (f1 : Fr I H I1 H1) (hl : H l = none) (d : Dr K l n I1 H1 I2 H2) : Fr I H I2 H2 := by
  refine ⟨f1.i.trans d.f.i, fun b o q => ?_, d.f.ih, fun b q1 q2 => ?_, fun h => d.f.nd (f1.nd h)⟩
  · refine d.f.h b o ?_
    rw [del_ne (ne_of_none q hl)]
    exact f1.h b o q
  · have hb : b ≠ l := fun z => q2 (by rw [z]; exact hl)
    refine d.f.sep b (f1.sep b q1 q2) ?_
    rw [del_ne hb]
    cases e : H b with
    | none => exact absurd e q2
    | some o => rw [f1.h b o e]; exact nofun
section
variable {P : Program} {w : World} {K : PySem.W.Frag} {mg : Str → Option Value} {base : Heap} [W : Wd K mg] [WE : WdE w K mg]
/-- the draws begin with a new feed -/
theorem q_holds {k : Nat} {ι : Type} {F : ι → Cx} {e : Expr} {ρ : DE} {p pos : Pos} {cs : List Int} [C : Cal P w K mg base k F] (h : EL K F e ρ [.list (cs.map PyData.int), nD 0, nD 0, nD 0]) (hl : cs.length ≤ 63) (hk : 15 ≤ k := by decide) (hg : ∀ i, Gl (F i) "_law_holds" := by intro _; rfl)
    (he : ∀ i, starEach [e] (F i).env = (false, eval e (F i).env) :: starEach [] (F i).env := by intro _; rfl) (hpl : ∀ i, (backTo pos (starEach [] (F i).env)).any (·.1) = false := by intro _; rfl) : E K F (.Call (.Name "_law_holds" p) [e] [] pos) ρ (.bool true) := fun B I0 I H σ r Q q => by
  obtain ⟨f, fd, G, hm, Fn, hb⟩ := (ok_law_holds (P := P) (w := w) (K := K) (mg := mg) (base := base)).ex
  refine ⟨tCall (spF K (fun _ : Unit => []) (fun _ => True) 100 (fun _ d => d = .bool true)) [] E0 (tA F [e]), fun i => ?_, _, fun i => pa_cons (pe_tE i) pa_nil (he i), ?_⟩
  · obtain ⟨h1, h2, h3, h4, h5⟩ := C.same i
    exact pe_callG (k := 15) (f := f) (fd := fd) (ps := ["_law_feed_here"]) (by rw [h1, h2, h3, h4, h5]; exact G) ((C.room i).mono hk) (hg i) (by rw [h4]; exact hm) (by rw [h3]; exact Fn.kp) (by rw [h3]; exact hb) pass0 (pa_tA i) (by decide) (he i) (hpl i)
  · refine h B I0 I H σ r _ fun l ws I1 H1 f1 g1 g2 g3 g4 => ?_
    refine ⟨I1, (), l, [], ws, _, 0, rfl, f1.ih, (r.ext f1).nd, g2, g3, g4, ⟨cs, 0, 0, 0, rfl, hl, by decide, by decide, by decide, by decide⟩, by decide, .nil, trivial, fun v d I2 H2 f2 d2 k2 => ?_⟩
    subst k2
    exact q v I2 H2 (Dr.fresh f1 g1 f2) d2
theorem ok_law : Cle P w K mg base "law" 189 ["_law_script"] 16 (spP K (fun x : List Int => [.list (x.map PyData.int)]) (fun _ => True) (fun _ => .bool true)) := by
  refine mkP df189 (fun _ => rfl) (fun f cdv A outer s H E' ci a hp => ?_)
  exact ss_cons (s_ret (q_holds (cs := a.take 63) (ql_call ok_law_feed a (a_cons (e_name 0) a_nil) trivial) (by rw [List.length_take]; omega)) rfl)
end
/-! ### from the call at the top -/
section
variable {P : Program} {w : World} {K : PySem.W.Frag} {mg mb : Str → Option Value} {k : Nat} {fa a : Addr} {fd : FuncData} {x : Str} {sp : Sp} {s : Shared} {vs : List Value} {ns : List Int}
def Frz (H : Hp) : Prop := ∀ b, H b = none ∨ ∃ o xs, H b = some (.frz o (.lst xs))
theorem top_core {H : Hp} (KX : K.In s.heap) (g1 : s.heap.Ns mainGlobals mg) (g2 : s.heap.Ns builtinsNs mb) (g3 : ∀ x : Str, x ≠ "__name__" → mb x = bootBuiltins x) (g4 : s.heap.NoLimit) (g5 : s.gens = #[])
    (ha : s.heap.get? a = some { cls := .type "list", data := .seq vs.toArray }) (hr : RoomG k callerA) (F : ∀ base : Heap, K.In base → base.Ns mainGlobals mg → FnG P w K mg base k fa fd [x] sp) (hb : ∀ (s : Shared) (u : Value), BindsTo s fd ⟨[u], []⟩ [(x, u)])
    (hO : Frz H) (hok : HOk P w H s.heap) (hA : ∀ b, H b ≠ none → b = a ∧ K.lookup b = none) (hsp : sp [.ref a] H (fun v _ => v = .bl true) fun _ _ _ => False) :
    codeAny (model P w) callerA (.call (.ref fa) ⟨[.ref a], []⟩) (fun r s' => r = .ok (.ret (.bool true)) ∧ OldK s.heap s'.heap ∧ s'.os = s.os ∧ AllBare s'.gens) s := by
  have out : ∀ {b : Addr} {m : Str → Option Value}, s.heap.Ns b m → (hidT s.heap H).Ns b m := fun {b m} ⟨o, es, ep, e, d, r⟩ => by
    refine ⟨o, es, ep, hidT_get e ?_, d, r⟩
    cases q : H b with
    | none => rfl
    | some u =>
      obtain ⟨z, _⟩ := hA b (by rw [q]; exact nofun)
      rw [z, ha] at e
      cases e
      cases (show Data.seq vs.toArray _ = Data.dict es ep from d)
  have kin : K.In (hidT s.heap H) := fun b o e => by
    refine hidT_get (KX b o e) ?_
    cases q : H b with
    | none => rfl
    | some u =>
      have z := (hA b (by rw [q]; exact nofun)).2
      rw [e] at z
      cases z
  have limit : (hidT s.heap H).NoLimit := by
    obtain ⟨mc, c1, c2⟩ := g4
    exact ⟨mc, out c1, c2⟩
  have env : Env0 P w K mg (hidT s.heap H) callerA [] s H := ⟨rfl, ⟨kin, out g1, ⟨mb, out g2, g3⟩, limit⟩, fun b o e => of_hidT e, Nat.le_of_eq (hidT_size _ _), trivial, (fun b hm => absurd (show b ∈ ([] : List Addr) from hm) List.not_mem_nil), hok, .of_eq g5⟩
  refine codeAny_mono ((F _ kin (out g1)).run callerA [] s H ⟨[.ref a], []⟩ [.ref a] [.ref a] _ _ hr env (hb s (.ref a)) (.cons rfl .nil) hsp) fun r s' h => ?_
  match r, h with
  | .error e, h => exact False.elim h
  | .ok .next, h => exact False.elim h
  | .ok .brk, h => exact False.elim h
  | .ok .cont, h => exact False.elim h
  | .ok (.ret u), ⟨v, H', os, bare, un, ok2, rv, q⟩ =>
    have ev : v = .bl true := q
    subst ev
    have eu : u = Value.bool true := rv
    subst eu
    refine ⟨rfl, OldK.of_keep fun b o e => ?_, os, bare⟩
    rcases hO b with z | ⟨ob, xs, z⟩
    · exact un.keep b o e z (fun hm => absurd (show b ∈ ([] : List Addr) from hm) List.not_mem_nil) List.not_mem_nil
    · have y1 := (hok b _ z).1
      rw [e] at y1
      cases y1
      exact (ok2 b _ (un.frzs b _ _ z)).1
theorem top_call (KX : K.In s.heap) (g1 : s.heap.Ns mainGlobals mg) (g2 : s.heap.Ns builtinsNs mb) (g3 : ∀ x : Str, x ≠ "__name__" → mb x = bootBuiltins x) (g4 : s.heap.NoLimit) (g5 : s.gens = #[])
    (ha : s.heap.get? a = some { cls := .type "list", data := .seq vs.toArray }) (hi : IntsAre vs ns) (hl : ns.length ≤ sizeLine) (hr : RoomG k callerA) (F : ∀ base : Heap, K.In base → base.Ns mainGlobals mg → FnG P w K mg base k fa fd [x] sp) (hb : ∀ (s : Shared) (u : Value), BindsTo s fd ⟨[u], []⟩ [(x, u)])
    (hsp : ∀ H : Hp, Frz H → SqL K H a (ns.map V.int) → sp [.ref a] H (fun v _ => v = .bl true) fun _ _ _ => False) :
    codeAny (model P w) callerA (.call (.ref fa) ⟨[.ref a], []⟩) (fun r s' => r = .ok (.ret (.bool true)) ∧ OldK s.heap s'.heap ∧ s'.os = s.os ∧ AllBare s'.gens) s := by
  have hv := vals_ints hi
  have hn := hi.length
  by_cases hk : K.lookup a = none
  · refine top_core (H := upd (fun _ => none) a (.frz { cls := .type "list", data := .seq vs.toArray } (.lst (ns.map V.int)))) KX g1 g2 g3 g4 g5 ha hr F hb (fun b => ?_) (fun b u z => ?_) (fun b z => ?_) (hsp _ (fun b => ?_) (.inl (.inr ⟨_, upd_same⟩)))
    · by_cases e : b = a
      · subst e
        exact .inr ⟨_, _, upd_same⟩
      · exact .inl (upd_ne e)
    · by_cases e : b = a
      · subst e
        rw [upd_same] at z
        cases z
        exact ⟨ha, by rw [List.length_map]; exact hl, vs, _, hv, ha⟩
      · rw [upd_ne e] at z
        cases z
    · by_cases e : b = a
      · subst e
        exact ⟨rfl, hk⟩
      · exact absurd (upd_ne e) z
    · by_cases e : b = a
      · subst e
        exact .inr ⟨_, _, upd_same⟩
      · exact .inl (upd_ne e)
  · obtain ⟨o, hk⟩ : ∃ o, K.lookup a = some o := Option.ne_none_iff_exists'.mp hk
    have e := KX a o hk
    rw [ha] at e
    cases e
    exact top_core (H := fun _ => none) KX g1 g2 g3 g4 g5 ha hr F hb (fun _ => .inl rfl) (fun b u z => by cases (show (none : Option HO) = some u from z)) (fun _ z => absurd rfl z) (hsp _ (fun _ => .inl rfl) (.inr ⟨_, vs.toArray, _, hk, rfl, rfl, rfl, by rw [List.size_toArray, hn]; exact hl, by simpa using hv⟩))
end
end K67
namespace K67
open PySem PySem.Spec PyProof.Rows L2
/-! ### the names are unlike -/
def encS (s : Str) : Nat := s.cps.toList.foldl (fun n c => n * 2097152 + c) 1
theorem kys_nodup : kys.Nodup := by
  have h : (kys.map encS).Nodup := by decide +kernel
  exact (List.pairwise_map.mp h).imp fun {a b} n e => n (congrArg encS e)
theorem free_kys : ∀ x ∈ freeL, x ∉ kys := by decide +kernel
theorem one_of {α β : Type} (f : α → β) : ∀ {l : List α}, (l.map f).Nodup → ∀ {a b : α}, a ∈ l → b ∈ l → f a = f b → a = b
  | c :: l, h, a, b, ha, hb, e => by
    rw [List.map_cons, List.nodup_cons] at h
    obtain ⟨h1, h2⟩ := h
    rcases List.mem_cons.mp ha with za | ha
    · rcases List.mem_cons.mp hb with zb | hb
      · rw [za, zb]
      · exact absurd (List.mem_map.mpr ⟨b, hb, by rw [← e, za]⟩) h1
    · rcases List.mem_cons.mp hb with zb | hb
      · exact absurd (List.mem_map.mpr ⟨a, ha, by rw [e, zb]⟩) h1
      · exact one_of f h2 ha hb e
theorem find_one {α : Type} {p : α → Bool} {l : List α} {a : α} (ha : a ∈ l) (hp : p a = true) (h : ∀ b ∈ l, p b = true → b = a) : l.find? p = some a := by
  cases e : l.find? p with
  | none => exact absurd hp (by simpa using List.find?_eq_none.mp e a ha)
  | some b => rw [h b (List.mem_of_find?_eq_some e) (List.find?_some e)]
/-! ### the part of the heap that is looked at -/
section
variable {g : Addr → Option Obj} {a : Addr} {o : Obj} {x : Str} {e : DictEntry}
theorem objE_ok (h : (a, o) ∈ objE g e) : g a = some o := by
  unfold objE at h
  split at h
  · split at h
    · rename_i b q u hu
      rcases List.mem_cons.mp h with z | h
      · cases z
        exact hu
      · split at h
        · split at h
          · split at h
            · rename_i c _ v hv
              cases List.mem_singleton.mp h
              exact hv
            · cases h
          · cases h
        · cases h
    · cases h
  · cases h
theorem objK_ok (h : (a, o) ∈ objK g x) : g a = some o := by
  unfold objK at h
  split at h
  · exact objE_ok h
  · cases h
theorem kF_ok (h : (a, o) ∈ kF g) : g a = some o := by
  unfold kF at h
  rcases List.mem_append.mp h with h | h
  · exact objK_ok h
  · rcases List.mem_append.mp h with h | h
    · exact objK_ok h
    · rcases List.mem_append.mp h with h | h
      · exact objK_ok h
      · obtain ⟨e, _, h⟩ := List.mem_flatMap.mp h
        exact objE_ok h
theorem look_ok (h : (kF g).lookup a = some o) : (a, o) ∈ kF g ∧ g a = some o := ⟨He.lookup_mem h, kF_ok (He.lookup_mem h)⟩
theorem look_has {l : List (Addr × Obj)} (h : (a, o) ∈ l) : ∃ u, l.lookup a = some u := by
  cases e : l.lookup a with
  | some u => exact ⟨u, rfl⟩
  | none =>
    have := List.lookup_eq_none_iff.mp e (a, o) h
    simp at this
theorem kF_look (he : e ∈ ents g) (h : (a, o) ∈ objE g e) : (kF g).lookup a = some o := by
  have hm : (a, o) ∈ kF g := List.mem_append_right _ (List.mem_append_right _ (List.mem_append_right _ (List.mem_flatMap.mpr ⟨e, he, h⟩)))
  obtain ⟨u, hu⟩ := look_has hm
  rw [hu, ← (look_ok hu).2]
  exact objE_ok h
theorem objE_fn {oc : Value} {od : Option Addr} {fd : FuncData} {osl : Array (Option Value)} (ha : e.val = .ref a) (hg : g a = some ⟨oc, od, .func fd, osl⟩) : (a, (⟨oc, od, .func fd, osl⟩ : Obj)) ∈ objE g e ∧ ∀ c u, fd.code = .ref c → g c = some u → (c, u) ∈ objE g e := by
  have e1 : objE g e = (a, (⟨oc, od, .func fd, osl⟩ : Obj)) :: (match fd.code with
    | .ref c => (match g c with
      | some u => [(c, u)]
      | none => [])
    | _ => []) := by
    unfold objE
    rw [ha]
    simp only [hg]
    all_goals rfl
  refine ⟨by rw [e1]; exact List.mem_cons_self, fun c u hc hu => ?_⟩
  rw [e1]
  refine List.mem_cons_of_mem _ ?_
  rw [hc]
  simp only [hu]
  exact List.mem_cons_self
theorem key_str {n : Str} (h : e.key.isStr n = true) : keyE e = some n := by
  unfold Value.isStr at h
  unfold keyE
  split at h
  · rename_i s t m q
    rw [q]
    exact congrArg some (beq_iff_eq.mp h)
  · cases h
theorem str_key {n : Str} (h : keyE e = some n) : e.key.isStr n = true := by
  unfold keyE at h
  split at h
  · rename_i s t q
    cases h
    rw [q]
    exact beq_self_eq_true _
  · cases h
end
section
variable {w : World} {h : Heap} {g : Addr → Option Obj} {mg : Str → Option Value}
theorem mg_ok {L : List Str} (hg : ∀ a o, g a = some o → h.get? a = some o) (hL : L.Nodup) (hk : (ents g).map keyE = L.map some) (h0 : ∃ oc od es n sl, g mainGlobals = some ⟨oc, od, .dict es n, sl⟩) (N : h.Ns mainGlobals mg) : (∀ e ∈ ents g, ∀ x, keyE e = some x → mg x = some e.val) ∧ ∀ x, x ∉ L → mg x = none := by
  obtain ⟨oc, od, es, n, sl, e1⟩ := h0
  have eE : ents g = es.toList := by unfold ents; rw [e1]
  obtain ⟨o, es', ep, h1, h2, h3, h4⟩ := N
  have h5 := hg _ _ e1
  rw [h1] at h5
  cases h5
  cases h2
  have hn : ((ents g).map keyE).Nodup := by
    rw [hk]
    exact List.pairwise_map.mpr (hL.imp fun {a b} q z => q (Option.some.inj z))
  refine ⟨fun e he x hx => ?_, fun x hx => ?_⟩
  · rw [← h4 x]
    show (es.find? fun e => e.key.isStr x).map (·.val) = _
    rw [← Array.find?_toList, ← eE, find_one he (str_key hx) fun b hb q => one_of keyE hn hb he ((key_str q).trans hx.symm)]
    rfl
  · rw [← h4 x]
    show (es.find? fun e => e.key.isStr x).map (·.val) = _
    rw [← Array.find?_toList, ← eE]
    have z : (ents g).find? (fun e => e.key.isStr x) = none := by
      rw [List.find?_eq_none]
      intro b hb q
      have hm : keyE b ∈ (ents g).map keyE := List.mem_map.mpr ⟨b, hb, rfl⟩
      rw [hk, key_str q] at hm
      obtain ⟨y, hy, ey⟩ := List.mem_map.mp hm
      cases ey
      exact hx hy
    rw [z]
    rfl
theorem of_key (N : ∀ e ∈ ents g, ∀ x, keyE e = some x → mg x = some e.val) {x : Str} (h : refB g x = true) : mg x = some (.ref (adK g x)) := by
  unfold refB at h
  unfold adK
  split at h
  · rename_i hh kk a q
    have he : (⟨hh, kk, .ref a⟩ : DictEntry) ∈ ents g := List.mem_of_find?_eq_some q
    have hx := List.find?_some q
    exact N _ he x (of_decide_eq_true hx)
  · cases h
theorem bl_ok (N : ∀ e ∈ ents g, ∀ x, keyE e = some x → mg x = some e.val) (hb : (ents g).filterMap blW = blV) {x : Str} {id : String} (h : (some x, id) ∈ blV) : mg x = some (.builtin id) := by
  rw [← hb] at h
  obtain ⟨e, he, q⟩ := List.mem_filterMap.mp h
  unfold blW at q
  split at q
  · rename_i i hi
    have q := Option.some.inj q
    obtain ⟨q1, q2⟩ := Prod.mk.inj q
    rw [N e he x q1, hi, q2]
  · cases q
theorem tp_ok {K : PySem.W.Frag} {a : Addr} {xs : List Str} (h : tpB K a xs = true) : Dp K (fun _ => none) (.ref a) (.tuple (xs.map PyData.str)) := by
  have hs : ∀ {us : List Value} {xs : List Str}, strsB us xs = true → Vals (xs.map V.str) us := fun {us xs} => by
    induction us generalizing xs with
    | nil =>
      intro h
      cases xs with
      | nil => exact .nil
      | cons y s => cases h
    | cons u us ih =>
      intro h
      cases xs with
      | nil => cases u <;> cases h
      | cons y s =>
        cases u with
        | str z t =>
          obtain ⟨h1, h2⟩ := He.ba (show (decide (z = y) && strsB us s) = true from h)
          cases of_decide_eq_true h1
          exact .cons ⟨t, rfl⟩ (ih h2)
        | _ => cases h
  have hd : ∀ xs : List Str, DpAll K (fun _ => none) (xs.map V.str) (xs.map PyData.str) := fun xs => by
    induction xs with
    | nil => exact .nil
    | cons y s ih => exact .cons (.str y) ih
  unfold tpB at h
  split at h
  · rename_i c od its n sl q
    obtain ⟨h1, h2⟩ := He.ba h
    obtain ⟨h3, h4⟩ := He.ba h2
    cases of_decide_eq_true h1
    refine .tup (.inr ⟨_, its, _, q, rfl, rfl, Nat.le_trans (of_decide_eq_true h3) (by rw [sizeLine_eq]; decide), hs h4⟩) (hd xs)
  · cases h
theorem wd_of (S : SaysK w h g) (N : h.Ns mainGlobals mg) : (kF g).In h ∧ Wd (kF g) mg ∧ WdE w (kF g) mg := by
  obtain ⟨hg, hv⟩ := S
  have v1 : (ents g).map keyE = kys.map some := congrArg (fun z : ObK => z.1) hv
  have v2 : (ents g).filterMap (fnW g) = RR.prog.main.body.filterMap stW := congrArg (fun z : ObK => z.2.1) hv
  have v3 : (ents g).filterMap blW = blV := congrArg (fun z : ObK => z.2.2.1) hv
  have v4 : restB g = true := congrArg (fun z : ObK => z.2.2.2.1) hv
  have v5 : He.dicW (kF g) (adK g "E_LENGTHS") = some (He.keysIn w.params lenKeys) := congrArg (fun z : ObK => z.2.2.2.2) hv
  obtain ⟨m1, m2⟩ := mg_ok hg kys_nodup v1 (by
    obtain ⟨oc, od, es, n, sl, e1, _⟩ := ents_some v1
    exact ⟨oc, od, es, n, sl, e1⟩) N
  obtain ⟨b1, b2⟩ := He.ba v4
  obtain ⟨r1, r23⟩ := He.ba b1
  obtain ⟨r2, r3⟩ := He.ba r23
  obtain ⟨b3, b4⟩ := He.ba b2
  obtain ⟨b5, b6⟩ := He.ba b4
  obtain ⟨b7, b8⟩ := He.ba b6
  refine ⟨fun a o e => hg a o (look_ok e).2, ⟨fun x i hx => ?_, fun x hx => m2 x (free_kys x hx), bl_ok m1 v3 (by decide +kernel), fun a o ha hc => ?_, bl_ok m1 v3 (by decide +kernel), bl_ok m1 v3 (by decide +kernel)⟩, ⟨⟨_, of_key m1 r2, tp_ok b7⟩, ⟨_, of_key m1 r3, tp_ok b8⟩, ?_⟩⟩
  · obtain ⟨st, hst⟩ : ∃ st, topS i = st := ⟨_, rfl⟩
    have hmem : st = .Pass ⟨0, 0, 0, 0⟩ ∨ st ∈ RR.prog.main.body := by
      rw [← hst]
      unfold topS
      rw [List.getD_eq_getElem?_getD]
      cases q : PySem.Challenge.pw_pushedback_k67_whole_ranks_beside_bags.main.body[i]? with
      | none => exact .inl rfl
      | some z => exact .inr (List.mem_of_getElem? q)
    rw [hst] at hx ⊢
    rcases hmem with z | hmem
    · subst z
      cases hx
    have hsw : stW st = some (some x, x, x, defArgs st, .stmts (defBody st), defScope st, mainGlobals, [], .none, builtinsNs, true) := by
      cases st with
      | FunctionDef n _ _ _ _ _ _ _ _ _ =>
        cases List.mem_singleton.mp hx
        rfl
      | _ => cases hx
    have hin : (some x, x, x, defArgs st, FuncBody.stmts (defBody st), defScope st, mainGlobals, [], Value.none, builtinsNs, true) ∈ (ents g).filterMap (fnW g) := by
      rw [v2]
      exact List.mem_filterMap.mpr ⟨st, hmem, hsw⟩
    obtain ⟨e, he, q⟩ := List.mem_filterMap.mp hin
    unfold fnW at q
    split at q
    · rename_i a ha
      split at q
      · rename_i oc od fd osl hgo
        obtain ⟨o1, o2⟩ := objE_fn (e := e) ha hgo
        have lk := kF_look he o1
        have q := Option.some.inj q
        simp only [Prod.mk.injEq] at q
        obtain ⟨q0, q1, q2, q3, q4, q5, q6, q7, q8, q9, q10⟩ := q
        refine ⟨a, fd, by rw [m1 e he _ q0, ha], ⟨oc, od, fd.kwdefaults, fd.doc, fd.pyModule, fd.annotations, fd.code, fd.closureTuple, osl, ?_, lk, ?_⟩, ?_⟩
        · obtain ⟨n1, n2, n3, n4, n5, n6, n7, n8, n9, n10, n11, n12, n13, n14, n15⟩ := fd
          cases q1
          cases q2
          cases q3
          cases q4
          cases q5
          cases q6
          cases q7
          cases q8
          cases q9
          rfl
        · rw [← q2]
          unfold cdB at q10
          split at q10
          · rename_i c hc
            split at q10
            · rename_i vs sl hgc
              have lc := kF_look he (o2 c _ hc hgc)
              unfold PySem.W.codeIn
              rw [hc]
              simp only [lc]
              exact q10
            · cases q10
          · cases q10
        · unfold PySem.W.keepIn
          simp only [lk]
      · cases q
    · cases q
  · have z := List.all_eq_true.mp b3 (a, o) (look_ok ha).1
    unfold ntB at z
    rw [show (a, o).2.cls = .type "tuple" from hc] at z
    have z : (!(decide (("tuple" : String) = "tuple")) || o.dict.isNone) = true := z
    rw [decide_eq_true rfl] at z
    exact Option.isNone_iff_eq_none.mp z
  · obtain ⟨es, n, D⟩ := He.dicW_ok v5
    obtain ⟨u, u1, u2⟩ := He.valsB_ok b5 (q := ("bag", .int 3)) List.mem_cons_self
    exact ⟨_, es, n, of_key m1 r1, D, ⟨es, n, u, D.at_, D.lit, u1, u2⟩⟩
end
end K67
namespace K67
open PySem PySem.Spec PyProof.Rows L2
theorem fun_one {K : PySem.W.Frag} {x : Str} {st : Stmt} {f : Addr} {fd fd' : FuncData} (h : Fun K x x st f fd) (h' : Fun K x x st f fd') : fd = fd' := by
  obtain ⟨_, _, _, _, _, _, _, _, _, _, lk, _⟩ := h.ex
  obtain ⟨_, _, _, _, _, _, _, _, _, _, lk', _⟩ := h'.ex
  rw [lk] at lk'
  cases lk'
  rfl
theorem walk_top {q : Program} {loose : List Str} {XP : (Str → Option Value) → Heap → Prop} {d : DefRec} (hd : d.params.defaults = []) (hn : d.name = ("law" : Str)) :
    PySem.W.WalkO q loose XP hkK.says PySem.Challenge.rw_pushedback_k67_whole_ranks_beside_bags.row.toRowW d [] (fun f vs => PySem.call f vs) := by
  refine Att.attach_call (l := PySem.Challenge.rw_pushedback_k67_whole_ranks_beside_bags) (n := 63) rfl hd fun w s₀ s₁ mg mb fa o pm cd doc a vs ns G Y ho hdf hcd hmg hobj hints hlen hg => ?_
  obtain ⟨g, S⟩ := Y
  obtain ⟨KX, W, WE⟩ := wd_of S G.T.g
  rw [hn] at hmg
  have every : ∀ base : Heap, ∃ fd, FnG PySem.Challenge.rw_pushedback_k67_whole_ranks_beside_bags.prog w (kF g) mg base 16 fa fd ["_law_script"] (spP (kF g) (fun x : List Int => [.list (x.map PyData.int)]) (fun _ => True) (fun _ => .bool true)) ∧ Fun (kF g) "law" "law" (topS 189) fa fd := fun base => by
    obtain ⟨f, fd, F, hm, Fn, _⟩ := (ok_law (P := PySem.Challenge.rw_pushedback_k67_whole_ranks_beside_bags.prog) (w := w) (K := kF g) (mg := mg) (base := base)).ex
    rw [hmg] at hm
    cases hm
    exact ⟨fd, F, Fn⟩
  obtain ⟨fd, _, Fn⟩ := every s₁.heap
  have bind : ∀ (s : Shared) (u : Value), BindsTo s fd ⟨[u], []⟩ [("_law_script", u)] := fun s u => by
    obtain ⟨oc, od, kV, doc, pmv, an, cdv, ct, osl, rfl, lk, hcd⟩ := Fn.ex
    exact .of_eq (df189.hb kV doc pmv an cdv ct [u] rfl)
  refine top_call (k := 16) (sp := spP (kF g) (fun x : List Int => [.list (x.map PyData.int)]) (fun _ => True) (fun _ => .bool true)) KX G.T.g G.T.b G.T.builtins G.T.nolimit hg hobj hints (Nat.le_trans hlen (by rw [sizeLine_eq]; decide)) ⟨⟨rfl, by decide, by decide⟩, rfl⟩ (fun base _ _ => ?_) bind fun H hF hS => ?_
  · obtain ⟨fd', F, Fn'⟩ := every base
    rw [fun_one Fn Fn']
    exact F
  · refine ⟨H, ns, Evl.Ex.refl _, fun b u e => ?_, .cons (.lst hS (dpa_of_ints ns)) .nil, trivial, fun v I' H' f d => ?_⟩
    · rcases hF b with z | ⟨ob, xs, z⟩
      · rw [e] at z
        cases z
      · rw [e] at z
        cases z
        trivial
    · cases d
      rfl
end K67
theorem PySem.Challenge.cw_pushedback_k67_whole_ranks_beside_bags_holds : PySem.Challenge.rw_pushedback_k67_whole_ranks_beside_bags.Holds :=
  K67.law_top (K67.walk_top (by kernel_rfl) (by kernel_rfl))
